import PyProof.Rows.All
import HandS.CallSlots
import HandS.Ends
import HandS.Exc
import HandS.ExcOwn
import HandS.ForMost
import HandS.IsInst
import HandS.SetFor
import HandS.SortInts
import HandS.Strs
import HandS.TupAny
import HandS.TupMul
import HandS.WordsExc
import PySem.Challenge.RW_fieldrides_k25_whole_least_trees
section
set_option linter.all false
/-! Abs: data, heaps and computations in plain Lean (no model in sight). -/
namespace Sm

inductive K1 where
  | i (k : Int) | s (x : List Nat)
  deriving DecidableEq, Repr

inductive D where
  | non | bl (b : Bool) | int (i : Int) | str (x : List Nat)
  | tup (xs : List D) | lst (xs : List D) | scr (xs : List D)
  | dic (ks : List K1) (ds : List D)
  | ins (c : String) (ns : List String) (ds : List D)
  | loc (l : Nat)
  | ty (n : String)
  deriving Repr, Inhabited

mutual
def D.beq : D → D → Bool
  | .non, .non => true
  | .bl a, .bl b => a == b
  | .int a, .int b => a == b
  | .str a, .str b => a == b
  | .tup a, .tup b => D.beqs a b
  | .lst a, .lst b => D.beqs a b
  | .scr a, .scr b => D.beqs a b
  | .dic k a, .dic l b => k == l && D.beqs a b
  | .ins c n a, .ins e m b => c == e && n == m && D.beqs a b
  | .loc a, .loc b => a == b
  | .ty a, .ty b => a == b
  | _, _ => false
def D.beqs : List D → List D → Bool
  | [], [] => true
  | a :: as, b :: bs => D.beq a b && D.beqs as bs
  | _, _ => false
end
mutual
theorem D.beq_refl : ∀ d : D, D.beq d d = true
  | .non => by rw [D.beq]
  | .bl a => by rw [D.beq]; simp
  | .int a => by rw [D.beq]; simp
  | .str a => by rw [D.beq]; simp
  | .tup a => by rw [D.beq]; exact D.beqs_refl a
  | .lst a => by rw [D.beq]; exact D.beqs_refl a
  | .scr a => by rw [D.beq]; exact D.beqs_refl a
  | .dic k a => by rw [D.beq, D.beqs_refl a]; simp
  | .ins c n a => by rw [D.beq, D.beqs_refl a]; simp
  | .loc a => by rw [D.beq]; simp
  | .ty a => by rw [D.beq]; simp
theorem D.beqs_refl : ∀ d : List D, D.beqs d d = true
  | [] => by rw [D.beqs]
  | a :: as => by rw [D.beqs, D.beq_refl a, D.beqs_refl as]; rfl
end
mutual
theorem D.eq_of_beq : ∀ {a b : D}, D.beq a b = true → a = b
  | .non, b, h => by cases b <;> simp [D.beq] at h ⊢
  | .bl a, b, h => by cases b <;> simp [D.beq] at h ⊢ <;> exact h
  | .int a, b, h => by cases b <;> simp [D.beq] at h ⊢ <;> exact h
  | .str a, b, h => by cases b <;> simp [D.beq] at h ⊢ <;> exact h
  | .tup a, b, h => by cases b <;> simp [D.beq] at h ⊢ <;> exact D.eqs_of_beq h
  | .lst a, b, h => by cases b <;> simp [D.beq] at h ⊢ <;> exact D.eqs_of_beq h
  | .scr a, b, h => by cases b <;> simp [D.beq] at h ⊢ <;> exact D.eqs_of_beq h
  | .dic k a, b, h => by cases b <;> simp [D.beq] at h ⊢ <;> exact ⟨h.1, D.eqs_of_beq h.2⟩
  | .ins c n a, b, h => by cases b <;> simp [D.beq] at h ⊢ <;> exact ⟨h.1.1, h.1.2, D.eqs_of_beq h.2⟩
  | .loc a, b, h => by cases b <;> simp [D.beq] at h ⊢ <;> exact h
  | .ty a, b, h => by cases b <;> simp [D.beq] at h ⊢ <;> exact h
theorem D.eqs_of_beq : ∀ {a b : List D}, D.beqs a b = true → a = b
  | [], b, h => by cases b <;> simp [D.beqs] at h ⊢
  | a :: as, b, h => by
    cases b with
    | nil => simp [D.beqs] at h
    | cons b bs =>
      simp [D.beqs] at h
      rw [D.eq_of_beq h.1, D.eqs_of_beq h.2]
end
instance : DecidableEq D := fun a b => if h : D.beq a b = true then .isTrue (D.eq_of_beq h) else .isFalse fun e => h (by rw [e]; exact D.beq_refl b)

/-- a mutable object -/
inductive AO where
  | lst (xs : List D) | dic (ks : List K1) (ds : List D) | dicT (ks : List (List K1)) (ds : List D)
  | ins (c : String) (ns : List String) (ds : List D)
  | set (xs : List Int)
  deriving DecidableEq, Repr

abbrev AH := List AO
structure Ex where
  cls : String
  ns : List String
  ds : List D
  deriving DecidableEq, Repr

inductive R (α : Type) where
  | ok (a : α) (h : AH) | exc (x : Ex) (h : AH) | no
  deriving Repr
def R.bind {α β : Type} (r : R α) (f : α → AH → R β) : R β := match r with
  | .ok a h => f a h
  | .exc x h => .exc x h
  | .no => .no
@[simp] theorem bind_ok {α β : Type} (a : α) (h : AH) (f : α → AH → R β) : (R.ok a h).bind f = f a h := rfl
@[simp] theorem bind_exc {α β : Type} (x : Ex) (h : AH) (f : α → AH → R β) : (R.exc x h : R α).bind f = .exc x h := rfl
@[simp] theorem bind_no {α β : Type} (f : α → AH → R β) : (R.no : R α).bind f = .no := rfl
theorem bind_assoc {α β γ : Type} (r : R α) (f : α → AH → R β) (g : β → AH → R γ) : (r.bind f).bind g = r.bind fun a h => (f a h).bind g := by cases r <;> rfl

abbrev Env := List (Option D)
abbrev AE := Env → AH → R D
abbrev AB := Env → AH → R Bool
abbrev AA := Env → AH → R (List D)
inductive Fl where
  | nx (e : Env) | rt (d : D) | bk (e : Env) | ct (e : Env) | ex (x : Ex) (e : Env)
  deriving Repr
abbrev AS := Env → AH → R Fl
/-- what a loop walks -/
inductive Src where
  | lst (xs : List D) | live (l : Nat)
abbrev AI := Env → AH → R Src
abbrev AG := D → Env → AH → R Env
abbrev AF := List D → AH → R D

def big : Nat := 16777216
/-- none: no answer -/
def R.of {α : Type} (o : Option α) (h : AH) : R α := match o with
  | some a => .ok a h
  | none => .no
@[simp] theorem of_some {α : Type} (a : α) (h : AH) : R.of (some a) h = .ok a h := rfl
@[simp] theorem of_none {α : Type} (h : AH) : (R.of none h : R α) = .no := rfl
def R.chk {α : Type} (c : Bool) (r : R α) : R α := if c then r else .no
@[simp] theorem chk_true {α : Type} (r : R α) : R.chk true r = r := rfl
@[simp] theorem chk_false {α : Type} (r : R α) : R.chk false r = .no := rfl

/-! ### data -/
def lstH (h : AH) : D → Option (List D)
  | .lst xs => some xs
  | .loc l => match h[l]? with
    | some (.lst xs) => some xs
    | _ => none
  | _ => none
def seqH (h : AH) : D → Option (List D)
  | .tup xs => some xs
  | .scr xs => some xs
  | d => lstH h d
/-- a new list: as a value, or as an object -/
def mkL (fz : Bool) (xs : List D) (h : AH) : R D := if fz then .ok (.lst xs) h else .ok (.loc h.length) (h ++ [.lst xs])
@[simp] theorem mkL_t (xs : List D) (h : AH) : mkL true xs h = .ok (.lst xs) h := rfl
@[simp] theorem mkL_f (xs : List D) (h : AH) : mkL false xs h = .ok (.loc h.length) (h ++ [.lst xs]) := rfl
def truth (h : AH) : D → Option Bool
  | .non => some false
  | .bl b => some b
  | .int i => some (i != 0)
  | .str x => if x.length ≤ big then some (!x.isEmpty) else none
  | .tup xs => some (!xs.isEmpty)
  | .lst xs => some (!xs.isEmpty)
  | .loc l => match h[l]? with
    | some (.lst xs) => some (!xs.isEmpty)
    | some (.dic ks _) => some (!ks.isEmpty)
    | _ => none
  | _ => none
/-- Python's place -/
def ixN (n : Nat) (i : Int) : Option Nat := if 0 ≤ i then (if i < n then some i.toNat else none) else if -(n : Int) ≤ i then some (i + n).toNat else none
def at? {α : Type} (xs : List α) (i : Int) : Option α := (ixN xs.length i).bind fun j => xs[j]?
def sIx (n d : Nat) : Option Int → Nat
  | none => d
  | some i => if i < 0 then (i + n).toNat else min i.toNat n
def cut {α : Type} (xs : List α) (lo hi : Option Int) : List α := (xs.drop (sIx xs.length 0 lo)).take (sIx xs.length xs.length hi - sIx xs.length 0 lo)

/-! ### expressions -/
def eV (i : Nat) : AE := fun e h => match e[i]? with
  | some (some d) => .ok d h
  | _ => .no
def eC (d : D) : AE := fun _ h => .ok d h
def e1 (f : D → AH → R D) (a : AE) : AE := fun e h => (a e h).bind f
def e2 (f : D → D → AH → R D) (a b : AE) : AE := fun e h => (a e h).bind fun x h1 => (b e h1).bind fun y h2 => f x y h2
def eL : List AE → AA
  | [] => fun _ h => .ok [] h
  | a :: as => fun e h => (a e h).bind fun x h1 => (eL as e h1).bind fun xs h2 => .ok (x :: xs) h2
def eA (f : List D → AH → R D) (as : AA) : AE := fun e h => (as e h).bind f
def eIf (t : AB) (a b : AE) : AE := fun e h => (t e h).bind fun c h1 => if c then a e h1 else b e h1
/-- and, or as values: the parts are bools -/
def eAnd (a b : AE) : AE := fun e h => (a e h).bind fun x h1 => match x with
  | .bl true => b e h1
  | .bl false => .ok (.bl false) h1
  | _ => .no
def eOr (a b : AE) : AE := fun e h => (a e h).bind fun x h1 => match x with
  | .bl true => .ok (.bl true) h1
  | .bl false => b e h1
  | _ => .no
def eNot (t : AB) : AE := fun e h => (t e h).bind fun c h1 => .ok (.bl (!c)) h1
/-- a op b op' c -/
def eChain (f g : D → D → AH → R D) (a b c : AE) : AE := fun e h => (a e h).bind fun x h1 => (b e h1).bind fun y h2 => (f x y h2).bind fun z h3 => match z with
  | .bl true => (c e h3).bind fun w h4 => g y w h4
  | .bl false => .ok (.bl false) h3
  | _ => .no
def notD (x : D) (h : AH) : R D := match x with
  | .bl b => .ok (.bl (!b)) h
  | _ => .no
/-! tests -/
def tB : D → Option Bool
  | .bl b => some b
  | _ => none
/-- an expression that gives True or False -/
def tB1 (a : AE) : AB := fun e h => (a e h).bind fun d h1 => R.of (tB d) h1
def tV (a : AE) : AB := fun e h => (a e h).bind fun d h1 => R.of (truth h1 d) h1
def tNot (t : AB) : AB := fun e h => (t e h).bind fun c h1 => .ok (!c) h1
def tAnd (t u : AB) : AB := fun e h => (t e h).bind fun c h1 => if c then u e h1 else .ok false h1
def tOr (t u : AB) : AB := fun e h => (t e h).bind fun c h1 => if c then .ok true h1 else u e h1
def tYes : AB := fun _ h => .ok true h

/-! ### operators by values -/
def cat (fz : Bool) (x y : D) (h : AH) : R D := match lstH h x with
  | some xs => match lstH h y with
    | some ys => R.chk (xs.length + ys.length ≤ big) (mkL fz (xs ++ ys) h)
    | none => .no
  | none => .no
def addD (fz : Bool) (x y : D) (h : AH) : R D := match x with
  | .int i => match y with
    | .int j => .ok (.int (i + j)) h
    | .bl b => .ok (.int (i + if b then 1 else 0)) h
    | _ => .no
  | .str a => match y with
    | .str b => R.chk (a.length + b.length ≤ big) (.ok (.str (a ++ b)) h)
    | _ => .no
  | .tup xs => match y with
    | .tup ys => R.chk (xs.length + ys.length ≤ big) (.ok (.tup (xs ++ ys)) h)
    | _ => .no
  | x => cat fz x y h
def iaddD (x y : D) (h : AH) : R D := match x with
  | .int i => match y with
    | .int j => .ok (.int (i + j)) h
    | _ => .no
  | .str a => match y with
    | .str b => R.chk (a.length + b.length ≤ big) (.ok (.str (a ++ b)) h)
    | _ => .no
  | _ => .no
def subD (x y : D) (h : AH) : R D := match x with
  | .int i => match y with
    | .int j => .ok (.int (i - j)) h
    | _ => .no
  | _ => .no
def small (i : Int) : Bool := match i with
  | .ofNat n => Nat.ble n 18446744073709551615
  | .negSucc n => Nat.ble n 18446744073709551614
theorem small_iff (i : Int) : small i = true ↔ -(2 ^ 64) < i ∧ i < 2 ^ 64 := by
  cases i with
  | ofNat n => show Nat.ble n _ = true ↔ _; rw [Nat.ble_eq]; simp only [Int.ofNat_eq_natCast]; omega
  | negSucc n => show Nat.ble n _ = true ↔ _; rw [Nat.ble_eq]; omega
def mulD (fz : Bool) (x y : D) (h : AH) : R D := match y with
  | .int j => match x with
    | .int i => R.chk (small i || small j) (.ok (.int (i * j)) h)
    | .tup xs => R.chk (decide (0 < xs.length ∧ xs.length ≤ 1000 ∧ 0 < j ∧ j ≤ 1000)) (.ok (.tup (List.replicate j.toNat xs).flatten) h)
    | x => match lstH h x with
      | some xs => R.chk (decide (-(2 ^ 63) ≤ j ∧ j < 2 ^ 63 ∧ xs.length * j.toNat ≤ big)) (mkL fz (List.replicate j.toNat xs).flatten h)
      | none => .no
  | _ => .no
def fdivD (x y : D) (h : AH) : R D := match x with
  | .int i => match y with
    | .int j => R.chk (decide (0 < j ∧ j < 1073741824)) (.ok (.int (i / j)) h)
    | _ => .no
  | _ => .no
def modD (x y : D) (h : AH) : R D := match x with
  | .int i => match y with
    | .int j => R.chk (decide (0 < j)) (.ok (.int (i % j)) h)
    | _ => .no
  | _ => .no
def powD (x y : D) (h : AH) : R D := match x with
  | .int i => match y with
    | .int j => R.chk (decide (0 ≤ j ∧ j ≤ 1000000 ∧ i.natAbs < 2 ^ 64)) (.ok (.int (i ^ j.toNat)) h)
    | _ => .no
  | _ => .no
def negD (x : D) (h : AH) : R D := match x with
  | .int i => .ok (.int (-i)) h
  | _ => .no
def asInts : List D → Option (List Int)
  | [] => some []
  | .int i :: r => (asInts r).map (i :: ·)
  | _ :: _ => none
def lexLt : List Int → List Int → Bool
  | [], [] => false
  | [], _ :: _ => true
  | _ :: _, [] => false
  | x :: xs, y :: ys => if x = y then lexLt xs ys else decide (x < y)
def ltD (x y : D) (h : AH) : R D := match x with
  | .int i => match y with
    | .int j => .ok (.bl (decide (i < j))) h
    | _ => .no
  | .tup xs => match y with
    | .tup ys => match asInts xs with
      | some ns => match asInts ys with
        | some ms => .ok (.bl (lexLt ns ms)) h
        | none => .no
      | none => .no
    | _ => .no
  | _ => .no
def cmpI (p : Int → Int → Bool) (x y : D) (h : AH) : R D := match x with
  | .int i => match y with
    | .int j => .ok (.bl (p i j)) h
    | _ => .no
  | _ => .no
def leD : D → D → AH → R D := cmpI fun i j => decide (i ≤ j)
def gtD : D → D → AH → R D := cmpI fun i j => decide (j < i)
def geD : D → D → AH → R D := cmpI fun i j => decide (j ≤ i)
/-! ### == -/
def mapO {α β : Type} (f : α → Option β) : List α → Option (List β)
  | [] => some []
  | x :: xs => match f x with
    | some y => (mapO f xs).map (y :: ·)
    | none => none
def pd0 : D → Option D
  | .non => some .non
  | .bl b => some (.bl b)
  | .int i => some (.int i)
  | .str x => if x.all (fun c => decide (c < 1114112)) then some (.str x) else none
  | _ => none
/-- plain data, lists looked up in the heap; at most n deep -/
def pd (h : AH) : Nat → D → Option D
  | 0, d => pd0 d
  | n + 1, d => match d with
    | .tup xs => (mapO (pd h n) xs).map .tup
    | .lst xs => (mapO (pd h n) xs).map .lst
    | .loc l => match h[l]? with
      | some (.lst xs) => (mapO (pd h n) xs).map .lst
      | _ => none
    | d => pd0 d
mutual
def ev : D → D → Bool
  | .non, .non => true
  | .bl a, .bl b => a == b
  | .bl a, .int b => (if a then 1 else 0) == b
  | .int a, .bl b => a == (if b then 1 else 0)
  | .int a, .int b => a == b
  | .str a, .str b => a == b
  | .tup a, .tup b => evs a b
  | .lst a, .lst b => evs a b
  | _, _ => false
def evs : List D → List D → Bool
  | [], [] => true
  | x :: xs, y :: ys => ev x y && evs xs ys
  | _, _ => false
end
def scal : D → D → Bool
  | .non, .non => true | .non, .int _ => true | .int _, .non => true | .non, .bl _ => true | .bl _, .non => true | .non, .str _ => true | .str _, .non => true
  | .int _, .int _ => true | .bl _, .bl _ => true | .str _, .str _ => true
  | .int _, .str _ => true | .str _, .int _ => true | .bl _, .str _ => true | .str _, .bl _ => true
  | _, _ => false
def eqH (h : AH) (x y : D) : Option Bool := if scal x y then some (decide (x = y)) else match pd h 64 x with
  | some a => match pd h 64 y with
    | some b => some (ev a b)
    | none => none
  | none => none
def eqD (x y : D) (h : AH) : R D := (R.of (eqH h x y) h).bind fun b h => .ok (.bl b) h
def neD (x y : D) (h : AH) : R D := (R.of (eqH h x y) h).bind fun b h => .ok (.bl (!b)) h
def isNonD (x : D) (h : AH) : R D := .ok (.bl (decide (x = .non))) h
def notNonD (x : D) (h : AH) : R D := .ok (.bl (!decide (x = .non))) h
def flat : D → Bool
  | .non => true | .bl _ => true | .int _ => true | .str _ => true
  | _ => false
def inL (x : D) (ys : List D) : Bool := ys.any fun y => ev y x
/-- x in y: flat items -/
def inH (h : AH) (x y : D) : Option Bool := match seqH h y with
  | some ys => if flat x && ys.all flat then some (inL x ys) else none
  | none => none
def inD (x y : D) (h : AH) : R D := (R.of (inH h x y) h).bind fun b h => .ok (.bl b) h
def notInD (x y : D) (h : AH) : R D := (R.of (inH h x y) h).bind fun b h => .ok (.bl (!b)) h

/-! ### items, slices, lengths -/
def ixD (x i : D) (h : AH) : R D := match i with
  | .int i => match x with
    | .str s => R.chk (s.length ≤ big) ((R.of (at? s i) h).bind fun c h => .ok (.str [c]) h)
    | x => match seqH h x with
      | some xs => R.of (at? xs i) h
      | none => .no
  | _ => .no
/-- a slice's bound -/
abbrev AO1 := Env → AH → R (Option Int)
def oN : AO1 := fun _ h => .ok none h
def oS (a : AE) : AO1 := fun e h => (a e h).bind fun d h1 => match d with
  | .int i => .ok (some i) h1
  | _ => .no
def slD (fz : Bool) (x : D) (lo hi : Option Int) (h : AH) : R D := match x with
  | .str s => R.chk (s.length ≤ big) (.ok (.str (cut s lo hi)) h)
  | .tup xs => .ok (.tup (cut xs lo hi)) h
  | x => match lstH h x with
    | some xs => mkL fz (cut xs lo hi) h
    | none => .no
def eSl (fz : Bool) (a : AE) (lo hi : AO1) : AE := fun e h => (a e h).bind fun x h1 => (lo e h1).bind fun l h2 => (hi e h2).bind fun u h3 => slD fz x l u h3
def lenD (x : D) (h : AH) : R D := match x with
  | .str s => R.chk (s.length ≤ big) (.ok (.int s.length) h)
  | x => match seqH h x with
    | some xs => .ok (.int xs.length) h
    | none => .no
def absD (x : D) (h : AH) : R D := match x with
  | .int i => .ok (.int (if i < 0 then -i else i)) h
  | _ => .no
def intD (x : D) (h : AH) : R D := match x with
  | .int i => .ok (.int i) h
  | .bl b => .ok (.int (if b then 1 else 0)) h
  | _ => .no
def tupD (x : D) (h : AH) : R D := match seqH h x with
  | some xs => .ok (.tup xs) h
  | none => .no
def listD (fz : Bool) (x : D) (h : AH) : R D := match seqH h x with
  | some xs => mkL fz xs h
  | none => .no
/-- the name of a value's type, and which built-in types it has -/
def tyOf (h : AH) : D → Option String
  | .non => some "NoneType" | .bl _ => some "bool" | .int _ => some "int" | .str _ => some "str"
  | .tup _ => some "tuple" | .lst _ => some "list"
  | .loc l => match h[l]? with
    | some (.lst _) => some "list"
    | some (.dic _ _) => some "dict"
    | some (.dicT _ _) => some "dict"
    | _ => none
  | _ => none
def isTyB (t T : String) : Bool := t == T || (t == "bool" && T == "int")
def isTy (T : String) (x : D) (h : AH) : R D := (R.of (tyOf h x) h).bind fun t h => .ok (.bl (isTyB t T)) h
def insI (x : Int) : List Int → List Int
  | [] => [x]
  | y :: ys => if x ≤ y then x :: y :: ys else y :: insI x ys
def sortI : List Int → List Int
  | [] => []
  | x :: xs => insI x (sortI xs)
/-- sorted without what comes twice -/
def insU (x : Int) : List Int → List Int
  | [] => [x]
  | y :: ys => if x < y then x :: y :: ys else if x = y then y :: ys else y :: insU x ys
def sortU : List Int → List Int
  | [] => []
  | x :: xs => insU x (sortU xs)
/-- sorted(ints) -/
def sortedD (fz : Bool) (x : D) (h : AH) : R D := match lstH h x with
  | some xs => match asInts xs with
    | some ns => mkL fz ((sortI ns).map .int) h
    | none => .no
  | none => .no
/-- sorted(set(ints)) -/
def sortedSetD (fz : Bool) (x : D) (h : AH) : R D := match lstH h x with
  | some xs => match asInts xs with
    | some ns => R.chk (decide (ns.length < 4000 ∧ (sortU ns).length < 64)) (mkL fz ((sortU ns).map .int) h)
    | none => .no
  | none => .no

def on1 (f : D → AH → R D) : List D → AH → R D
  | [d] => f d
  | _ => fun _ => .no
def on2 (f : D → D → AH → R D) : List D → AH → R D
  | [d, e] => f d e
  | _ => fun _ => .no

/-! ### lists, tuples, dicts displayed -/
def eTup (as : AA) : AE := fun e h => (as e h).bind fun xs h1 => R.chk (decide (xs.length ≤ big)) (.ok (.tup xs) h1)
def eLst (fz : Bool) (as : AA) : AE := fun e h => (as e h).bind fun xs h1 => R.chk (decide (xs.length ≤ big)) (mkL fz xs h1)

/-! ### methods of lists -/
def isLst (h : AH) : D → Bool
  | .lst _ => true
  | .loc l => match h[l]? with
    | some (.lst _) => true
    | _ => false
  | _ => false
/-- o.m(..): the receiver is of the type that g asks -/
def eM (g : AH → D → Bool) (f : D → List D → AH → R D) (a : AE) (as : AA) : AE := fun e h => (a e h).bind fun d h1 => R.chk (g h1 d) ((as e h1).bind fun ds h2 => f d ds h2)
def mt0 (f : D → AH → R D) : D → List D → AH → R D
  | d, [] => f d
  | _, _ => fun _ => .no
def mt1 (f : D → D → AH → R D) : D → List D → AH → R D
  | d, [x] => f d x
  | _, _ => fun _ => .no
def mt2 (f : D → D → D → AH → R D) : D → List D → AH → R D
  | d, [x, y] => f d x y
  | _, _ => fun _ => .no
def onL (h : AH) (x : D) (f : Nat → List D → R D) : R D := match x with
  | .loc l => match h[l]? with
    | some (.lst xs) => f l xs
    | _ => .no
  | _ => .no
def appendD (x y : D) (h : AH) : R D := onL h x fun l xs => R.chk (decide (xs.length < big)) (.ok .non (h.set l (.lst (xs ++ [y]))))
def popD (x : D) (h : AH) : R D := onL h x fun l xs => (R.of xs[xs.length - 1]? h).bind fun y h => .ok y (h.set l (.lst xs.dropLast))
def popAtD (x i : D) (h : AH) : R D := match i with
  | .int i => onL h x fun l xs => R.chk (decide (-(2 ^ 63) ≤ i ∧ i < 2 ^ 63)) ((R.of (ixN xs.length i) h).bind fun k h => (R.of xs[k]? h).bind fun y h => .ok y (h.set l (.lst (xs.eraseIdx k))))
  | _ => .no
def extendD (x y : D) (h : AH) : R D := onL h x fun l xs => match y with
  | .loc l' => if l' = l then .no else match lstH h y with
    | some ys => R.chk (decide (xs.length + ys.length ≤ big)) (.ok .non (h.set l (.lst (xs ++ ys))))
    | none => .no
  | .lst ys => R.chk (decide (xs.length + ys.length ≤ big)) (.ok .non (h.set l (.lst (xs ++ ys))))
  | .tup ys => R.chk (decide (xs.length + ys.length ≤ big)) (.ok .non (h.set l (.lst (xs ++ ys))))
  | _ => .no
def setIxD (x i v : D) (h : AH) : R D := match i with
  | .int i => onL h x fun l xs => (R.of (ixN xs.length i) h).bind fun k h => .ok .non (h.set l (.lst (xs.set k v)))
  | _ => .no

/-! ### dicts, index -/
def kD : D → Option K1
  | .int i => some (.i i)
  | .str x => some (.s x)
  | _ => none
def indexD (x y : D) (h : AH) : R D := match lstH h x with
  | some ys => if flat y && ys.all flat then (R.of (ys.findIdx? fun z => ev z y) h).bind fun j h => .ok (.int j) h else .no
  | none => .no
def putA {κ : Type} [DecidableEq κ] (kvs : List (κ × D)) (k : κ) (v : D) : List (κ × D) :=
  if (kvs.any fun kv => decide (kv.1 = k)) = true then kvs.map (fun kv => if kv.1 = k then (kv.1, v) else kv) else kvs ++ [(k, v)]
def getA {κ : Type} [DecidableEq κ] (kvs : List (κ × D)) (k : κ) : Option D := (kvs.find? fun kv => decide (kv.1 = k)).map (·.2)
def mkDic (fz : Bool) (kvs : List (K1 × D)) (h : AH) : R D := if fz then .ok (.dic (kvs.map (·.1)) (kvs.map (·.2))) h else .ok (.loc h.length) (h ++ [.dic (kvs.map (·.1)) (kvs.map (·.2))])
def eKVs : List (AE × AE) → Env → AH → R (List (K1 × D))
  | [] => fun _ h => .ok [] h
  | (a, b) :: r => fun e h => (a e h).bind fun x h1 => (b e h1).bind fun y h2 => (R.of (kD x) h2).bind fun k h2 => (eKVs r e h2).bind fun kvs h3 => .ok ((k, y) :: kvs) h3
/-- {k: v, ..} -/
def eDisp (fz : Bool) (ps : List (AE × AE)) : AE := fun e h => (eKVs ps e h).bind fun kvs h1 => mkDic fz (kvs.foldl (fun acc kv => putA acc kv.1 kv.2) []) h1
def dicH (h : AH) : D → Option (List (K1 × D))
  | .dic ks ds => some (ks.zip ds)
  | .loc l => match h[l]? with
    | some (.dic ks ds) => some (ks.zip ds)
    | _ => none
  | _ => none
def isDic (h : AH) (d : D) : Bool := (dicH h d).isSome
def lookD (x y : D) (h : AH) : R (Option D) := match dicH h x with
  | some kvs => match kD y with
    | some k => .ok (getA kvs k) h
    | none => .no
  | none => .no
def eGet1 (a b : AE) : AE := fun e h => (a e h).bind fun x h1 => R.chk (isDic h1 x) ((b e h1).bind fun y h2 => (lookD x y h2).bind fun o h2 => .ok (o.getD .non) h2)
def eGet2 (a b c : AE) : AE := fun e h => (a e h).bind fun x h1 => R.chk (isDic h1 x) ((b e h1).bind fun y h2 => (c e h2).bind fun z h3 => (lookD x y h3).bind fun o h3 => .ok (o.getD z) h3)
def dixD (x y : D) (h : AH) : R D := (lookD x y h).bind fun o h => R.of o h
def dinD (y x : D) (h : AH) : R D := (lookD x y h).bind fun o h => .ok (.bl o.isSome) h
def dninD (y x : D) (h : AH) : R D := (lookD x y h).bind fun o h => .ok (.bl (!o.isSome)) h

/-! ### statements -/
def sB : List AS → AS
  | [] => fun e h => .ok (.nx e) h
  | s :: ss => fun e h => (s e h).bind fun f h1 => match f with
    | .nx e1 => sB ss e1 h1
    | f => .ok f h1
/-- an expression within a statement: an error leaves with the names as they stand -/
def up {α : Type} (e : Env) (r : R α) (k : α → AH → R Fl) : R Fl := match r with
  | .ok a h => k a h
  | .exc x h => .ok (.ex x e) h
  | .no => .no
@[simp] theorem up_ok {α : Type} (e : Env) (a : α) (h : AH) (k : α → AH → R Fl) : up e (.ok a h) k = k a h := rfl
@[simp] theorem up_exc {α : Type} (e : Env) (x : Ex) (h : AH) (k : α → AH → R Fl) : up e (.exc x h) k = .ok (.ex x e) h := rfl
@[simp] theorem up_no {α : Type} (e : Env) (k : α → AH → R Fl) : up e .no k = .no := rfl
def sE (a : AE) : AS := fun e h => up e (a e h) fun _ h1 => .ok (.nx e) h1
def sSet (i : Nat) (a : AE) : AS := fun e h => up e (a e h) fun d h1 => .ok (.nx (e.set i (some d))) h1
/-- o[i] = v -/
def sSub (f : D → D → D → AH → R D) (o i v : AE) : AS := fun e h => up e ((v e h).bind fun z h1 => (o e h1).bind fun x h2 => (i e h2).bind fun y h3 => f x y z h3) fun _ h4 => .ok (.nx e) h4
def sAug (i : Nat) (f : D → D → AH → R D) (a : AE) : AS := fun e h => match e[i]? with
  | some (some x) => up e ((a e h).bind fun y h1 => f x y h1) fun z h2 => .ok (.nx (e.set i (some z))) h2
  | _ => .no
def sIf (t : AB) (a b : AS) : AS := fun e h => up e (t e h) fun c h1 => if c then a e h1 else b e h1
def sRet (a : AE) : AS := fun e h => up e (a e h) fun d h1 => .ok (.rt d) h1
def sRetN : AS := fun _ h => .ok (.rt .non) h
def sBrk : AS := fun e h => .ok (.bk e) h
def sCt : AS := fun e h => .ok (.ct e) h
def sPass : AS := fun e h => .ok (.nx e) h
def sNo : AS := fun _ _ => .no
def gV (i : Nat) : AG := fun d e h => .ok (e.set i (some d)) h
def gTs : List AG → List D → Env → AH → R Env
  | [], [] => fun e h => .ok e h
  | g :: gs, d :: ds => fun e h => (g d e h).bind fun e1 h1 => gTs gs ds e1 h1
  | _, _ => fun _ _ => .no
/-- a, b = a tuple -/
def gT (gs : List AG) : AG := fun d e h => match d with
  | .tup ds => R.chk (decide (ds.length = gs.length)) (gTs gs ds e h)
  | _ => .no
def sAsg (g : AG) (a : AE) : AS := fun e h => up e (a e h) fun d h1 => (g d e h1).bind fun e1 h2 => .ok (.nx e1) h2

/-! ### loops -/
def iS (a : AE) : AI := fun e h => (a e h).bind fun d h1 => match d with
  | .loc l => match h1[l]? with
    | some (.lst _) => .ok (.live l) h1
    | _ => .no
  | d => match seqH h1 d with
    | some xs => .ok (.lst xs) h1
    | none => .no
def rng (lo : Int) (n : Nat) : List D := (List.range n).map fun (k : Nat) => .int (lo + k)
def inI (i : Int) : Bool := match i with
  | .ofNat n => Nat.ble n 4611686018427387903
  | .negSucc n => Nat.ble n 4611686018427387903
theorem inI_iff (i : Int) : inI i = true ↔ -(2 ^ 62) ≤ i ∧ i < 2 ^ 62 := by
  cases i with
  | ofNat n => show Nat.ble n _ = true ↔ _; rw [Nat.ble_eq]; simp only [Int.ofNat_eq_natCast]; omega
  | negSucc n => show Nat.ble n _ = true ↔ _; rw [Nat.ble_eq]; omega
def iR1 (a : AE) : AI := fun e h => (a e h).bind fun d h1 => match d with
  | .int j => R.chk (inI j) (.ok (.lst (rng 0 j.toNat)) h1)
  | _ => .no
def iR2 (a b : AE) : AI := fun e h => (a e h).bind fun x h1 => (b e h1).bind fun y h2 => match x with
  | .int i => match y with
    | .int j => R.chk (inI i && inI j) (.ok (.lst (rng i (j - i).toNat)) h2)
    | _ => .no
  | _ => .no
/-- one turn behind another: what a body's end does to a loop -/
def turn (f : Fl) (h : AH) (k : Env → AH → R Fl) : R Fl := match f with
  | .nx e => k e h
  | .ct e => k e h
  | .bk e => .ok (.nx e) h
  | .rt d => .ok (.rt d) h
  | .ex x e => .ok (.ex x e) h
/-- the i-th item (none: no list there; some none: the end) -/
def nxt (s : Src) (i : Nat) (h : AH) : Option (Option D) := match s with
  | .lst xs => some xs[i]?
  | .live l => match h[l]? with
    | some (.lst xs) => some xs[i]?
    | _ => none
def Src.fuel : Src → Nat
  | .lst xs => xs.length + 1
  | .live _ => big + 2
def forN (g : AG) (b : AS) (s : Src) : Nat → Nat → AS
  | 0, _, _, _ => .no
  | n + 1, i, e, h => match nxt s i h with
    | none => .no
    | some none => .ok (.nx e) h
    | some (some x) => (g x e h).bind fun e1 h1 => (b e1 h1).bind fun f h2 => turn f h2 (forN g b s n (i + 1))
def sFor (it : AI) (g : AG) (b : AS) : AS := fun e h => up e (it e h) fun s h1 => forN g b s s.fuel 0 e h1
def whileN (t : AB) (b : AS) : Nat → AS
  | 0, _, _ => .no
  | n + 1, e, h => up e (t e h) fun c h1 => if c then (b e h1).bind fun f h2 => turn f h2 (whileN t b n) else .ok (.nx e) h1
def sWhile (t : AB) (b : AS) : AS := whileN t b (2 ^ 40)
/-- no error within -/
def R.nox {α : Type} (r : R α) : R α := match r with
  | .ok a h => .ok a h
  | _ => .no
@[simp] theorem nox_ok {α : Type} (a : α) (h : AH) : (R.ok a h).nox = .ok a h := rfl
@[simp] theorem nox_exc {α : Type} (x : Ex) (h : AH) : (R.exc x h : R α).nox = .no := rfl
@[simp] theorem nox_no {α : Type} : (R.no : R α).nox = .no := rfl
/-- a comprehension's turns: what it has made is kept apart -/
def lcN (g : AG) (t : AB) (a : AE) (e0 : Env) (s : Src) : Nat → Nat → List D → AH → R (List D)
  | 0, _, _, _ => .no
  | n + 1, i, acc, h => match nxt s i h with
    | none => .no
    | some none => .ok acc h
    | some (some x) => (g x e0 h).nox.bind fun e1 h1 => (t e1 h1).nox.bind fun c h2 => if c then (a e1 h2).nox.bind fun y h3 => R.chk (decide (acc.length < big)) (lcN g t a e0 s n (i + 1) (acc ++ [y]) h3) else lcN g t a e0 s n (i + 1) acc h2
def wipeE (e : Env) : List Nat → Env
  | [] => e
  | v :: vs => (wipeE e vs).set v none
/-- [a for g in it if t] -/
def eLC (fz : Bool) (own : List Nat) (it : AI) (g : AG) (t : AB) (a : AE) : AE := fun e h => (it e h).bind fun s h1 => (lcN g t a (wipeE e own) s s.fuel 0 [] h1).bind fun ys h2 => mkL fz ys h2

/-! ### defs -/
/-! no object from n on within -/
mutual
def clo (n : Nat) : D → Bool
  | .loc l => decide (l < n)
  | .tup xs => clos n xs
  | .lst xs => clos n xs
  | .scr xs => clos n xs
  | .dic _ ds => clos n ds
  | .ins _ _ ds => clos n ds
  | _ => true
def clos (n : Nat) : List D → Bool
  | [] => true
  | x :: xs => clo n x && clos n xs
end
def cloO (n : Nat) : AO → Bool
  | .lst xs => clos n xs
  | .dic _ ds => clos n ds
  | .dicT _ ds => clos n ds
  | .ins _ _ ds => clos n ds
  | .set _ => true
/-- what stood before holds nothing new -/
def pre (n : Nat) (h h1 : AH) : Bool := (List.range n).all fun i => decide (h1[i]? = h[i]?) || (match h1[i]? with
  | some o => cloO n o
  | none => true)
/-- the value of a list object (its items closed) -/
def frz (n : Nat) (h : AH) : D → Option D
  | .loc l => if l < n then some (.loc l) else match h[l]? with
    | some (.lst xs) => if clos n xs then some (.lst xs) else none
    | some (.ins c ns ds) => if clos n ds then some (.ins c ns ds) else none
    | _ => none
  | d => if clo n d then some d else none
/-- a def's end: the objects made meanwhile are let go -/
def trim (h : AH) (r : R D) : R D := match r with
  | .ok d h1 => match frz h.length h1 d with
    | some d' => R.chk (pre h.length h h1) (.ok d' (h1.take h.length))
    | none => .no
  | .exc x h1 => R.chk (clos h.length x.ds && pre h.length h h1) (.exc x (h1.take h.length))
  | .no => .no
def fnR (r : R Fl) : R D := r.nox.bind fun f h => match f with
  | .rt d => .ok d h
  | .nx _ => .ok .non h
  | .ex x _ => .exc x h
  | _ => .no
def envOf (n : Nat) (ds : List D) : Env := ds.map some ++ List.replicate (n - ds.length) none
/-- a def of p parameters and n names: its objects kept -/
def fnK (p n : Nat) (b : AS) : AF := fun ds h => R.chk (decide (ds.length = p)) (fnR (b (envOf n ds) h))
/-- .. let go -/
def fnT (p n : Nat) (b : AS) : AF := fun ds h => R.chk (decide (ds.length = p)) (trim h (fnR (b (envOf n ds) h)))
end Sm
end

section
set_option Elab.async false
set_option linter.all false
set_option maxRecDepth 100000
set_option maxHeartbeats 1000000
/-! Sim: the hand layer's judgements told by plain computations (Abs). -/
namespace Sm
open PySem PySem.Spec PyProof.Rows L2

/-! ### what stands for what -/
structure Tb where
  K : PySem.W.Frag
  mg : Str → Option Value
abbrev tb (X : Cx) : Tb := ⟨X.K, X.mg⟩
/-- m: the objects' addresses; ex: addresses that nothing may lean on -/
structure Mp where
  m : List Addr
  ex : List Addr
def ts (x : List Nat) : Str := ⟨x.toArray⟩
def kOf : K1 → Key
  | .i k => .inl k
  | .s x => .inr (ts x)
/-- a list of the text's own top -/
def KL (K : PySem.W.Frag) (a : Addr) (xs : List V) : Prop := ∃ (o : Obj) (its : Array Value) (n : Nat), K.lookup a = some o ∧ o.cls = .type "list" ∧ o.dict = none ∧ o.data = .seq its n ∧ its.size ≤ sizeLine ∧ Vals xs its.toList
def KT (K : PySem.W.Frag) (a : Addr) (xs : List V) : Prop := ∃ (o : Obj) (its : Array Value) (n : Nat), K.lookup a = some o ∧ o.cls = .type "tuple" ∧ o.data = .seq its n ∧ its.size ≤ sizeLine ∧ Vals xs its.toList
def Off (M : Mp) (a : Addr) : Prop := a ∉ M.m ∧ a ∉ M.ex
def FL (M : Mp) (H : Hp) (a : Addr) (xs : List V) : Prop := Off M a ∧ H a = some (.lst xs)
def FS (K : PySem.W.Frag) (M : Mp) (H : Hp) (a : Addr) (xs : List V) : Prop := (Off M a ∧ Rd H a (.lst xs)) ∨ KL K a xs
def FT (K : PySem.W.Frag) (M : Mp) (H : Hp) (a : Addr) (xs : List V) : Prop := (Off M a ∧ Rd H a (.tup xs)) ∨ KT K a xs
theorem FL.sq {K : PySem.W.Frag} {M : Mp} {H : Hp} {a : Addr} {xs : List V} (h : FL M H a xs) : SqL K H a xs := .inl (.inl h.2)
theorem FS.sq {K : PySem.W.Frag} {M : Mp} {H : Hp} {a : Addr} {xs : List V} (h : FS K M H a xs) : SqL K H a xs := h.elim (fun h => .inl h.2) .inr
theorem FT.sq {K : PySem.W.Frag} {M : Mp} {H : Hp} {a : Addr} {xs : List V} (h : FT K M H a xs) : SqT K H a xs := h.elim (fun h => .inl h.2) .inr
/-- an instance's attributes -/
def flds (ns : List String) (vs : List V) : List (Str × V) := (ns.map Str.ofString).zip vs
mutual
def Rep (T : Tb) (M : Mp) (H : Hp) : D → V → Prop
  | .non, v => v = .non
  | .bl b, v => v = .bl b
  | .int i, v => v = .int i
  | .str x, v => v = .str (ts x)
  | .ty n, v => v = .ty n
  | .tup ds, v => ∃ a vs, v = .ref a ∧ FT T.K M H a vs ∧ Reps T M H ds vs
  | .lst ds, v => ∃ a vs, v = .ref a ∧ FL M H a vs ∧ Reps T M H ds vs
  | .scr ds, v => ∃ a vs, v = .ref a ∧ FS T.K M H a vs ∧ Reps T M H ds vs
  | .dic ks ds, v => ∃ a vs, v = .ref a ∧ Off M a ∧ H a = some (.dK ((ks.map kOf).zip vs)) ∧ ks.length = ds.length ∧ Reps T M H ds vs
  | .ins c ns ds, v => ∃ a C dx vs, v = .ref a ∧ Off M a ∧ T.mg (Str.ofString c) = some (.ref C) ∧ H a = some (.ins C dx (flds ns vs)) ∧ ns.length = ds.length ∧ Reps T M H ds vs
  | .loc l, v => ∃ a, v = .ref a ∧ M.m[l]? = some a
def Reps (T : Tb) (M : Mp) (H : Hp) : List D → List V → Prop
  | [], vs => vs = []
  | d :: ds, vs => ∃ x xs, vs = x :: xs ∧ Rep T M H d x ∧ Reps T M H ds xs
end
def RepO (T : Tb) (M : Mp) (H : Hp) (a : Addr) : AO → Prop
  | .lst ds => ∃ vs, H a = some (.lst vs) ∧ Reps T M H ds vs
  | .dic ks ds => ∃ vs, H a = some (.dK ((ks.map kOf).zip vs)) ∧ ks.length = ds.length ∧ Reps T M H ds vs
  | .dicT ks ds => ∃ vs, H a = some (.dT ((ks.map fun k => k.map kOf).zip vs)) ∧ ks.length = ds.length ∧ Reps T M H ds vs
  | .ins c ns ds => ∃ C dx vs, T.mg (Str.ofString c) = some (.ref C) ∧ H a = some (.ins C dx (flds ns vs)) ∧ ns.length = ds.length ∧ Reps T M H ds vs
  | .set _ => False
structure RelH (T : Tb) (M : Mp) (ah : AH) (H : Hp) : Prop where
  len : M.m.length = ah.length
  nd : M.m.Nodup
  off : ∀ a ∈ M.m, a ∉ M.ex
  exs : ∀ a ∈ M.ex, H a ≠ none
  obj : ∀ (l : Nat) (a : Addr) (o : AO), M.m[l]? = some a → ah[l]? = some o → RepO T M H a o
/-- what a computation does to the heap -/
structure Step (M : Mp) (H : Hp) (M' : Mp) (H' : Hp) : Prop where
  pre : ∃ r, M'.m = M.m ++ r ∧ ∀ a ∈ r, H a = none
  ex : ∃ r, M'.ex = M.ex ++ r ∧ ∀ a ∈ r, H a = none
  keep : ∀ a o, H a = some o → a ∉ M.m → H' a = some o
  there : ∀ a, H a ≠ none → H' a ≠ none
theorem Step.refl (M : Mp) (H : Hp) : Step M H M H := ⟨⟨[], by simp, by simp⟩, ⟨[], by simp, by simp⟩, fun _ _ h _ => h, fun _ h => h⟩
theorem Step.trans {M M1 M2 : Mp} {H H1 H2 : Hp} (a : Step M H M1 H1) (b : Step M1 H1 M2 H2) : Step M H M2 H2 := by
  obtain ⟨r, e, f⟩ := a.pre
  obtain ⟨r2, e2, f2⟩ := b.pre
  obtain ⟨u, k, g⟩ := a.ex
  obtain ⟨u2, k2, g2⟩ := b.ex
  have back : ∀ x, H1 x = none → H x = none := fun x hx => by
    cases q : H x with
    | none => rfl
    | some o => exact absurd hx (a.there x (by rw [q]; simp))
  refine ⟨⟨r ++ r2, by rw [e2, e, List.append_assoc], fun x hx => ?_⟩, ⟨u ++ u2, by rw [k2, k, List.append_assoc], fun x hx => ?_⟩, fun x o h hm => ?_, fun x h => b.there x (a.there x h)⟩
  · rcases List.mem_append.mp hx with hx | hx
    · exact f x hx
    · exact back x (f2 x hx)
  · rcases List.mem_append.mp hx with hx | hx
    · exact g x hx
    · exact back x (g2 x hx)
  · refine b.keep x o (a.keep x o h hm) fun hx => ?_
    rw [e] at hx
    rcases List.mem_append.mp hx with hx | hx
    · exact hm hx
    · rw [f x hx] at h; cases h
theorem Step.get {M M' : Mp} {H H' : Hp} (s : Step M H M' H') {l : Nat} {a : Addr} (h : M.m[l]? = some a) : M'.m[l]? = some a := by
  obtain ⟨r, e, _⟩ := s.pre
  rw [e, List.getElem?_append_left (List.getElem?_eq_some_iff.mp h).1]
  exact h
theorem Step.offOf {M M' : Mp} {H H' : Hp} (s : Step M H M' H') {a : Addr} {o : HO} (h : H a = some o) (f : Off M a) : Off M' a := by
  obtain ⟨r, e, g⟩ := s.pre
  obtain ⟨u, k, g2⟩ := s.ex
  refine ⟨fun hm => ?_, fun hm => ?_⟩
  · rw [e] at hm
    rcases List.mem_append.mp hm with hm | hm
    · exact f.1 hm
    · rw [g a hm] at h; cases h
  · rw [k] at hm
    rcases List.mem_append.mp hm with hm | hm
    · exact f.2 hm
    · rw [g2 a hm] at h; cases h
theorem Step.rd {M M' : Mp} {H H' : Hp} (s : Step M H M' H') {a : Addr} {u : HO} (h : Rd H a u) (f : Off M a) : Rd H' a u ∧ Off M' a := by
  rcases h with h | ⟨o, h⟩
  · exact ⟨.inl (s.keep a _ h f.1), s.offOf h f⟩
  · exact ⟨.inr ⟨o, s.keep a _ h f.1⟩, s.offOf h f⟩
section
variable {T : Tb} {M M' : Mp} {H H' : Hp}
/-- the same value stands for the same datum -/
structure Mono (M M' : Mp) (H H' : Hp) : Prop where
  get : ∀ (l : Nat) (a : Addr), M.m[l]? = some a → M'.m[l]? = some a
  off : ∀ a o, Off M a → H a = some o → Off M' a
  keep : ∀ a o, Off M a → H a = some o → H' a = some o
theorem Step.mono (s : Step M H M' H') : Mono M M' H H' := ⟨fun _ _ h => s.get h, fun _ _ f h => s.offOf h f, fun _ _ f h => s.keep _ _ h f.1⟩
theorem Mono.rd (s : Mono M M' H H') {a : Addr} {u : HO} (h : Rd H a u) (f : Off M a) : Off M' a ∧ Rd H' a u := by
  rcases h with h | ⟨o, h⟩
  · exact ⟨s.off a _ f h, .inl (s.keep a _ f h)⟩
  · exact ⟨s.off a _ f h, .inr ⟨o, s.keep a _ f h⟩⟩
theorem FL.mono (s : Mono M M' H H') {a : Addr} {xs : List V} (h : FL M H a xs) : FL M' H' a xs := ⟨s.off a _ h.1 h.2, s.keep a _ h.1 h.2⟩
theorem FS.mono (s : Mono M M' H H') {a : Addr} {xs : List V} (h : FS T.K M H a xs) : FS T.K M' H' a xs := h.elim (fun h => .inl (s.rd h.2 h.1)) .inr
theorem FT.mono (s : Mono M M' H H') {a : Addr} {xs : List V} (h : FT T.K M H a xs) : FT T.K M' H' a xs := h.elim (fun h => .inl (s.rd h.2 h.1)) .inr
mutual
theorem Rep.mono (s : Mono M M' H H') : ∀ {d : D} {v : V}, Rep T M H d v → Rep T M' H' d v
  | .non, _, h => by simpa [Rep] using h
  | .bl _, _, h => by simpa [Rep] using h
  | .int _, _, h => by simpa [Rep] using h
  | .str _, _, h => by simpa [Rep] using h
  | .ty _, _, h => by simpa [Rep] using h
  | .tup ds, v, h => by
    rw [Rep] at h ⊢
    obtain ⟨a, vs, e, f, r⟩ := h
    exact ⟨a, vs, e, f.mono s, Reps.mono s r⟩
  | .lst ds, v, h => by
    rw [Rep] at h ⊢
    obtain ⟨a, vs, e, f, r⟩ := h
    exact ⟨a, vs, e, f.mono s, Reps.mono s r⟩
  | .scr ds, v, h => by
    rw [Rep] at h ⊢
    obtain ⟨a, vs, e, f, r⟩ := h
    exact ⟨a, vs, e, f.mono s, Reps.mono s r⟩
  | .dic ks ds, v, h => by
    rw [Rep] at h ⊢
    obtain ⟨a, vs, e, f, g, z, r⟩ := h
    exact ⟨a, vs, e, s.off a _ f g, s.keep a _ f g, z, Reps.mono s r⟩
  | .ins c ns ds, v, h => by
    rw [Rep] at h ⊢
    obtain ⟨a, C, dx, vs, e, f, g, k, z, r⟩ := h
    exact ⟨a, C, dx, vs, e, s.off a _ f k, g, s.keep a _ f k, z, Reps.mono s r⟩
  | .loc l, v, h => by
    rw [Rep] at h ⊢
    obtain ⟨a, e, f⟩ := h
    exact ⟨a, e, s.get l a f⟩
theorem Reps.mono (s : Mono M M' H H') : ∀ {ds : List D} {vs : List V}, Reps T M H ds vs → Reps T M' H' ds vs
  | [], _, h => by simpa [Reps] using h
  | d :: ds, vs, h => by
    rw [Reps] at h ⊢
    obtain ⟨x, xs, e, f, g⟩ := h
    exact ⟨x, xs, e, Rep.mono s f, Reps.mono s g⟩
end
theorem Rep.step (s : Step M H M' H') {d : D} {v : V} (h : Rep T M H d v) : Rep T M' H' d v := h.mono s.mono
theorem Reps.step (s : Step M H M' H') {ds : List D} {vs : List V} (h : Reps T M H ds vs) : Reps T M' H' ds vs := h.mono s.mono
theorem Reps.length : ∀ {ds : List D} {vs : List V}, Reps T M H ds vs → ds.length = vs.length
  | [], _, h => by rw [Reps] at h; subst h; rfl
  | d :: ds, vs, h => by
    rw [Reps] at h
    obtain ⟨x, xs, rfl, _, g⟩ := h
    simp [Reps.length g]
theorem Reps.get : ∀ {ds : List D} {vs : List V} {i : Nat} {d : D}, Reps T M H ds vs → ds[i]? = some d → ∃ v, vs[i]? = some v ∧ Rep T M H d v
  | [], _, _, _, _, e => by simp at e
  | x :: ds, vs, 0, d, h, e => by
    rw [Reps] at h
    obtain ⟨y, ys, rfl, f, g⟩ := h
    simp at e; subst e
    exact ⟨y, rfl, f⟩
  | x :: ds, vs, i + 1, d, h, e => by
    rw [Reps] at h
    obtain ⟨y, ys, rfl, f, g⟩ := h
    simp at e
    obtain ⟨v, e1, e2⟩ := Reps.get g e
    exact ⟨v, by simpa using e1, e2⟩
theorem Reps.nil : Reps T M H [] [] := by rw [Reps]
theorem Reps.cons {d : D} {ds : List D} {v : V} {vs : List V} (h : Rep T M H d v) (g : Reps T M H ds vs) : Reps T M H (d :: ds) (v :: vs) := by
  rw [Reps]; exact ⟨v, vs, rfl, h, g⟩
theorem Reps.app : ∀ {ds es : List D} {vs us : List V}, Reps T M H ds vs → Reps T M H es us → Reps T M H (ds ++ es) (vs ++ us)
  | [], _, _, _, h, g => by rw [Reps] at h; subst h; exact g
  | d :: ds, es, vs, us, h, g => by
    rw [Reps] at h
    obtain ⟨x, xs, rfl, f, k⟩ := h
    exact Reps.cons f (Reps.app k g)
theorem Reps.take : ∀ (n : Nat) {ds : List D} {vs : List V}, Reps T M H ds vs → Reps T M H (ds.take n) (vs.take n)
  | 0, _, _, _ => by simpa using Reps.nil
  | n + 1, [], _, h => by rw [Reps] at h; subst h; simpa using Reps.nil
  | n + 1, d :: ds, vs, h => by
    rw [Reps] at h
    obtain ⟨x, xs, rfl, f, k⟩ := h
    exact Reps.cons f (Reps.take n k)
theorem Reps.drop : ∀ (n : Nat) {ds : List D} {vs : List V}, Reps T M H ds vs → Reps T M H (ds.drop n) (vs.drop n)
  | 0, _, _, h => h
  | n + 1, [], _, h => by rw [Reps] at h; subst h; simpa using Reps.nil
  | n + 1, d :: ds, vs, h => by
    rw [Reps] at h
    obtain ⟨x, xs, rfl, f, k⟩ := h
    exact Reps.drop n k
theorem Reps.set {x : D} {v : V} (hx : Rep T M H x v) : ∀ (i : Nat) {ds : List D} {vs : List V}, Reps T M H ds vs → Reps T M H (ds.set i x) (vs.set i v)
  | _, [], _, h => by rw [Reps] at h; subst h; simpa using Reps.nil
  | 0, d :: ds, vs, h => by
    rw [Reps] at h
    obtain ⟨y, ys, rfl, f, k⟩ := h
    exact Reps.cons hx k
  | i + 1, d :: ds, vs, h => by
    rw [Reps] at h
    obtain ⟨y, ys, rfl, f, k⟩ := h
    exact Reps.cons f (Reps.set hx i k)
theorem Reps.erase : ∀ (i : Nat) {ds : List D} {vs : List V}, Reps T M H ds vs → Reps T M H (ds.eraseIdx i) (vs.eraseIdx i)
  | _, [], _, h => by rw [Reps] at h; subst h; simpa using Reps.nil
  | 0, d :: ds, vs, h => by
    rw [Reps] at h
    obtain ⟨y, ys, rfl, f, k⟩ := h
    exact k
  | i + 1, d :: ds, vs, h => by
    rw [Reps] at h
    obtain ⟨y, ys, rfl, f, k⟩ := h
    exact Reps.cons f (Reps.erase i k)
theorem Reps.dropLast : ∀ {ds : List D} {vs : List V}, Reps T M H ds vs → Reps T M H ds.dropLast vs.dropLast := fun {ds vs} h => by
  rw [List.dropLast_eq_take, List.dropLast_eq_take, h.length]
  exact h.take _
theorem Reps.rep {ds : List D} {vs : List V} (h : Reps T M H ds vs) : ∀ n : Nat, Reps T M H (List.replicate n ds).flatten (List.replicate n vs).flatten
  | 0 => by simpa using Reps.nil
  | n + 1 => by
    rw [List.replicate_succ, List.replicate_succ, List.flatten_cons, List.flatten_cons]
    exact h.app (Reps.rep h n)
theorem Reps.ints : ∀ {ds : List D} {vs : List V} {ns : List Int}, Reps T M H ds vs → asInts ds = some ns → ds = ns.map .int ∧ vs = ns.map .int
  | [], vs, ns, h, e => by rw [Reps] at h; simp [asInts] at e; subst h e; exact ⟨rfl, rfl⟩
  | d :: ds, vs, ns, h, e => by
    rw [Reps] at h
    obtain ⟨x, xs, rfl, f, k⟩ := h
    cases d with
    | int i =>
      simp only [asInts, Option.map_eq_some_iff] at e
      obtain ⟨ms, e1, rfl⟩ := e
      obtain ⟨h1, h2⟩ := Reps.ints k e1
      rw [Rep] at f
      subst f
      rw [h1, h2]
      exact ⟨rfl, rfl⟩
    | _ => simp [asInts] at e
theorem Reps.ofInts : ∀ ns : List Int, Reps T M H (ns.map .int) (ns.map .int)
  | [] => Reps.nil
  | n :: ns => Reps.cons (by rw [Rep]) (Reps.ofInts ns)
end
/-! ### the heap's steps -/
section
variable {T : Tb} {M M' : Mp} {ah : AH} {H H' : Hp}
theorem RepO.lives {a : Addr} {o : AO} (h : RepO T M H a o) : H a ≠ none := by
  cases o with
  | lst ds => obtain ⟨vs, e, _⟩ := h; rw [e]; simp
  | dic ks ds => obtain ⟨vs, e, _⟩ := h; rw [e]; simp
  | dicT ks ds => obtain ⟨vs, e, _⟩ := h; rw [e]; simp
  | ins c ns ds => obtain ⟨C, dx, vs, _, e, _⟩ := h; rw [e]; simp
  | set xs => exact h.elim
theorem RepO.mono (s : Mono M M' H H') {a : Addr} {o : AO} (k : H' a = H a) (h : RepO T M H a o) : RepO T M' H' a o := by
  cases o with
  | lst ds => obtain ⟨vs, e, r⟩ := h; exact ⟨vs, k.trans e, r.mono s⟩
  | dic ks ds => obtain ⟨vs, e, z, r⟩ := h; exact ⟨vs, k.trans e, z, r.mono s⟩
  | dicT ks ds => obtain ⟨vs, e, z, r⟩ := h; exact ⟨vs, k.trans e, z, r.mono s⟩
  | ins c ns ds => obtain ⟨C, dx, vs, g, e, z, r⟩ := h; exact ⟨C, dx, vs, g, k.trans e, z, r.mono s⟩
  | set xs => exact h.elim
theorem RepO.step (s : Step M H M' H') {a : Addr} {o : AO} (k : H' a = H a) (h : RepO T M H a o) : RepO T M' H' a o := h.mono s.mono k
theorem RelH.at_ (q : RelH T M ah H) {l : Nat} {a : Addr} (h : M.m[l]? = some a) : ∃ o, ah[l]? = some o ∧ RepO T M H a o := by
  have hl : l < ah.length := by rw [← q.len]; exact (List.getElem?_eq_some_iff.mp h).1
  exact ⟨ah[l], List.getElem?_eq_getElem hl, q.obj l a _ h (List.getElem?_eq_getElem hl)⟩
theorem RelH.addr (q : RelH T M ah H) {l : Nat} {o : AO} (h : ah[l]? = some o) : ∃ a, M.m[l]? = some a ∧ RepO T M H a o := by
  have hl : l < M.m.length := by rw [q.len]; exact (List.getElem?_eq_some_iff.mp h).1
  exact ⟨M.m[l], List.getElem?_eq_getElem hl, q.obj l _ _ (List.getElem?_eq_getElem hl) h⟩
theorem RelH.lives (q : RelH T M ah H) {a : Addr} (h : a ∈ M.m) : H a ≠ none := by
  obtain ⟨l, e⟩ := List.mem_iff_getElem?.mp h
  obtain ⟨o, _, r⟩ := q.at_ e
  exact r.lives
theorem RelH.offNew (q : RelH T M ah H) {p : Addr} (h : H p = none) : Off M p := ⟨fun z => q.lives z h, fun z => q.exs p z h⟩
/-- the objects are as they were -/
theorem RelH.same (q : RelH T M ah H) (s : Step M H M H') (k : ∀ a ∈ M.m, H' a = H a) : RelH T M ah H' :=
  ⟨q.len, q.nd, q.off, fun a h => s.there a (q.exs a h), fun l a o h g => (q.obj l a o h g).step s (k a (List.mem_of_getElem? h))⟩
theorem step_new {p : Addr} (o : HO) (h : H p = none) : Step M H M (upd H p o) :=
  ⟨⟨[], by simp, by simp⟩, ⟨[], by simp, by simp⟩, fun a u e _ => by rw [upd_ne (ne_of_none e h)]; exact e, fun a e => by
    by_cases z : a = p
    · rw [z, upd_same]; simp
    · rw [upd_ne z]; exact e⟩
theorem RelH.new (q : RelH T M ah H) {p : Addr} (o : HO) (h : H p = none) : RelH T M ah (upd H p o) :=
  q.same (step_new o h) fun a z => upd_ne fun e => q.lives z (by rw [e]; exact h)
/-- a new object that is ours -/
theorem step_loc {p : Addr} (o : HO) (h : H p = none) : Step M H ⟨M.m ++ [p], M.ex⟩ (upd H p o) :=
  ⟨⟨[p], rfl, by simpa using h⟩, ⟨[], by simp, by simp⟩, (step_new (M := M) o h).keep, (step_new (M := M) o h).there⟩
theorem RelH.loc (q : RelH T M ah H) {p : Addr} {o : HO} {u : AO} (h : H p = none) (r : RepO T ⟨M.m ++ [p], M.ex⟩ (upd H p o) p u) : RelH T ⟨M.m ++ [p], M.ex⟩ (ah ++ [u]) (upd H p o) := by
  have f := q.offNew h
  refine ⟨by simp [q.len], ?_, fun a z => ?_, fun a z => (step_new (M := M) o h).there a (q.exs a z), fun l a x e g => ?_⟩
  · rw [List.nodup_append]
    exact ⟨q.nd, by simp, fun a ha b hb => by simp at hb; subst hb; exact fun z => f.1 (z ▸ ha)⟩
  · rcases List.mem_append.mp z with z | z
    · exact q.off a z
    · simp at z; subst z; exact f.2
  · by_cases hl : l < M.m.length
    · rw [List.getElem?_append_left hl] at e
      rw [List.getElem?_append_left (by rw [← q.len]; exact hl)] at g
      exact (q.obj l a x e g).step (step_loc o h) (upd_ne fun z => f.1 (z ▸ List.mem_of_getElem? e))
    · have : l < (M.m ++ [p]).length := (List.getElem?_eq_some_iff.mp e).1
      have hl2 : l = M.m.length := by simp at this; omega
      subst hl2
      rw [List.getElem?_append_right (Nat.le_refl _)] at e
      rw [List.getElem?_append_right (by rw [q.len]; exact Nat.le_refl _)] at g
      simp [q.len] at e g
      subst e g
      exact r
/-- an object of ours is changed -/
theorem RelH.put (q : RelH T M ah H) {l : Nat} {a : Addr} {o : HO} {u : AO} (h : M.m[l]? = some a) (r : Step M H M (upd H a o) → RepO T M (upd H a o) a u) : Step M H M (upd H a o) ∧ RelH T M (ah.set l u) (upd H a o) := by
  have hm := List.mem_of_getElem? h
  have s : Step M H M (upd H a o) := ⟨⟨[], by simp, by simp⟩, ⟨[], by simp, by simp⟩, fun b x e z => by rw [upd_ne (fun y => z (by rw [y]; exact hm))]; exact e, fun b e => by
    by_cases z : b = a
    · rw [z, upd_same]; simp
    · rw [upd_ne z]; exact e⟩
  refine ⟨s, by simp [q.len], q.nd, q.off, fun b z => s.there b (q.exs b z), fun l' b x e g => ?_⟩
  by_cases hl : l' = l
  · subst hl
    rw [h] at e; cases e
    have : l' < ah.length := by rw [← q.len]; exact (List.getElem?_eq_some_iff.mp h).1
    rw [List.getElem?_set_self this] at g
    cases g
    exact r s
  · rw [List.getElem?_set_ne (Ne.symm hl)] at g
    refine (q.obj l' b x e g).step s (upd_ne fun z => hl ?_)
    rw [z] at e
    exact nd_ix q.nd e h
end
/-! ### the judgements -/
structure Sta (T : Tb) (M : Mp) (e : Env) (ah : AH) (σ : L2.St) (H : Hp) : Prop where
  h : RelH T M ah H
  len : e.length = σ.length
  slot : ∀ (i : Nat) (d : D), e[i]? = some (some d) → ∃ v, σ[i]? = some (some v) ∧ Rep T M H d v
theorem Sta.step {T : Tb} {M M' : Mp} {e : Env} {ah ah' : AH} {σ : L2.St} {H H' : Hp} (s : Sta T M e ah σ H) (t : Step M H M' H') (h : RelH T M' ah' H') : Sta T M' e ah' σ H' :=
  ⟨h, s.len, fun i d g => let ⟨v, a, b⟩ := s.slot i d g; ⟨v, a, b.step t⟩⟩
/-- the class of an error -/
def ClsOf (T : Tb) (c : String) (u : Value) : Prop := (∃ C, T.mg (Str.ofString c) = some (.ref C) ∧ u = .ref C) ∨ (T.mg (Str.ofString c) = none ∧ u = .type c)
def ExRel (T : Tb) (M : Mp) (H : Hp) (x : Ex) (u : Value) (dx : Option Addr) : Prop := ClsOf T x.cls u ∧ x.ns.length = x.ds.length ∧ match dx with
  | none => x.ns = []
  | some d => ∃ vs, Off M d ∧ H d = some (.xd (flds x.ns vs)) ∧ Reps T M H x.ds vs
def Post {α : Type} (T : Tb) (W : XK) (M : Mp) (H : Hp) (P : α → Mp → AH → Hp → Prop) (r : R α) : Prop := match r with
  | .ok a ah => ∀ M' H', Step M H M' H' → RelH T M' ah H' → P a M' ah H'
  | .exc x ah => ∀ M' H' u dx, Step M H M' H' → RelH T M' ah H' → ExRel T M' H' x u dx → W u dx H'
  | .no => False
section
variable {α β : Type} {T : Tb} {W : XK} {M M' : Mp} {H H' : Hp}
theorem Post.step {P : α → Mp → AH → Hp → Prop} (s : Step M H M' H') : ∀ {r : R α}, Post T W M H P r → Post T W M' H' P r
  | .ok _ _, h => fun M2 H2 t q => h M2 H2 (s.trans t) q
  | .exc _ _, h => fun M2 H2 u dx t q x => h M2 H2 u dx (s.trans t) q x
  | .no, h => h
theorem Post.imp {P Q : α → Mp → AH → Hp → Prop} : ∀ {r : R α}, Post T W M H P r → (∀ a M' ah' H', Step M H M' H' → RelH T M' ah' H' → P a M' ah' H' → Q a M' ah' H') → Post T W M H Q r
  | .ok _ _, h, f => fun M2 H2 t q => f _ _ _ _ t q (h M2 H2 t q)
  | .exc _ _, h, _ => h
  | .no, h, _ => h
theorem Post.bind {P : β → Mp → AH → Hp → Prop} {f : α → AH → R β} : ∀ {r : R α}, Post T W M H P (r.bind f) → Post T W M H (fun a M1 ah1 H1 => Post T W M1 H1 P (f a ah1)) r
  | .ok _ _, h => fun _ _ t _ => Post.step t h
  | .exc _ _, h => h
  | .no, h => h
theorem Post.bindI {P : β → Mp → AH → Hp → Prop} {Q : α → Mp → AH → Hp → Prop} {f : α → AH → R β} {r : R α} (h : Post T W M H P (r.bind f))
    (k : ∀ a M' ah' H', Step M H M' H' → RelH T M' ah' H' → Post T W M' H' P (f a ah') → Q a M' ah' H') : Post T W M H Q r := h.bind.imp k
theorem Post.chk {P : α → Mp → AH → Hp → Prop} {c : Bool} {r : R α} (h : Post T W M H P (R.chk c r)) : c = true ∧ Post T W M H P r := by
  cases c with
  | true => exact ⟨rfl, h⟩
  | false => exact h.elim
theorem Post.of {P : α → Mp → AH → Hp → Prop} {o : Option α} {ah : AH} (h : Post T W M H P (R.of o ah)) : ∃ a, o = some a ∧ Post T W M H P (.ok a ah) := by
  cases o with
  | some a => exact ⟨a, rfl, h⟩
  | none => exact h.elim
/-- where nothing has happened -/
theorem Post.here {P : α → Mp → AH → Hp → Prop} {a : α} {ah : AH} (h : Post T W M H P (.ok a ah)) (q : RelH T M ah H) : P a M ah H := h M H (Step.refl M H) q
end
section
variable {T : Tb} {W : XK} {M : Mp} {ah : AH} {H : Hp} {Q : VK}
/-- what follows a value that is at hand -/
theorem Post.val {d : D} {v : V} (P : Post T W M H (fun d M' _ H' => ∀ v, Rep T M' H' d v → Q v H') (.ok d ah)) (q : RelH T M ah H) (r : Rep T M H d v) : Q v H := P M H (Step.refl M H) q v r
/-- a new list -/
theorem Post.mkL {fz : Bool} {ds : List D} {vs : List V} (P : Post T W M H (fun d M' _ H' => ∀ v, Rep T M' H' d v → Q v H') (Sm.mkL fz ds ah)) (q : RelH T M ah H) (r : Reps T M H ds vs) : ∀ p, H p = none → Q (.ref p) (upd H p (.lst vs)) := by
  intro p hp
  cases fz with
  | true =>
    have s := step_new (M := M) (.lst vs) hp
    refine P M _ s (q.new _ hp) _ ?_
    rw [Rep]
    exact ⟨p, vs, rfl, ⟨q.offNew hp, upd_same⟩, r.step s⟩
  | false =>
    have s := step_loc (M := M) (.lst vs) hp
    refine P _ _ s (q.loc hp ⟨vs, upd_same, r.step s⟩) _ ?_
    rw [Rep]
    refine ⟨p, rfl, ?_⟩
    show (M.m ++ [p])[ah.length]? = some p
    rw [← q.len]
    simp
/-- a new tuple -/
theorem Post.tup {ds : List D} {vs : List V} (P : Post T W M H (fun d M' _ H' => ∀ v, Rep T M' H' d v → Q v H') (.ok (.tup ds) ah)) (q : RelH T M ah H) (r : Reps T M H ds vs) : ∀ p, H p = none → Q (.ref p) (upd H p (.tup vs)) := by
  intro p hp
  have s := step_new (M := M) (.tup vs) hp
  refine P M _ s (q.new _ hp) _ ?_
  rw [Rep]
  exact ⟨p, vs, rfl, .inl ⟨q.offNew hp, .inl upd_same⟩, r.step s⟩
theorem rep_lst {x : D} {v : V} {ds : List D} (q : RelH T M ah H) (r : Rep T M H x v) (h : lstH ah x = some ds) : ∃ a vs, v = .ref a ∧ H a = some (.lst vs) ∧ Reps T M H ds vs := by
  cases x with
  | lst xs =>
    have e : xs = ds := Option.some.inj h
    subst e
    rw [Rep] at r
    obtain ⟨a, vs, e, f, g⟩ := r
    exact ⟨a, vs, e, f.2, g⟩
  | loc l =>
    rw [Rep] at r
    obtain ⟨a, e, f⟩ := r
    obtain ⟨o, g, k⟩ := q.at_ f
    simp only [lstH, g] at h
    cases o with
    | lst xs =>
      have e2 : xs = ds := Option.some.inj h
      subst e2
      obtain ⟨vs, k1, k2⟩ := k
      exact ⟨a, vs, e, k1, k2⟩
    | _ => cases h
  | _ => cases h
theorem rep_seq {x : D} {v : V} {ds : List D} (q : RelH T M ah H) (r : Rep T M H x v) (h : seqH ah x = some ds) : ∃ a vs, v = .ref a ∧ (SqL T.K H a vs ∨ SqT T.K H a vs) ∧ Reps T M H ds vs := by
  cases x with
  | tup xs =>
    have e : xs = ds := Option.some.inj h
    subst e
    rw [Rep] at r
    obtain ⟨a, vs, e, f, g⟩ := r
    exact ⟨a, vs, e, .inr f.sq, g⟩
  | scr xs =>
    have e : xs = ds := Option.some.inj h
    subst e
    rw [Rep] at r
    obtain ⟨a, vs, e, f, g⟩ := r
    exact ⟨a, vs, e, .inl f.sq, g⟩
  | lst xs =>
    obtain ⟨a, vs, e, f, g⟩ := rep_lst q r h
    exact ⟨a, vs, e, .inl (SqL.of f), g⟩
  | loc xs =>
    obtain ⟨a, vs, e, f, g⟩ := rep_lst q r h
    exact ⟨a, vs, e, .inl (SqL.of f), g⟩
  | _ => cases h
theorem big_eq : big = sizeLine := by rw [sizeLine_eq]; rfl
end

/-- an expression's reading, a test's, arguments' -/
def tE (W : WX) (T : Tb) (a : AE) : TE := fun σ H Q => ∃ M e ah, Sta T M e ah σ H ∧ Post T (WE W σ) M H (fun d M' _ H' => ∀ v, Rep T M' H' d v → Q v H') (a e ah)
def tT (W : WX) (T : Tb) (t : AB) : TT := fun σ H Q => ∃ M e ah, Sta T M e ah σ H ∧ Post T (WE W σ) M H (fun b _ _ H' => Q b H') (t e ah)
def tA (W : WX) (T : Tb) (a : AA) : TA := fun σ H Q => ∃ M e ah, Sta T M e ah σ H ∧ Post T (WE W σ) M H (fun ds M' _ H' => ∀ vs, Reps T M' H' ds vs → Q vs H') (a e ah)
/-- a statement's ends -/
def EndsAt (W : WX) (T : Tb) (D : Ends) : Fl → Mp → AH → Hp → Prop := fun f M' ah' H' => match f with
  | .nx e' => ∀ σ', Sta T M' e' ah' σ' H' → D.nx σ' H'
  | .rt d => ∀ v, Rep T M' H' d v → D.rt v H'
  | .bk e' => ∀ σ', Sta T M' e' ah' σ' H' → D.bk σ' H'
  | .ct e' => ∀ σ', Sta T M' e' ah' σ' H' → D.ct σ' H'
  | .ex x e' => ∀ σ' u dx, Sta T M' e' ah' σ' H' → ExRel T M' H' x u dx → W u dx σ' H'
abbrev W0 : XK := fun _ _ _ => False
def tS (W : WX) (T : Tb) (b : AS) : TS := fun D σ H => ∃ M e ah, Sta T M e ah σ H ∧ Post T W0 M H (EndsAt W T D) (b e ah)
abbrev SE (X : Cx) (W : WX) (e : Expr) (a : AE) : Prop := PE X e (tE W (tb X) a)
abbrev SB (X : Cx) (W : WX) (e : Expr) (t : AB) : Prop := PT X e (tT W (tb X) t)
abbrev SA (X : Cx) (W : WX) (es : List Expr) (a : AA) : Prop := PA X es (tA W (tb X) a)
abbrev SS (X : Cx) (W : WX) (s : Stmt) (b : AS) : Prop := PS X s (tS W (tb X) b)
abbrev SSs (X : Cx) (W : WX) (s : List Stmt) (b : AS) : Prop := PSs X s (tS W (tb X) b)
theorem PE.imp {X : Cx} {e : Expr} {t t' : TE} (h : PE X e t) (f : ∀ σ H Q, t' σ H Q → t σ H Q) : PE X e t' := ⟨fun pins s σ H Q I q => h.run pins s σ H Q I (f σ H Q q)⟩
theorem PT.imp {X : Cx} {e : Expr} {t t' : TT} (h : PT X e t) (f : ∀ σ H Q, t' σ H Q → t σ H Q) : PT X e t' := ⟨fun pins s σ H Q I q => h.run pins s σ H Q I (f σ H Q q)⟩
theorem PA.imp {X : Cx} {e : List Expr} {t t' : TA} (h : PA X e t) (f : ∀ σ H Q, t' σ H Q → t σ H Q) : PA X e t' := ⟨fun pos pins s σ H Q I q => h.run pos pins s σ H Q I (f σ H Q q)⟩
theorem PS.imp {X : Cx} {e : Stmt} {t t' : TS} (h : PS X e t) (f : ∀ D σ H, t' D σ H → t D σ H) : PS X e t' := ⟨fun pins s σ H D I q => h.run pins s σ H D I (f D σ H q)⟩
theorem PSs.imp {X : Cx} {e : List Stmt} {t t' : TS} (h : PSs X e t) (f : ∀ D σ H, t' D σ H → t D σ H) : PSs X e t' := ⟨fun pins s σ H D I q => h.run pins s σ H D I (f D σ H q)⟩

/-! ### names, constants, operators -/
section
variable {X : Cx} {W : WX} {ea eb ec : Expr} {a b c : AE} {pos : Pos}
theorem s_var {i : Nat} {x : Str} (hN : X.N[i]? = some x) (hv : Vis X.env.scope x) (hd : (x == ("__debug__" : Str)) = false := by decide) (hcd : (x == ("__classdict__" : Str)) = false := by decide) : SE X W (.Name x pos) (eV i) :=
  PE.imp (pe_var hN hv hd hcd) fun σ H Q h => by
    obtain ⟨M, e, ah, S, P⟩ := h
    unfold eV at P
    split at P
    · rename_i d he
      obtain ⟨v, e1, r⟩ := S.slot i d he
      exact ⟨v, e1, P.here S.h v r⟩
    · exact P.elim
theorem s_c {d : D} {v : V} {e : Expr} (h : PE X e (L2.tC v)) (r : ∀ (T : Tb) M H, Rep T M H d v) : SE X W e (eC d) :=
  PE.imp h fun σ H Q h => by
    obtain ⟨M, e, ah, S, P⟩ := h
    exact P.here S.h v (r _ _ _)
theorem s_int {i : Int} {j} : SE X W (.Constant (.int i) j pos) (eC (.int i)) := s_c pe_int fun _ _ _ => by rw [Rep]
theorem s_bl {i : Bool} {j} : SE X W (.Constant (.bool i) j pos) (eC (.bl i)) := s_c pe_bl fun _ _ _ => by rw [Rep]
theorem s_non {j} : SE X W (.Constant .none j pos) (eC .non) := s_c pe_non fun _ _ _ => by rw [Rep]
theorem s_str {x : Str} {y : List Nat} {j} (h : x = ts y) : SE X W (.Constant (.str x) j pos) (eC (.str y)) := s_c pe_str fun _ _ _ => by rw [Rep, h]
/-- an operator by values -/
def Op2 (X : Cx) (r : R2) (f : D → D → AH → R D) : Prop := ∀ (E : XK) M ah H dx dy x y Q, RelH (tb X) M ah H → Rep (tb X) M H dx x → Rep (tb X) M H dy y → Post (tb X) E M H (fun d M' _ H' => ∀ v, Rep (tb X) M' H' d v → Q v H') (f dx dy ah) → r x y H Q
def Op1 (X : Cx) (r : V → Hp → VK → Prop) (f : D → AH → R D) : Prop := ∀ (E : XK) M ah H dx x Q, RelH (tb X) M ah H → Rep (tb X) M H dx x → Post (tb X) E M H (fun d M' _ H' => ∀ v, Rep (tb X) M' H' d v → Q v H') (f dx ah) → r x H Q
theorem op2_read {r : R2} {f : D → D → AH → R D} (hf : Op2 X r f) {σ : L2.St} {H : Hp} {Q : VK} (h : tE W (tb X) (e2 f a b) σ H Q) : tOp r (tE W (tb X) a) (tE W (tb X) b) σ H Q := by
  obtain ⟨M, e, ah, S, P⟩ := h
  refine ⟨M, e, ah, S, P.bindI fun dx M1 ah1 H1 s1 q1 P1 v hv => ?_⟩
  refine ⟨M1, e, ah1, S.step s1 q1, P1.bindI fun dy M2 ah2 H2 s2 q2 P2 w hw => ?_⟩
  exact hf _ _ _ _ _ _ _ _ _ q2 (hv.step s2) hw P2
theorem s_bin {op : Operator} {r : R2} {f : D → D → AH → R D} (ho : OpR X (binaryOp op) r) (hf : Op2 X r f) (ha : SE X W ea a) (hb : SE X W eb b) : SE X W (.BinOp ea op eb pos) (e2 f a b) :=
  PE.imp (pe_op ho ha hb) fun σ H Q h => op2_read hf h
theorem s_cmp {op : CmpOp} {r : R2} {f : D → D → AH → R D} (ho : OpR X (compareOp op) r) (hf : Op2 X r f) (ha : SE X W ea a) (hb : SE X W eb b) (hm : behindInMarks op eb = false) : SE X W (.Compare ea [op] [eb] pos) (e2 f a b) :=
  PE.imp (pe_cmpR ho ha hb hm) fun σ H Q h => op2_read hf h
theorem s_un {op : UnaryOp} {r : V → Hp → VK → Prop} {f : D → AH → R D} (ho : UnR X (unaryOp op) r) (hf : Op1 X r f) (ha : SE X W ea a) : SE X W (.UnaryOp op ea pos) (e1 f a) :=
  PE.imp (pe_un ho ha) fun σ H Q h => by
    obtain ⟨M, e, ah, S, P⟩ := h
    exact ⟨M, e, ah, S, P.bindI fun dx M1 ah1 H1 s1 q1 P1 v hv => hf _ _ _ _ _ _ _ q1 hv P1⟩
end

/-! ### the operators -/
section
variable {X : Cx} {W : WX} {ea eb ec : Expr} {a b c : AE} {pos : Pos}
theorem rep_int {T : Tb} {M : Mp} {H : Hp} {i : Int} {v : V} (h : Rep T M H (.int i) v) : v = .int i := by rwa [Rep] at h
theorem rep_str {T : Tb} {M : Mp} {H : Hp} {i : List Nat} {v : V} (h : Rep T M H (.str i) v) : v = .str (ts i) := by rwa [Rep] at h
theorem rep_bl {T : Tb} {M : Mp} {H : Hp} {i : Bool} {v : V} (h : Rep T M H (.bl i) v) : v = .bl i := by rwa [Rep] at h
theorem rep_tup {T : Tb} {M : Mp} {H : Hp} {ds : List D} {v : V} (h : Rep T M H (.tup ds) v) : ∃ a vs, v = .ref a ∧ FT T.K M H a vs ∧ Reps T M H ds vs := by rwa [Rep] at h
theorem mk_int {T : Tb} {M : Mp} {H : Hp} {i : Int} : Rep T M H (.int i) (.int i) := by rw [Rep]
theorem mk_bl {T : Tb} {M : Mp} {H : Hp} {i : Bool} : Rep T M H (.bl i) (.bl i) := by rw [Rep]
theorem mk_str {T : Tb} {M : Mp} {H : Hp} {i : List Nat} : Rep T M H (.str i) (.str (ts i)) := by rw [Rep]
theorem mk_non {T : Tb} {M : Mp} {H : Hp} : Rep T M H .non .non := by rw [Rep]
theorem ts_len (x : List Nat) : (ts x).length = x.length := by simp [ts, Str.length]
theorem ts_app (x y : List Nat) : ts x ++ ts y = ts (x ++ y) := by
  show Str.mk _ = Str.mk _
  simp [ts]
theorem ts_inj {x y : List Nat} (h : ts x = ts y) : x = y := by
  have := congrArg (fun z : Str => z.cps.toList) h
  simpa [ts] using this
theorem ts_dec (x y : List Nat) : decide (V.str (ts x) = V.str (ts y)) = decide (D.str x = D.str y) := by
  by_cases h : x = y
  · subst h; simp
  · rw [decide_eq_false, decide_eq_false]
    · intro e; exact h (D.str.inj e)
    · intro e; exact h (ts_inj (V.str.inj e))

def rAddAll (X : Cx) : R2 := fun x y H Q => (∃ i j, x = .int i ∧ y = .int j ∧ Q (.int (i + j)) H) ∨ (∃ i k, x = .int i ∧ y = .bl k ∧ Q (.int (i + b2i k)) H) ∨
  (∃ i j, x = .str i ∧ y = .str j ∧ i.length + j.length ≤ sizeLine ∧ Q (.str (i ++ j)) H) ∨ rCatA X.K x y H Q ∨ rCat x y H Q
theorem op_addAll : OpR X (binaryOp .Add) (rAddAll X) := op_add.or (op_add_ib.or (op_add_str.or (op_catA.or op_cat)))
theorem o2_add {fz : Bool} : Op2 X (rAddAll X) (addD fz) := by
  intro E M ah H dx dy x y Q q rx ry P
  have lists : ∀ {dx}, Rep (tb X) M H dx x → Post (tb X) E M H (fun d M' _ H' => ∀ v, Rep (tb X) M' H' d v → Q v H') (cat fz dx dy ah) → rAddAll X x y H Q := fun {dx} rx P => by
    unfold cat at P
    split at P
    · rename_i xs hx
      split at P
      · rename_i ys hy
        obtain ⟨hz, P⟩ := P.chk
        obtain ⟨a, vs, e1, f1, g1⟩ := rep_lst q rx hx
        obtain ⟨b, us, e2, f2, g2⟩ := rep_lst q ry hy
        refine .inr (.inr (.inr (.inr ⟨a, b, vs, us, e1, e2, f1, f2, ?_, P.mkL q (g1.app g2)⟩)))
        have := of_decide_eq_true hz
        rw [big_eq] at this
        rw [← g1.length, ← g2.length]; exact this
      · exact P.elim
    · exact P.elim
  cases dx with
  | int i =>
    cases dy with
    | int j => exact .inl ⟨i, j, rep_int rx, rep_int ry, P.val q mk_int⟩
    | bl j =>
      refine .inr (.inl ⟨i, j, rep_int rx, rep_bl ry, ?_⟩)
      have := P.val q mk_int
      cases j <;> exact this
    | _ => exact P.elim
  | str i =>
    cases dy with
    | str j =>
      obtain ⟨hz, P⟩ := Post.chk P
      refine .inr (.inr (.inl ⟨ts i, ts j, rep_str rx, rep_str ry, ?_, ?_⟩))
      · have := of_decide_eq_true hz
        rw [ts_len, ts_len, ← big_eq]; exact this
      · rw [ts_app]; exact P.val q mk_str
    | _ => exact P.elim
  | tup ds =>
    cases dy with
    | tup es =>
      obtain ⟨hz, P⟩ := Post.chk P
      obtain ⟨a, vs, e1, f1, g1⟩ := rep_tup rx
      obtain ⟨b, us, e2, f2, g2⟩ := rep_tup ry
      have hz' : vs.length + us.length ≤ sizeLine := by
        have := of_decide_eq_true hz
        rw [big_eq] at this
        rw [← g1.length, ← g2.length]; exact this
      refine .inr (.inr (.inr (.inl ⟨a, b, vs, us, e1, e2, f1.sq, f2.sq, hz', fun e => ?_, fun _ e => ?_, fun _ _ => P.tup q (g1.app g2)⟩)))
      · have hd : ds = [] := List.length_eq_zero_iff.mp (by rw [g1.length, e]; rfl)
        subst hd
        exact P.val q (by rw [List.nil_append, Rep]; exact ⟨b, us, rfl, f2, g2⟩)
      · have hd : es = [] := List.length_eq_zero_iff.mp (by rw [g2.length, e]; rfl)
        subst hd
        exact P.val q (by rw [List.append_nil, Rep]; exact ⟨a, vs, rfl, f1, g1⟩)
    | _ => exact P.elim
  | lst ds => exact lists rx P
  | loc l => exact lists rx P
  | _ => exact lists rx P
theorem s_add {fz : Bool} (ha : SE X W ea a) (hb : SE X W eb b) : SE X W (.BinOp ea .Add eb pos) (e2 (addD fz) a b) := s_bin op_addAll o2_add ha hb
/-- two ints -/
theorem o2_ints {C : Int → Int → Prop} {g : Int → Int → D} {gv : Int → Int → V} {f : D → D → AH → R D}
    (hg : ∀ (T : Tb) M H i j, Rep T M H (g i j) (gv i j))
    (hf : ∀ dx dy ah (E : XK) M H P, Post (tb X) E M H P (f dx dy ah) → ∃ i j, dx = .int i ∧ dy = .int j ∧ C i j ∧ Post (tb X) E M H P (.ok (g i j) ah)) : Op2 X (rI C gv) f := by
  intro E M ah H dx dy x y Q q rx ry P
  obtain ⟨i, j, rfl, rfl, hc, P⟩ := hf _ _ _ _ _ _ _ P
  exact ⟨i, j, rep_int rx, rep_int ry, hc, P.val q (hg _ _ _ _ _)⟩
theorem ints_of {C : Int → Int → Prop} {g : Int → Int → D} {k : Int → Int → Bool} (hk : ∀ i j, k i j = true → C i j) {f : D → D → AH → R D}
    (h1 : ∀ i j ah, f (.int i) (.int j) ah = R.chk (k i j) (.ok (g i j) ah)) (h2 : ∀ dx dy ah, (∀ i j, dx = .int i → dy = .int j → False) → f dx dy ah = .no) (dx dy : D) (ah : AH) (E : XK) (M : Mp) (H : Hp) (P : D → Mp → AH → Hp → Prop)
    (h : Post (tb X) E M H P (f dx dy ah)) : ∃ i j, dx = .int i ∧ dy = .int j ∧ C i j ∧ Post (tb X) E M H P (.ok (g i j) ah) := by
  by_cases z : ∃ i j, dx = .int i ∧ dy = .int j
  · obtain ⟨i, j, rfl, rfl⟩ := z
    rw [h1] at h
    obtain ⟨hc, h⟩ := h.chk
    exact ⟨i, j, rfl, rfl, hk i j hc, h⟩
  · rw [h2 dx dy ah fun i j e1 e2 => z ⟨i, j, e1, e2⟩] at h
    exact h.elim
theorem no_ints {f : D → D → AH → R D} (h1 : ∀ dx dy ah, (∀ i, dx ≠ .int i) → f dx dy ah = .no) (h2 : ∀ i dy ah, (∀ j, dy ≠ .int j) → f (.int i) dy ah = .no) (dx dy : D) (ah : AH) (h : ∀ i j, dx = .int i → dy = .int j → False) : f dx dy ah = .no := by
  by_cases z : ∃ i, dx = .int i
  · obtain ⟨i, rfl⟩ := z
    exact h2 i dy ah fun j e => h i j rfl e
  · exact h1 dx dy ah fun i e => z ⟨i, e⟩
theorem rI0_rI {g : Int → Int → V} {f : Value → Value → Sem Value} (h : OpR X f (rI0 g)) : OpR X f (rI (fun _ _ => True) g) := fun pins s σ H x y v u Q I rx ry ⟨i, j, e1, e2, _, q⟩ => h pins s σ H x y v u Q I rx ry ⟨i, j, e1, e2, q⟩
theorem s_sub (ha : SE X W ea a) (hb : SE X W eb b) : SE X W (.BinOp ea .Sub eb pos) (e2 subD a b) :=
  s_bin (rI0_rI op_sub) (o2_ints (g := fun i j => .int (i - j)) (fun _ _ _ _ _ => mk_int) (ints_of (k := fun _ _ => true) (fun _ _ _ => True.intro) (fun _ _ _ => rfl) (no_ints (fun dx _ _ h => by cases dx <;> first | rfl | exact absurd rfl (h _)) (fun i dy _ h => by cases dy <;> first | rfl | exact absurd rfl (h _))))) ha hb
theorem s_fdiv (ha : SE X W ea a) (hb : SE X W eb b) : SE X W (.BinOp ea .FloorDiv eb pos) (e2 fdivD a b) :=
  s_bin op_fdiv (o2_ints (C := CDiv) (g := fun i j => .int (i / j)) (fun _ _ _ _ _ => mk_int) (ints_of (k := fun i j => decide (0 < j ∧ j < 1073741824)) (fun _ _ h => of_decide_eq_true h) (fun _ _ _ => rfl) (no_ints (fun dx _ _ h => by cases dx <;> first | rfl | exact absurd rfl (h _)) (fun i dy _ h => by cases dy <;> first | rfl | exact absurd rfl (h _))))) ha hb
theorem s_mod (ha : SE X W ea a) (hb : SE X W eb b) : SE X W (.BinOp ea .Mod eb pos) (e2 modD a b) :=
  s_bin op_mod (o2_ints (g := fun i j => .int (i % j)) (fun _ _ _ _ _ => mk_int) (ints_of (fun _ _ h => of_decide_eq_true h) (fun _ _ _ => rfl) (no_ints (fun dx _ _ h => by cases dx <;> first | rfl | exact absurd rfl (h _)) (fun i dy _ h => by cases dy <;> first | rfl | exact absurd rfl (h _))))) ha hb
theorem s_pow (ha : SE X W ea a) (hb : SE X W eb b) : SE X W (.BinOp ea .Pow eb pos) (e2 powD a b) :=
  s_bin op_pow (o2_ints (g := fun i j => .int (i ^ j.toNat)) (fun _ _ _ _ _ => mk_int) (ints_of (k := fun i j => decide (0 ≤ j ∧ j ≤ 1000000 ∧ i.natAbs < 2 ^ 64)) (fun _ _ h => of_decide_eq_true h) (fun _ _ _ => rfl) (no_ints (fun dx _ _ h => by cases dx <;> first | rfl | exact absurd rfl (h _)) (fun i dy _ h => by cases dy <;> first | rfl | exact absurd rfl (h _))))) ha hb
theorem s_neg (ha : SE X W ea a) : SE X W (.UnaryOp .USub ea pos) (e1 negD a) := s_un un_neg (fun E M ah H dx x Q q rx P => by
  cases dx with
  | int i => exact ⟨i, rep_int rx, P.val q mk_int⟩
  | _ => exact P.elim) ha
/-- t * 1 is t -/
theorem tuple_mul1 (l : Addr) (items : Array Value) (n : Nat) (dd : Option Addr) (sl : Array (Option Value)) (u : Tok) :
    Meets (Builtin.«tuple.__mul__» ⟨[.ref l, .int 1 u], []⟩) (fun _ R s => s.heap.get? l = some { cls := .type "tuple", dict := dd, data := .seq items n, slots := sl } ∧ R (.ok (.ret (Value.ref l))) s) :=
  .of_wp fun prog w A R s h => by
    obtain ⟨hp, g, d, tk, os⟩ := s
    obtain ⟨hl, h⟩ := h
    have f1 := AutoSeq1.idx_int
    have c0 : (decide ((1 : Int) < -(2 ^ 63)) || decide ((1 : Int) ≥ 2 ^ 63)) = false := by decide
    have c1 : (items.isEmpty || ((1 : Int) == 1)) = true := by simp
    wp_walk using PySem.AutoSeq1.wpAny_loadPart' hl
    repeat (first
      | (refine wpAny_ite_false (decide_eq_false (by rw [c0]; exact Bool.false_ne_true)) ?_; wp_walk using PySem.AutoSeq1.wpAny_loadPart' hl)
      | (refine wpAny_ite_true (decide_eq_true (by rw [c1])) ?_; wp_walk using PySem.AutoSeq1.wpAny_loadPart' hl))
    exact ⟨_, rfl, h⟩
def rRepT1 (K : PySem.W.Frag) : R2 := fun x y H Q => ∃ l xs, x = .ref l ∧ y = .int 1 ∧ SqT K H l xs ∧ Q (.ref l) H
theorem op_repT1 : OpR X (binaryOp .Mult) (rRepT1 X.K) := by
  intro pins s σ H x y v u Q I rx ry h
  obtain ⟨l, xs, rfl, rfl, hT, q⟩ := h
  cases rx
  obtain ⟨t, rfl⟩ := ry
  obtain ⟨its, r, ⟨⟨cls, dd, data, sl⟩, ho, hc, n, hd⟩, hs⟩ := I.tuple hT
  simp only at hc hd
  subst hc hd
  exact wpAny_binaryOp_repeat_ref (T := "tuple") (U := "int") (by decide) ⟨_, ho, rfl⟩ (fun s' => typeIs_int s' 1 t) noFill_tuple_mul F.fills_int_mul F.slot_int_rmul repeat_tuple F.slot_int_index.lookup
    (call_meets F.slot_int_rmul (typeIs_int s 1 t) F.entry_int_rmul (F.args_int_rmul_2 _ _) (int_rmul_tuple 1 t l its.toArray n dd sl)
      ⟨ho, rfl, ⟨_, ho, rfl⟩, call_meets F.slot_tuple_mul ⟨_, ho, rfl⟩ F.entry_tuple_mul (F.args_tuple_mul_2 _ _) (tuple_mul1 l its.toArray n dd sl t) ⟨ho, .ref l, H, I, rfl, q⟩⟩)
/-- a product -/
def rMulAll (X : Cx) : R2 := fun x y H Q => rI CMul (fun i j => .int (i * j)) x y H Q ∨ rRep x y H Q ∨ rRepT X.K x y H Q ∨ rRepT1 X.K x y H Q
theorem op_mulAll : OpR X (binaryOp .Mult) (rMulAll X) := op_mul.or (op_rep.or (op_repT.or op_repT1))
theorem o2_mul {fz : Bool} : Op2 X (rMulAll X) (mulD fz) := by
  intro E M ah H dx dy x y Q q rx ry P
  cases dy with
  | int j =>
    have lists : ∀ {dx}, Rep (tb X) M H dx x → Post (tb X) E M H (fun d M' _ H' => ∀ v, Rep (tb X) M' H' d v → Q v H') (match lstH ah dx with
      | some xs => R.chk (decide (-(2 ^ 63) ≤ j ∧ j < 2 ^ 63 ∧ xs.length * j.toNat ≤ big)) (mkL fz (List.replicate j.toNat xs).flatten ah)
      | none => .no) → rMulAll X x y H Q := fun {dx} rx P => by
      split at P
      · rename_i xs hx
        obtain ⟨hz, P⟩ := P.chk
        obtain ⟨h1, h2, h3⟩ := of_decide_eq_true hz
        obtain ⟨a, vs, e1, f1, g1⟩ := rep_lst q rx hx
        exact .inr (.inl ⟨a, j, vs, e1, rep_int ry, f1, h1, h2, by rw [← g1.length, ← big_eq]; exact h3, P.mkL q (g1.rep _)⟩)
      · exact P.elim
    cases dx with
    | int i =>
      obtain ⟨hz, P⟩ := Post.chk P
      refine .inl ⟨i, j, rep_int rx, rep_int ry, ?_, P.val q mk_int⟩
      rcases Bool.or_eq_true_iff.mp hz with h | h
      · exact .inl ((small_iff _).mp h)
      · exact .inr ((small_iff _).mp h)
    | tup ds =>
      obtain ⟨hz, P⟩ := Post.chk P
      obtain ⟨h0, h1, h2, h3⟩ := of_decide_eq_true hz
      obtain ⟨a, vs, e1, f1, g1⟩ := rep_tup rx
      by_cases hj : j = 1
      · subst hj
        refine .inr (.inr (.inr ⟨a, vs, e1, rep_int ry, f1.sq, P.val q ?_⟩))
        rw [Rep]
        exact ⟨a, vs, rfl, f1, by simpa using g1⟩
      · by_cases hd : ds.length = 0
        · exact absurd hd (by omega)
        · refine .inr (.inr (.inl ⟨a, j, vs, e1, rep_int ry, f1.sq, fun e => hd (by rw [g1.length, e]; rfl), by omega, by omega, by rw [← g1.length]; omega, P.tup q (g1.rep _)⟩))
    | _ => exact lists rx P
  | _ => exact P.elim
theorem s_mul {fz : Bool} (ha : SE X W ea a) (hb : SE X W eb b) : SE X W (.BinOp ea .Mult eb pos) (e2 (mulD fz) a b) := s_bin op_mulAll o2_mul ha hb
end
end Sm
end

section
set_option Elab.async false
set_option linter.all false
set_option maxRecDepth 100000
set_option maxHeartbeats 1000000
namespace Sm
open PySem PySem.Spec PyProof.Rows L2

/-! ### comparisons -/
section
variable {X : Cx} {W : WX} {ea eb ec : Expr} {a b c : AE} {pos : Pos}
theorem o2_cmpI {p : Int → Int → Bool} : Op2 X (rI0 fun i j => .bl (p i j)) (cmpI p) := by
  intro E M ah H dx dy x y Q q rx ry P
  cases dx with
  | int i =>
    cases dy with
    | int j => exact ⟨i, j, rep_int rx, rep_int ry, P.val q mk_bl⟩
    | _ => exact P.elim
  | _ => exact P.elim
theorem s_le (ha : SE X W ea a) (hb : SE X W eb b) : SE X W (.Compare ea [.LtE] [eb] pos) (e2 leD a b) := s_cmp op_le o2_cmpI ha hb (nomark _)
theorem s_gt (ha : SE X W ea a) (hb : SE X W eb b) : SE X W (.Compare ea [.Gt] [eb] pos) (e2 gtD a b) := s_cmp op_gt o2_cmpI ha hb (nomark _)
theorem s_ge (ha : SE X W ea a) (hb : SE X W eb b) : SE X W (.Compare ea [.GtE] [eb] pos) (e2 geD a b) := s_cmp op_ge o2_cmpI ha hb (nomark _)
theorem lex_eq : ∀ ns ms : List Int, HT.lexLt ns ms = lexLt ns ms
  | [], [] => rfl
  | [], _ :: _ => rfl
  | _ :: _, [] => rfl
  | x :: xs, y :: ys => by rw [HT.lexLt_cons, lexLt, lex_eq xs ys]
def rLtAll (X : Cx) : R2 := fun x y H Q => rI0 (fun i j => .bl (decide (i < j))) x y H Q ∨ rLtT X.K x y H Q
theorem o2_lt : Op2 X (rLtAll X) ltD := by
  intro E M ah H dx dy x y Q q rx ry P
  cases dx with
  | int i =>
    cases dy with
    | int j => exact .inl ⟨i, j, rep_int rx, rep_int ry, P.val q mk_bl⟩
    | _ => exact P.elim
  | tup xs =>
    cases dy with
    | tup ys =>
      unfold ltD at P
      dsimp only at P
      split at P
      · rename_i ns h1
        split at P
        · rename_i ms h2
          obtain ⟨l, vs, e1, f1, g1⟩ := rep_tup rx
          obtain ⟨l2, us, e2, f2, g2⟩ := rep_tup ry
          obtain ⟨_, z1⟩ := g1.ints h1
          obtain ⟨_, z2⟩ := g2.ints h2
          subst z1 z2
          exact .inr ⟨l, l2, ns, ms, e1, e2, f1.sq, f2.sq, by rw [lex_eq]; exact P.val q mk_bl⟩
        · exact P.elim
      · exact P.elim
    | _ => exact P.elim
  | _ => exact P.elim
theorem s_lt (hu : X.A.units < cLine) (ha : SE X W ea a) (hb : SE X W eb b) : SE X W (.Compare ea [.Lt] [eb] pos) (e2 ltD a b) := s_cmp (op_lt.or (op_ltT hu)) o2_lt ha hb (nomark _)

/-! == of plain data -/
mutual
def pdP : D → PyData
  | .non => .none
  | .bl b => .bool b
  | .int i => .int i
  | .str x => .str (ts x)
  | .tup xs => .tuple (pdPs xs)
  | .lst xs => .list (pdPs xs)
  | _ => .none
def pdPs : List D → List PyData
  | [] => []
  | x :: xs => pdP x :: pdPs xs
end
theorem mapO_nil {α β : Type} (f : α → Option β) : mapO f [] = some [] := rfl
theorem mapO_cons {α β : Type} {f : α → Option β} {x : α} {xs : List α} {ys : List β} (h : mapO f (x :: xs) = some ys) : ∃ z zs, f x = some z ∧ mapO f xs = some zs ∧ ys = z :: zs := by
  rw [mapO] at h
  split at h
  · rename_i z hz
    obtain ⟨zs, h1, h2⟩ := Option.map_eq_some_iff.mp h
    exact ⟨z, zs, hz, h1, h2.symm⟩
  · cases h
section
variable {T : Tb} {M : Mp} {ah : AH} {H : Hp}
/-- what a datum looks like to == -/
def PdOk (n : Nat) (K : PySem.W.Frag) (H : Hp) (v : V) (d : D) : Prop := Dp K H v (pdP d) ∧ (pdP d).canLay0 = true ∧ (pdP d).depth ≤ n
theorem pds_ok {n : Nat} (ih : ∀ {x : D} {v : V} {d : D}, Rep T M H x v → pd ah n x = some d → PdOk n T.K H v d) : ∀ {xs : List D} {vs : List V} {ds : List D}, Reps T M H xs vs → mapO (pd ah n) xs = some ds →
    DpAll T.K H vs (pdPs ds) ∧ PyData.canLayAll0 (pdPs ds) = true ∧ PyData.depthAll (pdPs ds) ≤ n
  | [], vs, ds, r, h => by
    rw [Reps] at r
    subst r
    cases h
    exact ⟨.nil, rfl, Nat.zero_le _⟩
  | x :: xs, vs, ds, r, h => by
    rw [Reps] at r
    obtain ⟨y, ys, rfl, f, g⟩ := r
    obtain ⟨z, zs, h1, h2, rfl⟩ := mapO_cons h
    obtain ⟨a1, a2, a3⟩ := ih f h1
    obtain ⟨b1, b2, b3⟩ := pds_ok ih g h2
    refine ⟨?_, ?_, ?_⟩
    · rw [pdPs]; exact .cons a1 b1
    · rw [pdPs, PyData.canLayAll0, a2, b2]; rfl
    · rw [pdPs, PyData.depthAll]; exact Nat.max_le.mpr ⟨a3, b3⟩
theorem pd0_ok (n : Nat) {x : D} {v : V} {d : D} (r : Rep T M H x v) (h : pd0 x = some d) : PdOk n T.K H v d := by
  cases x with
  | non => cases h; rw [Rep] at r; subst r; exact ⟨by rw [pdP]; exact .non, by rw [pdP]; rfl, by rw [pdP]; exact Nat.zero_le _⟩
  | bl b => cases h; rw [Rep] at r; subst r; exact ⟨by rw [pdP]; exact .bl b, by rw [pdP]; rfl, by rw [pdP]; exact Nat.zero_le _⟩
  | int b => cases h; rw [Rep] at r; subst r; exact ⟨by rw [pdP]; exact .int b, by rw [pdP]; rfl, by rw [pdP]; exact Nat.zero_le _⟩
  | str b =>
    rw [Rep] at r; subst r
    have h' : (if b.all (fun c => decide (c < 1114112)) then some (D.str b) else none) = some d := h
    split at h'
    · rename_i hs
      cases h'
      refine ⟨by rw [pdP]; exact .str _, ?_, by rw [pdP]; exact Nat.zero_le _⟩
      rw [pdP, PyData.canLay0]
      unfold PyData.strOk ts
      simpa using hs
    · cases h'
  | _ => cases h
theorem pd_ok (q : RelH T M ah H) : ∀ (n : Nat) {x : D} {v : V} {d : D}, Rep T M H x v → pd ah n x = some d → PdOk n T.K H v d := by
  intro n
  induction n with
  | zero => exact fun r h => pd0_ok 0 r h
  | succ n ih =>
    intro x v d r h
    have lists : ∀ {xs : List D} {ds : List D}, mapO (pd ah n) xs = some ds → (∀ {a vs}, H a = some (.lst vs) → Reps T M H xs vs → PdOk (n + 1) T.K H (.ref a) (.lst ds)) := fun {xs ds} h2 {a vs} e g => by
      obtain ⟨b1, b2, b3⟩ := pds_ok ih g h2
      refine ⟨by rw [pdP]; exact .lst (SqL.of e) b1, by rw [pdP, PyData.canLay0]; exact b2, ?_⟩
      rw [pdP, PyData.depth]
      exact Nat.succ_le_succ b3
    cases x with
    | tup xs =>
      obtain ⟨ds, h1, h2⟩ := Option.map_eq_some_iff.mp h
      subst h2
      obtain ⟨a, vs, rfl, f, g⟩ := rep_tup r
      obtain ⟨b1, b2, b3⟩ := pds_ok ih g h1
      refine ⟨by rw [pdP]; exact .tup f.sq b1, by rw [pdP, PyData.canLay0]; exact b2, ?_⟩
      rw [pdP, PyData.depth]
      exact Nat.succ_le_succ b3
    | lst xs =>
      obtain ⟨ds, h1, h2⟩ := Option.map_eq_some_iff.mp h
      subst h2
      obtain ⟨a, vs, rfl, f, g⟩ := rep_lst q r rfl
      exact lists h1 f g
    | loc l =>
      have h' : (match ah[l]? with
        | some (.lst xs) => (mapO (pd ah n) xs).map D.lst
        | _ => none) = some d := h
      split at h'
      · rename_i xs hl
        obtain ⟨ds, h1, h2⟩ := Option.map_eq_some_iff.mp h'
        subst h2
        obtain ⟨a, vs, rfl, f, g⟩ := rep_lst (x := .loc l) (ds := xs) q r (by rw [lstH, hl])
        exact lists h1 f g
      · cases h'
    | _ => exact pd0_ok _ r h
/-- what pd hands out: nothing but data -/
inductive Pl : D → Prop where
  | non : Pl .non
  | bl b : Pl (.bl b)
  | int i : Pl (.int i)
  | str x : Pl (.str x)
  | tup {xs : List D} (h : ∀ x ∈ xs, Pl x) : Pl (.tup xs)
  | lst {xs : List D} (h : ∀ x ∈ xs, Pl x) : Pl (.lst xs)
theorem pl_mapO {n : Nat} (ih : ∀ {x d : D}, pd ah n x = some d → Pl d) : ∀ {xs ds : List D}, mapO (pd ah n) xs = some ds → ∀ d ∈ ds, Pl d
  | [], ds, h, d, hd => by cases h; simp at hd
  | x :: xs, ds, h, d, hd => by
    obtain ⟨z, zs, h1, h2, rfl⟩ := mapO_cons h
    rcases List.mem_cons.mp hd with rfl | hd
    · exact ih h1
    · exact pl_mapO ih h2 d hd
theorem pl_pd0 {x d : D} (h : pd0 x = some d) : Pl d := by
  cases x with
  | non => cases h; exact .non
  | bl b => cases h; exact .bl b
  | int b => cases h; exact .int b
  | str b =>
    have h' : (if b.all (fun c => decide (c < 1114112)) then some (D.str b) else none) = some d := h
    split at h'
    · cases h'; exact .str b
    · cases h'
  | _ => cases h
theorem pl_pd : ∀ (n : Nat) {x d : D}, pd ah n x = some d → Pl d := by
  intro n
  induction n with
  | zero => exact fun h => pl_pd0 h
  | succ n ih =>
    intro x d h
    cases x with
    | tup xs =>
      obtain ⟨ds, h1, h2⟩ := Option.map_eq_some_iff.mp h
      subst h2
      exact .tup (pl_mapO ih h1)
    | lst xs =>
      obtain ⟨ds, h1, h2⟩ := Option.map_eq_some_iff.mp h
      subst h2
      exact .lst (pl_mapO ih h1)
    | loc l =>
      have h' : (match ah[l]? with
        | some (.lst xs) => (mapO (pd ah n) xs).map D.lst
        | _ => none) = some d := h
      split at h'
      · obtain ⟨ds, h1, h2⟩ := Option.map_eq_some_iff.mp h'
        subst h2
        exact .lst (pl_mapO ih h1)
      · cases h'
    | non => exact pl_pd0 (x := .non) h
    | bl b => exact pl_pd0 (x := .bl b) h
    | int b => exact pl_pd0 (x := .int b) h
    | str b => exact pl_pd0 (x := .str b) h
    | scr b => cases h
    | dic _ _ => cases h
    | ins _ _ _ => cases h
    | ty _ => cases h
end
mutual
theorem ev_eq : ∀ x y : D, Pl x → Pl y → ev x y = PyData.eqv (pdP x) (pdP y)
  | .non, y, hx, hy => by cases hy <;> simp [ev, pdP, PyData.eqv]
  | .bl b, y, hx, hy => by cases hy <;> simp [ev, pdP, PyData.eqv]
  | .int b, y, hx, hy => by cases hy <;> simp [ev, pdP, PyData.eqv]
  | .str b, y, hx, hy => by
    cases hy with
    | str z =>
      rw [ev, pdP, pdP, PyData.eqv, Bool.eq_iff_iff]
      simp only [beq_iff_eq]
      exact ⟨fun h => by rw [h], ts_inj⟩
    | _ => simp [ev, pdP, PyData.eqv]
  | .tup xs, y, hx, hy => by
    cases hy with
    | @tup ys h =>
      rw [ev, pdP, pdP, PyData.eqv]
      cases hx with
      | tup h2 => exact evs_eq xs ys h2 h
    | _ => simp [ev, pdP, PyData.eqv]
  | .lst xs, y, hx, hy => by
    cases hy with
    | @lst ys h =>
      rw [ev, pdP, pdP, PyData.eqv]
      cases hx with
      | lst h2 => exact evs_eq xs ys h2 h
    | _ => simp [ev, pdP, PyData.eqv]
  | .scr _, _, hx, _ => nomatch hx
  | .dic _ _, _, hx, _ => nomatch hx
  | .ins _ _ _, _, hx, _ => nomatch hx
  | .loc _, _, hx, _ => nomatch hx
  | .ty _, _, hx, _ => nomatch hx
theorem evs_eq : ∀ xs ys : List D, (∀ x ∈ xs, Pl x) → (∀ y ∈ ys, Pl y) → evs xs ys = PyData.eqvAll (pdPs xs) (pdPs ys)
  | [], [], _, _ => by rw [evs, pdPs, PyData.eqvAll]
  | [], y :: ys, _, _ => by rw [evs, pdPs, pdPs, PyData.eqvAll] <;> simp
  | x :: xs, [], _, _ => by rw [evs, pdPs, pdPs, PyData.eqvAll] <;> simp
  | x :: xs, y :: ys, h1, h2 => by
    rw [evs, pdPs, pdPs, PyData.eqvAll, ev_eq x y (h1 x (by simp)) (h2 y (by simp)), evs_eq xs ys (fun z hz => h1 z (by simp [hz])) (fun z hz => h2 z (by simp [hz]))]
end
end
end Sm
end

section
set_option Elab.async false
set_option linter.all false
set_option maxRecDepth 100000
set_option maxHeartbeats 1000000
namespace Sm
open PySem PySem.Spec PyProof.Rows L2
section
variable {X : Cx} {W : WX} {ea eb ec : Expr} {a b c : AE} {pos : Pos}
/-! ### ==, is None, in -/
def rEqAll (X : Cx) : R2 := fun x y H Q => rEq x y H Q ∨ rEqD X.K x y H Q
def rNeAll (X : Cx) : R2 := fun x y H Q => rNe x y H Q ∨ rNeD X.K x y H Q
theorem eqH_ok {M : Mp} {ah : AH} {H : Hp} {dx dy : D} {x y : V} {k : Bool} (q : RelH (tb X) M ah H) (rx : Rep (tb X) M H dx x) (ry : Rep (tb X) M H dy y) (h : eqH ah dx dy = some k) :
    (L2.scal x y = true ∧ decide (x = y) = k) ∨ ∃ d e, Dp X.K H x d ∧ Dp X.K H y e ∧ SeqAt.shaped d = true ∧ SeqAt.shaped e = true ∧ PyData.eqv d e = k := by
  unfold eqH at h
  split at h
  · rename_i hs
    left
    have hk := Option.some.inj h
    cases dx <;> cases dy <;> first
      | (exact absurd hs Bool.false_ne_true)
      | (simp only [Rep] at rx ry; subst rx ry; refine ⟨rfl, ?_⟩; rw [← hk]; first | rfl | exact ts_dec _ _ | simp)
  · split at h
    · rename_i a1 h1
      split at h
      · rename_i b1 h2
        right
        obtain ⟨p1, p2, p3⟩ := pd_ok q 64 rx h1
        obtain ⟨p4, p5, p6⟩ := pd_ok q 64 ry h2
        refine ⟨_, _, p1, p4, ?_, ?_, ?_⟩
        · unfold SeqAt.shaped; rw [p2, decide_eq_true p3]; rfl
        · unfold SeqAt.shaped; rw [p5, decide_eq_true p6]; rfl
        · rw [← ev_eq _ _ (pl_pd 64 h1) (pl_pd 64 h2)]; exact Option.some.inj h
      · cases h
    · cases h
theorem o2_eq : Op2 X (rEqAll X) eqD := by
  intro E M ah H dx dy x y Q q rx ry P
  obtain ⟨k, h, P⟩ := (Post.bind P).of
  have P := P.here q
  rcases eqH_ok q rx ry h with ⟨h1, h2⟩ | ⟨d, e, h1, h2, h3, h4, h5⟩
  · exact .inl ⟨h1, by rw [h2]; exact P.val q mk_bl⟩
  · exact .inr ⟨d, e, h1, h2, h3, h4, by rw [h5]; exact P.val q mk_bl⟩
theorem o2_ne : Op2 X (rNeAll X) neD := by
  intro E M ah H dx dy x y Q q rx ry P
  obtain ⟨k, h, P⟩ := (Post.bind P).of
  have P := P.here q
  rcases eqH_ok q rx ry h with ⟨h1, h2⟩ | ⟨d, e, h1, h2, h3, h4, h5⟩
  · exact .inl ⟨h1, by rw [h2]; exact P.val q mk_bl⟩
  · exact .inr ⟨d, e, h1, h2, h3, h4, by rw [h5]; exact P.val q mk_bl⟩
theorem s_eq (hu : X.A.units + 64 < cLine) (ha : SE X W ea a) (hb : SE X W eb b) : SE X W (.Compare ea [.Eq] [eb] pos) (e2 eqD a b) := s_cmp (op_eq.or (op_eqD hu)) o2_eq ha hb (nomark _)
theorem s_ne (hu : X.A.units + 64 < cLine) (ha : SE X W ea a) (hb : SE X W eb b) : SE X W (.Compare ea [.NotEq] [eb] pos) (e2 neD a b) := s_cmp (op_ne.or (op_neD hu)) o2_ne ha hb (nomark _)
theorem rep_non_iff {T : Tb} {M : Mp} {H : Hp} {d : D} {v : V} (r : Rep T M H d v) : decide (v = .non) = decide (d = .non) := by
  cases d with
  | non => rw [Rep] at r; subst r; rfl
  | bl _ => rw [Rep] at r; subst r; rfl
  | int _ => rw [Rep] at r; subst r; rfl
  | str _ => rw [Rep] at r; subst r; rfl
  | ty _ => rw [Rep] at r; subst r; rfl
  | tup _ => rw [Rep] at r; obtain ⟨a, vs, rfl, _⟩ := r; rfl
  | lst _ => rw [Rep] at r; obtain ⟨a, vs, rfl, _⟩ := r; rfl
  | scr _ => rw [Rep] at r; obtain ⟨a, vs, rfl, _⟩ := r; rfl
  | dic _ _ => rw [Rep] at r; obtain ⟨a, vs, rfl, _⟩ := r; rfl
  | ins _ _ _ => rw [Rep] at r; obtain ⟨a, C, dx, vs, rfl, _⟩ := r; rfl
  | loc _ => rw [Rep] at r; obtain ⟨a, rfl, _⟩ := r; rfl
theorem s_isN {j p2} (ha : SE X W ea a) : SE X W (.Compare ea [.Is] [.Constant .none j p2] pos) (e1 isNonD a) :=
  PE.imp (pe_cmpR op_isN ha pe_non (nomark _)) fun σ H Q h => by
    obtain ⟨M, e, ah, S, P⟩ := h
    exact ⟨M, e, ah, S, P.bindI fun dx M1 ah1 H1 s1 q1 P1 v hv => ⟨rfl, by rw [rep_non_iff hv]; exact Post.val P1 q1 mk_bl⟩⟩
theorem s_notN {j p2} (ha : SE X W ea a) : SE X W (.Compare ea [.IsNot] [.Constant .none j p2] pos) (e1 notNonD a) :=
  PE.imp (pe_cmpR op_notN ha pe_non (nomark _)) fun σ H Q h => by
    obtain ⟨M, e, ah, S, P⟩ := h
    exact ⟨M, e, ah, S, P.bindI fun dx M1 ah1 H1 s1 q1 P1 v hv => ⟨rfl, by rw [rep_non_iff hv]; exact Post.val P1 q1 mk_bl⟩⟩
/-! in: flat items -/
theorem flat_rep {T : Tb} {M : Mp} {H : Hp} {d : D} {v : V} (r : Rep T M H d v) (f : flat d = true) : flatV v = true := by
  cases d <;> first
    | (exact absurd f Bool.false_ne_true)
    | (simp only [Rep] at r; subst r; rfl)
theorem ev_flat {T : Tb} {M : Mp} {H : Hp} {d e : D} {v u : V} (r : Rep T M H d v) (s : Rep T M H e u) (f : flat d = true) (g : flat e = true) : eqV v u = ev d e := by
  cases d <;> cases e <;> first
    | (exact absurd f Bool.false_ne_true)
    | (exact absurd g Bool.false_ne_true)
    | (simp only [Rep] at r s; subst r s; first | (simp [eqV, ev]; done) | (rw [ev]; show (ts _ == ts _) = _; rw [Bool.eq_iff_iff]; simp only [beq_iff_eq]; exact ⟨ts_inj, fun h => by rw [h]⟩))
theorem flats_rep {T : Tb} {M : Mp} {H : Hp} : ∀ {ds : List D} {vs : List V}, Reps T M H ds vs → ds.all flat = true → vs.all flatV = true
  | [], vs, r, _ => by rw [Reps] at r; subst r; rfl
  | d :: ds, vs, r, f => by
    rw [Reps] at r
    obtain ⟨y, ys, rfl, g, k⟩ := r
    rw [List.all_cons, Bool.and_eq_true] at f ⊢
    exact ⟨flat_rep g f.1, flats_rep k f.2⟩
theorem inV_rep {T : Tb} {M : Mp} {H : Hp} {d : D} {v : V} (r : Rep T M H d v) (f : flat d = true) : ∀ {ds : List D} {vs : List V}, Reps T M H ds vs → ds.all flat = true → inV v vs = inL d ds
  | [], vs, r, _ => by rw [Reps] at r; subst r; rfl
  | e :: ds, vs, h, g => by
    rw [Reps] at h
    obtain ⟨y, ys, rfl, g1, k⟩ := h
    rw [List.all_cons, Bool.and_eq_true] at g
    show (eqV y v || inV v ys) = (ev e d || inL d ds)
    rw [ev_flat g1 r g.1 f, inV_rep r f k g.2]
theorem inH_ok {M : Mp} {ah : AH} {H : Hp} {dx dy : D} {x y : V} {k : Bool} (q : RelH (tb X) M ah H) (rx : Rep (tb X) M H dx x) (ry : Rep (tb X) M H dy y) (h : inH ah dx dy = some k) :
    ∃ p xs, y = .ref p ∧ (SqL X.K H p xs ∨ SqT X.K H p xs) ∧ flatV x = true ∧ xs.all flatV = true ∧ inV x xs = k := by
  unfold inH at h
  split at h
  · rename_i ys hy
    split at h
    · rename_i hf
      rw [Bool.and_eq_true] at hf
      obtain ⟨a, vs, e, f, g⟩ := rep_seq q ry hy
      exact ⟨a, vs, e, f, flat_rep rx hf.1, flats_rep g hf.2, by rw [inV_rep rx hf.1 g hf.2]; exact Option.some.inj h⟩
    · cases h
  · cases h
theorem o2_in : Op2 X (rIn X.K false) inD := by
  intro E M ah H dx dy x y Q q rx ry P
  obtain ⟨k, h, P⟩ := (Post.bind P).of
  have P := P.here q
  obtain ⟨p, xs, h1, h2, h3, h4, h5⟩ := inH_ok q rx ry h
  exact ⟨p, xs, h1, h2, h3, h4, by rw [if_neg (by decide), h5]; exact P.val q mk_bl⟩
theorem o2_notIn : Op2 X (rIn X.K true) notInD := by
  intro E M ah H dx dy x y Q q rx ry P
  obtain ⟨k, h, P⟩ := (Post.bind P).of
  have P := P.here q
  obtain ⟨p, xs, h1, h2, h3, h4, h5⟩ := inH_ok q rx ry h
  exact ⟨p, xs, h1, h2, h3, h4, by rw [if_pos rfl, h5]; exact P.val q mk_bl⟩
theorem s_in (ha : SE X W ea a) (hb : SE X W eb b) (hm : behindInMarks .In eb = false := by rfl) : SE X W (.Compare ea [.In] [eb] pos) (e2 inD a b) := s_cmp op_in_seq o2_in ha hb hm
theorem s_notIn (ha : SE X W ea a) (hb : SE X W eb b) (hm : behindInMarks .NotIn eb = false := by rfl) : SE X W (.Compare ea [.NotIn] [eb] pos) (e2 notInD a b) := s_cmp op_notIn_seq o2_notIn ha hb hm
/-! ### chains, and, or, not, if -/
theorem s_chain {op op' : CmpOp} {r r' : R2} {f g : D → D → AH → R D} (ho : OpR X (compareOp op) r) (hf : Op2 X r f) (ho' : OpR X (compareOp op') r') (hg : Op2 X r' g) (ha : SE X W ea a) (hb : SE X W eb b) (hc : SE X W ec c)
    (h1 : lastMarks [op, op'] [eb, ec] = false := by with_unfolding_all rfl) : SE X W (.Compare ea [op, op'] [eb, ec] pos) (eChain f g a b c) :=
  PE.imp (pe_chain ho ho' ha hb hc h1) fun σ H Q h => by
    obtain ⟨M, e, ah, S, P⟩ := h
    refine ⟨M, e, ah, S, P.bindI fun dx M1 ah1 H1 s1 q1 P1 v hv => ?_⟩
    refine ⟨M1, e, ah1, S.step s1 q1, P1.bindI fun dy M2 ah2 H2 s2 q2 P2 w hw => ?_⟩
    refine hf _ _ _ _ _ _ _ _ _ q2 (hv.step s2) hw (P2.bindI fun dz M3 ah3 H3 s3 q3 P3 z hz => ?_)
    cases dz with
    | bl k =>
      rw [Rep] at hz; subst hz
      refine ⟨k, rfl, ?_⟩
      cases k with
      | true =>
        rw [if_pos rfl]
        have s13 := (s1.trans s2).trans s3
        refine ⟨M3, e, ah3, S.step s13 q3, Post.bindI P3 fun dc M4 ah4 H4 s4 q4 P4 u hu => ?_⟩
        exact hg _ _ _ _ _ _ _ _ _ q4 ((hw.step s3).step s4) hu P4
      | false =>
        rw [if_neg Bool.false_ne_true]
        exact Post.val P3 q3 mk_bl
    | _ => exact P3.elim
theorem s_and {rest : List Expr} (ha : SE X W ea a) (hb : SE X W (.BoolOp .And (eb :: rest) pos) b) : SE X W (.BoolOp .And (ea :: eb :: rest) pos) (eAnd a b) :=
  PE.imp (pe_and ha hb) fun σ H Q h => by
    obtain ⟨M, e, ah, S, P⟩ := h
    refine ⟨M, e, ah, S, P.bindI fun dx M1 ah1 H1 s1 q1 P1 v hv => ?_⟩
    cases dx with
    | bl k =>
      rw [Rep] at hv; subst hv
      refine ⟨k, rfl, ?_⟩
      cases k with
      | true => rw [if_pos rfl]; exact ⟨M1, e, ah1, S.step s1 q1, P1⟩
      | false => rw [if_neg Bool.false_ne_true]; exact Post.val P1 q1 mk_bl
    | _ => exact P1.elim
theorem s_or {rest : List Expr} (ha : SE X W ea a) (hb : SE X W (.BoolOp .Or (eb :: rest) pos) b) : SE X W (.BoolOp .Or (ea :: eb :: rest) pos) (eOr a b) :=
  PE.imp (pe_or ha hb) fun σ H Q h => by
    obtain ⟨M, e, ah, S, P⟩ := h
    refine ⟨M, e, ah, S, P.bindI fun dx M1 ah1 H1 s1 q1 P1 v hv => ?_⟩
    cases dx with
    | bl k =>
      rw [Rep] at hv; subst hv
      refine ⟨k, rfl, ?_⟩
      cases k with
      | false => rw [if_neg Bool.false_ne_true]; exact ⟨M1, e, ah1, S.step s1 q1, P1⟩
      | true => rw [if_pos rfl]; exact Post.val P1 q1 mk_bl
    | _ => exact P1.elim
theorem s_one {op} (ha : SE X W ea a) : SE X W (.BoolOp op [ea] pos) a := pe_one ha
theorem s_not (ha : SE X W ea a) : SE X W (.UnaryOp .Not ea pos) (e1 notD a) :=
  PE.imp (pe_not ha) fun σ H Q h => by
    obtain ⟨M, e, ah, S, P⟩ := h
    refine ⟨M, e, ah, S, P.bindI fun dx M1 ah1 H1 s1 q1 P1 v hv => ?_⟩
    cases dx with
    | bl k => rw [Rep] at hv; subst hv; exact ⟨k, rfl, Post.val P1 q1 mk_bl⟩
    | _ => exact P1.elim
theorem s_if {et : Expr} {t : AB} (ht : SB X W et t) (ha : SE X W ea a) (hb : SE X W eb b) : SE X W (.IfExp et ea eb pos) (eIf t a b) :=
  PE.imp (pe_ifExp ht ha hb) fun σ H Q h => by
    obtain ⟨M, e, ah, S, P⟩ := h
    refine ⟨M, e, ah, S, P.bindI fun k M1 ah1 H1 s1 q1 P1 => ?_⟩
    cases k with
    | true => rw [if_pos rfl]; exact ⟨M1, e, ah1, S.step s1 q1, P1⟩
    | false => rw [if_neg Bool.false_ne_true]; exact ⟨M1, e, ah1, S.step s1 q1, P1⟩
/-! ### tests -/
theorem truth_ok {M : Mp} {ah : AH} {H : Hp} {d : D} {v : V} {k : Bool} (q : RelH (tb X) M ah H) (r : Rep (tb X) M H d v) (h : truth ah d = some k) : TruV X.K v H k := by
  cases d with
  | non => rw [Rep] at r; subst r; exact (Option.some.inj h).symm
  | bl b => rw [Rep] at r; subst r; exact (Option.some.inj h).symm
  | int i => rw [Rep] at r; subst r; exact (Option.some.inj h).symm
  | str x =>
    rw [Rep] at r; subst r
    have h' : (if x.length ≤ big then some (!x.isEmpty) else none) = some k := h
    split at h'
    · rename_i hz
      refine ⟨by rw [ts_len, ← big_eq]; exact hz, ?_⟩
      rw [← Option.some.inj h', ts_len]
      cases x with
      | nil => rfl
      | cons c r =>
        show true = _
        symm
        rw [bne_iff_ne]
        simp only [List.length_cons]
        omega
    · cases h'
  | tup xs =>
    obtain ⟨p, vs, e, f, g⟩ := rep_tup r
    subst e
    refine .inr (.inl ⟨vs, f.sq, ?_⟩)
    rw [← Option.some.inj h]
    have := g.length
    cases xs <;> cases vs <;> simp_all
  | lst xs =>
    obtain ⟨p, vs, e, f, g⟩ := rep_lst (x := .lst xs) q r rfl
    subst e
    refine .inl ⟨vs, SqL.of f, ?_⟩
    rw [← Option.some.inj h]
    have := g.length
    cases xs <;> cases vs <;> simp_all
  | loc l =>
    have h' : (match ah[l]? with
      | some (.lst xs) => some (!xs.isEmpty)
      | some (.dic ks _) => some (!ks.isEmpty)
      | _ => none) = some k := h
    split at h'
    · rename_i xs hl
      obtain ⟨p, vs, e, f, g⟩ := rep_lst (x := .loc l) (ds := xs) q r (by rw [lstH, hl])
      subst e
      refine .inl ⟨vs, SqL.of f, ?_⟩
      rw [← Option.some.inj h']
      have := g.length
      cases xs <;> cases vs <;> simp_all
    · rename_i ks ds hl
      rw [Rep] at r
      obtain ⟨a, rfl, ha⟩ := r
      obtain ⟨vs, f, z, g⟩ := q.obj l a _ ha hl
      refine .inr (.inr ⟨_, f, ?_⟩)
      rw [← Option.some.inj h']
      have := g.length
      cases ks <;> cases vs <;> simp_all
    · cases h'
  | _ => cases h
theorem t_val (ha : SE X W ea a) (he : ∀ whole, isTrue ea X.env whole = (do let v ← whole; standAt ea.pos; holding [v] (truthy v)) := by intro _; rfl) : SB X W ea (tV a) :=
  PT.imp (pt_truth ha he) fun σ H Q h => by
    obtain ⟨M, e, ah, S, P⟩ := h
    refine ⟨M, e, ah, S, P.bindI fun dx M1 ah1 H1 s1 q1 P1 v hv => ?_⟩
    obtain ⟨k, hk, P1⟩ := P1.of
    exact ⟨k, truth_ok q1 hv hk, P1.here q1⟩
theorem bl_of {M : Mp} {ah : AH} {H : Hp} {E : XK} {Q : Bool → Hp → Prop} {d : D} {v : V} (q : RelH (tb X) M ah H) (r : Rep (tb X) M H d v) (P : Post (tb X) E M H (fun b _ _ H' => Q b H') (R.of (tB d) ah)) : ∃ k, v = .bl k ∧ Q k H := by
  obtain ⟨k, hk, P⟩ := P.of
  cases d with
  | bl b =>
    rw [Rep] at r; subst r
    have e : b = k := Option.some.inj hk
    subst e
    exact ⟨b, rfl, P.here q⟩
  | _ => cases hk
/-- a comparison as a test -/
theorem t_cmp {op : CmpOp} {r : R2} {f : D → D → AH → R D} (ho : OpR X (compareOp op) r) (hf : Op2 X r f) (ha : SE X W ea a) (hb : SE X W eb b) (hm : behindInMarks op eb = false) : SB X W (.Compare ea [op] [eb] pos) (tB1 (e2 f a b)) :=
  PT.imp (pt_cmpR ho ha hb hm) fun σ H Q h => by
    obtain ⟨M, e, ah, S, P⟩ := h
    have P := (Post.bind P)
    exact op2_read hf ⟨M, e, ah, S, P.imp fun d M1 ah1 H1 s1 q1 P1 v hv => bl_of q1 hv P1⟩
theorem t_isN {j p2} (ha : SE X W ea a) : SB X W (.Compare ea [.Is] [.Constant .none j p2] pos) (tB1 (e1 isNonD a)) :=
  PT.imp (pt_cmpR op_isN ha pe_non (nomark _)) fun σ H Q h => by
    obtain ⟨M, e, ah, S, P⟩ := h
    refine ⟨M, e, ah, S, Post.bindI (Post.bind P) fun dx M1 ah1 H1 s1 q1 P1 v hv => ⟨rfl, ?_⟩⟩
    rw [rep_non_iff hv]
    exact ⟨_, rfl, (Post.here P1 q1).here q1⟩
theorem t_notN {j p2} (ha : SE X W ea a) : SB X W (.Compare ea [.IsNot] [.Constant .none j p2] pos) (tB1 (e1 notNonD a)) :=
  PT.imp (pt_cmpR op_notN ha pe_non (nomark _)) fun σ H Q h => by
    obtain ⟨M, e, ah, S, P⟩ := h
    refine ⟨M, e, ah, S, Post.bindI (Post.bind P) fun dx M1 ah1 H1 s1 q1 P1 v hv => ⟨rfl, ?_⟩⟩
    rw [rep_non_iff hv]
    exact ⟨_, rfl, (Post.here P1 q1).here q1⟩
theorem t_chain {op op' : CmpOp} {r r' : R2} {f g : D → D → AH → R D} (ho : OpR X (compareOp op) r) (hf : Op2 X r f) (ho' : OpR X (compareOp op') r') (hg : Op2 X r' g) (ha : SE X W ea a) (hb : SE X W eb b) (hc : SE X W ec c)
    (h1 : lastMarks [op, op'] [eb, ec] = false := by with_unfolding_all rfl) : SB X W (.Compare ea [op, op'] [eb, ec] pos) (tB1 (eChain f g a b c)) :=
  PT.imp (pt_chain ho ho' ha hb hc h1) fun σ H Q h => by
    obtain ⟨M, e, ah, S, P⟩ := h
    refine ⟨M, e, ah, S, Post.bindI (Post.bind P) fun dx M1 ah1 H1 s1 q1 P1 v hv => ?_⟩
    refine ⟨M1, e, ah1, S.step s1 q1, Post.bindI P1 fun dy M2 ah2 H2 s2 q2 P2 w hw => ?_⟩
    refine hf _ _ _ _ _ _ _ _ _ q2 (hv.step s2) hw (Post.bindI P2 fun dz M3 ah3 H3 s3 q3 P3 z hz => ?_)
    cases dz with
    | bl k =>
      rw [Rep] at hz; subst hz
      refine ⟨k, rfl, ?_⟩
      cases k with
      | true =>
        rw [if_pos rfl]
        have s13 := (s1.trans s2).trans s3
        refine ⟨M3, e, ah3, S.step s13 q3, Post.bindI P3 fun dc M4 ah4 H4 s4 q4 P4 u hu => ?_⟩
        exact hg _ _ _ _ _ _ _ _ _ q4 ((hw.step s3).step s4) hu (P4.imp fun d M5 ah5 H5 s5 q5 P5 v5 hv5 => bl_of q5 hv5 P5)
      | false =>
        rw [if_neg Bool.false_ne_true]
        exact ⟨false, rfl, (Post.here P3 q3).here q3⟩
    | _ => exact P3.elim
theorem t_not {t : AB} (ht : SB X W ea t) : SB X W (.UnaryOp .Not ea pos) (tNot t) :=
  PT.imp (pt_not ht) fun σ H Q h => by
    obtain ⟨M, e, ah, S, P⟩ := h
    exact ⟨M, e, ah, S, P.bindI fun k M1 ah1 H1 s1 q1 P1 => P1.here q1⟩
/-- and, or: whatever the whole is -/
abbrev SW (X : Cx) (W : WX) (e : Expr) (t : AB) : Prop := PW X e (tT W (tb X) t)
theorem PW.imp {e : Expr} {t t' : TT} (h : PW X e t) (f : ∀ σ H Q, t' σ H Q → t σ H Q) : PW X e t' := ⟨fun wh pins s σ H Q I q => h.run wh pins s σ H Q I (f σ H Q q)⟩
theorem w_and1 {t : AB} (h : SB X W ea t) : SW X W (.BoolOp .And [ea] pos) t := pw_and1 h
theorem w_or1 {t : AB} (h : SB X W ea t) : SW X W (.BoolOp .Or [ea] pos) t := pw_or1 h
theorem w_and {t u : AB} {rest : List Expr} (h : SB X W ea t) (g : SW X W (.BoolOp .And (eb :: rest) pos) u) : SW X W (.BoolOp .And (ea :: eb :: rest) pos) (tAnd t u) :=
  PW.imp (pw_and h g) fun σ H Q h => by
    obtain ⟨M, e, ah, S, P⟩ := h
    refine ⟨M, e, ah, S, P.bindI fun k M1 ah1 H1 s1 q1 P1 => ?_⟩
    cases k with
    | true => rw [if_pos rfl]; exact ⟨M1, e, ah1, S.step s1 q1, P1⟩
    | false => rw [if_neg Bool.false_ne_true]; exact Post.here P1 q1
theorem w_or {t u : AB} {rest : List Expr} (h : SB X W ea t) (g : SW X W (.BoolOp .Or (eb :: rest) pos) u) : SW X W (.BoolOp .Or (ea :: eb :: rest) pos) (tOr t u) :=
  PW.imp (pw_or h g) fun σ H Q h => by
    obtain ⟨M, e, ah, S, P⟩ := h
    refine ⟨M, e, ah, S, P.bindI fun k M1 ah1 H1 s1 q1 P1 => ?_⟩
    cases k with
    | false => rw [if_neg Bool.false_ne_true]; exact ⟨M1, e, ah1, S.step s1 q1, P1⟩
    | true => rw [if_pos rfl]; exact Post.here P1 q1
theorem t_of {t : AB} (h : SW X W ea t) : SB X W ea t := h.pt
end
end Sm
end

section
set_option Elab.async false
set_option linter.all false
set_option maxRecDepth 100000
set_option maxHeartbeats 1000000
namespace Sm
open PySem PySem.Spec PyProof.Rows L2
section
variable {X : Cx} {W : WX} {ea eb ec : Expr} {a b c : AE} {pos : Pos}
/-! ### items, slices -/
theorem ixN_eq (n : Nat) (i : Int) : L2.ixN n i = Sm.ixN n i := rfl
theorem at_rep {T : Tb} {M : Mp} {H : Hp} {ds : List D} {vs : List V} {i : Int} {d : D} (r : Reps T M H ds vs) (h : at? ds i = some d) : ∃ v, atI vs i = some v ∧ Rep T M H d v := by
  unfold at? at h
  cases e : Sm.ixN ds.length i with
  | none => rw [e] at h; cases h
  | some j =>
    rw [e] at h
    obtain ⟨v, h1, h2⟩ := r.get h
    refine ⟨v, ?_, h2⟩
    unfold atI
    rw [← r.length, ixN_eq, e]
    exact h1
theorem at_str {s : List Nat} {i : Int} {c : Nat} (h : at? s i = some c) : atI (ts s).cps.toList i = some c := by
  unfold at? at h
  unfold atI
  have : (ts s).cps.toList = s := by simp [ts]
  rw [this, ixN_eq]
  exact h
theorem o2_ix : Op2 X (rIx X.K) ixD := by
  intro E M ah H dx dy x y Q q rx ry P
  cases dy with
  | int i =>
    have seqs : ∀ {dx}, Rep (tb X) M H dx x → Post (tb X) E M H (fun d M' _ H' => ∀ v, Rep (tb X) M' H' d v → Q v H') (match seqH ah dx with
      | some xs => R.of (at? xs i) ah
      | none => .no) → rIx X.K x y H Q := fun {dx} rx P => by
      split at P
      · rename_i xs hx
        obtain ⟨d, hd, P⟩ := P.of
        obtain ⟨p, vs, e1, f1, g1⟩ := rep_seq q rx hx
        obtain ⟨v, h1, h2⟩ := at_rep g1 hd
        rcases f1 with f1 | f1
        · exact .inl ⟨p, vs, i, v, e1, rep_int ry, f1, h1, P.val q h2⟩
        · exact .inr (.inl ⟨p, vs, i, v, e1, rep_int ry, f1, h1, P.val q h2⟩)
      · exact P.elim
    cases dx with
    | str s =>
      obtain ⟨hz, P⟩ := Post.chk P
      obtain ⟨c, hc, P⟩ := (Post.bind P).of
      have P := P.here q
      refine .inr (.inr ⟨ts s, i, c, rep_str rx, rep_int ry, ?_, at_str hc, P.val q ?_⟩)
      · rw [ts_len, ← big_eq]; exact of_decide_eq_true hz
      · exact mk_str
    | _ => exact seqs rx P
  | _ => exact P.elim
theorem s_ix (ha : SE X W ea a) (hb : SE X W eb b) (hs : PlainIx eb) : SE X W (.Subscript ea eb pos) (e2 ixD a b) :=
  PE.imp (pe_ix ix_seq ha hb hs) fun σ H Q h => op2_read o2_ix h
/-- a slice's bound -/
def tO1 (W : WX) (T : Tb) (o : AO1) : TO := fun σ H Q => ∃ M e ah, Sta T M e ah σ H ∧ Post T (WE W σ) M H (fun d _ _ H' => Q d H') (o e ah)
abbrev SO (X : Cx) (W : WX) (e : Option Expr) (o : AO1) : Prop := PO X e (tO1 W (tb X) o)
theorem PO.imp {e : Option Expr} {t t' : TO} (h : PO X e t) (f : ∀ σ H Q, t' σ H Q → t σ H Q) : PO X e t' := ⟨fun pins s σ H Q I q => h.run pins s σ H Q I (f σ H Q q)⟩
theorem o_none : SO X W none oN := PO.imp po_none fun σ H Q h => by
  obtain ⟨M, e, ah, S, P⟩ := h
  exact Post.here P S.h
theorem o_some (ha : SE X W ea a) : SO X W (some ea) (oS a) := PO.imp (po_some ha) fun σ H Q h => by
  obtain ⟨M, e, ah, S, P⟩ := h
  refine ⟨M, e, ah, S, Post.bindI P fun dx M1 ah1 H1 s1 q1 P1 v hv => ?_⟩
  cases dx with
  | int i => exact ⟨i, rep_int hv, Post.here P1 q1⟩
  | _ => exact P1.elim
theorem sIx_eq (n d : Nat) (o : Option Int) : HT.sIx n d o = Sm.sIx n d o := by
  cases o <;> rfl
theorem cut_rep {T : Tb} {M : Mp} {H : Hp} {ds : List D} {vs : List V} {lo hi : Option Int} (r : Reps T M H ds vs) : Reps T M H (cut ds lo hi) (cutV vs lo hi) := by
  unfold cut cutV
  rw [← r.length, sIx_eq, sIx_eq]
  exact (r.drop _).take _
def rSlAll (X : Cx) : V → Option Int → Option Int → Hp → VK → Prop := fun x lo hi H Q => (rSlL X.K x lo hi H Q ∨ rSlA X.K x lo hi H Q) ∨ rSlS x lo hi H Q
theorem s_sl {fz : Bool} {lo hi : Option Expr} {l u : AO1} {p2 : Pos} (ha : SE X W ea a) (hl : SO X W lo l) (hu : SO X W hi u) : SE X W (.Subscript ea (.Slice lo hi none p2) pos) (eSl fz a l u) :=
  PE.imp (pe_slice ((sl_list.or sl_tupA).or sl_str) ha hl hu) fun σ H Q h => by
    obtain ⟨M, e, ah, S, P⟩ := h
    refine ⟨M, e, ah, S, P.bindI fun dx M1 ah1 H1 s1 q1 P1 v hv => ?_⟩
    refine ⟨M1, e, ah1, S.step s1 q1, P1.bindI fun i M2 ah2 H2 s2 q2 P2 => ?_⟩
    refine ⟨M2, e, ah2, (S.step s1 q1).step s2 q2, P2.bindI fun j M3 ah3 H3 s3 q3 P3 => ?_⟩
    have rx := (hv.step s2).step s3
    have lists : ∀ {dx}, Rep (tb X) M3 H3 dx v → Post (tb X) (WE W σ) M3 H3 (fun d M' _ H' => ∀ v, Rep (tb X) M' H' d v → Q v H') (match lstH ah3 dx with
      | some xs => mkL fz (cut xs i j) ah3
      | none => .no) → rSlL X.K v i j H3 Q := fun {dx} rx P => by
      split at P
      · rename_i xs hx
        obtain ⟨p, vs, e1, f1, g1⟩ := rep_lst q3 rx hx
        exact ⟨p, vs, e1, SqL.of f1, P.mkL q3 (cut_rep g1)⟩
      · exact P.elim
    cases dx with
    | str s =>
      obtain ⟨hz, P3⟩ := Post.chk P3
      refine .inr ⟨ts s, rep_str rx, ?_, ?_⟩
      · rw [ts_len, ← big_eq]; exact of_decide_eq_true hz
      · have := P3.val q3 mk_str
        have ec : cutS (ts s) i j = ts (cut s i j) := by
          unfold cutS cut
          simp only [ts_len, sIx_eq]
          simp [ts]
        rw [ec]; exact this
    | tup xs =>
      obtain ⟨p, vs, e1, f1, g1⟩ := rep_tup rx
      refine .inl (.inr ⟨p, vs, e1, f1.sq, fun hw => ?_, fun _ => Post.tup P3 q3 (cut_rep g1)⟩)
      refine Post.val P3 q3 ?_
      rw [Rep]
      have hc : cut xs i j = xs := by
        unfold cut
        rw [g1.length, ← sIx_eq, ← sIx_eq, hw.1, hw.2, List.drop_zero, Nat.sub_zero, ← g1.length, List.take_length]
      exact ⟨p, vs, rfl, f1, by rw [hc]; exact g1⟩
    | _ => exact .inl (.inl (lists rx P3))
/-! ### built-ins by their name -/
def CallF (X : Cx) (r : List V → Hp → VK → Prop) (f : List D → AH → R D) : Prop := ∀ (E : XK) M ah H ds xs Q, RelH (tb X) M ah H → Reps (tb X) M H ds xs → Post (tb X) E M H (fun d M' _ H' => ∀ v, Rep (tb X) M' H' d v → Q v H') (f ds ah) → r xs H Q
theorem callf_read {r : List V → Hp → VK → Prop} {f : List D → AH → R D} {as : AA} (hf : CallF X r f) {σ : L2.St} {H : Hp} {Q : VK} (h : tE W (tb X) (eA f as) σ H Q) : tCB r (tA W (tb X) as) σ H Q := by
  obtain ⟨M, e, ah, S, P⟩ := h
  exact ⟨M, e, ah, S, P.bindI fun ds M1 ah1 H1 s1 q1 P1 vs hv => hf _ _ _ _ _ _ _ q1 hv P1⟩
theorem s_callB {id : String} {r : List V → Hp → VK → Prop} {f : List D → AH → R D} {x : Str} {p : Pos} {e : Expr} {es : List Expr} {as : AA} (hc : CallR X (.builtin id) r) (hf : CallF X r f) (hg : Gl X x) (hm : X.mg x = none) (hv : bootBuiltins x = some (.builtin id)) (ha : SA X W (e :: es) as)
    (hn : x ≠ "__name__" := by decide) (hdb : (x == ("__debug__" : Str)) = false := by decide) (he : starEach (e :: es) X.env = (false, eval e X.env) :: starEach es X.env := by rfl) (hpl : (backTo pos (starEach es X.env)).any (·.1) = false := by rfl) :
    SE X W (.Call (.Name x p) (e :: es) [] pos) (eA f as) := PE.imp (pe_callB hc hg hm hv ha hn hdb he hpl) fun σ H Q h => callf_read hf h
theorem s_callTy {id : String} {r : List V → Hp → VK → Prop} {f : List D → AH → R D} {x : Str} {p : Pos} {e : Expr} {es : List Expr} {as : AA} (hc : CallR X (.type id) r) (hf : CallF X r f) (hg : Gl X x) (hm : X.mg x = none) (hv : bootBuiltins x = some (.type id)) (ha : SA X W (e :: es) as)
    (hn : x ≠ "__name__" := by decide) (hdb : (x == ("__debug__" : Str)) = false := by decide) (he : starEach (e :: es) X.env = (false, eval e X.env) :: starEach es X.env := by rfl) (hpl : (backTo pos (starEach es X.env)).any (·.1) = false := by rfl) :
    SE X W (.Call (.Name x p) (e :: es) [] pos) (eA f as) := PE.imp (pe_callTy hc hg hm hv ha hn hdb he hpl) fun σ H Q h => callf_read hf h
theorem a_nil : SA X W [] (eL []) := PA.imp pa_nil fun σ H Q h => by
  obtain ⟨M, e, ah, S, P⟩ := h
  exact Post.here P S.h [] Reps.nil
theorem a_cons {es : List Expr} {as : List AE} (ha : SE X W ea a) (hr : SA X W es (eL as)) (hs : starEach (ea :: es) X.env = (false, eval ea X.env) :: starEach es X.env := by rfl) : SA X W (ea :: es) (eL (a :: as)) :=
  PA.imp (pa_cons ha hr hs) fun σ H Q h => by
    obtain ⟨M, e, ah, S, P⟩ := h
    refine ⟨M, e, ah, S, Post.bindI P fun dx M1 ah1 H1 s1 q1 P1 v hv => ?_⟩
    exact ⟨M1, e, ah1, S.step s1 q1, Post.bindI P1 fun ds M2 ah2 H2 s2 q2 P2 vs hvs => Post.here P2 q2 _ (Reps.cons (hv.step s2) hvs)⟩
theorem one_rep {T : Tb} {M : Mp} {H : Hp} {d : D} {xs : List V} (h : Reps T M H [d] xs) : ∃ x, xs = [x] ∧ Rep T M H d x := by
  rw [Reps] at h
  obtain ⟨x, r, rfl, f, g⟩ := h
  rw [Reps] at g; subst g
  exact ⟨x, rfl, f⟩
theorem two_rep {T : Tb} {M : Mp} {H : Hp} {d e : D} {xs : List V} (h : Reps T M H [d, e] xs) : ∃ x y, xs = [x, y] ∧ Rep T M H d x ∧ Rep T M H e y := by
  rw [Reps] at h
  obtain ⟨x, r, rfl, f, g⟩ := h
  obtain ⟨y, rfl, k⟩ := one_rep g
  exact ⟨x, y, rfl, f, k⟩
/-- one argument -/
theorem f_one {r : List V → Hp → VK → Prop} {f : D → AH → R D} (h : ∀ (E : XK) M ah H d x Q, RelH (tb X) M ah H → Rep (tb X) M H d x → Post (tb X) E M H (fun d M' _ H' => ∀ v, Rep (tb X) M' H' d v → Q v H') (f d ah) → r [x] H Q) : CallF X r (on1 f) := by
  intro E M ah H ds xs Q q rs P
  match ds, rs, P with
  | [d], rs, P =>
    obtain ⟨x, rfl, f⟩ := one_rep rs
    exact h _ _ _ _ _ _ _ q f P
  | [], rs, P => exact P.elim
  | _ :: _ :: _, rs, P => exact P.elim
theorem f_two {r : List V → Hp → VK → Prop} {f : D → D → AH → R D} (h : ∀ (E : XK) M ah H d d2 x x2 Q, RelH (tb X) M ah H → Rep (tb X) M H d x → Rep (tb X) M H d2 x2 → Post (tb X) E M H (fun d M' _ H' => ∀ v, Rep (tb X) M' H' d v → Q v H') (f d d2 ah) → r [x, x2] H Q) : CallF X r (on2 f) := by
  intro E M ah H ds xs Q q rs P
  match ds, rs, P with
  | [d, d2], rs, P =>
    obtain ⟨x, x2, rfl, f, g⟩ := two_rep rs
    exact h _ _ _ _ _ _ _ _ _ q f g P
  | [], rs, P => exact P.elim
  | [_], rs, P => exact P.elim
  | _ :: _ :: _ :: _, rs, P => exact P.elim
theorem f_len : CallF X (fun xs H Q => ∃ x n, xs = [x] ∧ LenV X.K x H n ∧ Q (.int n) H) (on1 lenD) := f_one fun E M ah H d x Q q r P => by
  have seqs : ∀ {d}, Rep (tb X) M H d x → Post (tb X) E M H (fun d M' _ H' => ∀ v, Rep (tb X) M' H' d v → Q v H') (match seqH ah d with
    | some xs => .ok (.int xs.length) ah
    | none => .no) → ∃ z n, [x] = [z] ∧ LenV X.K z H n ∧ Q (.int n) H := fun {d} r P => by
    split at P
    · rename_i xs hx
      obtain ⟨p, vs, e1, f1, g1⟩ := rep_seq q r hx
      subst e1
      refine ⟨_, xs.length, rfl, ?_, P.val q mk_int⟩
      rcases f1 with f1 | f1
      · exact .inl ⟨vs, f1, g1.length⟩
      · exact .inr ⟨vs, f1, g1.length⟩
    · exact P.elim
  cases d with
  | str s =>
    obtain ⟨hz, P⟩ := Post.chk P
    have e := rep_str r
    subst e
    refine ⟨_, s.length, rfl, ⟨by rw [ts_len, ← big_eq]; exact of_decide_eq_true hz, by rw [ts_len]⟩, P.val q mk_int⟩
  | _ => exact seqs r P
theorem f_abs : CallF X (fun xs H Q => ∃ i, xs = [.int i] ∧ Q (.int (if i < 0 then -i else i)) H) (on1 absD) := f_one fun E M ah H d x Q q r P => by
  cases d with
  | int i => exact ⟨i, by rw [rep_int r], P.val q mk_int⟩
  | _ => exact P.elim
theorem f_int : CallF X (fun xs H Q => (∃ i, xs = [.int i] ∧ Q (.int i) H) ∨ ∃ k, xs = [.bl k] ∧ Q (.int (if k then 1 else 0)) H) (on1 intD) := f_one fun E M ah H d x Q q r P => by
  cases d with
  | int i => exact .inl ⟨i, by rw [rep_int r], P.val q mk_int⟩
  | bl i => exact .inr ⟨i, by rw [rep_bl r], P.val q mk_int⟩
  | _ => exact P.elim
theorem f_tuple : CallF X (fun xs H Q => ∃ p ys, xs = [.ref p] ∧ ((SqL X.K H p ys ∧ ∀ l, H l = none → Q (.ref l) (upd H l (.tup ys))) ∨ (SqT X.K H p ys ∧ Q (.ref p) H))) (on1 tupD) := f_one fun E M ah H d x Q q r P => by
  unfold tupD at P
  split at P
  · rename_i xs hx
    cases d with
    | tup zs =>
      have e : zs = xs := Option.some.inj hx
      subst e
      obtain ⟨p, vs, e1, f1, g1⟩ := rep_tup r
      exact ⟨p, vs, by rw [e1], .inr ⟨f1.sq, P.val q (by rw [Rep]; exact ⟨p, vs, rfl, f1, g1⟩)⟩⟩
    | scr zs =>
      have e : zs = xs := Option.some.inj hx
      subst e
      rw [Rep] at r
      obtain ⟨p, vs, e1, f1, g1⟩ := r
      exact ⟨p, vs, by rw [e1], .inl ⟨f1.sq, P.tup q g1⟩⟩
    | lst zs =>
      obtain ⟨p, vs, e1, f1, g1⟩ := rep_lst q r hx
      exact ⟨p, vs, by rw [e1], .inl ⟨SqL.of f1, P.tup q g1⟩⟩
    | loc zs =>
      obtain ⟨p, vs, e1, f1, g1⟩ := rep_lst q r hx
      exact ⟨p, vs, by rw [e1], .inl ⟨SqL.of f1, P.tup q g1⟩⟩
    | _ => cases hx
  · exact P.elim
theorem f_list {fz : Bool} : CallF X (fun xs H Q => ∃ p ys, xs = [.ref p] ∧ (SqL X.K H p ys ∨ SqT X.K H p ys) ∧ ∀ l, H l = none → Q (.ref l) (upd H l (.lst ys))) (on1 (listD fz)) := f_one fun E M ah H d x Q q r P => by
  unfold listD at P
  split at P
  · rename_i xs hx
    obtain ⟨p, vs, e1, f1, g1⟩ := rep_seq q r hx
    exact ⟨p, vs, by rw [e1], f1, P.mkL q g1⟩
  · exact P.elim
theorem insI_perm (x : Int) : ∀ ys, (insI x ys).Perm (x :: ys)
  | [] => .refl _
  | y :: ys => by
    rw [insI]
    split
    · exact .refl _
    · exact (List.Perm.cons y (insI_perm x ys)).trans (List.Perm.swap x y ys)
theorem sortI_perm : ∀ xs, (sortI xs).Perm xs
  | [] => .refl _
  | x :: xs => (insI_perm x _).trans (List.Perm.cons x (sortI_perm xs))
theorem insI_sorted (x : Int) : ∀ ys, ys.Pairwise (· ≤ ·) → (insI x ys).Pairwise (· ≤ ·)
  | [], _ => by simp [insI]
  | y :: ys, h => by
    rw [insI]
    rw [List.pairwise_cons] at h
    split
    · rename_i hxy
      refine List.pairwise_cons.mpr ⟨fun z hz => ?_, List.pairwise_cons.mpr h⟩
      rcases List.mem_cons.mp hz with rfl | hz
      · exact hxy
      · exact Int.le_trans hxy (h.1 z hz)
    · rename_i hxy
      refine List.pairwise_cons.mpr ⟨fun z hz => ?_, insI_sorted x ys h.2⟩
      rcases List.mem_cons.mp ((insI_perm x ys).mem_iff.mp hz) with rfl | hz
      · omega
      · exact h.1 z hz
theorem sortI_sorted : ∀ xs, (sortI xs).Pairwise (· ≤ ·)
  | [] => by simp [sortI]
  | x :: xs => insI_sorted x _ (sortI_sorted xs)
theorem sorted_unique : ∀ {xs ys : List Int}, xs.Perm ys → xs.Pairwise (· ≤ ·) → ys.Pairwise (· ≤ ·) → xs = ys := fun {xs ys} p h g => List.Perm.eq_of_pairwise (le := (· ≤ ·)) (fun a b _ _ h1 h2 => Int.le_antisymm h1 h2) h g p
theorem f_sorted {fz : Bool} : CallF X (rSortedI X.K) (on1 (sortedD fz)) := f_one fun E M ah H d x Q q r P => by
  unfold sortedD at P
  split at P
  · rename_i xs hx
    split at P
    · rename_i ns hn
      obtain ⟨p, vs, e1, f1, g1⟩ := rep_lst q r hx
      obtain ⟨z1, z2⟩ := g1.ints hn
      subst z2
      refine ⟨p, ns, by rw [e1], SqL.of f1, fun ns' p' hp hs hn' => ?_⟩
      have e : ns' = sortI ns := sorted_unique (hp.trans (sortI_perm ns).symm) hs (sortI_sorted ns)
      subst e
      exact P.mkL q (Reps.ofInts _) p' hn'
    · exact P.elim
  · exact P.elim
end
end Sm
end

section
set_option Elab.async false
set_option linter.all false
set_option maxRecDepth 100000
set_option maxHeartbeats 3200000
namespace Sm
open PySem PySem.Spec PyProof.Rows L2
/-! ### set(xs) of a list of ints -/
section
variable {pr : Program} {wo : World} {Ar : Around} {Er : Value → Shared → Prop} {st : Shared}
/-- the set object as it is first laid -/
abbrev set0 (wo : World) : Obj := { cls := .type "set", dict := none, data := .set #[] 0 (.fresh 0 0 (!wo.params.followText "set-order")) }
theorem set_init_list {l : Addr} {its : Array Value} (ns : List Int) {R : Result → Shared → Prop} (hh : Ar.handled = none) (hl : st.heap.IsList l its) (hi : IntsAre its.toList ns) (hb : ns.length + 1 < scanBound)
    (k : ∀ (h' : Heap) (tk c : Nat), SetR wo h' st.heap.objs.size (fun j => decide (j ∈ ns)) c → c ≤ ns.length → (∀ b o, st.heap.get? b = some o → h'.get? b = some o) → R (.ok (.ret .none)) { st with heap := h', toks := tk }) :
    wpAny (model pr wo) Ar.in1 (Builtin.«set.__init__» ⟨[.ref st.heap.objs.size, .ref l], []⟩) (fun fin s' => match fin with | .done f => R (.ok f) s' | .again c' => c'.quiet = true ∧ codeAny (model pr wo) Ar c' R s') (fun e s' => R (.error e) s') { st with heap := st.heap.push (set0 wo) } := by
  have nsz : its.size = ns.length := by have q := IntsAre.length hi; rwa [Array.length_toList] at q
  obtain ⟨⟨c0, d0, dt, sl⟩, hol, hcl, nl, hdl⟩ := id hl
  simp only at hcl hdl
  subst hcl hdl
  have hS : (st.heap.push (set0 wo)).get? st.heap.objs.size = some (set0 wo) := Heap.get?_push_size _ rfl
  have hol1 : (st.heap.push (set0 wo)).get? l = some { cls := .type "list", dict := d0, data := .seq its nl, slots := sl } := Heap.get?_push_of_some _ hol
  have a1 := PySem.F.sub_list_set
  have a2 := PySem.F.sub_list_frozenset
  have a3 : (Value.type "list" == Value.type "dict") = false := by decide
  have hl1 : (st.heap.push (set0 wo)).IsList l its := ⟨_, hol1, rfl, nl, rfl⟩
  unfold Builtin.«set.__init__» noKeywords Builtin.Frozenset.updateFrom
  generalize hP : pyIter = PI
  wp_walk
  subst hP
  refine wpAny_pyIter_list hl1 (wpAny_bind (wpAny_runValue ?_))
  have lS : l < st.heap.objs.size := Heap.lt_size hol
  have nI : l ≠ (st.heap.push (set0 wo)).objs.size := by rw [Heap.size_push]; exact Nat.ne_of_lt (Nat.lt_succ_of_lt lS)
  have nS : st.heap.objs.size ∉ [(st.heap.push (set0 wo)).objs.size, l] := by
    rw [Heap.size_push]
    simp only [List.mem_cons, List.not_mem_nil, or_false, not_or]
    exact ⟨Nat.ne_of_lt (Nat.lt_succ_self _), Nat.ne_of_gt lS⟩
  have val : ∀ (i : Nat) (v : Value), its[i]? = some v → ∃ k t, ns[i]? = some k ∧ v = .int k t := fun i v hv => by
    have hi' : i < ns.length := by rw [← nsz]; exact (Array.getElem?_eq_some_iff.mp hv).1
    obtain ⟨t, e⟩ := IntsAre.int_at hi i v (by rw [Array.getElem?_toList]; exact hv)
    exact ⟨ns[i], t, List.getElem?_eq_getElem hi', by rw [e, List.getD_eq_getElem?_getD, List.getElem?_eq_getElem hi']; rfl⟩
  refine set_update_ints ((Walks.list (A := Ar.in1.in1) (by simp [hh]) _ l nI its).toS) st.heap.objs.size nS ns nsz hb val (its.size - 0) 0 _ (by omega) (Nat.zero_le _) ?at0 ?first fun s' c' hm hc' hS' => ?_
  case at0 => exact ⟨⟨_, Heap.get?_push_size _ rfl, rfl, rfl⟩, hl1.push _⟩
  case first =>
    have g : ((st.heap.push (set0 wo)).push { cls := .type "list_iterator", data := .fields #[.ref l, .int 0 0] }).get? st.heap.objs.size = some (set0 wo) := Heap.get?_push_of_some _ hS
    exact ⟨0, Nat.le_refl 0, setR_new_at g⟩
  obtain ⟨h', g2, d', tk', os'⟩ := s'
  have eg : g2 = st.gens := hm.gens
  have ed : d' = st.drawn := hm.drawn
  have eo : os' = st.os := hm.os
  subst eg ed eo
  rw [nsz] at hc'
  refine wpAny_pure (wpAny_pure (k h' tk' c' hS' hc' fun b o e => ?_))
  have b0 : b < st.heap.objs.size := Heap.lt_size e
  refine hm.heap b o ?_ (Heap.get?_push_of_some _ (Heap.get?_push_of_some _ e))
  simp only [List.mem_cons, List.not_mem_nil, or_false, not_or]
  exact ⟨Nat.ne_of_lt b0, by rw [Heap.size_push]; exact Nat.ne_of_lt (Nat.lt_succ_of_lt b0)⟩
theorem call_set_ints {l : Addr} {its : Array Value} (ns : List Int) {Q : Value → Shared → Prop} (hh : Ar.handled = none) (hl : st.heap.IsList l its) (hi : IntsAre its.toList ns) (hb : ns.length + 1 < scanBound)
    (k : ∀ (h' : Heap) (tk c : Nat), SetR wo h' st.heap.objs.size (fun j => decide (j ∈ ns)) c → c ≤ ns.length → (∀ b o, st.heap.get? b = some o → h'.get? b = some o) → Q (.ref st.heap.objs.size) { st with heap := h', toks := tk }) :
    wpAny (model pr wo) Ar (call (.type "set") [.ref l]) Q Er st := by
  obtain ⟨c, tl, hmro⟩ := PySem.F.called_set.mro
  have f0 := PySem.F.called_set.made
  have f1 := PySem.F.called_set.sub
  refine wpAny_call (codeAny_of_tree ?_)
  show wpAny _ _ (callAny (.type "set") _) _ _ _
  refine wpAny_pure ⟨Code.quiet_builtin _ (by decide +kernel), codeAny_builtin PySem.F.entry_type_call ?_⟩
  rw [Around.under_plain (weight_type_call_type "set" [.ref l] []) rfl]
  have f2 := PySem.F.called_set.notType
  have f3 := PySem.F.called_set.canCreate
  have f4 := PySem.F.typeCall_set_1 (.ref l)
  repeat (any_goals (first | assumption | wp_step))
  refine codeAny_mono (code_set_led1 (.ref l) (E := Er) (Q₁ := fun o t => o = .ref st.heap.objs.size ∧ t = { st with heap := st.heap.push (set0 wo) }) ⟨rfl, rfl⟩) fun r t hr => ?_
  cases r with
  | error e => exact hr
  | ok fl =>
    cases fl with
    | ret obj =>
      obtain ⟨rfl, rfl⟩ := hr
      have hT : Shared.TypeIs { st with heap := st.heap.push (set0 wo) } (.ref st.heap.objs.size) "set" := ⟨_, Heap.get?_push_size _ rfl, rfl⟩
      have g0 := PySem.F.called_set.init.lookup
      have g1 := PySem.F.called_set.init.bind (.ref st.heap.objs.size)
      repeat (any_goals (first | assumption | wp_step))
      refine codeAny_mono (codeAny_call_builtin (R := wants (fun r t => r = .none ∧ ∃ h' tk c, t = { st with heap := h', toks := tk } ∧ SetR wo h' st.heap.objs.size (fun j => decide (j ∈ ns)) c ∧ c ≤ ns.length ∧
          (∀ b o, st.heap.get? b = some o → h'.get? b = some o)) Er) PySem.F.called_set.init.plain PySem.F.entry_set_init (check_set_init_1 hT ?_)) fun r t hr => ?_
      · refine set_init_list ns ?_ hl hi hb ?_
        · simp [hh]
        · exact fun h' tk c p1 p2 p3 => ⟨rfl, h', tk, c, rfl, p1, p2, p3⟩
      cases r with
      | error e => exact hr
      | ok fl =>
        cases fl with
        | ret r =>
          obtain ⟨rfl, h', tk, c', rfl, p1, p2, p3⟩ := hr
          repeat (any_goals (first | assumption | wp_step))
          exact k _ _ _ p1 p2 p3
        | _ => exact hr.elim
    | _ => exact hr.elim
end
section
variable {X : Cx} {W : WX} {ea eb ec : Expr} {a b c : AE} {pos : Pos}
theorem insU_mem (x z : Int) : ∀ ys, z ∈ insU x ys ↔ z = x ∨ z ∈ ys
  | [] => by simp [insU]
  | y :: ys => by
    rw [insU]
    split
    · simp
    · split
      · rename_i _ h; subst h; simp
      · have := insU_mem x z ys
        simp [this]
        constructor
        · rintro (h | h | h) <;> simp [h]
        · rintro (h | h | h) <;> simp [h]
theorem sortU_mem (z : Int) : ∀ xs, z ∈ sortU xs ↔ z ∈ xs
  | [] => by simp [sortU]
  | x :: xs => by rw [sortU, insU_mem, sortU_mem z xs]; simp
theorem insU_sorted (x : Int) : ∀ ys, ys.Pairwise (· < ·) → (insU x ys).Pairwise (· < ·)
  | [], _ => by simp [insU]
  | y :: ys, h => by
    rw [insU]
    rw [List.pairwise_cons] at h
    split
    · rename_i hxy
      refine List.pairwise_cons.mpr ⟨fun z hz => ?_, List.pairwise_cons.mpr h⟩
      rcases List.mem_cons.mp hz with rfl | hz
      · exact hxy
      · exact Int.lt_trans hxy (h.1 z hz)
    · split
      · exact List.pairwise_cons.mpr h
      · refine List.pairwise_cons.mpr ⟨fun z hz => ?_, insU_sorted x ys h.2⟩
        rcases (insU_mem x z ys).mp hz with rfl | hz
        · omega
        · exact h.1 z hz
theorem sortU_sorted : ∀ xs, (sortU xs).Pairwise (· < ·)
  | [] => by simp [sortU]
  | x :: xs => insU_sorted x _ (sortU_sorted xs)
theorem lt_unique : ∀ {xs ys : List Int}, xs.Pairwise (· < ·) → ys.Pairwise (· < ·) → (∀ z, z ∈ xs ↔ z ∈ ys) → xs = ys
  | [], [], _, _, _ => rfl
  | [], y :: ys, _, _, h => by have := (h y).mpr (by simp); simp at this
  | x :: xs, [], _, _, h => by have := (h x).mp (by simp); simp at this
  | x :: xs, y :: ys, h1, h2, h => by
    rw [List.pairwise_cons] at h1 h2
    have e : x = y := by
      rcases List.mem_cons.mp ((h x).mp (by simp)) with e | e
      · exact e
      · rcases List.mem_cons.mp ((h y).mpr (by simp)) with e' | e'
        · exact e'.symm
        · have := h2.1 x e
          have := h1.1 y e'
          omega
    subst e
    rw [lt_unique h1.2 h2.2 fun z => ?_]
    constructor
    · intro hz
      rcases List.mem_cons.mp ((h z).mp (by simp [hz])) with e | e
      · have := h1.1 z hz; omega
      · exact e
    · intro hz
      rcases List.mem_cons.mp ((h z).mpr (by simp [hz])) with e | e
      · have := h2.1 z hz; omega
      · exact e
theorem setR_len {wo : World} {h : Heap} {p : Addr} {ns : List Int} {c : Nat} (R : SetR wo h p (fun j => decide (j ∈ ns)) c) : c = (sortU ns).length := by
  obtain ⟨o, es, ep, t, ho, h1, h2, h3, h4, h5, h6, h7, h8, h9⟩ := R
  have nd : (sortU ns).Nodup := (sortU_sorted ns).imp fun h => by omega
  have pm : (es.toList.map keyOf).Perm (sortU ns) := (List.perm_ext_iff_of_nodup h4 nd).mpr fun k => by
    rw [sortU_mem, ← h5 k]
    simp
  have := pm.length_eq
  rw [List.length_map, Array.length_toList] at this
  omega
def rSetI (K : PySem.W.Frag) (w : World) : List V → Hp → VK → Prop := fun xs H Q => ∃ (a : Addr) (ns : List Int), xs = [.ref a] ∧ SqL K H a (ns.map V.int) ∧ ns.length + 1 < scanBound ∧ ∀ p, H p = none → Q (.ref p) (upd H p (SetO w p (fun j => decide (j ∈ ns)) (sortU ns).length))
theorem cr_setI (hc : X.calm = true) : CallR X (.type "set") (rSetI X.K X.w) := by
  intro pins s σ H xs us Q I r h
  obtain ⟨l, ns, rfl, hs, hb, q⟩ := h
  obtain ⟨u, rfl, ru⟩ := vals1 r
  cases ru
  obtain ⟨its, rv, pl, hz⟩ := I.list hs
  refine call_set_ints ns (I.ok.hd hc) pl.isList (by simpa using rv.ints) hb fun h' tk c R hc' kk => ?_
  have hn : H s.heap.objs.size = none := I.hok.fresh (Nat.le_refl _)
  have ec := setR_len R
  subst ec
  exact ⟨.ref _, _, I.laid kk (Nat.le_refl _) (setO_new R), rfl, q _ hn⟩
/-- sorted(set(xs)) -/
theorem s_sortedSet {fz : Bool} {x y : Str} {p p' pos' : Pos} (hx : x = "sorted") (hy : y = "set") (hc : X.calm = true) (hg : Gl X x) (hm : X.mg x = none) (hg' : Gl X y) (hm' : X.mg y = none) (ha : SE X W ea a) (hs : starEach [ea] X.env = [(false, eval ea X.env)] := by rfl)
    (hs2 : starEach [(.Call (.Name y p') [ea] [] pos' : Expr)] X.env = [(false, eval (.Call (.Name y p') [ea] [] pos') X.env)] := by rfl) : SE X W (.Call (.Name x p) [.Call (.Name y p') [ea] [] pos'] [] pos) (e1 (sortedSetD fz) a) := by
  subst hx hy
  have h1 : PE X (.Call (.Name "set" p') [ea] [] pos') _ := pe_callTy (cr_setI hc) hg' hm' (by decide +kernel) (pa_cons ha pa_nil (by rw [hs]; rfl)) (he := by rw [hs]; rfl)
  have h2 := pe_callB (pos := pos) (p := p) (cr_sortedSet hc) hg hm (by decide +kernel) (pa_cons h1 pa_nil (by rw [hs2]; rfl)) (he := by rw [hs2]; rfl)
  refine PE.imp h2 fun σ H Q h => ?_
  obtain ⟨M, e, ah, S, P⟩ := h
  refine ⟨M, e, ah, S, P.bindI fun dx M1 ah1 H1 s1 q1 P1 v hv => ?_⟩
  unfold sortedSetD at P1
  split at P1
  · rename_i xs hx
    split at P1
    · rename_i ns hn
      obtain ⟨hz, P1⟩ := P1.chk
      obtain ⟨z1, z2⟩ := of_decide_eq_true hz
      obtain ⟨l, vs, e1, f1, g1⟩ := rep_lst q1 hv hx
      obtain ⟨_, e2⟩ := g1.ints hn
      subst e1 e2
      refine ⟨l, ns, rfl, SqL.of f1, by unfold scanBound; omega, fun p2 hp2 => ?_⟩
      refine ⟨p2, _, _, rfl, upd_same, z2, fun ms r hr1 hr2 hr3 hr4 => ?_⟩
      have em : ms = sortU ns := lt_unique hr1 (sortU_sorted ns) fun z => by rw [hr2, sortU_mem]; simp
      subst em
      have st := step_new (M := M1) (SetO X.w p2 (fun j => decide (j ∈ ns)) (sortU ns).length) hp2
      exact (Post.step st P1).mkL (q1.new _ hp2) (Reps.ofInts _) r hr4
    · exact P1.elim
  · exact P1.elim
end
end Sm
end

section
set_option Elab.async false
set_option linter.all false
set_option maxRecDepth 100000
set_option maxHeartbeats 1000000
namespace Sm
open PySem PySem.Spec PyProof.Rows L2
section
variable {X : Cx} {W : WX} {ea eb ec : Expr} {a b c : AE} {pos : Pos}
/-! ### isinstance(x, T), T a built-in type -/
def tyNames : List String := ["NoneType", "bool", "int", "str", "tuple", "list", "dict"]
theorem kit_all : (tyNames.all fun t => ["bool", "int", "str", "tuple", "list", "dict"].all fun T => decide (kitB t T = some (isTyB t T))) = true := by decide +kernel
theorem ty_rep {M : Mp} {ah : AH} {H : Hp} {d : D} {v : V} {t : String} (q : RelH (tb X) M ah H) (r : Rep (tb X) M H d v) (h : tyOf ah d = some t) : TyX X.K H v (.type t) ∧ t ∈ tyNames := by
  cases d with
  | non => cases h; rw [Rep] at r; subst r; exact ⟨.base .non, by decide⟩
  | bl b => cases h; rw [Rep] at r; subst r; exact ⟨.base (.bl b), by decide⟩
  | int b => cases h; rw [Rep] at r; subst r; exact ⟨.base (.int b), by decide⟩
  | str b => cases h; rw [Rep] at r; subst r; exact ⟨.base (.str _), by decide⟩
  | tup xs =>
    cases h
    obtain ⟨p, vs, rfl, f, g⟩ := rep_tup r
    refine ⟨?_, by decide⟩
    rcases f with ⟨_, f | ⟨o, f⟩⟩ | ⟨o, its, n, hk, hc, _⟩
    · exact .base (.tup f)
    · exact .fTuple f
    · exact .kTuple hk hc
  | lst xs =>
    cases h
    obtain ⟨p, vs, rfl, f, g⟩ := rep_lst (x := .lst xs) q r rfl
    exact ⟨.base (.lst f), by decide⟩
  | loc l =>
    have h' : (match ah[l]? with
      | some (.lst _) => some "list"
      | some (.dic _ _) => some "dict"
      | some (.dicT _ _) => some "dict"
      | _ => none) = some t := h
    rw [Rep] at r
    obtain ⟨p, rfl, hp⟩ := r
    split at h'
    · rename_i xs hl
      cases h'
      obtain ⟨vs, f, _⟩ := q.obj l p _ hp hl
      exact ⟨.base (.lst f), by decide⟩
    · rename_i ks ds hl
      cases h'
      obtain ⟨vs, f, _⟩ := q.obj l p _ hp hl
      exact ⟨.base (.dK f), by decide⟩
    · rename_i ks ds hl
      cases h'
      obtain ⟨vs, f, _⟩ := q.obj l p _ hp hl
      exact ⟨.base (.dT f), by decide⟩
    · cases h'
  | _ => cases h
theorem s_isTy {T : String} {x y : Str} {p p' : Pos} (hT : T ∈ ["bool", "int", "str", "tuple", "list", "dict"]) (hx : x = "isinstance") (hy : bootBuiltins y = some (.type T)) (hny : y ≠ "__name__") (hdy : (y == ("__debug__" : Str)) = false) (hg : Gl X x) (hm : X.mg x = none) (hg' : Gl X y) (hm' : X.mg y = none) (ha : SE X W ea a)
    (hs : starEach [ea, (.Name y p' : Expr)] X.env = [(false, eval ea X.env), (false, eval (.Name y p') X.env)] := by rfl) (hs2 : starEach [(.Name y p' : Expr)] X.env = [(false, eval (.Name y p') X.env)] := by rfl)
    (hs3 : (backTo pos (starEach [(.Name y p' : Expr)] X.env)).any (·.1) = false := by rfl) : SE X W (.Call (.Name x p) [ea, .Name y p'] [] pos) (e1 (isTy T) a) := by
  subst hx
  have h1 : PE X (.Name y p') (L2.tC (.ty T)) := pe_bltn hg' hm' hy rfl hny hdy
  have h2 := pe_callB (pos := pos) (p := p) call_isi hg hm (by decide +kernel) (pa_cons ha (pa_cons h1 pa_nil (by rw [hs2]; rfl)) (by rw [hs, hs2])) (he := by rw [hs, hs2]) (hpl := hs3)
  refine PE.imp h2 fun σ H Q h => ?_
  obtain ⟨M, e, ah, S, P⟩ := h
  refine ⟨M, e, ah, S, P.bindI fun dx M1 ah1 H1 s1 q1 P1 v hv => ?_⟩
  obtain ⟨t, ht, P1⟩ := (Post.bind P1).of
  have P1 := P1.here q1
  obtain ⟨h3, h4⟩ := ty_rep q1 hv ht
  refine ⟨v, .ty T, .type t, .type T, isTyB t T, rfl, .ty T, h3, kit_ty ?_, P1.val q1 mk_bl⟩
  exact of_decide_eq_true (List.all_eq_true.mp (List.all_eq_true.mp kit_all t h4) T hT)
/-! ### displays -/
theorem s_tup {es : List Expr} {as : AA} {x1} (ha : SA X W es as) : SE X W (.Tuple es x1 pos) (eTup as) :=
  PE.imp (pe_tup ha) fun σ H Q h => by
    obtain ⟨M, e, ah, S, P⟩ := h
    refine ⟨M, e, ah, S, P.bindI fun ds M1 ah1 H1 s1 q1 P1 vs hv => ?_⟩
    obtain ⟨hz, P1⟩ := Post.chk P1
    exact ⟨by rw [← hv.length, ← big_eq]; exact of_decide_eq_true hz, P1.tup q1 hv⟩
theorem s_lst {fz : Bool} {es : List Expr} {as : AA} (ha : SA X W es as) : SE X W (.List es pos) (eLst fz as) :=
  PE.imp (pe_lst ha) fun σ H Q h => by
    obtain ⟨M, e, ah, S, P⟩ := h
    refine ⟨M, e, ah, S, P.bindI fun ds M1 ah1 H1 s1 q1 P1 vs hv => ?_⟩
    obtain ⟨hz, P1⟩ := Post.chk P1
    exact ⟨by rw [← hv.length, ← big_eq]; exact of_decide_eq_true hz, P1.mkL q1 hv⟩
/-! ### methods of lists -/
def MetF (X : Cx) (T : String) (r : V → List V → Hp → VK → Prop) (f : D → List D → AH → R D) : Prop := ∀ (E : XK) M ah H d ds x xs Q, RelH (tb X) M ah H → Rep (tb X) M H d x → Reps (tb X) M H ds xs → Post (tb X) E M H (fun d M' _ H' => ∀ v, Rep (tb X) M' H' d v → Q v H') (f d ds ah) → r x xs H Q
/-- the receiver's type, read at the receiver -/
def TyF (X : Cx) (T : String) (g : AH → D → Bool) : Prop := ∀ M ah H d x, RelH (tb X) M ah H → Rep (tb X) M H d x → g ah d = true → tyV X.K T x H
theorem s_bm {T id : String} {r : V → List V → Hp → VK → Prop} {f : D → List D → AH → R D} {g : AH → D → Bool} {name : Str} {apos cpos : Pos} {es : List Expr} {as : AA} (pa : PlainAttrs T) (slot : Slot T name id) (hty : typeOf (.builtin id) = pure (.type "method_descriptor")) (hm : MtR X id r) (hf : MetF X T r f) (hg : TyF X T g)
    (ho : SE X W ea a) (ha : SA X W (eb :: es) as)
    (hbase : attributeBase ea name X.env (eval ea X.env) = eval ea X.env := by rfl)
    (hfew : ((backTo cpos (starEach (eb :: es) X.env)).all (fun x => !x.1) && (backToKw cpos (keywordEach [] X.env)).all (fun x => x.1.isSome) && decide ((eb :: es).length + ([] : List Keyword).length + (if ([] : List Keyword).isEmpty then 0 else 1) < 30)) = true := by rfl)
    (hline : (apos.endLine == cpos.line) = true := by rfl) (hs : starEach (eb :: es) X.env = (false, eval eb X.env) :: starEach es X.env := by rfl) (hplain : (backTo cpos (starEach es X.env)).any (·.1) = false := by rfl) :
    SE X W (.Call (.Attribute ea name apos) (eb :: es) [] cpos) (eM g f a as) :=
  PE.imp (pe_bm pa slot hty hm ho ha hbase hfew hline hs hplain) fun σ H Q h => by
    obtain ⟨M, e, ah, S, P⟩ := h
    refine ⟨M, e, ah, S, P.bindI fun d M1 ah1 H1 s1 q1 P1 v hv => ?_⟩
    obtain ⟨hc, P1⟩ := P1.chk
    refine ⟨hg _ _ _ _ _ q1 hv hc, M1, e, ah1, S.step s1 q1, P1.bindI fun ds M2 ah2 H2 s2 q2 P2 vs hvs => ?_⟩
    exact hf _ _ _ _ _ _ _ _ _ q2 (hv.step s2) hvs P2
theorem s_bm0 {T id : String} {r : V → List V → Hp → VK → Prop} {f : D → List D → AH → R D} {g : AH → D → Bool} {name : Str} {apos cpos : Pos} (pa : PlainAttrs T) (slot : Slot T name id) (hty : typeOf (.builtin id) = pure (.type "method_descriptor")) (hm : MtR X id r) (hf : MetF X T r f) (hg : TyF X T g)
    (ho : SE X W ea a) (hbase : attributeBase ea name X.env (eval ea X.env) = eval ea X.env := by rfl) (hline : (apos.endLine == cpos.line) = true := by rfl) :
    SE X W (.Call (.Attribute ea name apos) [] [] cpos) (eM g f a (eL [])) :=
  PE.imp (pe_bm0 pa slot hty hm ho hbase hline) fun σ H Q h => by
    obtain ⟨M, e, ah, S, P⟩ := h
    refine ⟨M, e, ah, S, P.bindI fun d M1 ah1 H1 s1 q1 P1 v hv => ?_⟩
    obtain ⟨hc, P1⟩ := P1.chk
    exact ⟨hg _ _ _ _ _ q1 hv hc, hf _ _ _ _ _ _ _ _ _ q1 hv Reps.nil P1⟩
theorem ty_list : TyF X "list" isLst := by
  intro M ah H d x q r h
  have : ∃ xs, lstH ah d = some xs ∨ seqH ah d = some xs ∧ ∃ ys, d = .scr ys := by
    cases d with
    | lst xs => exact ⟨xs, .inl rfl⟩
    | loc l =>
      have h' : (match ah[l]? with | some (.lst _) => true | _ => false) = true := h
      split at h'
      · rename_i xs hl; exact ⟨xs, .inl (by rw [lstH, hl])⟩
      · cases h'
    | _ => cases h
  obtain ⟨xs, hx | ⟨_, ys, rfl⟩⟩ := this
  · obtain ⟨p, vs, rfl, f, g⟩ := rep_lst q r hx
    exact .inl ⟨rfl, vs, SqL.of f⟩
  · cases h
theorem rep_loc {T : Tb} {M : Mp} {ah : AH} {H : Hp} {l : Nat} {v : V} {xs : List D} (q : RelH T M ah H) (r : Rep T M H (.loc l) v) (h : ah[l]? = some (.lst xs)) : ∃ p vs, v = .ref p ∧ M.m[l]? = some p ∧ H p = some (.lst vs) ∧ Reps T M H xs vs := by
  rw [Rep] at r
  obtain ⟨p, rfl, hp⟩ := r
  obtain ⟨vs, f, g⟩ := q.obj l p _ hp h
  exact ⟨p, vs, rfl, hp, f, g⟩
theorem onL_ok {T : Tb} {E : XK} {M : Mp} {ah : AH} {H : Hp} {d : D} {v : V} {f : Nat → List D → R D} {P : D → Mp → AH → Hp → Prop} (q : RelH T M ah H) (r : Rep T M H d v) (h : Post T E M H P (onL ah d f)) :
    ∃ l p xs vs, d = .loc l ∧ v = .ref p ∧ M.m[l]? = some p ∧ ah[l]? = some (.lst xs) ∧ H p = some (.lst vs) ∧ Reps T M H xs vs ∧ Post T E M H P (f l xs) := by
  cases d with
  | loc l =>
    have h' : Post T E M H P (match ah[l]? with | some (.lst xs) => f l xs | _ => .no) := h
    split at h'
    · rename_i xs hl
      obtain ⟨p, vs, e, hp, g, k⟩ := rep_loc q r hl
      exact ⟨l, p, xs, vs, rfl, e, hp, hl, g, k, h'⟩
    · exact h'.elim
  | _ => exact h.elim
/-- a list of ours gets other items -/
theorem put_lst {T : Tb} {E : XK} {M : Mp} {ah : AH} {H : Hp} {l : Nat} {p : Addr} {ds : List D} {vs : List V} {d : D} {v : V} {Q : VK} (q : RelH T M ah H) (hp : M.m[l]? = some p) (r : Reps T M H ds vs) (rd : Rep T M H d v)
    (P : Post T E M H (fun d M' _ H' => ∀ v, Rep T M' H' d v → Q v H') (.ok d (ah.set l (.lst ds)))) : Q v (upd H p (.lst vs)) := by
  obtain ⟨s, q2⟩ := q.put (o := .lst vs) (u := .lst ds) hp fun s => ⟨vs, upd_same, r.step s⟩
  exact P M _ s q2 v (rd.step s)
theorem m_append : MetF X "list" rAppend (mt1 appendD) := by
  intro E M ah H d ds x xs Q q r rs P
  match ds, rs, P with
  | [y], rs, P =>
    obtain ⟨u, rfl, ru⟩ := one_rep rs
    obtain ⟨l, p, zs, vs, rfl, rfl, hp, hl, f, g, P⟩ := onL_ok q r P
    obtain ⟨hz, P⟩ := P.chk
    exact ⟨p, vs, u, rfl, rfl, f, by rw [← g.length, ← big_eq]; exact of_decide_eq_true hz, put_lst q hp (g.app (Reps.cons ru Reps.nil)) mk_non P⟩
  | [], _, P => exact P.elim
  | _ :: _ :: _, _, P => exact P.elim
theorem m_pop : MetF X "list" rPop (mt0 popD) := by
  intro E M ah H d ds x xs Q q r rs P
  match ds, rs, P with
  | [], rs, P =>
    rw [Reps] at rs; subst rs
    obtain ⟨l, p, zs, vs, rfl, rfl, hp, hl, f, g, P⟩ := onL_ok q r P
    obtain ⟨y, hy, P⟩ := (Post.bind P).of
    have P := P.here q
    obtain ⟨u, hu, ru⟩ := g.get hy
    exact ⟨p, vs, u, rfl, rfl, f, by rw [← g.length]; exact hu, put_lst q hp g.dropLast ru P⟩
  | _ :: _, _, P => exact P.elim
theorem m_popAt : MetF X "list" rPopAt (mt1 popAtD) := by
  intro E M ah H d ds x xs Q q r rs P
  match ds, rs, P with
  | [y], rs, P =>
    obtain ⟨u, rfl, ru⟩ := one_rep rs
    cases y with
    | int i =>
      obtain ⟨l, p, zs, vs, rfl, rfl, hp, hl, f, g, P⟩ := onL_ok q r P
      obtain ⟨hz, P⟩ := P.chk
      obtain ⟨h1, h2⟩ := of_decide_eq_true hz
      obtain ⟨k, hk, P⟩ := (Post.bind P).of
      have P := P.here q
      obtain ⟨y, hy, P⟩ := (Post.bind P).of
      have P := P.here q
      obtain ⟨w, hw, rw'⟩ := g.get hy
      refine ⟨p, vs, i, k, w, rfl, by rw [rep_int ru], f, h1, h2, ?_, hw, put_lst q hp (g.erase k) rw' P⟩
      rw [← g.length]
      exact (ixN_seq (by rw [ixN_eq]; exact hk)).1
    | _ => exact P.elim
  | [], _, P => exact P.elim
  | _ :: _ :: _, _, P => exact P.elim
end
end Sm
end

section
set_option Elab.async false
set_option linter.all false
set_option maxRecDepth 100000
set_option maxHeartbeats 1000000
namespace Sm
open PySem PySem.Spec PyProof.Rows L2
section
variable {X : Cx} {W : WX} {ea eb ec : Expr} {a b c : AE} {pos : Pos}
/-! ### extend -/
open PySem.AutoSeq1 in
/-- xs.extend(t) of a tuple, however the tuple's object came about -/
theorem extend_tup (l t : Addr) (xs ys : Array Value) (n k : Nat) (dd : Option Addr) (sl : Array (Option Value)) (h0 : ¬ (!xs.isEmpty && Builtin.List.listTooLong (xs.size + ys.size)) = true) (h1 : xs.size ≤ sizeLine) (h2 : (xs ++ ys).size ≤ sizeLine + 1) :
    Meets (Builtin.«list.extend» ⟨[.ref l, .ref t], []⟩) (fun _ R s => s.heap.get? l = some { cls := .type "list", data := .seq xs n } ∧ s.heap.get? t = some { cls := .type "tuple", dict := dd, data := .seq ys k, slots := sl } ∧
      R (.ok (.ret Value.none)) { s with heap := s.heap.update l (Obj.mapSeq fun x => x ++ ys) }) :=
  .of_wp fun _ _ _ _ s ⟨hl, hb, hR⟩ => by
    obtain ⟨_, _, _, _, _⟩ := s
    have := AutoSeq1.idx_int; have := AutoSeq1.sub_tuple_tuple; have := AutoSeq1.sub_list_list; have := AutoSeq1.sub_tuple_list; have := AutoSeq1.sub_list_tuple
    wp_walk using (wpAny_updateSeq hl rfl (hz := h1) (_hz' := h2)), wpAny_loadPart' hl, wpAny_loadPart' hb
    exact ⟨_, rfl, hR⟩
def rExtT (K : PySem.W.Frag) : V → List V → Hp → VK → Prop := fun x vs H Q => ∃ l t xs zs, x = .ref l ∧ vs = [.ref t] ∧ H l = some (.lst xs) ∧ SqT K H t zs ∧ xs.length + zs.length ≤ sizeLine ∧ Q .non (upd H l (.lst (xs ++ zs)))
theorem mt_extT : MtR X "list.extend" (rExtT X.K) := by
  intro pins s σ H x vs v us Q I rx rv h
  obtain ⟨l, t, xs, zs, rfl, rfl, hH, hB, hz, q⟩ := h
  cases rx
  obtain ⟨u, rfl, ru⟩ := rv.one
  cases ru
  obtain ⟨z, its, n, r, hl, e⟩ := I.lstM hH
  obtain ⟨its2, r2, ⟨⟨cls, dd, data, sl⟩, ho, hc, n2, hd⟩, hs⟩ := I.tuple hB
  simp only at hc hd
  subst hc hd
  have e2 := r2.length
  have hsz : its.toArray.size + its2.toArray.size ≤ sizeLine := by rw [List.size_toArray, List.size_toArray, ← hl, ← e2]; exact hz
  have hlong : ¬ (!its.toArray.isEmpty && Builtin.List.listTooLong (its.toArray.size + its2.toArray.size)) = true := by
    rw [notLongL hsz, Bool.and_false]
    decide
  refine call_meets PySem.F.slot_list_extend ⟨_, e, rfl⟩ PySem.F.entry_list_extend (PySem.F.args_list_extend_2 _ _)
    (extend_tup l t its.toArray its2.toArray n n2 dd sl hlong (by rw [List.size_toArray]; omega) (by rw [Array.size_append]; omega)) ⟨e, ho, ?_⟩
  exact ⟨.non, _, I.lset (its' := its ++ its2) hH e (by simp) (r.append r2) (by rw [List.length_append]; exact hz), rfl, q⟩
def rExtAll (K : PySem.W.Frag) : V → List V → Hp → VK → Prop := fun x vs H Q => rExtend x vs H Q ∨ rExtT K x vs H Q
theorem mt_extAll : MtR X "list.extend" (rExtAll X.K) := MtR.or mt_extend mt_extT
theorem m_extend : MetF X "list" (rExtAll X.K) (mt1 extendD) := by
  intro E M ah H d ds x xs Q q r rs P
  match ds, rs, P with
  | [y], rs, P =>
    obtain ⟨u, rfl, ru⟩ := one_rep rs
    obtain ⟨l, p, zs, vs, rfl, rfl, hp, hl, f, g, P⟩ := onL_ok q r P
    have lists : ∀ {ys : List D}, lstH ah y = some ys → Post (tb X) E M H (fun d M' _ H' => ∀ v, Rep (tb X) M' H' d v → Q v H') (R.chk (decide (zs.length + ys.length ≤ big)) (.ok .non (ah.set l (.lst (zs ++ ys))))) → rExtAll X.K (.ref p) [u] H Q := fun {ys} hy P => by
      obtain ⟨hz, P⟩ := P.chk
      obtain ⟨p2, us, rfl, f2, g2⟩ := rep_lst q ru hy
      exact .inl ⟨p, p2, vs, us, rfl, rfl, f, f2, by rw [← g.length, ← g2.length, ← big_eq]; exact of_decide_eq_true hz, put_lst q hp (g.app g2) mk_non P⟩
    cases y with
    | loc l' =>
      have P' : Post (tb X) E M H (fun d M' _ H' => ∀ v, Rep (tb X) M' H' d v → Q v H') (if l' = l then .no else match lstH ah (.loc l') with
        | some ys => R.chk (decide (zs.length + ys.length ≤ big)) (.ok .non (ah.set l (.lst (zs ++ ys))))
        | none => .no) := P
      split at P'
      · exact P'.elim
      · split at P'
        · rename_i ys hy
          exact lists hy P'
        · exact P'.elim
    | lst ys => exact lists rfl P
    | tup ys =>
      obtain ⟨hz, P⟩ := Post.chk P
      obtain ⟨p2, us, rfl, f2, g2⟩ := rep_tup ru
      exact .inr ⟨p, p2, vs, us, rfl, rfl, f, f2.sq, by rw [← g.length, ← g2.length, ← big_eq]; exact of_decide_eq_true hz, put_lst q hp (g.app g2) mk_non P⟩
    | _ => exact P.elim
  | [], _, P => exact P.elim
  | _ :: _ :: _, _, P => exact P.elim
/-! ### statements -/
section
variable {st : Stmt} {rest : List Stmt} {s t : AS}
theorem up_post {α : Type} {T : Tb} {M : Mp} {H : Hp} {σ : L2.St} {e : Env} {ah0 : AH} {r : R α} {k : α → AH → R Fl} {D : Ends} (S : Sta T M e ah0 σ H) (P : Post T W0 M H (EndsAt W T D) (up e r k)) :
    Post T (WE W σ) M H (fun a M1 ah1 H1 => Post T W0 M1 H1 (EndsAt W T D) (k a ah1)) r := by
  cases r with
  | ok a ah => exact fun M1 H1 t _ => Post.step t P
  | exc x ah =>
    intro M1 H1 u dx t q x1
    exact P M1 H1 t q σ u dx (S.step t q) x1
  | no => exact P
theorem upI {α : Type} {T : Tb} {M : Mp} {H : Hp} {σ : L2.St} {e : Env} {ah0 : AH} {r : R α} {k : α → AH → R Fl} {D : Ends} {Q : α → Mp → AH → Hp → Prop} (S : Sta T M e ah0 σ H) (P : Post T W0 M H (EndsAt W T D) (up e r k))
    (f : ∀ a M' ah' H', Step M H M' H' → RelH T M' ah' H' → Post T W0 M' H' (EndsAt W T D) (k a ah') → Q a M' ah' H') : Post T (WE W σ) M H Q r := (up_post S P).imp f
theorem z_nil : SSs X W [] (sB []) := PSs.imp pss_nil fun D σ H h => by
  obtain ⟨M, e, ah, S, P⟩ := h
  exact Post.here P S.h σ S
theorem z_cons {ss : List AS} (h1 : SS X W st s) (h2 : SSs X W rest (sB ss)) : SSs X W (st :: rest) (sB (s :: ss)) :=
  PSs.imp (pss_cons h1 h2) fun D σ H h => by
    obtain ⟨M, e, ah, S, P⟩ := h
    refine ⟨M, e, ah, S, Post.bindI P fun f M1 ah1 H1 s1 q1 P1 => ?_⟩
    cases f with
    | nx e1 => exact fun σ' S' => ⟨M1, e1, ah1, S', P1⟩
    | rt d => exact Post.here (W := W0) P1 q1
    | bk e1 => exact Post.here (W := W0) P1 q1
    | ct e1 => exact Post.here (W := W0) P1 q1
    | ex x e1 => exact Post.here (W := W0) P1 q1
theorem z_expr (ha : SE X W ea a) (hs : swapsWith ea none pos.line X.env = pure false := by rfl) : SS X W (.Expr ea pos) (sE a) :=
  PS.imp (ps_expr ha hs) fun D σ H h => by
    obtain ⟨M, e, ah, S, P⟩ := h
    exact ⟨M, e, ah, S, upI S P fun d M1 ah1 H1 s1 q1 P1 v hv => Post.here P1 q1 σ (S.step s1 q1)⟩
theorem Sta.set {T : Tb} {M : Mp} {e : Env} {ah : AH} {σ : L2.St} {H : Hp} (S : Sta T M e ah σ H) {d : D} {v : V} (r : Rep T M H d v) (i : Nat) : Sta T M (e.set i (some d)) ah (σ.set i (some v)) H := by
  refine ⟨S.h, by simp [S.len], fun j z hz => ?_⟩
  by_cases hj : j = i
  · subst hj
    have hl : j < e.length := by
      have := (List.getElem?_eq_some_iff.mp hz).1
      simpa using this
    rw [List.getElem?_set_self hl] at hz
    cases hz
    exact ⟨v, List.getElem?_set_self (by rw [← S.len]; exact hl), r⟩
  · rw [List.getElem?_set_ne (Ne.symm hj)] at hz ⊢
    exact S.slot j z hz
theorem z_set {i : Nat} {x : Str} {p : Pos} (hN : X.N.Nodup) (hi : X.N[i]? = some x) (hx : Loc X.env.scope x) (ha : SE X W ea a) (hs : swapsWith ea (some (.Name x p)) pos.line X.env = pure false := by rfl) (hf : X.fn x = true ∨ X.env.scope.names.lookup x = some .local := by first | exact .inl rfl | exact .inr rfl) : SS X W (.Assign [.Name x p] ea pos) (sSet i a) :=
  PS.imp (ps_set hN hi hx ha hs hf) fun D σ H h => by
    obtain ⟨M, e, ah, S, P⟩ := h
    exact ⟨M, e, ah, S, upI S P fun d M1 ah1 H1 s1 q1 P1 v hv => Post.here P1 q1 _ ((S.step s1 q1).set hv i)⟩
theorem z_if {et : Expr} {u : AB} {as bs : List Stmt} (ht : SB X W et u) (ha : SSs X W as s) (hb : SSs X W bs t) : SS X W (.If et as bs pos) (sIf u s t) :=
  PS.imp (ps_if ht ha hb) fun D σ H h => by
    obtain ⟨M, e, ah, S, P⟩ := h
    refine ⟨M, e, ah, S, upI S P fun k M1 ah1 H1 s1 q1 P1 => ?_⟩
    cases k with
    | true => rw [if_pos rfl]; exact ⟨M1, e, ah1, S.step s1 q1, P1⟩
    | false => rw [if_neg Bool.false_ne_true]; exact ⟨M1, e, ah1, S.step s1 q1, P1⟩
theorem z_ret (ha : SE X W ea a) : SS X W (.Return (some ea) pos) (sRet a) :=
  PS.imp (ps_ret ha) fun D σ H h => by
    obtain ⟨M, e, ah, S, P⟩ := h
    exact ⟨M, e, ah, S, upI S P fun d M1 ah1 H1 s1 q1 P1 v hv => Post.here P1 q1 v hv⟩
theorem z_retN : SS X W (.Return none pos) sRetN := PS.imp ps_retN fun D σ H h => by
  obtain ⟨M, e, ah, S, P⟩ := h
  exact Post.here P S.h _ mk_non
theorem z_break : SS X W (.Break pos) sBrk := PS.imp ps_break fun D σ H h => by
  obtain ⟨M, e, ah, S, P⟩ := h
  exact Post.here P S.h _ S
theorem z_cont : SS X W (.Continue pos) sCt := PS.imp ps_continue fun D σ H h => by
  obtain ⟨M, e, ah, S, P⟩ := h
  exact Post.here P S.h _ S
theorem z_pass : SS X W (.Pass pos) sPass := PS.imp ps_pass fun D σ H h => by
  obtain ⟨M, e, ah, S, P⟩ := h
  exact Post.here P S.h _ S
/-- what is never come to -/
theorem z_no : SS X W st sNo := PS.imp ps_never fun D σ H h => by
  obtain ⟨M, e, ah, S, P⟩ := h
  exact P
theorem z_aug {i : Nat} {x : Str} {p : Pos} {op : Operator} {r : R2} {f : D → D → AH → R D} (ho : OpR X (inplaceOp op) r) (hf : Op2 X r f) (hN : X.N.Nodup) (hi : X.N[i]? = some x) (hx : Loc X.env.scope x) (ha : SE X W ea a) (hq : X.fn x = true ∨ X.env.scope.names.lookup x = some .local := by first | exact .inl rfl | exact .inr rfl) : SS X W (.AugAssign (.Name x p) op ea pos) (sAug i f a) :=
  PS.imp (ps_aug (ti := r) hN hi hx ha ho hq) fun D σ H h => by
    obtain ⟨M, e, ah, S, P⟩ := h
    unfold sAug at P
    split at P
    · rename_i d hd
      obtain ⟨v, hv, rv⟩ := S.slot i d hd
      refine ⟨v, hv, M, e, ah, S, ?_⟩
      have P2 := up_post S P
      exact P2.bind.imp fun y M1 ah1 H1 s1 q1 P1 w hw => hf _ _ _ _ _ _ _ _ _ q1 (rv.step s1) hw (P1.imp fun z M2 ah2 H2 s2 q2 P2 u hu => Post.here P2 q2 _ ((S.step (s1.trans s2) q2).set hu i))
    · exact P.elim
end
end
end Sm
end

section
set_option Elab.async false
set_option linter.all false
set_option maxRecDepth 100000
set_option maxHeartbeats 1000000
namespace Sm
open PySem PySem.Spec PyProof.Rows L2
/-! ### targets -/
def tG (T : Tb) (vs : List Nat) (g : AG) : TG := fun v σ H Q => ∃ M e ah d, Sta T M e ah σ H ∧ Rep T M H d v ∧ Post T W0 M H (fun e1 M1 ah1 H1 => ∀ σ1, Sta T M1 e1 ah1 σ1 H1 → wipe σ1 vs = wipe σ vs → Q σ1 H1) (g d e ah)
abbrev SG (X : Cx) (vs : List Nat) (t : Expr) (g : AG) : Prop := PG X t (tG (tb X) vs g)
theorem PG.imp {X : Cx} {t : Expr} {g g' : TG} (h : PG X t g) (f : ∀ v σ H Q, g' v σ H Q → g v σ H Q) : PG X t g' := ⟨fun pins s σ H v u Q I r q => h.run pins s σ H v u Q I r (f v σ H Q q)⟩
theorem wipe_set {σ : L2.St} {i : Nat} {x : Option V} : ∀ {vs : List Nat}, i ∈ vs → wipe (σ.set i x) vs = wipe σ vs
  | [], h => by simp at h
  | v :: vs, h => by
    show (wipe (σ.set i x) vs).set v none = (wipe σ vs).set v none
    by_cases hi : i ∈ vs
    · rw [wipe_set hi]
    · have e : i = v := by
        rcases List.mem_cons.mp h with e | e
        · exact e
        · exact absurd e hi
      subst e
      have key : ∀ (ws : List Nat), i ∉ ws → wipe (σ.set i x) ws = (wipe σ ws).set i x := by
        intro ws
        induction ws with
        | nil => intro _; rfl
        | cons w ws ih =>
          intro hw
          show (wipe (σ.set i x) ws).set w none = ((wipe σ ws).set w none).set i x
          rw [ih fun z => hw (List.mem_cons_of_mem _ z), List.set_comm _ _ fun z => hw (by rw [z]; exact List.mem_cons_self)]
      rw [key vs hi, List.set_set]
section
variable {X : Cx} {W : WX} {ea eb ec : Expr} {a b c : AE} {pos : Pos}
theorem g_name {i : Nat} {x : Str} {vs : List Nat} (hN : X.N.Nodup) (hi : X.N[i]? = some x) (hx : Loc X.env.scope x) (hv : i ∈ vs) (hf : X.fn x = true ∨ X.env.scope.names.lookup x = some .local := by first | exact .inl rfl | exact .inr rfl) : SG X vs (.Name x pos) (gV i) :=
  PG.imp (pg_name hN hi hx hf) fun v σ H Q h => by
    obtain ⟨M, e, ah, d, S, r, P⟩ := h
    exact Post.here P S.h _ (S.set r i) (wipe_set hv)
def tGs (T : Tb) (vs : List Nat) (gs : List AG) : TGs := fun us σ H Q => ∃ M e ah ds, Sta T M e ah σ H ∧ Reps T M H ds us ∧ Post T W0 M H (fun e1 M1 ah1 H1 => ∀ σ1, Sta T M1 e1 ah1 σ1 H1 → wipe σ1 vs = wipe σ vs → Q σ1 H1) (gTs gs ds e ah)
abbrev SGs (X : Cx) (vs : List Nat) (t : List Expr) (g : List AG) : Prop := PGs X t (tGs (tb X) vs g)
theorem PGs.imp {X : Cx} {t : List Expr} {g g' : TGs} (h : PGs X t g) (f : ∀ v σ H Q, g' v σ H Q → g v σ H Q) : PGs X t g' := ⟨fun pins s σ H v u Q I r q => h.run pins s σ H v u Q I r (f v σ H Q q)⟩
theorem gs_nil {vs : List Nat} : SGs X vs [] [] := PGs.imp pgs_nil fun us σ H Q h => by
  obtain ⟨M, e, ah, ds, S, r, P⟩ := h
  cases ds with
  | nil => rw [Reps] at r; exact ⟨r, Post.here P S.h σ S rfl⟩
  | cons _ _ => exact P.elim
theorem gs_cons {vs : List Nat} {t : Expr} {ts : List Expr} {g : AG} {gs : List AG} (h1 : SG X vs t g) (h2 : SGs X vs ts gs) (hs : (assignEach (t :: ts) X.env).map (·.2) = assign t X.env :: (assignEach ts X.env).map (·.2) := by rfl) : SGs X vs (t :: ts) (g :: gs) :=
  PGs.imp (pgs_cons h1 h2 hs) fun us σ H Q h => by
    obtain ⟨M, e, ah, ds, S, r, P⟩ := h
    cases ds with
    | nil => exact P.elim
    | cons d ds =>
      rw [Reps] at r
      obtain ⟨x, xs, rfl, f, k⟩ := r
      refine ⟨x, xs, rfl, M, e, ah, d, S, f, Post.bindI P fun e1 M1 ah1 H1 s1 q1 P1 σ1 S1 w1 => ?_⟩
      exact ⟨M1, e1, ah1, ds, S1, k.step s1, P1.imp fun e2 M2 ah2 H2 s2 q2 P2 σ2 S2 w2 => P2 σ2 S2 (w2.trans w1)⟩
theorem g_tup {vs : List Nat} {ts : List Expr} {gs : List AG} {k n : Nat} (hc : X.calm = true) (h : SGs X vs ts gs) (hl : gs.length = n) (hn : (assignEach ts X.env).length = n := by rfl) (hst : (assignEach ts X.env).findIdx? (·.1) = none := by rfl) : SG X vs (.Tuple ts k pos) (gT gs) :=
  PG.imp (pg_tup hc h hn hst) fun v σ H Q h => by
    obtain ⟨M, e, ah, d, S, r, P⟩ := h
    cases d with
    | tup ds =>
      obtain ⟨hz, P⟩ := Post.chk P
      obtain ⟨p, us, rfl, f, g⟩ := rep_tup r
      exact ⟨p, us, rfl, f.sq, by rw [← g.length, of_decide_eq_true hz, hl], M, e, ah, ds, S, g, P⟩
    | _ => exact P.elim
theorem z_asg {g : AG} {tg : Expr} {vs : List Nat} (ha : SE X W ea a) (hg : SG X vs tg g) (hs : swapsWithSole [tg] ea pos.line X.env = pure false := by rfl) (hw : swappedStores [tg] ea X.env = pure none := by rfl)
    (h1 : (assignEach [tg] X.env).map (·.2) = [assign tg X.env] := by rfl) : SS X W (.Assign [tg] ea pos) (sAsg g a) :=
  PS.imp (ps_asg ha hg hs hw h1) fun D σ H h => by
    obtain ⟨M, e, ah, S, P⟩ := h
    refine ⟨M, e, ah, S, upI S P fun d M1 ah1 H1 s1 q1 P1 v hv => ?_⟩
    exact ⟨M1, e, ah1, d, S.step s1 q1, hv, Post.bindI P1 fun e2 M2 ah2 H2 s2 q2 P2 σ2 S2 _ => Post.here P2 q2 σ2 S2⟩
/-- o[i] = v by values -/
def Set3 (X : Cx) (r : TSet) (f : D → D → D → AH → R D) : Prop := ∀ (E : XK) M ah H do_ di dv o i v Q, RelH (tb X) M ah H → Rep (tb X) M H do_ o → Rep (tb X) M H di i → Rep (tb X) M H dv v → Post (tb X) E M H (fun _ M' ah' H' => Q H') (f do_ di dv ah) → r o i v H Q
theorem z_sub {r : TSet} {f : D → D → D → AH → R D} {p : Pos} (hr : PSet X r) (hf : Set3 X r f) (ho : SE X W ea a) (hi : SE X W eb b) (hv : SE X W ec c)
    (hs : swapsWithSole [.Subscript ea eb p] ec pos.line X.env = pure false := by rfl) (hw : swappedStores [.Subscript ea eb p] ec X.env = pure none := by rfl) (h1 : (assignEach [.Subscript ea eb p] X.env).map (·.2) = [assign (.Subscript ea eb p) X.env] := by rfl)
    (ha : ∀ v, assign (.Subscript ea eb p) X.env v = (do
      let ov ← holding [v] (eval ea X.env)
      let iv ← holding [v, ov] (eval eb X.env)
      standAt p
      holding [v, ov, iv] (setItem ov iv v)
      release [v, ov, iv] []) := by intro _; rfl) : SS X W (.Assign [.Subscript ea eb p] ec pos) (sSub f a b c) :=
  PS.imp (ps_asg hv (pg_sub ho hi hr ha) hs hw h1) fun D σ H h => by
    obtain ⟨M, e, ah, S, P⟩ := h
    have P := (up_post S P).bind
    refine ⟨M, e, ah, S, P.imp fun dv M1 ah1 H1 s1 q1 P1 v rv => ?_⟩
    refine ⟨M1, e, ah1, S.step s1 q1, P1.bindI fun do_ M2 ah2 H2 s2 q2 P2 o ro => ?_⟩
    refine ⟨M2, e, ah2, (S.step s1 q1).step s2 q2, P2.bindI fun di M3 ah3 H3 s3 q3 P3 i ri => ?_⟩
    refine hf _ _ _ _ _ _ _ _ _ _ _ q3 (ro.step s3) ri (rv.step (s2.trans s3)) (P3.imp fun z M4 ah4 H4 s4 q4 P4 => ?_)
    exact Post.here P4 q4 σ (S.step (((s1.trans s2).trans s3).trans s4) q4)
theorem set3_list : Set3 X rSetL setIxD := by
  intro E M ah H do_ di dv o i v Q q ro ri rv P
  cases di with
  | int k =>
    obtain ⟨l, p, xs, vs, rfl, rfl, hp, hl, f, g, P⟩ := onL_ok q ro P
    obtain ⟨j, hj, P⟩ := (Post.bind P).of
    have P := P.here q
    refine ⟨p, vs, k, j, rfl, rep_int ri, f, by rw [← g.length]; exact hj, ?_⟩
    obtain ⟨s, q2⟩ := q.put (o := .lst (vs.set j v)) (u := .lst (xs.set j dv)) hp fun s => ⟨_, upd_same, (g.set rv j).step s⟩
    exact P M _ s q2
  | _ => exact P.elim
/-! ### what a loop walks -/
def SrcJ (T : Tb) (M0 : Mp) (H0 : Hp) (s : Src) (J : It) : Prop := ∀ M H ah, Step M0 H0 M H → RelH T M ah H → ∀ i : Nat,
  (∀ d, nxt s i ah = some (some d) → J.go i H ∧ ∀ x H', J.yld i H x H' → ∃ M', Step M H M' H' ∧ RelH T M' ah H' ∧ Rep T M' H' d x) ∧ (nxt s i ah = some none → J.stop i H)
def tI (W : WX) (T : Tb) (it : AI) : TI := fun σ H R => ∃ M e ah, Sta T M e ah σ H ∧ Post T (WE W σ) M H (fun s M1 ah1 H1 => ∀ J, SrcJ T M1 H1 s J → R J H1) (it e ah)
abbrev SI (X : Cx) (W : WX) (tg iter : Expr) (it : AI) : Prop := PI X tg iter (tI W (tb X) it)
theorem PI.imp {tg iter : Expr} {w w' : TI} (h : PI X tg iter w) (f : ∀ σ H R, w' σ H R → w σ H R) : PI X tg iter w' := ⟨fun pins s σ H R I q => h.run pins s σ H R I (f σ H R q)⟩
def iSeq (K : PySem.W.Frag) (tl : TE) : TI := fun σ H R => tl σ H fun x H1 => ∃ a, x = .ref a ∧ (((∃ xs, SqL K H1 a xs) ∧ R (Itl K a) H1) ∨ ((∃ xs, SqT K H1 a xs) ∧ R (Itt K a) H1))
theorem pi_seq {tg l : Expr} {tl : TE} (hl : PE X l tl) : PI X tg l (iSeq X.K tl) := by
  refine ⟨fun pins s σ H R I h => ?_⟩
  refine thn (hl.run pins s σ H _ I h) fun v s1 ⟨x, H1, I1, r1, a, e, q⟩ => ?_
  subst e
  cases r1
  have mine : ∀ b ∈ [s1.heap.objs.size], FpOk X pins H1 b := fun b hb => by
    have e : b = s1.heap.objs.size := by simpa using hb
    subst e
    exact I1.fpOk (Nat.le_refl _) (I1.hok.fresh (Nat.le_refl _))
  rcases q with ⟨⟨xs, hq⟩, q⟩ | ⟨⟨xs, hq⟩, q⟩
  · obtain ⟨its, rv, p, hz⟩ := I1.list hq
    refine wpAny_pyIter_list p.isList ?_
    exact ⟨s1.heap.objs.size, [s1.heap.objs.size], _, _, H1, rfl, I1.kept (t' := s1.toks) fun b o e => Heap.get?_push_of_some _ e, turn_list a _, ⟨_, Heap.get?_push_size _ rfl, rfl, rfl⟩, mine, q⟩
  · obtain ⟨its, rv, p, hz⟩ := I1.tuple hq
    refine wpAny_pyIter_tuple (show s1.heap.IsTuple a its.toArray from p) ?_
    exact ⟨s1.heap.objs.size, [s1.heap.objs.size], _, _, H1, rfl, I1.kept (t' := s1.toks) fun b o e => Heap.get?_push_of_some _ e, turn_tuple a _, ⟨_, Heap.get?_push_size _ rfl, rfl, rfl⟩, mine, q⟩
theorem nxt_lst {xs : List D} {i : Nat} {ah : AH} {o : Option D} (h : nxt (.lst xs) i ah = some o) : xs[i]? = o := Option.some.inj h
/-- a sequence that stands still -/
theorem srcJ_still {T : Tb} {M0 : Mp} {H0 : Hp} {xs : List D} {J : It} (vs : List V) (r : Reps T M0 H0 xs vs) (h : ∀ M H, Step M0 H0 M H → ∀ i : Nat, (∀ v, vs[i]? = some v → J.go i H ∧ ∀ x H', J.yld i H x H' → H' = H ∧ x = v) ∧ (vs.length ≤ i → J.stop i H)) : SrcJ T M0 H0 (.lst xs) J := by
  intro M H ah s q i
  obtain ⟨h1, h2⟩ := h M H s i
  refine ⟨fun d hd => ?_, fun hn => h2 ?_⟩
  · obtain ⟨v, e, rv⟩ := r.get (nxt_lst hd)
    obtain ⟨g, y⟩ := h1 v e
    refine ⟨g, fun x H' hy => ?_⟩
    obtain ⟨rfl, rfl⟩ := y x H' hy
    exact ⟨M, Step.refl _ _, q, rv.step s⟩
  · rw [← r.length]
    exact List.getElem?_eq_none_iff.mp (nxt_lst hn)
theorem itl_still {K : PySem.W.Frag} {H : Hp} {a : Addr} {vs : List V} (h : SqL K H a vs) (u : ∀ ys, SqL K H a ys → ys = vs) (i : Nat) : (∀ v, vs[i]? = some v → (Itl K a).go i H ∧ ∀ x H', (Itl K a).yld i H x H' → H' = H ∧ x = v) ∧ (vs.length ≤ i → (Itl K a).stop i H) :=
  ⟨fun v e => ⟨⟨vs, v, h, e⟩, fun x H' y => ⟨y.1, Option.some.inj ((y.2 vs h).symm.trans e)⟩⟩, fun l => ⟨vs, h, l⟩⟩
theorem itt_still {K : PySem.W.Frag} {H : Hp} {a : Addr} {vs : List V} (h : SqT K H a vs) (i : Nat) : (∀ v, vs[i]? = some v → (Itt K a).go i H ∧ ∀ x H', (Itt K a).yld i H x H' → H' = H ∧ x = v) ∧ (vs.length ≤ i → (Itt K a).stop i H) :=
  ⟨fun v e => ⟨⟨vs, v, h, e⟩, fun x H' y => ⟨y.1, Option.some.inj ((y.2 vs h).symm.trans e)⟩⟩, fun l => ⟨vs, h, l⟩⟩
theorem i_seq {tg : Expr} (ha : SE X W ea a) : SI X W tg ea (iS a) :=
  PI.imp (pi_seq ha) fun σ H R h => by
    obtain ⟨M, e, ah, S, P⟩ := h
    refine ⟨M, e, ah, S, P.bindI fun d M1 ah1 H1 s1 q1 P1 v hv => ?_⟩
    cases d with
    | loc l =>
      have P1' : Post (tb X) (WE W σ) M1 H1 (fun s M1 ah1 H1 => ∀ J, SrcJ (tb X) M1 H1 s J → R J H1) (match ah1[l]? with
        | some (.lst _) => .ok (.live l) ah1
        | _ => .no) := P1
      split at P1'
      · rename_i xs hl
        have P1 := Post.here P1' q1
        obtain ⟨p, vs, rfl, hp, f, g⟩ := rep_loc q1 hv hl
        refine ⟨p, rfl, .inl ⟨⟨vs, SqL.of f⟩, P1 _ fun M2 H2 ah2 s2 q2 i => ?_⟩⟩
        have hp2 := s2.get hp
        have key : ∀ {ys : List D}, ah2[l]? = some (.lst ys) → ∃ us, H2 p = some (.lst us) ∧ Reps (tb X) M2 H2 ys us := fun {ys} e => q2.obj l p _ hp2 e
        constructor
        · intro d hd
          unfold nxt at hd
          dsimp only at hd
          split at hd
          · rename_i ys e
            obtain ⟨us, f2, g2⟩ := key e
            obtain ⟨u, hu, ru⟩ := g2.get (Option.some.inj hd)
            refine ⟨⟨us, u, SqL.of f2, hu⟩, fun x H' y => ?_⟩
            obtain ⟨rfl, y⟩ := y
            have := (y us (SqL.of f2)).symm.trans hu
            cases this
            exact ⟨M2, Step.refl _ _, q2, ru⟩
          · cases hd
        · intro hn
          unfold nxt at hn
          dsimp only at hn
          split at hn
          · rename_i ys e
            obtain ⟨us, f2, g2⟩ := key e
            exact ⟨us, SqL.of f2, by rw [← g2.length]; exact List.getElem?_eq_none_iff.mp (Option.some.inj hn)⟩
          · cases hn
      · exact P1'.elim
    | tup xs =>
      have P1 := Post.here P1 q1
      obtain ⟨p, vs, rfl, f, g⟩ := rep_tup hv
      exact ⟨p, rfl, .inr ⟨⟨vs, f.sq⟩, P1 _ (srcJ_still vs g fun M2 H2 s2 i => itt_still (f.mono s2.mono).sq i)⟩⟩
    | lst xs =>
      have P1 := Post.here P1 q1
      obtain ⟨p, vs, rfl, f, g⟩ := (show ∃ p vs, v = .ref p ∧ FL M1 H1 p vs ∧ Reps (tb X) M1 H1 xs vs by rwa [Rep] at hv)
      exact ⟨p, rfl, .inl ⟨⟨vs, f.sq⟩, P1 _ (srcJ_still vs g fun M2 H2 s2 i => ⟨fun w e => ⟨⟨vs, w, (f.mono s2.mono).sq, e⟩, fun x H' y => ⟨y.1, Option.some.inj ((y.2 vs (f.mono s2.mono).sq).symm.trans e)⟩⟩, fun l => ⟨vs, (f.mono s2.mono).sq, l⟩⟩)⟩⟩
    | scr xs =>
      have P1 := Post.here P1 q1
      obtain ⟨p, vs, rfl, f, g⟩ := (show ∃ p vs, v = .ref p ∧ FS X.K M1 H1 p vs ∧ Reps (tb X) M1 H1 xs vs by rwa [Rep] at hv)
      exact ⟨p, rfl, .inl ⟨⟨vs, f.sq⟩, P1 _ (srcJ_still vs g fun M2 H2 s2 i => ⟨fun w e => ⟨⟨vs, w, (f.mono (T := tb X) s2.mono).sq, e⟩, fun x H' y => ⟨y.1, Option.some.inj ((y.2 vs (f.mono (T := tb X) s2.mono).sq).symm.trans e)⟩⟩, fun l => ⟨vs, (f.mono (T := tb X) s2.mono).sq, l⟩⟩)⟩⟩
    | _ => exact P1.elim
theorem srcJ_rng {T : Tb} {M0 : Mp} {H0 : Hp} {lo : Int} {n : Nat} : SrcJ T M0 H0 (.lst (rng lo n)) (Itr lo n) := by
  intro M H ah s q i
  have len : (rng lo n).length = n := by simp [rng]
  refine ⟨fun d hd => ?_, fun hn => ?_⟩
  · have hd := nxt_lst hd
    have hi : i < n := by have := (List.getElem?_eq_some_iff.mp hd).1; rwa [len] at this
    refine ⟨hi, fun x H' y => ?_⟩
    obtain ⟨rfl, rfl⟩ := y
    refine ⟨M, Step.refl _ _, q, ?_⟩
    have e : d = .int (lo + i) := by
      unfold rng at hd
      rw [List.getElem?_map, List.getElem?_range hi] at hd
      exact (Option.some.inj hd).symm
    rw [e, Rep]
  · have := List.getElem?_eq_none_iff.mp (nxt_lst hn)
    rw [len] at this
    exact this
theorem i_rng1 {tg : Expr} {x : Str} {p : Pos} (hx : x = "range") (hg : Gl X x) (hm : X.mg x = none) (ha : SE X W ea a) (hs : starEach [ea] X.env = [(false, eval ea X.env)] := by rfl) (hs' : starEach [ea] X.env = (false, eval ea X.env) :: starEach [] X.env := by rfl) : SI X W tg (.Call (.Name x p) [ea] [] pos) (iR1 a) := by
  subst hx
  refine PI.imp (pi_range1 hg hm (pa_cons ha pa_nil hs') hs) fun σ H R h => ?_
  obtain ⟨M, e, ah, S, P⟩ := h
  refine ⟨M, e, ah, S, P.bindI fun d M1 ah1 H1 s1 q1 P1 v hv => ?_⟩
  cases d with
  | int j =>
    obtain ⟨hz, P1⟩ := Post.chk P1
    obtain ⟨z1, z2⟩ := (inI_iff _).mp hz
    exact ⟨j, by rw [rep_int hv], z1, z2, Post.here P1 q1 _ srcJ_rng⟩
  | _ => exact P1.elim
theorem i_rng2 {tg : Expr} {x : Str} {p : Pos} (hx : x = "range") (hg : Gl X x) (hm : X.mg x = none) (ha : SE X W ea a) (hb : SE X W eb b) (hs : starEach [ea, eb] X.env = [(false, eval ea X.env), (false, eval eb X.env)] := by rfl) (hs2 : starEach [eb] X.env = [(false, eval eb X.env)] := by rfl)
    (hs' : starEach [ea, eb] X.env = (false, eval ea X.env) :: starEach [eb] X.env := by rfl) (hs2' : starEach [eb] X.env = (false, eval eb X.env) :: starEach [] X.env := by rfl) : SI X W tg (.Call (.Name x p) [ea, eb] [] pos) (iR2 a b) := by
  subst hx
  refine PI.imp (pi_range2 hg hm (pa_cons ha (pa_cons hb pa_nil hs2') hs') hs hs2) fun σ H R h => ?_
  obtain ⟨M, e, ah, S, P⟩ := h
  refine ⟨M, e, ah, S, P.bindI fun d M1 ah1 H1 s1 q1 P1 v hv => ?_⟩
  refine ⟨M1, e, ah1, S.step s1 q1, P1.bindI fun d2 M2 ah2 H2 s2 q2 P2 v2 hv2 => ?_⟩
  cases d with
  | int i =>
    cases d2 with
    | int j =>
      obtain ⟨hz, P2⟩ := Post.chk P2
      rw [Bool.and_eq_true] at hz
      obtain ⟨z1, z2⟩ := (inI_iff _).mp hz.1
      obtain ⟨z3, z4⟩ := (inI_iff _).mp hz.2
      exact ⟨i, j, by rw [rep_int hv, rep_int hv2], ⟨z1, z2, z3, z4⟩, Post.here P2 q2 _ srcJ_rng⟩
    | _ => exact P2.elim
  | _ => exact P2.elim
/-! ### for, while -/
theorem z_for {iter tg : Expr} {body : List Stmt} {it : AI} {g : AG} {s : AS} {vs : List Nat} (hp : PassesOwn (model X.prog X.w) X.A X.env X.xe) (hc : X.calm = true) (hi : SI X W tg iter it) (hg : SG X vs tg g) (hb : SSs X W body s)
    (hs : ∀ x, foldedSetIterable iter X.env x = pure x := by intro _; rfl) : SS X W (.For tg iter body [] pos) (sFor it g s) :=
  PS.imp (ps_for hp hc hi hg hb hs) fun D σ H h => by
    obtain ⟨M, e, ah, S, P⟩ := h
    refine ⟨M, e, ah, S, upI S P fun sr M1 ah1 H1 s1 q1 P1 J hJ => ?_⟩
    refine ⟨fun i m σ' H' => ∃ M' e' ah', Sta (tb X) M' e' ah' σ' H' ∧ Step M1 H1 M' H' ∧ Post (tb X) W0 M' H' (EndsAt W (tb X) D) (forN g s sr m i e' ah'), ⟨sr.fuel, M1, e, ah1, S.step s1 q1, Step.refl _ _, P1⟩, ?_⟩
    rintro i m σ' H' ⟨M', e', ah', S', st', P'⟩
    obtain ⟨go, stop⟩ := hJ M' H' ah' st' S'.h i
    cases m with
    | zero => exact P'.elim
    | succ m =>
      unfold forN at P'
      cases hn : nxt sr i ah' with
      | none => rw [hn] at P'; exact P'.elim
      | some o =>
        rw [hn] at P'
        cases o with
        | none => exact .inl ⟨stop hn, Post.here P' S'.h σ' S'⟩
        | some d =>
          obtain ⟨g0, yl⟩ := go d hn
          refine .inr ⟨g0, fun σ2 H2 => ∃ M2 e2 ah2, Sta (tb X) M2 e2 ah2 σ2 H2 ∧ Step M1 H1 M2 H2 ∧ Post (tb X) W0 M2 H2 (EndsAt W (tb X) D) (forN g s sr m (i + 1) e2 ah2), fun σ2 H2 h2 => ⟨m, Nat.lt_succ_self m, h2⟩, fun x H3 hy => ?_⟩
          obtain ⟨M3, s3, q3, r3⟩ := yl x H3 hy
          have P' : Post (tb X) W0 M' H' (EndsAt W (tb X) D) ((g d e' ah').bind fun e1 h1 => (s e1 h1).bind fun f h2 => turn f h2 (forN g s sr m (i + 1))) := P'
          refine ⟨M3, e', ah', d, S'.step s3 q3, r3, Post.bindI (P'.step s3) fun e4 M4 ah4 H4 s4 q4 P4 σ4 S4 _ => ?_⟩
          refine ⟨M4, e4, ah4, S4, Post.bindI P4 fun f M5 ah5 H5 s5 q5 P5 => ?_⟩
          have tot := ((st'.trans s3).trans s4).trans s5
          cases f with
          | nx e5 => exact fun σ5 S5 => ⟨M5, e5, ah5, S5, tot, P5⟩
          | ct e5 => exact fun σ5 S5 => ⟨M5, e5, ah5, S5, tot, P5⟩
          | bk e5 => exact fun σ5 S5 => Post.here (W := W0) P5 q5 σ5 S5
          | rt d5 => exact Post.here (W := W0) P5 q5
          | ex x5 e5 => exact Post.here (W := W0) P5 q5
theorem z_while {et : Expr} {body : List Stmt} {t : AB} {s : AS} (hp : PassesOwn (model X.prog X.w) X.A X.env X.xe) (ht : SB X W et t) (hb : SSs X W body s) : SS X W (.While et body [] pos) (sWhile t s) :=
  PS.imp (ps_while hp ht hb) fun D σ H h => by
    obtain ⟨M, e, ah, S, P⟩ := h
    refine ⟨fun m σ' H' => ∃ M' e' ah', Sta (tb X) M' e' ah' σ' H' ∧ Post (tb X) W0 M' H' (EndsAt W (tb X) D) (whileN t s m e' ah'), ⟨_, M, e, ah, S, P⟩, ?_⟩
    rintro m σ' H' ⟨M', e', ah', S', P'⟩
    cases m with
    | zero => exact ⟨M', e', ah', S', P'.elim⟩
    | succ m =>
      unfold whileN at P'
      refine ⟨M', e', ah', S', upI S' P' fun k M1 ah1 H1 s1 q1 P1 => ?_⟩
      cases k with
      | false =>
        rw [if_neg Bool.false_ne_true]
        exact Post.here (W := W0) P1 q1 σ' (S'.step s1 q1)
      | true =>
        rw [if_pos rfl]
        refine ⟨fun σ2 H2 => ∃ M2 e2 ah2, Sta (tb X) M2 e2 ah2 σ2 H2 ∧ Post (tb X) W0 M2 H2 (EndsAt W (tb X) D) (whileN t s m e2 ah2), fun σ2 H2 h2 => ⟨m, Nat.lt_succ_self m, h2⟩, ?_⟩
        have P1 : Post (tb X) W0 M1 H1 (EndsAt W (tb X) D) ((s e' ah1).bind fun f h2 => turn f h2 (whileN t s m)) := P1
        refine ⟨M1, e', ah1, S'.step s1 q1, Post.bindI P1 fun f M5 ah5 H5 s5 q5 P5 => ?_⟩
        cases f with
        | nx e5 => exact fun σ5 S5 => ⟨M5, e5, ah5, S5, P5⟩
        | ct e5 => exact fun σ5 S5 => ⟨M5, e5, ah5, S5, P5⟩
        | bk e5 => exact fun σ5 S5 => Post.here (W := W0) P5 q5 σ5 S5
        | rt d5 => exact Post.here (W := W0) P5 q5
        | ex x5 e5 => exact Post.here (W := W0) P5 q5
end
end Sm
end

section
set_option Elab.async false
set_option linter.all false
set_option maxRecDepth 100000
set_option maxHeartbeats 1000000
namespace Sm
open PySem PySem.Spec PyProof.Rows L2
/-! ### comprehensions -/
abbrev WF : WX := fun _ _ _ _ => False
section
variable {α β : Type} {T : Tb} {W : XK} {M M' : Mp} {H H' : Hp}
theorem Post.nox {P : β → Mp → AH → Hp → Prop} {f : α → AH → R β} : ∀ {r : R α}, Post T W M H P (r.nox.bind f) → ∃ a ah, r = .ok a ah ∧ Post T W M H P (f a ah)
  | .ok a ah, h => ⟨a, ah, rfl, h⟩
  | .exc _ _, h => h.elim
  | .no, h => h.elim
theorem Post.ofOk {P : α → Mp → AH → Hp → Prop} {r : R α} {a : α} {ah : AH} (e : r = .ok a ah) (h : ∀ M' H', Step M H M' H' → RelH T M' ah H' → P a M' ah H') : Post T W M H P r := by
  rw [e]; exact h
theorem Sta.mono {e : Env} {ah : AH} {σ : L2.St} (S : Sta T M e ah σ H) (s : Mono M M' H H') (q : RelH T M' ah H') : Sta T M' e ah σ H' :=
  ⟨q, S.len, fun i d g => let ⟨v, a, b⟩ := S.slot i d g; ⟨v, a, b.mono s⟩⟩
theorem wipeE_len (e : Env) : ∀ vs : List Nat, (wipeE e vs).length = e.length
  | [] => rfl
  | v :: vs => by rw [wipeE, List.length_set, wipeE_len e vs]
theorem Sta.wipe {e : Env} {ah : AH} {σ : L2.St} (S : Sta T M e ah σ H) : ∀ vs : List Nat, Sta T M (wipeE e vs) ah (L2.wipe σ vs) H
  | [] => S
  | v :: vs => by
    have S' := Sta.wipe S vs
    refine ⟨S'.h, by rw [wipeE_len, wipe_length, S.len], fun i d hd => ?_⟩
    rw [wipeE] at hd
    show ∃ x, ((L2.wipe σ vs).set v none)[i]? = some (some x) ∧ _
    by_cases hi : i = v
    · subst hi
      by_cases hl : i < (wipeE e vs).length
      · rw [List.getElem?_set_self hl] at hd; cases hd
      · rw [List.getElem?_eq_none (by simpa using hl)] at hd; cases hd
    · rw [List.getElem?_set_ne (Ne.symm hi)] at hd
      rw [List.getElem?_set_ne (Ne.symm hi)]
      exact S'.slot i d hd
end
theorem wipe_get (σ : L2.St) (i : Nat) : ∀ vs : List Nat, (L2.wipe σ vs)[i]? = if i ∈ vs ∧ i < σ.length then some none else σ[i]?
  | [] => by simp [L2.wipe]
  | v :: vs => by
    show ((L2.wipe σ vs).set v none)[i]? = _
    rw [List.getElem?_set, wipe_get σ i vs, wipe_length]
    by_cases h : v = i
    · subst h
      by_cases hl : v < σ.length
      · simp [hl]
      · simp [hl]
    · rw [if_neg h]
      by_cases hl : i ∈ vs
      · simp [hl]
      · simp [hl, Ne.symm h]
theorem wipe_wipe (σ : L2.St) (vs : List Nat) : L2.wipe (L2.wipe σ vs) vs = L2.wipe σ vs := by
  refine List.ext_getElem? fun i => ?_
  rw [wipe_get, wipe_get σ, wipe_length]
  by_cases h : i ∈ vs ∧ i < σ.length
  · rw [if_pos h, if_pos h]
  · rw [if_neg h]
theorem lc_read {T : Tb} {W : WX} {fz : Bool} {vs : List Nat} {it : AI} {g : AG} {t : AB} {a : AE} {σ : L2.St} {H : Hp} {Q : VK} (h : tE W T (eLC fz vs it g t a) σ H Q) :
    tLc (tI W T it) (tG T vs g) (tT WF T t) (tE WF T a) vs σ H Q := by
  obtain ⟨M, e, ah, S, P⟩ := h
  refine ⟨M, e, ah, S, P.bindI fun sr M1 ah1 H1 s1 q1 P1 J hJ p hp => ?_⟩
  have f1 := q1.offNew hp
  -- the new list: nothing leans on it
  let N1 : Mp := ⟨M1.m, M1.ex ++ [p]⟩
  have sN : Step M1 H1 N1 (upd H1 p (.lst [])) := ⟨⟨[], by simp [N1], by simp⟩, ⟨[p], rfl, by simpa using hp⟩, fun b o e _ => by rw [upd_ne (ne_of_none e hp)]; exact e, (step_new (M := M1) (.lst []) hp).there⟩
  have qN : RelH T N1 ah1 (upd H1 p (.lst [])) := by
    refine ⟨q1.len, q1.nd, fun b hb z => ?_, fun b hb => ?_, fun l b o e1 e2 => ?_⟩
    · rcases List.mem_append.mp z with z | z
      · exact q1.off b hb z
      · simp at z; exact f1.1 (z ▸ hb)
    · rcases List.mem_append.mp hb with z | z
      · exact sN.there b (q1.exs b z)
      · simp at z; subst z; rw [upd_same]; simp
    · exact (q1.obj l b o e1 e2).step sN (upd_ne fun z => f1.1 (by rw [← z]; exact List.mem_of_getElem? e1))
  refine ⟨fun i m H' => ∃ M' ah' acc us, H' p = some (.lst us) ∧ Sta T M' (wipeE e vs) ah' (wipe σ vs) H' ∧ Step M1 H1 M' H' ∧ p ∈ M'.ex ∧ Reps T M' H' acc us ∧
    Post T (WE W σ) M1 H1 (fun d M' _ H' => ∀ v, Rep T M' H' d v → Q v H') ((lcN g t a (wipeE e vs) sr m i acc ah').bind fun ys h2 => mkL fz ys h2), ⟨sr.fuel, N1, ah1, [], [], upd_same, (((S.step s1 q1).wipe vs).step sN qN), sN, (by simp [N1]), Reps.nil, P1⟩, ?_⟩
  rintro i m H' ⟨M', ah', acc, us, hD, S', st', pex, ra, P'⟩
  obtain ⟨go, stop⟩ := hJ M' H' ah' st' S'.h i
  cases m with
  | zero => exact P'.elim
  | succ m =>
    unfold lcN at P'
    cases hn : nxt sr i ah' with
    | none => rw [hn] at P'; exact P'.elim
    | some o =>
      rw [hn] at P'
      cases o with
      | none =>
        -- the end: the list is handed out
        refine .inl ⟨stop hn, ?_⟩
        have P' : Post T (WE W σ) M1 H1 (fun d M' _ H' => ∀ v, Rep T M' H' d v → Q v H') (mkL fz acc ah') := P'
        obtain ⟨r1, e1, k1⟩ := st'.pre
        obtain ⟨r2, e2, k2⟩ := st'.ex
        have pm : p ∉ M'.m := fun z => S'.h.off p z pex
        let r3 := r2.filter fun b => b ≠ p
        have r3r : ∀ b ∈ r3, b ∈ r2 := fun b hb => (List.mem_filter.mp hb).1
        have r3p : p ∉ r3 := fun z => by have := (List.mem_filter.mp z).2; simp at this
        have sub : ∀ b ∈ M1.ex ++ r3, b ∈ M'.ex := fun b hb => by
          rw [e2]
          rcases List.mem_append.mp hb with z | z
          · exact List.mem_append_left _ z
          · exact List.mem_append_right _ (r3r b z)
        have pno : p ∉ M1.ex ++ r3 := fun z => by
          rcases List.mem_append.mp z with z | z
          · exact f1.2 z
          · exact r3p z
        cases fz with
        | true =>
          let M2 : Mp := ⟨M'.m, M1.ex ++ r3⟩
          have mo : Mono M' M2 H' H' := ⟨fun _ _ h => h, fun b _ f _ => ⟨f.1, fun z => f.2 (sub b z)⟩, fun _ _ _ h => h⟩
          have s2 : Step M1 H1 M2 H' := ⟨⟨r1, e1, k1⟩, ⟨r3, rfl, fun b hb => k2 b (r3r b hb)⟩, st'.keep, st'.there⟩
          have q2 : RelH T M2 ah' H' := ⟨S'.h.len, S'.h.nd, fun b hb z => S'.h.off b hb (sub b z), fun b hb => S'.h.exs b (sub b hb), fun l b o h1 h2 => (S'.h.obj l b o h1 h2).mono mo rfl⟩
          refine P' M2 H' s2 q2 _ ?_
          rw [Rep]
          exact ⟨p, us, rfl, ⟨⟨pm, pno⟩, hD⟩, ra.mono mo⟩
        | false =>
          let M2 : Mp := ⟨M'.m ++ [p], M1.ex ++ r3⟩
          have mo : Mono M' M2 H' H' := ⟨fun l b h => by
            show (M'.m ++ [p])[l]? = some b
            rw [List.getElem?_append_left (List.getElem?_eq_some_iff.mp h).1]; exact h, fun b _ f _ => ⟨fun z => by
              rcases List.mem_append.mp z with z | z
              · exact f.1 z
              · simp at z; exact f.2 (z ▸ pex), fun z => f.2 (sub b z)⟩, fun _ _ _ h => h⟩
          have s2 : Step M1 H1 M2 H' := ⟨⟨r1 ++ [p], by show M'.m ++ [p] = _; rw [e1, List.append_assoc], fun b hb => by
            rcases List.mem_append.mp hb with z | z
            · exact k1 b z
            · simp at z; subst z; exact hp⟩, ⟨r3, rfl, fun b hb => k2 b (r3r b hb)⟩, st'.keep, st'.there⟩
          have q2 : RelH T M2 (ah' ++ [.lst acc]) H' := by
            refine ⟨by simp [M2, S'.h.len], ?_, fun b hb z => ?_, fun b hb => S'.h.exs b (sub b hb), fun l b o h1 h2 => ?_⟩
            · rw [List.nodup_append]
              exact ⟨S'.h.nd, by simp, fun x hx y hy => by simp at hy; subst hy; exact fun z => pm (z ▸ hx)⟩
            · rcases List.mem_append.mp hb with w | w
              · exact S'.h.off b w (sub b z)
              · simp at w; subst w
                exact pno z
            · by_cases hl : l < M'.m.length
              · rw [List.getElem?_append_left hl] at h1
                rw [List.getElem?_append_left (by rw [← S'.h.len]; exact hl)] at h2
                exact (S'.h.obj l b o h1 h2).mono mo rfl
              · have : l < (M'.m ++ [p]).length := (List.getElem?_eq_some_iff.mp h1).1
                have hl2 : l = M'.m.length := by simp at this; omega
                subst hl2
                rw [List.getElem?_append_right (Nat.le_refl _)] at h1
                rw [List.getElem?_append_right (by rw [S'.h.len]; exact Nat.le_refl _)] at h2
                simp [S'.h.len] at h1 h2
                subst h1 h2
                exact ⟨us, hD, ra.mono mo⟩
          refine P' M2 H' s2 q2 _ ?_
          rw [Rep]
          refine ⟨p, rfl, ?_⟩
          show (M'.m ++ [p])[ah'.length]? = some p
          rw [← S'.h.len]; simp
      | some d =>
        obtain ⟨g0, yl⟩ := go d hn
        refine .inr ⟨g0, fun H2 => ∃ M2 ah2 acc2 us2, H2 p = some (.lst us2) ∧ Sta T M2 (wipeE e vs) ah2 (wipe σ vs) H2 ∧ Step M1 H1 M2 H2 ∧ p ∈ M2.ex ∧ Reps T M2 H2 acc2 us2 ∧
          Post T (WE W σ) M1 H1 (fun d M' _ H' => ∀ v, Rep T M' H' d v → Q v H') ((lcN g t a (wipeE e vs) sr m (i + 1) acc2 ah2).bind fun ys h2 => mkL fz ys h2), fun H2 h2 => ⟨m, Nat.lt_succ_self m, h2⟩, fun x H3 hy => ?_⟩
        obtain ⟨M3, s3, q3, r3⟩ := yl x H3 hy
        have P' : Post T (WE W σ) M1 H1 (fun d M' _ H' => ∀ v, Rep T M' H' d v → Q v H') ((((g d (wipeE e vs) ah').nox.bind fun e1 h1 => (t e1 h1).nox.bind fun c h2 => if c then (a e1 h2).nox.bind fun y h3 => R.chk (decide (acc.length < big)) (lcN g t a (wipeE e vs) sr m (i + 1) (acc ++ [y]) h3) else lcN g t a (wipeE e vs) sr m (i + 1) acc h2)).bind fun ys h2 => mkL fz ys h2) := P'
        rw [bind_assoc] at P'
        obtain ⟨e4, ah4, eg, P'⟩ := P'.nox
        refine ⟨M3, _, ah', d, S'.step s3 q3, r3, Post.ofOk eg fun M4 H4 s4 q4 σ4 S4 w4 => ⟨w4.trans (wipe_wipe σ vs), ?_⟩⟩
        rw [bind_assoc] at P'
        obtain ⟨k, ah5, et, P'⟩ := P'.nox
        refine ⟨M4, e4, ah4, S4, Post.ofOk et fun M5 H5 s5 q5 => ?_⟩
        have pin := pex
        have keepD : ∀ {Ma Mb : Mp} {Ha Hb : Hp}, Step Ma Ha Mb Hb → p ∉ Ma.m → Ha p = some (.lst us) → Hb p = some (.lst us) := fun s z e => s.keep p _ e z
        have grow : ∀ {Ma Mb : Mp} {Ha Hb : Hp}, Step Ma Ha Mb Hb → p ∈ Ma.ex → p ∈ Mb.ex := fun s z => by
          obtain ⟨r, e, _⟩ := s.ex
          rw [e]; exact List.mem_append_left _ z
        have s345 := (s3.trans s4).trans s5
        have hD5 : H5 p = some (.lst us) := keepD s345 (fun z => S'.h.off p z pin) hD
        have S5 := S'.step s345 q5
        cases k with
        | false =>
          rw [if_neg Bool.false_ne_true] at P'
          exact iteF ⟨M5, ah5, acc, us, hD5, S5, st'.trans s345, grow s345 pin, ra.step s345, P'⟩
        | true =>
          rw [if_pos rfl] at P'
          rw [bind_assoc] at P'
          refine iteT ?_
          obtain ⟨y, ah6, ea, P'⟩ := P'.nox
          refine ⟨M5, e4, ah5, S4.step s5 q5, Post.ofOk ea fun M6 H6 s6 q6 v6 hv6 => ?_⟩
          have s3456 := s345.trans s6
          have hD6 : H6 p = some (.lst us) := keepD s3456 (fun z => S'.h.off p z pin) hD
          have pin6 : p ∈ M6.ex := grow s3456 pin
          have pm6 : p ∉ M6.m := fun z => q6.off p z pin6
          have P' : Post T (WE W σ) M1 H1 (fun d M' _ H' => ∀ v, Rep T M' H' d v → Q v H') ((R.chk (decide (acc.length < big)) (lcN g t a (wipeE e vs) sr m (i + 1) (acc ++ [y]) ah6)).bind fun ys h2 => mkL fz ys h2) := P'
          have hz : decide (acc.length < big) = true := by
            cases z : decide (acc.length < big) with
            | true => rfl
            | false => rw [z] at P'; exact P'.elim
          rw [hz] at P'
          refine ⟨us, hD6, by rw [← (ra.step s3456).length, ← big_eq]; exact of_decide_eq_true hz, M6, ah6, acc ++ [y], us ++ [v6], upd_same, ?_⟩
          have mo : Mono M6 M6 H6 (upd H6 p (.lst (us ++ [v6]))) := ⟨fun _ _ h => h, fun _ _ f _ => f, fun b o f h => by rw [upd_ne fun z => f.2 (by rw [z]; exact pin6)]; exact h⟩
          have q7 : RelH T M6 ah6 (upd H6 p (.lst (us ++ [v6]))) := ⟨q6.len, q6.nd, q6.off, fun b hb => by
            by_cases z : b = p
            · rw [z, upd_same]; simp
            · rw [upd_ne z]; exact q6.exs b hb, fun l b o h1 h2 => (q6.obj l b o h1 h2).mono mo (upd_ne fun z => pm6 (by rw [← z]; exact List.mem_of_getElem? h1))⟩
          have s7 : Step M1 H1 M6 (upd H6 p (.lst (us ++ [v6]))) := by
            have s := st'.trans s3456
            refine ⟨s.pre, s.ex, fun b o h1 h2 => ?_, fun b hb => ?_⟩
            · rw [upd_ne (ne_of_none h1 hp)]; exact s.keep b o h1 h2
            · rw [upd_ne (fun z => hb (by rw [z]; exact hp))]; exact s.there b hb
          exact ⟨(S'.step s3456 q6).mono mo q7, s7, pin6, (ra.step s3456).app (Reps.cons hv6 Reps.nil) |>.mono mo, P'⟩
end Sm
end

section
set_option Elab.async false
set_option linter.all false
set_option maxRecDepth 100000
set_option maxHeartbeats 1000000
namespace Sm
open PySem PySem.Spec PyProof.Rows L2
/-! ### defs -/
section
variable {T : Tb} {M M1 : Mp} {H H1 : Hp}
mutual
theorem rep_clo : ∀ {d : D} {v : V}, Rep T M H d v → clo M.m.length d = true
  | .non, _, _ => rfl
  | .bl _, _, _ => rfl
  | .int _, _, _ => rfl
  | .str _, _, _ => rfl
  | .ty _, _, _ => rfl
  | .tup ds, v, h => by rw [Rep] at h; obtain ⟨a, vs, e, f, r⟩ := h; rw [clo]; exact reps_clo r
  | .lst ds, v, h => by rw [Rep] at h; obtain ⟨a, vs, e, f, r⟩ := h; rw [clo]; exact reps_clo r
  | .scr ds, v, h => by rw [Rep] at h; obtain ⟨a, vs, e, f, r⟩ := h; rw [clo]; exact reps_clo r
  | .dic _ ds, v, h => by rw [Rep] at h; obtain ⟨a, vs, e, f, g, g2, r⟩ := h; rw [clo]; exact reps_clo r
  | .ins _ _ ds, v, h => by rw [Rep] at h; obtain ⟨a, C, dx, vs, e, f, g, g2, g3, r⟩ := h; rw [clo]; exact reps_clo r
  | .loc l, v, h => by rw [Rep] at h; obtain ⟨a, e, f⟩ := h; rw [clo]; exact decide_eq_true (List.getElem?_eq_some_iff.mp f).1
theorem reps_clo : ∀ {ds : List D} {vs : List V}, Reps T M H ds vs → clos M.m.length ds = true
  | [], _, _ => rfl
  | d :: ds, vs, h => by rw [Reps] at h; obtain ⟨x, xs, e, r, rs⟩ := h; rw [clos, rep_clo r, reps_clo rs]; rfl
end
theorem repO_clo {a : Addr} {o : AO} (h : RepO T M H a o) : cloO M.m.length o = true := by
  cases o with
  | lst ds => obtain ⟨vs, _, r⟩ := h; exact reps_clo r
  | dic ks ds => obtain ⟨vs, _, _, r⟩ := h; exact reps_clo r
  | dicT ks ds => obtain ⟨vs, _, _, r⟩ := h; exact reps_clo r
  | ins c ns ds => obtain ⟨_, _, vs, _, _, _, r⟩ := h; exact reps_clo r
  | set xs => exact h.elim
/-- fewer objects are tracked -/
structure Less (N M : Mp) : Prop where
  m : ∃ r, M.m = N.m ++ r
  ex : N.ex = M.ex
theorem Less.off {N M : Mp} (s : Less N M) {a : Addr} (h : Off M a) : Off N a := by
  obtain ⟨r, e⟩ := s.m
  exact ⟨fun z => h.1 (by rw [e]; exact List.mem_append_left _ z), by rw [s.ex]; exact h.2⟩
theorem Less.fs {N : Mp} (s : Less N M) {K : PySem.W.Frag} {a : Addr} {xs : List V} (h : FS K M H a xs) : FS K N H a xs := h.elim (fun h => .inl ⟨s.off h.1, h.2⟩) .inr
theorem Less.ft {N : Mp} (s : Less N M) {K : PySem.W.Frag} {a : Addr} {xs : List V} (h : FT K M H a xs) : FT K N H a xs := h.elim (fun h => .inl ⟨s.off h.1, h.2⟩) .inr
mutual
theorem rep_less {N : Mp} (s : Less N M) : ∀ {d : D} {v : V}, clo N.m.length d = true → Rep T M H d v → Rep T N H d v
  | .non, _, _, h => by rw [Rep] at h ⊢; exact h
  | .bl _, _, _, h => by rw [Rep] at h ⊢; exact h
  | .int _, _, _, h => by rw [Rep] at h ⊢; exact h
  | .str _, _, _, h => by rw [Rep] at h ⊢; exact h
  | .ty _, _, _, h => by rw [Rep] at h ⊢; exact h
  | .tup ds, v, c, h => by
    rw [Rep] at h ⊢; rw [clo] at c
    obtain ⟨a, vs, e, f, r⟩ := h; exact ⟨a, vs, e, s.ft f, reps_less s c r⟩
  | .lst ds, v, c, h => by
    rw [Rep] at h ⊢; rw [clo] at c
    obtain ⟨a, vs, e, f, r⟩ := h; exact ⟨a, vs, e, ⟨s.off f.1, f.2⟩, reps_less s c r⟩
  | .scr ds, v, c, h => by
    rw [Rep] at h ⊢; rw [clo] at c
    obtain ⟨a, vs, e, f, r⟩ := h; exact ⟨a, vs, e, s.fs f, reps_less s c r⟩
  | .dic _ ds, v, c, h => by
    rw [Rep] at h ⊢; rw [clo] at c
    obtain ⟨a, vs, e, f, g, g2, r⟩ := h; exact ⟨a, vs, e, s.off f, g, g2, reps_less s c r⟩
  | .ins _ _ ds, v, c, h => by
    rw [Rep] at h ⊢; rw [clo] at c
    obtain ⟨a, C, dx, vs, e, f, g, g2, g3, r⟩ := h; exact ⟨a, C, dx, vs, e, s.off f, g, g2, g3, reps_less s c r⟩
  | .loc l, v, c, h => by
    rw [Rep] at h ⊢; rw [clo] at c
    obtain ⟨a, e, f⟩ := h
    obtain ⟨r, e2⟩ := s.m
    rw [e2, List.getElem?_append_left (of_decide_eq_true c)] at f
    exact ⟨a, e, f⟩
theorem reps_less {N : Mp} (s : Less N M) : ∀ {ds : List D} {vs : List V}, clos N.m.length ds = true → Reps T M H ds vs → Reps T N H ds vs
  | [], _, _, h => by rw [Reps] at h ⊢; exact h
  | d :: ds, vs, c, h => by
    rw [Reps] at h ⊢; rw [clos, Bool.and_eq_true] at c
    obtain ⟨x, xs, e, r, rs⟩ := h; exact ⟨x, xs, e, rep_less s c.1 r, reps_less s c.2 rs⟩
end
theorem repO_less {N : Mp} (s : Less N M) {a : Addr} {o : AO} (c : cloO N.m.length o = true) (h : RepO T M H a o) : RepO T N H a o := by
  cases o with
  | lst ds => obtain ⟨vs, e, r⟩ := h; exact ⟨vs, e, reps_less s c r⟩
  | dic ks ds => obtain ⟨vs, e, e2, r⟩ := h; exact ⟨vs, e, e2, reps_less s c r⟩
  | dicT ks ds => obtain ⟨vs, e, e2, r⟩ := h; exact ⟨vs, e, e2, reps_less s c r⟩
  | ins c ns ds => obtain ⟨C, dx, vs, e, e1, e2, r⟩ := h; exact ⟨C, dx, vs, e, e1, e2, reps_less s c r⟩
  | set xs => exact h.elim
/-- a def's end: what was made meanwhile is no longer tracked -/
theorem trim_less {ah ah1 : AH} (q : RelH T M ah H) (s : Step M H M1 H1) (q1 : RelH T M1 ah1 H1) (hp : pre ah.length ah ah1 = true) :
    ∃ N, Less N M1 ∧ N.m = M.m ∧ Step M H N H1 ∧ RelH T N (ah1.take ah.length) H1 := by
  obtain ⟨r, e, f⟩ := s.pre
  have L : Less ⟨M.m, M1.ex⟩ M1 := ⟨⟨r, e⟩, rfl⟩
  have hl : ah.length ≤ ah1.length := by rw [← q.len, ← q1.len, e, List.length_append]; exact Nat.le_add_right _ _
  refine ⟨_, L, rfl, ⟨⟨[], by simp, by simp⟩, s.ex, s.keep, s.there⟩, ?_, ?_, ?_, q1.exs, ?_⟩
  · show M.m.length = _
    rw [List.length_take, q.len]; exact (Nat.min_eq_left hl).symm
  · exact q.nd
  · exact fun a ha => q1.off a (by rw [e]; exact List.mem_append_left _ ha)
  · intro l a o h1 h2
    have hlt : l < M.m.length := (List.getElem?_eq_some_iff.mp h1).1
    have hlt2 : l < ah.length := by rw [← q.len]; exact hlt
    rw [List.getElem?_take, if_pos hlt2] at h2
    have g : RepO T M1 H1 a o := q1.obj l a o (by rw [e, List.getElem?_append_left hlt]; exact h1) h2
    refine repO_less L ?_ g
    show cloO M.m.length o = true
    have z := List.all_eq_true.mp hp l (List.mem_range.mpr hlt2)
    rw [Bool.or_eq_true] at z
    rcases z with z | z
    · exact repO_clo (q.obj l a o h1 ((of_decide_eq_true z).symm.trans h2))
    · rw [h2] at z; rw [q.len]; exact z
theorem frz_rep {N : Mp} {ah1 : AH} {d d' : D} {v : V} (L : Less N M1) (q1 : RelH T M1 ah1 H1) (r : Rep T M1 H1 d v) (h : frz N.m.length ah1 d = some d') : Rep T N H1 d' v := by
  have old : ∀ {d : D}, (if clo N.m.length d then some d else none) = some d' → Rep T M1 H1 d v → Rep T N H1 d' v := fun {d} h r => by
    by_cases c : clo N.m.length d = true
    · rw [if_pos c] at h; cases h; exact rep_less L c r
    · rw [if_neg c] at h; cases h
  cases d with
  | loc l =>
    have h : (if l < N.m.length then some (D.loc l) else match ah1[l]? with
      | some (AO.lst xs) => if clos N.m.length xs then some (D.lst xs) else none
      | some (AO.ins c ns ds) => if clos N.m.length ds then some (D.ins c ns ds) else none
      | _ => none) = some d' := h
    by_cases c : l < N.m.length
    · rw [if_pos c] at h; cases h
      exact rep_less L (by rw [clo]; exact decide_eq_true c) r
    · rw [if_neg c] at h
      have r0 := r
      rw [Rep] at r
      obtain ⟨a, e, g⟩ := r
      obtain ⟨r2, e2⟩ := L.m
      have nin : a ∉ N.m := fun z => by
        obtain ⟨j, hj⟩ := List.mem_iff_getElem?.mp z
        have hjl := (List.getElem?_eq_some_iff.mp hj).1
        have hj2 : M1.m[j]? = some a := by rw [e2, List.getElem?_append_left hjl]; exact hj
        have hl1 := (List.getElem?_eq_some_iff.mp g).1
        have hlj := (List.getElem?_eq_some_iff.mp hj2).1
        have : l = j := (List.getElem?_inj hl1 q1.nd).mp (g.trans hj2.symm)
        omega
      have off : Off N a := ⟨nin, by rw [L.ex]; exact q1.off a (List.mem_of_getElem? g)⟩
      cases ho : ah1[l]? with
      | none => rw [ho] at h; cases h
      | some o =>
        rw [ho] at h
        have R := q1.obj l a o g ho
        cases o with
        | lst xs =>
          have h : (if clos N.m.length xs then some (D.lst xs) else none) = some d' := h
          by_cases c2 : clos N.m.length xs = true
          · rw [if_pos c2] at h; cases h
            obtain ⟨vs, e3, rs⟩ := R
            rw [Rep]
            exact ⟨a, vs, e, ⟨off, e3⟩, reps_less L c2 rs⟩
          · rw [if_neg c2] at h; cases h
        | ins c ns ds =>
          have h : (if clos N.m.length ds then some (D.ins c ns ds) else none) = some d' := h
          by_cases c2 : clos N.m.length ds = true
          · rw [if_pos c2] at h; cases h
            obtain ⟨C, dx, vs, e3, e4, e5, rs⟩ := R
            rw [Rep]
            exact ⟨a, C, dx, vs, e, off, e3, e4, e5, reps_less L c2 rs⟩
          · rw [if_neg c2] at h; cases h
        | dic ks ds => cases h
        | dicT ks ds => cases h
        | set xs => cases h
  | non => exact old (d := D.non) h r
  | bl x => exact old (d := D.bl x) h r
  | int x => exact old (d := D.int x) h r
  | str x => exact old (d := D.str x) h r
  | tup x => exact old (d := D.tup x) h r
  | lst x => exact old (d := D.lst x) h r
  | scr x => exact old (d := D.scr x) h r
  | dic x y => exact old (d := D.dic x y) h r
  | ins x y z => exact old (d := D.ins x y z) h r
  | ty x => exact old (d := D.ty x) h r
abbrev VP (T : Tb) (Q : VK) : D → Mp → AH → Hp → Prop := fun d M' _ H' => ∀ v, Rep T M' H' d v → Q v H'
theorem trim_post {E : XK} {Q : VK} {ah : AH} {r : R D} (q : RelH T M ah H) (P : Post T E M H (VP T Q) (trim ah r)) : Post T E M H (VP T Q) r := by
  cases r with
  | no => exact P
  | ok d ah1 =>
    intro M1 H1 s q1 v hv
    unfold trim at P
    dsimp only at P
    cases hf : frz ah.length ah1 d with
    | none => rw [hf] at P; exact P.elim
    | some d' =>
      rw [hf] at P
      obtain ⟨hp, P⟩ := Post.chk P
      obtain ⟨N, L, e, s2, q2⟩ := trim_less q s q1 hp
      exact P N H1 s2 q2 v (frz_rep L q1 hv (by rw [e, q.len]; exact hf))
  | exc x ah1 =>
    intro M1 H1 u dx s q1 hx
    unfold trim at P
    dsimp only at P
    obtain ⟨hp, P⟩ := Post.chk P
    rw [Bool.and_eq_true] at hp
    obtain ⟨N, L, e, s2, q2⟩ := trim_less q s q1 hp.2
    refine P N H1 u dx s2 q2 ⟨hx.1, hx.2.1, ?_⟩
    have z := hx.2.2
    cases dx with
    | none => exact z
    | some d =>
      obtain ⟨vs, g1, g2, g3⟩ := z
      exact ⟨vs, L.off g1, g2, reps_less L (by rw [e, q.len]; exact hp.1) g3⟩
/-- what a def promises -/
def spF (T : Tb) (n : Nat) (F : AF) : Sp := fun vs H Q E => vs.length = n ∧ ∃ M ah ds, RelH T M ah H ∧ Reps T M H ds vs ∧ Post T E M H (VP T Q) (F ds ah)
theorem sta_start {ah : AH} {N : List Str} {ds : List D} {vs : List V} (q : RelH T M ah H) (r : Reps T M H ds vs) : Sta T M (envOf N.length ds) ah (L2.start N vs) H := by
  refine ⟨q, by simp [envOf, L2.start, r.length], fun i d h => ?_⟩
  unfold envOf at h
  by_cases hi : i < ds.length
  · rw [List.getElem?_append_left (by simpa using hi), List.getElem?_map] at h
    cases z : ds[i]? with
    | none => rw [z] at h; cases h
    | some x =>
      rw [z] at h; simp at h; subst h
      obtain ⟨v, e, rv⟩ := r.get z
      refine ⟨v, ?_, rv⟩
      unfold L2.start
      rw [List.getElem?_append_left (by rw [List.length_map, ← r.length]; exact hi), List.getElem?_map, e]; rfl
  · rw [List.getElem?_append_right (by simpa using hi)] at h
    obtain ⟨z1, z2⟩ := List.getElem?_eq_some_iff.mp h
    rw [List.getElem_replicate] at z2; cases z2
theorem ends_of {E : XK} {Q : VK} {r : R Fl} (P : Post T E M H (VP T Q) (fnR r)) : Post T W0 M H (EndsAt (fun c d _ H => E c d H) T { nx := fun _ H' => Q .non H', rt := Q }) r := by
  cases r with
  | no => exact P
  | exc x h => exact P.elim
  | ok f h =>
    intro M' H' s q
    cases f with
    | nx e => exact fun σ' S' => P M' H' s q _ mk_non
    | rt d => exact fun v hv => P M' H' s q v hv
    | bk e => exact P.elim
    | ct e => exact P.elim
    | ex x e => exact fun σ' u dx S' hx => P M' H' u dx s q hx
end
section
variable {P : Program} {w : World} {K : PySem.W.Frag} {mg : Str → Option Value} {base : Heap}
abbrev bodyX (P : Program) (w : World) (K : PySem.W.Frag) (mg : Str → Option Value) (base : Heap) (N : List Str) (qual : Str) (st : Stmt) (f : Addr) (cdv : Value) (A : Around) (outer : List PySem.Env) (s : Shared) (H : Hp) (E : XK) : Cx := cxOf (L2.CX P w) P w K mg base N qual (defScope st) f cdv A outer s H E
abbrev WB (E : XK) : WX := fun c d _ H => E c d H
theorem takesB {N : List Str} {qual : Str} {st : Stmt} {f : Addr} {cdv : Value} {A : Around} {outer : List PySem.Env} {s : Shared} {H : Hp} {E : XK} : Takes (bodyX P w K mg base N qual st f cdv A outer s H E) (WB E) := takes_of rfl rfl rfl rfl
theorem passB {N : List Str} {qual : Str} {st : Stmt} {f : Addr} {cdv : Value} {A : Around} {outer : List PySem.Env} {s : Shared} {H : Hp} {E : XK} : PassesOwn (model P w) (bodyX P w K mg base N qual st f cdv A outer s H E).A (bodyX P w K mg base N qual st f cdv A outer s H E).env (bodyX P w K mg base N qual st f cdv A outer s H E).xe := passes_of (X := bodyX P w K mg base N qual st f cdv A outer s H E) rfl
/-- a def, the objects it makes kept -/
theorem fn_okK {x qual : Str} {st : Stmt} {f : Addr} {fd : FuncData} {N ps : List Str} {k : Nat} {b : AS} (F : Fun K x qual st f fd) (S : FnScope N ps (defScope st))
    (hb : ∀ cdv A outer s H E, Room k (bodyX P w K mg base N qual st f cdv A outer s H E).A → SSs (bodyX P w K mg base N qual st f cdv A outer s H E) (WB E) (defBody st) b) :
    FnOk P w K mg base (L2.CX P w) (k + 1) f fd ps (spF ⟨K, mg⟩ ps.length (fnK ps.length N.length b)) :=
  F.okX S (fun vs H Q E h => h.1) fun cdv A outer s H vs Q E hr ⟨hl, M, ah, ds, q, r, P⟩ => ⟨_, hb cdv A outer s H E hr, M, _, ah, sta_start q r, ends_of (Post.chk P).2⟩
theorem fn_okT {x qual : Str} {st : Stmt} {f : Addr} {fd : FuncData} {N ps : List Str} {k : Nat} {b : AS} (F : Fun K x qual st f fd) (S : FnScope N ps (defScope st))
    (hb : ∀ cdv A outer s H E, Room k (bodyX P w K mg base N qual st f cdv A outer s H E).A → SSs (bodyX P w K mg base N qual st f cdv A outer s H E) (WB E) (defBody st) b) :
    FnOk P w K mg base (L2.CX P w) (k + 1) f fd ps (spF ⟨K, mg⟩ ps.length (fnT ps.length N.length b)) :=
  F.okX S (fun vs H Q E h => h.1) fun cdv A outer s H vs Q E hr ⟨hl, M, ah, ds, q, r, P⟩ => ⟨_, hb cdv A outer s H E hr, M, _, ah, sta_start q r, ends_of (trim_post q (Post.chk P).2)⟩
/-- a def no call of which is answered -/
theorem fn_no {f : Addr} {fd : FuncData} {ps : List Str} {k n : Nat} {G : AF} {CX : CXT} {T : Tb} (h : ∀ ds h, G ds h = .no) : FnOk P w K mg base CX k f fd ps (spF T n G) :=
  ⟨fun vs H Q E ⟨_, M, ah, ds, _, _, P⟩ => by rw [h] at P; exact P.elim, fun _ _ _ _ _ _ _ _ _ _ _ _ _ ⟨_, M, ah, ds, _, _, P⟩ => by rw [h] at P; exact P.elim⟩
end
theorem fnK_len {p n : Nat} {b : AS} : ∀ ds h, ds.length ≠ p → fnK p n b ds h = .no := fun ds h e => by unfold fnK; rw [decide_eq_false e]; rfl
theorem fnT_len {p n : Nat} {b : AS} : ∀ ds h, ds.length ≠ p → fnT p n b ds h = .no := fun ds h e => by unfold fnT; rw [decide_eq_false e]; rfl
section
variable {X : Cx} {W : WX} {pos : Pos} {ea eb ec : Expr} {a b c : AE}
/-- f(..) by position, every parameter given -/
theorem s_call {k n : Nat} {f : Addr} {fd : FuncData} {ps : List Str} {G : AF} {x : Str} {p : Pos} {e : Expr} {es : List Expr} {as : AA} (F : FnOk X.prog X.w X.K X.mg X.base (L2.CX X.prog X.w) k f fd ps (spF (tb X) n G)) (hG : ∀ ds h, ds.length ≠ n → G ds h = .no)
    (hr : Room k X.A) (hg : Gl X x) (hm : X.mg x = some (.ref f)) (hk : PySem.W.keepIn X.K (.ref f) = true) (hb : Binds X.K fd ps []) (tk : Takes X W) (ha : SA X W (e :: es) as)
    (hdb : (x == ("__debug__" : Str)) = false := by decide) (he : starEach (e :: es) X.env = (false, eval e X.env) :: starEach es X.env := by rfl) (hpl : (backTo pos (starEach es X.env)).any (·.1) = false := by rfl) : SE X W (.Call (.Name x p) (e :: es) [] pos) (eA G as) :=
  PE.imp (pe_callS F hr hg hm hk hb (passAt tk) ha hdb he hpl) fun σ H Q h => by
    obtain ⟨M, e, ah, S, P⟩ := h
    refine ⟨M, e, ah, S, P.bindI fun ds M1 ah1 H1 s1 q1 P1 vs hv => ?_⟩
    refine ⟨?_, M1, ah1, ds, q1, hv, P1⟩
    by_cases z : ds.length = n
    · rw [← hv.length]; exact z
    · rw [hG ds ah1 z] at P1; exact P1.elim
/-- [a for g in it if t] -/
theorem s_lc {fz : Bool} {elt tg iter : Expr} {ifs : List Expr} {scope : Scope} {own : List (Str × Nat)} {it : AI} {g : AG} {t : AB} (hc : X.calm = true) (hN : X.N.Nodup) (hi : SI X W tg iter it) (ok : blkC X.N X.env.scope scope own = true)
    (hg : ∀ (s : Shared) (H : Hp) (C : Addr) (cl : List (Str × Addr)) (fp : List Addr), SG (X.blk s H scope (compEnvC scope cl C X.env) fp) (own.map (·.2)) tg g) (ht : ∀ (s : Shared) (H : Hp) (C : Addr) (cl : List (Str × Addr)) (fp : List Addr), PTs (X.blk s H scope (compEnvC scope cl C X.env) fp) ifs (tT WF (tb X) t))
    (he : ∀ (s : Shared) (H : Hp) (C : Addr) (cl : List (Str × Addr)) (fp : List Addr), SE (X.blk s H scope (compEnvC scope cl C X.env) fp) WF elt a) (hs : ∀ x, foldedSetIterable iter X.env x = pure x := by intro _; rfl) :
    SE X W (.ListComp elt [⟨tg, iter, ifs, 0⟩] scope pos) (eLC fz (own.map (·.2)) it g t a) :=
  PE.imp (pe_lc hc hN hi (blkOk_by ok) hg ht he hs) fun σ H Q h => lc_read h
/-- name = [..] -/
theorem z_setLc {fz : Bool} {i : Nat} {y : Str} {py spos : Pos} {elt tg iter : Expr} {ifs : List Expr} {scope : Scope} {own : List (Str × Nat)} {it : AI} {g : AG} {t : AB} (hc : X.calm = true) (hN : X.N.Nodup) (hy : X.N[i]? = some y) (hyl : X.env.scope.names.lookup y = some .local)
    (hk : X.env.scope.kind = .function) (hl : (py.line == pos.line) = true) (hn : (scope.names.any fun (n, k) => n == y && (k == .local || k == .cell)) = false) (hi : SI X W tg iter it) (ok : blkC X.N X.env.scope scope own = true)
    (hg : ∀ (s : Shared) (H : Hp) (C : Addr) (cl : List (Str × Addr)) (fp : List Addr), SG (X.blk s H scope (compEnvC scope cl C X.env) fp) (own.map (·.2)) tg g) (ht : ∀ (s : Shared) (H : Hp) (C : Addr) (cl : List (Str × Addr)) (fp : List Addr), PTs (X.blk s H scope (compEnvC scope cl C X.env) fp) ifs (tT WF (tb X) t))
    (he : ∀ (s : Shared) (H : Hp) (C : Addr) (cl : List (Str × Addr)) (fp : List Addr), SE (X.blk s H scope (compEnvC scope cl C X.env) fp) WF elt a) (hs : ∀ x, foldedSetIterable iter X.env x = pure x := by intro _; rfl) :
    SS X W (.Assign [.Name y py] (.ListComp elt [⟨tg, iter, ifs, 0⟩] scope pos) spos) (sSet i (eLC fz (own.map (·.2)) it g t a)) :=
  PS.imp (ps_setLc hc hN hy hyl (sw_true hk hyl hl hn) hi (blkOk_by ok) hg ht he hs) fun D σ H h => by
    obtain ⟨M, e, ah, S, P⟩ := h
    refine lc_read (fz := fz) ⟨M, e, ah, S, upI S P fun d M1 ah1 H1 s1 q1 P1 v hv => ?_⟩
    exact Post.here P1 q1 _ ((S.step s1 q1).set hv i)
theorem ts_nil {T : Tb} : PTs X [] (tT WF T tYes) := ⟨fun pins s σ H Q I h => pts_nil.run pins s σ H Q I (by obtain ⟨M, e, ah, S, P⟩ := h; exact Post.here P S.h)⟩
theorem ts_one {t : AB} (h : SB X WF ea t) : PTs X [ea] (tT WF (tb X) t) := pts_one h
end
end Sm
end

section
set_option Elab.async false
set_option linter.all false
set_option maxRecDepth 100000
set_option maxHeartbeats 1000000
/-! Sim11: list.index; dicts with ints and texts as keys. -/
namespace Sm
open PySem PySem.Spec PyProof.Rows L2
section
variable {T : Tb} {M M1 M' : Mp} {ah ah1 ah' : AH} {H H1 H' : Hp} {p : Addr}
/-- a new object that nothing may lean on -/
theorem hide (q1 : RelH T M1 ah1 H1) (o : HO) (hp : H1 p = none) : Step M1 H1 ⟨M1.m, M1.ex ++ [p]⟩ (upd H1 p o) ∧ RelH T ⟨M1.m, M1.ex ++ [p]⟩ ah1 (upd H1 p o) := by
  have f1 := q1.offNew hp
  have sN : Step M1 H1 ⟨M1.m, M1.ex ++ [p]⟩ (upd H1 p o) := ⟨⟨[], by simp, by simp⟩, ⟨[p], rfl, by simpa using hp⟩, fun b o e _ => by rw [upd_ne (ne_of_none e hp)]; exact e, (step_new (M := M1) o hp).there⟩
  refine ⟨sN, q1.len, q1.nd, fun b hb z => ?_, fun b hb => ?_, fun l b o e1 e2 => ?_⟩
  · rcases List.mem_append.mp z with z | z
    · exact q1.off b hb z
    · simp at z; exact f1.1 (z ▸ hb)
  · rcases List.mem_append.mp hb with z | z
    · exact sN.there b (q1.exs b z)
    · simp at z; subst z; rw [upd_same]; simp
  · exact (q1.obj l b o e1 e2).step sN (upd_ne fun z => f1.1 (by rw [← z]; exact List.mem_of_getElem? e1))
/-- its last form given, it may be leant on -/
theorem unhide (f1 : Off M1 p) (hp : H1 p = none) (st : Step M1 H1 M' H') (q : RelH T M' ah' H') (pex : p ∈ M'.ex) (o : HO) :
    ∃ ex2, Step M1 H1 ⟨M'.m, ex2⟩ (upd H' p o) ∧ RelH T ⟨M'.m, ex2⟩ ah' (upd H' p o) ∧ Off ⟨M'.m, ex2⟩ p ∧ Mono M' ⟨M'.m, ex2⟩ H' (upd H' p o) ∧
      Step M1 H1 ⟨M'.m ++ [p], ex2⟩ (upd H' p o) ∧ Mono M' ⟨M'.m ++ [p], ex2⟩ H' (upd H' p o) ∧ ∀ u, RepO T ⟨M'.m ++ [p], ex2⟩ (upd H' p o) p u → RelH T ⟨M'.m ++ [p], ex2⟩ (ah' ++ [u]) (upd H' p o) := by
  obtain ⟨r1, e1, k1⟩ := st.pre
  obtain ⟨r2, e2, k2⟩ := st.ex
  have pm : p ∉ M'.m := fun z => q.off p z pex
  have pno : p ∉ M1.ex ++ r2.filter fun b => b ≠ p := fun z => by
    rcases List.mem_append.mp z with z | z
    · exact f1.2 z
    · have := (List.mem_filter.mp z).2; simp at this
  have sub : ∀ b ∈ M1.ex ++ r2.filter (fun b => b ≠ p), b ∈ M'.ex := fun b hb => by
    rw [e2]
    rcases List.mem_append.mp hb with z | z
    · exact List.mem_append_left _ z
    · exact List.mem_append_right _ (List.mem_filter.mp z).1
  have keep : ∀ b u, H1 b = some u → b ∉ M1.m → upd H' p o b = some u := fun b u h1 h2 => by rw [upd_ne (ne_of_none h1 hp)]; exact st.keep b u h1 h2
  have there : ∀ b, H1 b ≠ none → upd H' p o b ≠ none := fun b hb => by rw [upd_ne (fun z => hb (by rw [z]; exact hp))]; exact st.there b hb
  have mo2 : Mono M' ⟨M'.m, M1.ex ++ r2.filter fun b => b ≠ p⟩ H' (upd H' p o) := ⟨fun _ _ h => h, fun b _ f _ => ⟨f.1, fun z => f.2 (sub b z)⟩, fun b u f h => by rw [upd_ne fun z => f.2 (by rw [z]; exact pex)]; exact h⟩
  have mo3 : Mono M' ⟨M'.m ++ [p], M1.ex ++ r2.filter fun b => b ≠ p⟩ H' (upd H' p o) := ⟨fun l b h => by
    show (M'.m ++ [p])[l]? = some b
    rw [List.getElem?_append_left (List.getElem?_eq_some_iff.mp h).1]; exact h, fun b _ f _ => ⟨fun z => by
      rcases List.mem_append.mp z with z | z
      · exact f.1 z
      · simp at z; exact f.2 (z ▸ pex), fun z => f.2 (sub b z)⟩, mo2.keep⟩
  have exs : ∀ b ∈ M1.ex ++ r2.filter (fun b => b ≠ p), upd H' p o b ≠ none := fun b hb => by
    have nb : b ≠ p := by
      intro z
      rw [z] at hb
      exact pno hb
    rw [upd_ne nb]
    exact q.exs b (sub b hb)
  have ne : ∀ {l b}, M'.m[l]? = some b → b ≠ p := fun h z => pm (by rw [← z]; exact List.mem_of_getElem? h)
  refine ⟨M1.ex ++ r2.filter fun b => b ≠ p, ⟨⟨r1, e1, k1⟩, ⟨_, rfl, fun b hb => k2 b (List.mem_filter.mp hb).1⟩, keep, there⟩,
    ⟨q.len, q.nd, fun b hb z => q.off b hb (sub b z), exs, fun l b u h1 h2 => (q.obj l b u h1 h2).mono mo2 (upd_ne (ne h1))⟩, ⟨pm, pno⟩, mo2,
    ⟨⟨r1 ++ [p], by show M'.m ++ [p] = _; rw [e1, List.append_assoc], fun b hb => by
      rcases List.mem_append.mp hb with z | z
      · exact k1 b z
      · simp at z; subst z; exact hp⟩, ⟨_, rfl, fun b hb => k2 b (List.mem_filter.mp hb).1⟩, keep, there⟩, mo3, fun u hu => ⟨by simp [q.len], ?_, fun b hb z => ?_, exs, fun l b x h1 h2 => ?_⟩⟩
  · show (M'.m ++ [p]).Nodup
    rw [List.nodup_append]
    exact ⟨q.nd, by simp, fun x hx y hy => by simp at hy; subst hy; exact fun z => pm (z ▸ hx)⟩
  · rcases List.mem_append.mp hb with w | w
    · exact q.off b w (sub b z)
    · simp at w; subst w; exact pno z
  · by_cases hl : l < M'.m.length
    · have h1 : (M'.m ++ [p])[l]? = some b := h1
      rw [List.getElem?_append_left hl] at h1
      rw [List.getElem?_append_left (by rw [← q.len]; exact hl)] at h2
      exact (q.obj l b x h1 h2).mono mo3 (upd_ne (ne h1))
    · have : l < (M'.m ++ [p]).length := (List.getElem?_eq_some_iff.mp h1).1
      have hl2 : l = M'.m.length := by simp at this; omega
      subst hl2
      have h1 : (M'.m ++ [p])[M'.m.length]? = some b := h1
      rw [List.getElem?_append_right (Nat.le_refl _)] at h1
      rw [List.getElem?_append_right (by rw [q.len]; exact Nat.le_refl _)] at h2
      simp [q.len] at h1 h2
      subst h1 h2
      exact hu
/-! ### pairs -/
theorem kOf_inj {a b : K1} (h : kOf a = kOf b) : a = b := by
  cases a <;> cases b <;> simp [kOf] at h
  · rw [h]
  · rw [ts_inj h]
/-- a dict's pairs -/
inductive KVR (T : Tb) (M : Mp) (H : Hp) : List (K1 × D) → List (Key × V) → Prop
  | nil : KVR T M H [] []
  | cons {k : K1} {d : D} {v : V} {r : List (K1 × D)} {s : List (Key × V)} (h : Rep T M H d v) (t : KVR T M H r s) : KVR T M H ((k, d) :: r) ((kOf k, v) :: s)
theorem KVR.mono (s : Mono M M' H H') {r : List (K1 × D)} {u : List (Key × V)} (h : KVR T M H r u) : KVR T M' H' r u := by
  induction h with
  | nil => exact .nil
  | cons h t ih => exact .cons (h.mono s) ih
theorem KVR.app {r r2 : List (K1 × D)} {u u2 : List (Key × V)} (h : KVR T M H r u) (h2 : KVR T M H r2 u2) : KVR T M H (r ++ r2) (u ++ u2) := by
  induction h with
  | nil => exact h2
  | cons h t ih => exact .cons h ih
theorem KVR.any {k : K1} {r : List (K1 × D)} {u : List (Key × V)} (h : KVR T M H r u) : (u.any fun kv => decide (kv.1 = kOf k)) = r.any fun kv => decide (kv.1 = k) := by
  induction h with
  | nil => rfl
  | @cons k' d v r s h t ih =>
    rw [List.any_cons, List.any_cons, ih]
    congr 1
    exact decide_eq_decide.mpr ⟨kOf_inj, fun e => congrArg kOf e⟩
theorem KVR.put {k : K1} {d : D} {v : V} {r : List (K1 × D)} {u : List (Key × V)} (h : KVR T M H r u) (hd : Rep T M H d v) : KVR T M H (putA r k d) (putK u (kOf k) v) := by
  unfold putA putK
  rw [h.any]
  by_cases c : (r.any fun kv => decide (kv.1 = k)) = true
  · rw [if_pos c, if_pos c]
    clear c
    induction h with
    | nil => exact .nil
    | @cons k' d' v' r s h t ih =>
      rw [List.map_cons, List.map_cons]
      by_cases e : k' = k
      · subst e
        simp only [if_true]
        exact .cons hd ih
      · have e2 : ¬ kOf k' = kOf k := fun z => e (kOf_inj z)
        simp only [if_neg e, if_neg e2]
        exact .cons h ih
  · rw [if_neg c, if_neg c]
    exact h.app (.cons hd .nil)
theorem KVR.get {k : K1} {r : List (K1 × D)} {u : List (Key × V)} (h : KVR T M H r u) : match getA r k with
    | some d => ∃ v, valV u (kOf k) = some v ∧ Rep T M H d v
    | none => valV u (kOf k) = none := by
  induction h with
  | nil => rfl
  | @cons k' d v r s h t ih =>
    by_cases e : k' = k
    · subst e
      have : getA ((k', d) :: r) k' = some d := by simp [getA, List.find?_cons]
      rw [this]
      exact ⟨v, valV_pos rfl, h⟩
    · have e2 : ¬ kOf k' = kOf k := fun z => e (kOf_inj z)
      have e3 : getA ((k', d) :: r) k = getA r k := by simp [getA, List.find?_cons, e]
      have e4 : valV ((kOf k', v) :: s) (kOf k) = valV s (kOf k) := valV_neg e2
      rw [e3, e4]; exact ih
theorem KVR.merge {ms : List (K1 × D)} {us : List (Key × V)} (h : KVR T M H ms us) : ∀ {r : List (K1 × D)} {u : List (Key × V)}, KVR T M H r u → KVR T M H (ms.foldl (fun acc kv => putA acc kv.1 kv.2) r) (mergeK u us) := by
  induction h with
  | nil => exact fun h => h
  | cons h t ih => exact fun h2 => ih (h2.put h)
theorem KVR.zip {ks : List K1} : ∀ {ds : List D} {vs : List V}, ks.length = ds.length → Reps T M H ds vs → KVR T M H (ks.zip ds) ((ks.map kOf).zip vs) := by
  induction ks with
  | nil => exact fun _ _ => .nil
  | cons k ks ih =>
    intro ds vs hl r
    cases ds with
    | nil => cases hl
    | cons d ds =>
      rw [Reps] at r
      obtain ⟨v, vs, rfl, r1, r2⟩ := r
      exact .cons r1 (ih (by simpa using hl) r2)
theorem KVR.back {r : List (K1 × D)} {u : List (Key × V)} (h : KVR T M H r u) : ∃ vs, u = ((r.map (·.1)).map kOf).zip vs ∧ Reps T M H (r.map (·.2)) vs := by
  induction h with
  | nil => exact ⟨[], rfl, Reps.nil⟩
  | cons h t ih =>
    obtain ⟨vs, e, r⟩ := ih
    exact ⟨_ :: vs, by rw [e]; rfl, Reps.cons h r⟩
theorem rep_dic {x : D} {v : V} {kvs : List (K1 × D)} (q : RelH T M ah H) (r : Rep T M H x v) (h : dicH ah x = some kvs) : ∃ a u, v = .ref a ∧ H a = some (.dK u) ∧ KVR T M H kvs u := by
  cases x with
  | dic ks ds =>
    cases h
    rw [Rep] at r
    obtain ⟨a, vs, rfl, _, e, hl, rs⟩ := r
    exact ⟨a, _, rfl, e, .zip hl rs⟩
  | loc l =>
    have h' : (match ah[l]? with
      | some (.dic ks ds) => some (ks.zip ds)
      | _ => none) = some kvs := h
    rw [Rep] at r
    obtain ⟨a, rfl, hp⟩ := r
    split at h'
    · rename_i ks ds hl
      cases h'
      obtain ⟨vs, e, hl, rs⟩ := q.obj l a _ hp hl
      exact ⟨a, _, rfl, e, .zip hl rs⟩
    · cases h'
  | _ => cases h
theorem rep_key {x : D} {v : V} {k : K1} (r : Rep T M H x v) (h : kD x = some k) : v = kV (kOf k) := by
  cases x with
  | int i => cases h; exact rep_int r
  | str i => cases h; exact rep_str r
  | _ => cases h
theorem look_ok {E : XK} {α : Type} {P : α → Mp → AH → Hp → Prop} {f : Option D → AH → R α} {x y : D} {v w : V} (q : RelH T M ah H) (rx : Rep T M H x v) (ry : Rep T M H y w) (h : Post T E M H P ((lookD x y ah).bind f)) :
    ∃ a o u, v = .ref a ∧ DGet H a w u ∧ Post T E M H P (f o ah) ∧ match o with
      | some d => ∃ v, u = some v ∧ Rep T M H d v
      | none => u = none := by
  unfold lookD at h
  cases hx : dicH ah x with
  | none => rw [hx] at h; exact h.elim
  | some kvs =>
    rw [hx] at h
    cases hk : kD y with
    | none => rw [hk] at h; exact h.elim
    | some k =>
      rw [hk] at h
      obtain ⟨a, u, e1, e2, r⟩ := rep_dic q rx hx
      have e3 := rep_key ry hk
      subst e3
      exact ⟨a, getA kvs k, _, e1, DGet.k e2, h, r.get⟩
end
section
variable {X : Cx} {W : WX} {pos : Pos} {ea eb ec : Expr} {a b c : AE}
theorem m_index : MetF X "list" (rIndex X.K) (mt1 indexD) := by
  intro E M ah H d ds x xs Q q r rs P
  cases ds with
  | nil => exact P.elim
  | cons y ys =>
    cases ys with
    | cons _ _ => exact P.elim
    | nil =>
      rw [Reps] at rs
      obtain ⟨w, ws, rfl, rw_, rs⟩ := rs
      rw [Reps] at rs; subst rs
      have P : Post (tb X) E M H _ (indexD d y ah) := P
      unfold indexD at P
      split at P
      · rename_i zs hz
        by_cases c : (flat y && zs.all flat) = true
        · rw [if_pos c] at P
          rw [Bool.and_eq_true] at c
          obtain ⟨j, hj, P⟩ := (Post.bind P).of
          have P := P.here q
          obtain ⟨p, vs, e, f, g⟩ := rep_lst q r hz
          obtain ⟨h1, h2, h3⟩ := List.findIdx?_eq_some_iff_getElem.mp hj
          obtain ⟨u, e2, ru⟩ := Reps.get g (List.getElem?_eq_getElem h1)
          have fl : ∀ {i : Nat} {z : D}, zs[i]? = some z → flat z = true := fun h => List.all_eq_true.mp c.2 _ (List.mem_of_getElem? h)
          refine ⟨p, vs, w, j, u, e, rfl, .inl (.inl f), flat_rep rw_ c.1, flats_rep g c.2, e2, ?_, fun m z' hm hz' => ?_, P.val q mk_int⟩
          · rw [ev_flat ru rw_ (fl (List.getElem?_eq_getElem h1)) c.1]; exact h2
          · have hl : m < zs.length := by omega
            obtain ⟨u', e3, ru'⟩ := Reps.get g (List.getElem?_eq_getElem hl)
            rw [e3] at hz'; cases hz'
            rw [ev_flat ru' rw_ (fl (List.getElem?_eq_getElem hl)) c.1]
            exact Bool.eq_false_iff.mpr (h3 m hm)
        · rw [if_neg c] at P; exact P.elim
      · exact P.elim
theorem Post.mkDic {T : Tb} {E : XK} {M : Mp} {ah : AH} {H : Hp} {Q : VK} : True := trivial
/-- the pairs of a display -/
def trsOf (W : WX) (T : Tb) (ps : List (AE × AE)) : List (TE × TE) := ps.map fun p => (tE W T p.1, tE W T p.2)
theorem pairs_read {T : Tb} {σ : L2.St} {Q : List (V × V) → Hp → Prop} : ∀ {ps : List (AE × AE)} {M : Mp} {e : Env} {ah : AH} {H : Hp}, Sta T M e ah σ H →
    Post T (WE W σ) M H (fun kvs M' _ H' => ∀ us, KVR T M' H' kvs us → Q (us.map fun kv => (kV kv.1, kv.2)) H') (eKVs ps e ah) → tPairs (trsOf W T ps) σ H Q
  | [], M, e, ah, H, S, P => Post.here P S.h [] .nil
  | (a, b) :: r, M, e, ah, H, S, P => by
    refine ⟨M, e, ah, S, Post.bindI P fun x M1 ah1 H1 s1 q1 P1 v hv => ?_⟩
    refine ⟨M1, e, ah1, S.step s1 q1, Post.bindI P1 fun y M2 ah2 H2 s2 q2 P2 w hw => ?_⟩
    obtain ⟨k, hk, P2⟩ := (Post.bind P2).of
    have P2 := P2.here q2
    refine pairs_read ((S.step s1 q1).step s2 q2) (Post.bindI P2 fun kvs M3 ah3 H3 s3 q3 P3 us hus => ?_)
    have e1 := rep_key (hv.step s2) hk
    subst e1
    exact Post.here P3 q3 ((kOf k, w) :: us) (.cons (hw.step s3) hus)
theorem eKVs_len : ∀ {ps : List (AE × AE)} {e : Env} {ah : AH} {kvs ah1}, eKVs ps e ah = .ok kvs ah1 → kvs.length = ps.length
  | [], e, ah, kvs, ah1, h => by cases h; rfl
  | (a, b) :: r, e, ah, kvs, ah1, h => by
    have h : ((a e ah).bind fun x h1 => (b e h1).bind fun y h2 => (R.of (kD x) h2).bind fun k h2 => (eKVs r e h2).bind fun kvs h3 => .ok ((k, y) :: kvs) h3) = R.ok kvs ah1 := h
    cases h1 : a e ah with
    | exc _ _ => rw [h1] at h; cases h
    | no => rw [h1] at h; cases h
    | ok x hh1 =>
      rw [h1, bind_ok] at h
      cases h2 : b e hh1 with
      | exc _ _ => rw [h2] at h; cases h
      | no => rw [h2] at h; cases h
      | ok y hh2 =>
        rw [h2, bind_ok] at h
        cases h3 : kD x with
        | none => rw [h3] at h; cases h
        | some k =>
          rw [h3, of_some, bind_ok] at h
          cases h4 : eKVs r e hh2 with
          | exc _ _ => rw [h4] at h; cases h
          | no => rw [h4] at h; cases h
          | ok z hh3 =>
            rw [h4, bind_ok] at h
            cases h
            rw [List.length_cons, List.length_cons, eKVs_len h4]
theorem Post.bind0 {α β : Type} {T : Tb} {E : XK} {M : Mp} {H : Hp} {P : β → Mp → AH → Hp → Prop} {f : α → AH → R β} : ∀ {r : R α}, Post T E M H P (r.bind f) → Post T E M H (fun a M' ah' H' => r = .ok a ah' ∧ Post T E M H P (f a ah')) r
  | .ok _ _, h => fun M' H' s q => ⟨rfl, h⟩
  | .exc _ _, h => h
  | .no, h => h
theorem KVR.len {T : Tb} {M : Mp} {H : Hp} {r : List (K1 × D)} {u : List (Key × V)} (h : KVR T M H r u) : u.length = r.length := by
  induction h with
  | nil => rfl
  | cons h t ih => simp [ih]
theorem s_disp {fz : Bool} {ps : List (AE × AE)} {keys : List (Option Expr)} {values : List Expr} (h : PPs X pos keys values (trsOf W (tb X) ps)) (hall : keys.all (·.isSome) = true) (hl : keys.length = values.length) (h0 : keys ≠ []) (h15 : ps.length ≤ 15) (hlp : keys.length = ps.length) :
    SE X W (.Dict keys values pos) (eDisp fz ps) :=
  PE.imp (pe_disp h hall hl h0 (by omega)) fun σ H Q h => by
    obtain ⟨M, e, ah, S, P⟩ := h
    intro p hp
    obtain ⟨s1, q1⟩ := hide (o := .dK []) S.h hp
    have off := S.h.offNew hp
    have P1 := Post.bind0 (show Post (tb X) (WE W σ) M H _ ((eKVs ps e ah).bind _) from P)
    refine pairs_read (S.step s1 q1) ((P1.step s1).imp fun kvs M' ah' H' s2 q2 ⟨ek, P2⟩ us hus => ?_)
    have st := s1.trans s2
    have hpx : p ∈ M'.ex := by
      obtain ⟨r, e, _⟩ := s2.ex
      rw [e]; simp
    have hpm : p ∉ M.m := off.1
    refine ⟨s2.keep p _ upd_same off.1, us, rfl, ?_, ?_⟩
    · rw [hus.len, eKVs_len ek]; exact h15
    · have hm : KVR (tb X) M' H' (kvs.foldl (fun acc kv => putA acc kv.1 kv.2) []) (mergeK [] us) := hus.merge .nil
      obtain ⟨vs, ev, rs⟩ := hm.back
      obtain ⟨ex2, a1, a2, a3, a4, a5, a6, a7⟩ := unhide off hp st q2 hpx (.dK (mergeK [] us))
      cases fz with
      | true =>
        refine P2 _ _ a1 a2 _ ?_
        rw [Rep]
        exact ⟨p, vs, rfl, a3, by rw [upd_same, ev], by simp, rs.mono a4⟩
      | false =>
        refine P2 _ _ a5 (a7 _ ⟨vs, by rw [upd_same, ev], by simp, rs.mono a6⟩) _ ?_
        rw [Rep]
        refine ⟨p, rfl, ?_⟩
        show (M'.m ++ [p])[ah'.length]? = some p
        rw [← q2.len]; simp

theorem s_get2 {apos cpos : Pos} (hu : X.A.units + 1 < cLine) (ha : SE X W ea a) (hb : SE X W eb b) (hc : SE X W ec c) (hbase : attributeBase ea "get" X.env (eval ea X.env) = eval ea X.env := by rfl)
    (hs : starEach [eb, ec] X.env = [(false, eval eb X.env), (false, eval ec X.env)] := by rfl) (hline : (apos.endLine == cpos.line) = true := by rfl) : SE X W (.Call (.Attribute ea "get" apos) [eb, ec] [] cpos) (eGet2 a b c) :=
  PE.imp (pe_dget2 hu ha hb hc ⟨hbase, by rw [hs]; rfl, hline, by rw [hs]; rfl⟩) fun σ H Q h => by
    obtain ⟨M, e, ah, S, P⟩ := h
    refine ⟨M, e, ah, S, P.bindI fun x M1 ah1 H1 s1 q1 P1 v hv => ?_⟩
    obtain ⟨hd, P1⟩ := P1.chk
    obtain ⟨kvs, hk⟩ := Option.isSome_iff_exists.mp hd
    obtain ⟨p, u, rfl, e2, r⟩ := rep_dic q1 hv hk
    refine ⟨p, rfl, .inl ⟨u, .inl e2⟩, M1, e, ah1, S.step s1 q1, P1.bindI fun y M2 ah2 H2 s2 q2 P2 w hw => ?_⟩
    refine ⟨M2, e, ah2, (S.step s1 q1).step s2 q2, P2.bindI fun z M3 ah3 H3 s3 q3 P3 w3 hw3 => ?_⟩
    obtain ⟨p', o, u', e3, g, P3, hm⟩ := look_ok q3 ((hv.step s2).step s3) (hw.step s3) P3
    cases e3
    refine ⟨u', g, ?_⟩
    cases o with
    | none => rw [hm]; exact P3.val q3 hw3
    | some d => obtain ⟨v', e4, r4⟩ := hm; rw [e4]; exact P3.val q3 r4
theorem s_get1 {apos cpos : Pos} (hu : X.A.units + 1 < cLine) (ha : SE X W ea a) (hb : SE X W eb b) (hbase : attributeBase ea "get" X.env (eval ea X.env) = eval ea X.env := by rfl)
    (hs : starEach [eb] X.env = [(false, eval eb X.env)] := by rfl) (hline : (apos.endLine == cpos.line) = true := by rfl) : SE X W (.Call (.Attribute ea "get" apos) [eb] [] cpos) (eGet1 a b) :=
  PE.imp (pe_dget1 hu ha hb ⟨hbase, by rw [hs]; rfl, hline, by rw [hs]; rfl⟩) fun σ H Q h => by
    obtain ⟨M, e, ah, S, P⟩ := h
    refine ⟨M, e, ah, S, P.bindI fun x M1 ah1 H1 s1 q1 P1 v hv => ?_⟩
    obtain ⟨hd, P1⟩ := P1.chk
    obtain ⟨kvs, hk⟩ := Option.isSome_iff_exists.mp hd
    obtain ⟨p, u, rfl, e2, r⟩ := rep_dic q1 hv hk
    refine ⟨p, rfl, .inl ⟨u, .inl e2⟩, M1, e, ah1, S.step s1 q1, P1.bindI fun y M2 ah2 H2 s2 q2 P2 w hw => ?_⟩
    obtain ⟨p', o, u', e3, g, P3, hm⟩ := look_ok q2 (hv.step s2) hw P2
    cases e3
    refine ⟨u', g, ?_⟩
    cases o with
    | none => rw [hm]; exact P3.val q2 mk_non
    | some d => obtain ⟨v', e4, r4⟩ := hm; rw [e4]; exact P3.val q2 r4
end
end Sm
end

section
set_option Elab.async false
set_option linter.all false
set_option maxRecDepth 100000
set_option maxHeartbeats 1000000
/-! SimZ: the rules as the printed derivations name them. -/
namespace Sm
open PySem PySem.Spec PyProof.Rows L2
section
variable {X : Cx} {W : WX} {pos : Pos} {ea eb ec : Expr} {a b c : AE}
theorem sv (i : Nat) {x : Str} (hN : X.N[i]? = some x := by rfl) (hv : Vis X.env.scope x := by first | exact Or.inl rfl | exact Or.inr (Or.inl rfl) | exact Or.inr (Or.inr rfl)) (hd : (x == ("__debug__" : Str)) = false := by decide)
    (hcd : (x == ("__classdict__" : Str)) = false := by decide) : SE X W (.Name x pos) (eV i) := s_var hN hv hd hcd
theorem gn (i : Nat) {x : Str} {vs : List Nat} (hN : X.N.Nodup) (hi : X.N[i]? = some x := by rfl) (hx : Loc X.env.scope x := by first | exact Or.inl rfl | exact Or.inr rfl) (hv : i ∈ vs := by decide) (hf : X.fn x = true ∨ X.env.scope.names.lookup x = some .local := by first | exact .inl rfl | exact .inr rfl) : SG X vs (.Name x pos) (gV i) := g_name hN hi hx hv hf
theorem zs (i : Nat) {x : Str} {p : Pos} (hN : X.N.Nodup) (ha : SE X W ea a) (hi : X.N[i]? = some x := by rfl) (hx : Loc X.env.scope x := by first | exact Or.inl rfl | exact Or.inr rfl) (hs : swapsWith ea (some (.Name x p)) pos.line X.env = pure false := by rfl) (hf : X.fn x = true ∨ X.env.scope.names.lookup x = some .local := by first | exact .inl rfl | exact .inr rfl) : SS X W (.Assign [.Name x p] ea pos) (sSet i a) := z_set hN hi hx ha hs hf
theorem o2_iadd : Op2 X (fun x y H Q => (∃ i j, x = .int i ∧ y = .int j ∧ Q (.int (i + j)) H) ∨ ∃ i j, x = .str i ∧ y = .str j ∧ i.length + j.length ≤ sizeLine ∧ Q (.str (i ++ j)) H) iaddD := by
  intro E M ah H dx dy x y Q q rx ry P
  cases dx with
  | int i => cases dy with
    | int j => exact .inl ⟨i, j, rep_int rx, rep_int ry, P.val q mk_int⟩
    | _ => exact P.elim
  | str i => cases dy with
    | str j =>
      obtain ⟨hz, P⟩ := Post.chk P
      refine .inr ⟨ts i, ts j, rep_str rx, rep_str ry, ?_, ?_⟩
      · have := of_decide_eq_true hz
        rw [ts_len, ts_len, ← big_eq]; exact this
      · rw [ts_app]; exact P.val q mk_str
    | _ => exact P.elim
  | _ => exact P.elim
theorem za_add (i : Nat) {x : Str} {p : Pos} (hN : X.N.Nodup) (ha : SE X W ea a) (hi : X.N[i]? = some x := by rfl) (hx : Loc X.env.scope x := by first | exact Or.inl rfl | exact Or.inr rfl) (hq : X.fn x = true ∨ X.env.scope.names.lookup x = some .local := by first | exact .inl rfl | exact .inr rfl) : SS X W (.AugAssign (.Name x p) .Add ea pos) (sAug i iaddD a) := z_aug (iop_add.or iop_add_str) o2_iadd hN hi hx ha hq
section
variable {x : Str} {p : Pos} {e : Expr} {es : List Expr} {as : AA}
theorem c_len (hm : X.mg "len" = none) (ha : SA X W [ea] as) (hg : Gl X "len" := by rfl) (he : starEach [ea] X.env = (false, eval ea X.env) :: starEach [] X.env := by rfl) : SE X W (.Call (.Name "len" p) [ea] [] pos) (eA (on1 lenD) as) := s_callB call_len f_len hg hm PySem.boot_len ha (by decide) (by decide) he (by rfl)
theorem c_abs (hm : X.mg "abs" = none) (ha : SA X W [ea] as) (hg : Gl X "abs" := by rfl) (he : starEach [ea] X.env = (false, eval ea X.env) :: starEach [] X.env := by rfl) : SE X W (.Call (.Name "abs" p) [ea] [] pos) (eA (on1 absD) as) := s_callB call_abs f_abs hg hm (by decide +kernel) ha (by decide) (by decide) he (by rfl)
theorem c_sorted {fz : Bool} (hm : X.mg "sorted" = none) (ha : SA X W [ea] as) (hg : Gl X "sorted" := by rfl) (he : starEach [ea] X.env = (false, eval ea X.env) :: starEach [] X.env := by rfl) : SE X W (.Call (.Name "sorted" p) [ea] [] pos) (eA (on1 (sortedD fz)) as) := s_callB cr_sortedI f_sorted hg hm (by decide +kernel) ha (by decide) (by decide) he (by rfl)
theorem c_int (hm : X.mg "int" = none) (ha : SA X W [ea] as) (hg : Gl X "int" := by rfl) (he : starEach [ea] X.env = (false, eval ea X.env) :: starEach [] X.env := by rfl) : SE X W (.Call (.Name "int" p) [ea] [] pos) (eA (on1 intD) as) := s_callTy call_int1 f_int hg hm (by decide +kernel) ha (by decide) (by decide) he (by rfl)
theorem c_tuple (hm : X.mg "tuple" = none) (ha : SA X W [ea] as) (hg : Gl X "tuple" := by rfl) (he : starEach [ea] X.env = (false, eval ea X.env) :: starEach [] X.env := by rfl) : SE X W (.Call (.Name "tuple" p) [ea] [] pos) (eA (on1 tupD) as) := s_callTy call_tuple_of f_tuple hg hm (by decide +kernel) ha (by decide) (by decide) he (by rfl)
theorem c_list {fz : Bool} (hm : X.mg "list" = none) (ha : SA X W [ea] as) (hg : Gl X "list" := by rfl) (he : starEach [ea] X.env = (false, eval ea X.env) :: starEach [] X.env := by rfl) : SE X W (.Call (.Name "list" p) [ea] [] pos) (eA (on1 (listD fz)) as) := s_callTy call_list_of f_list hg hm (by decide +kernel) ha (by decide) (by decide) he (by rfl)
end
section
variable {apos cpos : Pos} {as : AA} {es : List Expr}
theorem mm_append (ho : SE X W ea a) (ha : SA X W [eb] as) (hbase : attributeBase ea "append" X.env (eval ea X.env) = eval ea X.env := by rfl) (hs : starEach [eb] X.env = [(false, eval eb X.env)] := by rfl) (hline : (apos.endLine == cpos.line) = true := by rfl) :
    SE X W (.Call (.Attribute ea "append" apos) [eb] [] cpos) (eM isLst (mt1 appendD) a as) := s_bm PySem.F.plainAttrs_list PySem.F.slot_list_append PySem.F.type_list_append mt_append m_append ty_list ho ha hbase (by rw [hs]; rfl) hline (by rw [hs]; rfl) (by rfl)
theorem mm_index (ho : SE X W ea a) (ha : SA X W [eb] as) (hbase : attributeBase ea "index" X.env (eval ea X.env) = eval ea X.env := by rfl) (hs : starEach [eb] X.env = [(false, eval eb X.env)] := by rfl) (hline : (apos.endLine == cpos.line) = true := by rfl) :
    SE X W (.Call (.Attribute ea "index" apos) [eb] [] cpos) (eM isLst (mt1 indexD) a as) := s_bm PySem.F.plainAttrs_list PySem.F.slot_list_index PySem.F.type_list_index mt_index m_index ty_list ho ha hbase (by rw [hs]; rfl) hline (by rw [hs]; rfl) (by rfl)
theorem mm_popAt (ho : SE X W ea a) (ha : SA X W [eb] as) (hbase : attributeBase ea "pop" X.env (eval ea X.env) = eval ea X.env := by rfl) (hs : starEach [eb] X.env = [(false, eval eb X.env)] := by rfl) (hline : (apos.endLine == cpos.line) = true := by rfl) :
    SE X W (.Call (.Attribute ea "pop" apos) [eb] [] cpos) (eM isLst (mt1 popAtD) a as) := s_bm PySem.F.plainAttrs_list PySem.F.slot_list_pop PySem.F.type_list_pop mt_popAt m_popAt ty_list ho ha hbase (by rw [hs]; rfl) hline (by rw [hs]; rfl) (by rfl)
theorem mm_extend (ho : SE X W ea a) (ha : SA X W [eb] as) (hbase : attributeBase ea "extend" X.env (eval ea X.env) = eval ea X.env := by rfl) (hs : starEach [eb] X.env = [(false, eval eb X.env)] := by rfl) (hline : (apos.endLine == cpos.line) = true := by rfl) :
    SE X W (.Call (.Attribute ea "extend" apos) [eb] [] cpos) (eM isLst (mt1 extendD) a as) := s_bm PySem.F.plainAttrs_list PySem.F.slot_list_extend PySem.F.type_list_extend mt_extAll m_extend ty_list ho ha hbase (by rw [hs]; rfl) hline (by rw [hs]; rfl) (by rfl)
theorem mm_pop (ho : SE X W ea a) (hbase : attributeBase ea "pop" X.env (eval ea X.env) = eval ea X.env := by rfl) (hline : (apos.endLine == cpos.line) = true := by rfl) :
    SE X W (.Call (.Attribute ea "pop" apos) [] [] cpos) (eM isLst (mt0 popD) a (eL [])) := s_bm0 PySem.F.plainAttrs_list PySem.F.slot_list_pop PySem.F.type_list_pop mt_pop m_pop ty_list ho hbase hline
end
end
/-! ### the law's own end -/
def spLaw (K : PySem.W.Frag) : Sp := fun vs H Q _ => ∃ (a : Addr) (ns : List Int), vs = [.ref a] ∧ SqL K H a (ns.map V.int) ∧ ns.length ≤ 63 ∧ ∀ H', Q (.bl true) H'
theorem law_imp {P : Program} {w : World} {K : PySem.W.Frag} {mg : Str → Option Value} {base : Heap} {k : Nat} {f : Addr} {fd : FuncData} {ps : List Str} {F : AF} (h : FnOk P w K mg base (L2.CX P w) k f fd ps (spF ⟨K, mg⟩ 1 F))
    (hl : ∀ ns : List Int, ns.length ≤ 63 → ∃ h', F [.scr (ns.map .int)] [] = .ok (.bl true) h') : FnOk P w K mg base (L2.CX P w) k f fd ps (spLaw K) :=
  h.imp fun vs H Q E ⟨a, ns, e, hS, hn, q⟩ => by
    subst e
    obtain ⟨h', el⟩ := hl ns hn
    refine ⟨rfl, ⟨[], []⟩, [], [.scr (ns.map .int)], ⟨rfl, List.nodup_nil, by simp, by simp, by simp⟩, Reps.cons ?_ Reps.nil, ?_⟩
    · rw [Rep]
      exact ⟨a, _, rfl, hS.elim (fun r => .inl ⟨⟨by simp, by simp⟩, r⟩) .inr, Reps.ofInts ns⟩
    · rw [el]
      intro M' H' _ _ v hv
      rw [rep_bl hv]; exact q _
theorem cx_no {P : Program} {w : World} {outer : List PySem.Env} {H : Hp} {s s' : Shared} {e : Value} (h : L2.CX P w outer H s (fun _ _ _ => False) e s') : False := by
  obtain ⟨_, _, _, _, _, _, _, _, _, _, _, _, z⟩ := h
  exact z
end Sm
end

section
set_option linter.all false
/-! k25: the plain computations (printed by gen.py) -/
namespace Sm.K25
open Sm
/- _law_follow: _law_tree_here, _law_row, _law_k -/
def b_q_follow : AS := sB [sFor (iR1 (eC (.int 60))) (gV 2) (sB [sIf (tV (e1 (isTy "str") (eV 0))) (sB [sRet (eV 0)]) (sB []),
    sSet 0 (e2 ixD (eV 0) (e2 (addD true) (eC (.int 2)) (e2 ixD (eV 1) (e2 ixD (eV 0) (eC (.int 0))))))]),
  sRet (eV 0)]
def F_q_follow : AF := fnT 2 3 b_q_follow
/- _law_alike: _law_tree_here, _law_other, _law_rows_here, _law_row -/
def b_q_alike : AS := sB [sFor (iS (eV 2)) (gV 3) (sB [sIf (tB1 (e2 neD (eA (F_q_follow) (eL [eV 0, eV 3])) (eA (F_q_follow) (eL [eV 1, eV 3])))) (sB [sRet (eC (.bl false))]) (sB [])]),
  sRet (eC (.bl true))]
def F_q_alike : AF := fnT 3 4 b_q_alike
/- _law_is_integer: _law_actual -/
def b_q_is_integer : AS := sB [sRet (eAnd (e1 (isTy "int") (eV 0)) (e1 notD (e1 (isTy "bool") (eV 0))))]
def F_q_is_integer : AF := fnT 1 1 b_q_is_integer
/- _law_same: _law_actual, _law_expected, _law_k -/
def b_q_same (F : AF) : AS := sB [sIf (tV (e1 (isTy "str") (eV 1))) (sB [sRet (eAnd (e1 (isTy "str") (eV 0)) (e2 eqD (eV 0) (eV 1)))]) (sB []),
  sIf (tOr (tNot (tV (e1 (isTy "tuple") (eV 0)))) (tB1 (e2 neD (eA (on1 lenD) (eL [eV 0])) (eC (.int 4))))) (sB [sRet (eC (.bl false))]) (sB []),
  sIf (tOr (tNot (tV (eA (F_q_is_integer) (eL [e2 ixD (eV 0) (eC (.int 0))])))) (tB1 (e2 neD (e2 ixD (eV 0) (eC (.int 0))) (e2 ixD (eV 1) (eC (.int 0)))))) (sB [sRet (eC (.bl false))]) (sB []),
  sFor (iR2 (eC (.int 1)) (eC (.int 4))) (gV 2) (sB [sIf (tNot (tV (eA (F) (eL [e2 ixD (eV 0) (eV 2), e2 ixD (eV 1) (eV 2)])))) (sB [sRet (eC (.bl false))]) (sB [])]),
  sRet (eC (.bl true))]
def F_q_same : Nat → AF
  | 0 => fun _ _ => .no
  | n + 1 => fnT 2 3 (b_q_same (F_q_same n))
/- _law_is_least: _law_tree_here, _law_left, _law_field, _law_rest, _law_k -/
def b_q_is_least (F : AF) : AS := sB [sIf (tV (e1 (isTy "str") (eV 0))) (sB [sRet (eOr (e2 eqD (eV 0) (eC (.str [111, 108, 100, 101, 114]))) (e2 eqD (eV 0) (eC (.str [110, 101, 119, 101, 114]))))]) (sB []),
  sIf (tOr (tNot (tV (e1 (isTy "tuple") (eV 0)))) (tOr (tB1 (e2 neD (eA (on1 lenD) (eL [eV 0])) (eC (.int 4)))) (tOr (tNot (tV (eA (F_q_is_integer) (eL [e2 ixD (eV 0) (eC (.int 0))])))) (tB1 (e2 notInD (e2 ixD (eV 0) (eC (.int 0))) (eV 1)))))) (sB [sRet (eC (.bl false))]) (sB []),
  sSet 3 (eSl true (eV 1) (oS (e2 (addD true) (eM isLst (mt1 indexD) (eV 1) (eL [e2 ixD (eV 0) (eC (.int 0))])) (eC (.int 1)))) (oN)),
  sFor (iR2 (eC (.int 1)) (eC (.int 4))) (gV 4) (sB [sIf (tNot (tV (eA (F) (eL [e2 ixD (eV 0) (eV 4), eV 3, eV 2])))) (sB [sRet (eC (.bl false))]) (sB [])]),
  sIf (tB1 (e2 eqD (e2 ixD (eV 0) (eC (.int 0))) (eV 2))) (sB [sRet (eAnd (e2 eqD (e2 ixD (eV 0) (eC (.int 2))) (eC (.str [111, 108, 100, 101, 114]))) (e1 notD (eA (F_q_same 12) (eL [e2 ixD (eV 0) (eC (.int 1)), e2 ixD (eV 0) (eC (.int 3))]))))]) (sB []),
  sRet (eOr (e1 notD (eA (F_q_same 12) (eL [e2 ixD (eV 0) (eC (.int 1)), e2 ixD (eV 0) (eC (.int 2))]))) (e1 notD (eA (F_q_same 12) (eL [e2 ixD (eV 0) (eC (.int 2)), e2 ixD (eV 0) (eC (.int 3))]))))]
def F_q_is_least : Nat → AF
  | 0 => fun _ _ => .no
  | n + 1 => fnT 3 5 (b_q_is_least (F_q_is_least n))
/- _law_is_right: _law_actual, _law_tree_here, _law_field, _law_n, _law_rows_here, _law_left, _law_g -/
def b_q_is_right : AS := sB [sSet 5 (e2 (addD true) (eLst true (eL [eV 2])) (eLC true [6] (iR1 (eV 3)) (gV 6) (tB1 (e2 neD (eV 6) (eV 2))) (eV 6))),
  sRet (eAnd (eA (F_q_is_least 12) (eL [eV 0, eV 5, eV 2])) (eA (F_q_alike) (eL [eV 0, eV 1, eV 4])))]
def F_q_is_right : AF := fnT 5 7 b_q_is_right
/- _law_take: _law_tape_here, _law_size, _law_cell, _law_k, _law_mixed -/
def b_q_take : AS := sB [sSet 2 (e2 ixD (eV 0) (eC (.int 0))),
  sSub setIxD (eV 0) (eC (.int 1)) (e2 (addD true) (e2 ixD (eV 0) (eC (.int 1))) (eC (.int 1))),
  sSet 3 (e2 ixD (eV 0) (eC (.int 1))),
  sIf (tB1 (e2 geD (eV 2) (e2 powD (eC (.int 10)) (eC (.int 18))))) (sB [sSub setIxD (eV 0) (eC (.int 0)) (e2 fdivD (eV 2) (eV 1)),
    sRet (e2 modD (eA (on1 intD) (eL [eV 2])) (eV 1))]) (sB []),
  sSet 4 (e2 modD (eA (on1 intD) (eL [e2 (addD true) (e2 (addD true) (eV 2) (e2 (mulD true) (eC (.int 7919)) (eV 3))) (eC (.int 13))])) (eC (.int 2147483647))),
  sSet 4 (e2 modD (eA (on1 intD) (eL [e2 (mulD true) (eV 4) (e2 (addD true) (eV 4) (eC (.int 48271)))])) (eC (.int 2147483629))),
  sSet 4 (e2 modD (eA (on1 intD) (eL [e2 (addD true) (e2 (mulD true) (eV 4) (e2 (addD true) (eV 4) (eC (.int 69621)))) (e2 (mulD true) (eC (.int 31)) (eV 3))])) (eC (.int 2147483647))),
  sRet (e2 modD (eA (on1 intD) (eL [e2 fdivD (eV 4) (eC (.int 9))])) (eV 1))]
def F_q_take : AF := fnT 2 5 b_q_take
/- _law_tree: _law_tape_here, _law_n, _law_levels, _law_field, _law_less, _law_same_here, _law_more -/
def b_q_tree (F : AF) : AS := sB [sIf (tOr (tB1 (e2 eqD (eV 2) (eC (.int 0)))) (tB1 (e2 eqD (eA (F_q_take) (eL [eV 0, eC (.int 4)])) (eC (.int 0))))) (sB [sRet (e2 ixD (eLst true (eL [eC (.str [111, 108, 100, 101, 114]), eC (.str [110, 101, 119, 101, 114])])) (eA (F_q_take) (eL [eV 0, eC (.int 2)])))]) (sB []),
  sSet 3 (eA (F_q_take) (eL [eV 0, eV 1])),
  sSet 4 (eA (F) (eL [eV 0, eV 1, e2 subD (eV 2) (eC (.int 1))])),
  sSet 5 (eA (F) (eL [eV 0, eV 1, e2 subD (eV 2) (eC (.int 1))])),
  sSet 6 (eA (F) (eL [eV 0, eV 1, e2 subD (eV 2) (eC (.int 1))])),
  sRet (eTup (eL [eV 3, eV 4, eV 5, eV 6]))]
def F_q_tree : Nat → AF
  | 0 => fun _ _ => .no
  | n + 1 => fnT 3 7 (b_q_tree (F_q_tree n))
/- _law_padded: _law_tape_here, _law_tree_here, _law_field, _law_known, _law_levels, _law_extra, _law_place, _law_branches, _law_s, _law_fixed -/
def b_q_padded (F : AF) : AS := sB [sIf (tAnd (tB1 (e2 gtD (eV 4) (eC (.int 0)))) (tB1 (e2 eqD (eA (F_q_take) (eL [eV 0, eC (.int 3)])) (eC (.int 0))))) (sB [sSet 5 (eA (F_q_take) (eL [eV 0, eA (on1 lenD) (eL [eV 3])])),
    sSet 1 (eTup (eL [eV 5, eV 1, eV 1, eV 1])),
    sSet 4 (e2 subD (eV 4) (eC (.int 1)))]) (sB []),
  sIf (tV (e1 (isTy "str") (eV 1))) (sB [sRet (eV 1)]) (sB []),
  sSet 6 (e2 ixD (eV 1) (eC (.int 0))),
  sIf (tAnd (tB1 (e1 notNonD (e2 ixD (eV 3) (eV 6)))) (tB1 (e2 eqD (eA (F_q_take) (eL [eV 0, eC (.int 2)])) (eC (.int 0))))) (sB [sRet (eA (F) (eL [eV 0, e2 ixD (eV 1) (e2 (addD true) (eC (.int 2)) (e2 ixD (eV 3) (eV 6))), eV 2, eV 3, eV 4]))]) (sB []),
  sSet 7 (eLst false (eL [])),
  sFor (iS (eLst true (eL [e2 subD (eC (.int 0)) (eC (.int 1)), eC (.int 0), eC (.int 1)]))) (gV 8) (sB [sIf (tOr (tAnd (tB1 (e2 eqD (eV 6) (eV 2))) (tB1 (e2 eqD (eV 8) (eC (.int 0))))) (tAnd (tB1 (e1 notNonD (e2 ixD (eV 3) (eV 6)))) (tB1 (e2 neD (e2 ixD (eV 3) (eV 6)) (eV 8))))) (sB [sE (eM isLst (mt1 appendD) (eV 7) (eL [eA (F_q_tree 8) (eL [eV 0, eA (on1 lenD) (eL [eV 3]), eC (.int 1)])]))]) (sB [sSet 9 (e2 (addD true) (e2 (addD true) (eSl true (eV 3) (oN) (oS (eV 6))) (eLst true (eL [eV 8]))) (eSl true (eV 3) (oS (e2 (addD true) (eV 6) (eC (.int 1)))) (oN))),
      sE (eM isLst (mt1 appendD) (eV 7) (eL [eA (F) (eL [eV 0, e2 ixD (eV 1) (e2 (addD true) (eC (.int 2)) (eV 8)), eV 2, eV 9, eV 4])]))])]),
  sRet (eTup (eL [eV 6, e2 ixD (eV 7) (eC (.int 0)), e2 ixD (eV 7) (eC (.int 1)), e2 ixD (eV 7) (eC (.int 2))]))]
def F_q_padded : Nat → AF
  | 0 => fun _ _ => .no
  | n + 1 => fnT 5 10 (b_q_padded (F_q_padded n))
/- _law_rows: _law_n, _law_rows_here, _law_k, _law_longer, _law_row, _law_s -/
def b_q_rows : AS := sB [sSet 1 (eLst true (eL [eTup (eL [])])),
  sFor (iR1 (eV 0)) (gV 2) (sB [sSet 3 (eLst false (eL [])),
    sFor (iS (eV 1)) (gV 4) (sB [sFor (iS (eLst true (eL [eC (.int 0), eC (.int 1), eC (.int 2)]))) (gV 5) (sB [sE (eM isLst (mt1 appendD) (eV 3) (eL [e2 (addD true) (eV 4) (eTup (eL [e2 subD (eV 5) (eC (.int 1))]))]))])]),
    sSet 1 (eA (on1 (listD true)) (eL [eV 3]))]),
  sRet (eV 1)]
def F_q_rows : AF := fnT 1 6 b_q_rows
/- _law_tape: _law_script, _law_k -/
def b_q_tape : AS := sB [sIf (tB1 (e2 ltD (eV 1) (eA (on1 lenD) (eL [eV 0])))) (sB [sRet (eLst false (eL [eA (on1 absD) (eL [e2 ixD (eV 0) (eV 1)]), eC (.int 0)]))]) (sB []),
  sRet (eLst false (eL [eV 1, eC (.int 0)]))]
def F_q_tape : AF := fnK 2 2 b_q_tape
/- _law_turn: _law_tape_here, _law_tree_here, _law_place -/
def b_q_turn (F : AF) : AS := sB [sIf (tB1 (e2 eqD (eV 1) (eC (.str [111, 108, 100, 101, 114])))) (sB [sRet (eC (.str [110, 101, 119, 101, 114]))]) (sB []),
  sIf (tB1 (e2 eqD (eV 1) (eC (.str [110, 101, 119, 101, 114])))) (sB [sRet (eC (.str [111, 108, 100, 101, 114]))]) (sB []),
  sSet 2 (e2 (addD true) (eC (.int 1)) (eA (F_q_take) (eL [eV 0, eC (.int 3)]))),
  sRet (e2 (addD true) (e2 (addD true) (eSl true (eV 1) (oN) (oS (eV 2))) (eTup (eL [eA (F) (eL [eV 0, e2 ixD (eV 1) (eV 2)])]))) (eSl true (eV 1) (oS (e2 (addD true) (eV 2) (eC (.int 1)))) (oN)))]
def F_q_turn : Nat → AF
  | 0 => fun _ _ => .no
  | n + 1 => fnT 2 3 (b_q_turn (F_q_turn n))
/- asked: tree, fields, left, part -/
def b_asked : AS := sB [sSet 1 (eLst false (eL [])),
  sSet 2 (eLst false (eL [eV 0])),
  sWhile (tV (eV 2)) (sB [sSet 3 (eM isLst (mt0 popD) (eV 2) (eL [])),
    sIf (tNot (tV (e1 (isTy "str") (eV 3)))) (sB [sE (eM isLst (mt1 appendD) (eV 1) (eL [e2 ixD (eV 3) (eC (.int 0))])),
      sE (eM isLst (mt1 extendD) (eV 2) (eL [eSl true (eV 3) (oS (eC (.int 1))) (oN)]))]) (sB [])]),
  sRet (eA (on1 tupD) (eL [e1 (sortedSetD true) (eV 1)]))]
def F_asked : AF := fnT 1 4 b_asked
/- field_order: field, fields, other -/
def b_field_order : AS := sB [sRet (e2 (addD true) (eTup (eL [eV 0])) (eA (on1 tupD) (eL [eLC true [2] (iR1 (eV 1)) (gV 2) (tB1 (e2 neD (eV 2) (eV 0))) (eV 2)])))]
def F_field_order : AF := fnT 2 3 b_field_order
/- follow: tree, row -/
def b_follow : AS := sB [sWhile (tNot (tV (e1 (isTy "str") (eV 0)))) (sB [sSet 0 (e2 ixD (eV 0) (e2 (addD true) (eC (.int 2)) (e2 ixD (eV 1) (e2 ixD (eV 0) (eC (.int 0))))))]),
  sRet (eV 0)]
def F_follow : AF := fnT 2 2 b_follow
/- with_sign: row, field, value -/
def b_with_sign : AS := sB [sRet (e2 (addD true) (e2 (addD true) (eSl true (eV 0) (oN) (oS (eV 1))) (eTup (eL [eV 2]))) (eSl true (eV 0) (oS (e2 (addD true) (eV 1) (eC (.int 1)))) (oN)))]
def F_with_sign : AF := fnT 3 3 b_with_sign
/- least_from: tree, field, row, left, less, more, same, alike -/
def b_least_from (F : AF) : AS := sB [sIf (tNot (tV (eV 3))) (sB [sRet (eA (F_follow) (eL [eV 0, eV 2]))]) (sB []),
  sSet 4 (eA (F) (eL [eV 0, eV 1, eA (F_with_sign) (eL [eV 2, e2 ixD (eV 3) (eC (.int 0)), e1 negD (eC (.int 1))]), eSl true (eV 3) (oS (eC (.int 1))) (oN)])),
  sSet 5 (eA (F) (eL [eV 0, eV 1, eA (F_with_sign) (eL [eV 2, e2 ixD (eV 3) (eC (.int 0)), eC (.int 1)]), eSl true (eV 3) (oS (eC (.int 1))) (oN)])),
  sIf (tB1 (e2 eqD (e2 ixD (eV 3) (eC (.int 0))) (eV 1))) (sB [sSet 6 (eC (.str [111, 108, 100, 101, 114])),
    sSet 7 (e2 eqD (eV 4) (eV 5))]) (sB [sSet 6 (eA (F) (eL [eV 0, eV 1, eA (F_with_sign) (eL [eV 2, e2 ixD (eV 3) (eC (.int 0)), eC (.int 0)]), eSl true (eV 3) (oS (eC (.int 1))) (oN)])),
    sSet 7 (eChain eqD eqD (eV 4) (eV 6) (eV 5))]),
  sIf (tV (eV 7)) (sB [sRet (eV 4)]) (sB []),
  sRet (eTup (eL [e2 ixD (eV 3) (eC (.int 0)), eV 4, eV 6, eV 5]))]
def F_least_from : Nat → AF
  | 0 => fun _ _ => .no
  | n + 1 => fnT 4 8 (b_least_from (F_least_from n))
/- least_tree: tree, field, fields, known, left, other -/
def b_least_tree : AS := sB [sSet 3 (eA (F_asked) (eL [eV 0])),
  sSet 4 (eLC true [5] (iS (eA (F_field_order) (eL [eV 1, eV 2]))) (gV 5) (tB1 (e2 inD (eV 5) (eV 3))) (eV 5)),
  sRet (eA (F_least_from 8) (eL [eV 0, eV 1, e2 (mulD true) (eTup (eL [eC (.int 0)])) (eV 2), eA (on1 tupD) (eL [eV 4])]))]
def F_least_tree : AF := fnT 3 6 b_least_tree
/- law: _law_script, _law_tape_here, _law_n, _law_field, _law_pick, _law_tree_here, _law_other, _law_g, _law_rows_here, _law_row, _law_least, _law_second, _law_place -/
def b_law : AS := sB [sSet 1 (eA (F_q_tape) (eL [eV 0, eC (.int 0)])),
  sSet 2 (e2 (addD true) (eC (.int 1)) (eA (F_q_take) (eL [eV 1, eC (.int 4)]))),
  sIf (tB1 (e2 eqD (eA (F_q_take) (eL [eV 1, eC (.int 8)])) (eC (.int 0)))) (sB [sSet 2 (e2 (addD true) (eC (.int 5)) (e2 fdivD (eA (F_q_take) (eL [eV 1, eC (.int 8)])) (eC (.int 7))))]) (sB []),
  sSet 3 (eA (F_q_take) (eL [eV 1, eV 2])),
  sSet 4 (eA (F_q_take) (eL [eV 1, eC (.int 4)])),
  sSet 5 (eA (F_q_tree 8) (eL [eA (F_q_tape) (eL [eV 0, eC (.int 1)]), eV 2, eC (.int 3)])),
  sIf (tB1 (e2 eqD (eV 4) (eC (.int 0)))) (sB [sSet 6 (eA (F_q_tree 8) (eL [eA (F_q_tape) (eL [eV 0, eC (.int 2)]), eV 2, eC (.int 3)]))]) (sB [sSet 6 (eA (F_q_padded 8) (eL [eA (F_q_tape) (eL [eV 0, eC (.int 2)]), eV 5, eV 3, eLC true [7] (iR1 (eV 2)) (gV 7) (tYes) (eC .non), eC (.int 2)]))]),
  sIf (tB1 (e2 eqD (eV 4) (eC (.int 3)))) (sB [sSet 6 (eA (F_q_turn 12) (eL [eA (F_q_tape) (eL [eV 0, eC (.int 3)]), eV 6]))]) (sB []),
  sSet 8 (eLC true [9] (iS (eA (F_q_rows) (eL [eV 2]))) (gV 9) (tB1 (e2 neD (e2 ixD (eV 9) (eV 3)) (eC (.int 0)))) (eV 9)),
  sSet 10 (eA (F_least_tree) (eL [eV 5, eV 3, eV 2])),
  sSet 11 (eA (F_least_tree) (eL [eV 6, eV 3, eV 2])),
  sIf (tOr (tNot (tV (eA (F_q_is_right) (eL [eV 10, eV 5, eV 3, eV 2, eV 8])))) (tNot (tV (eA (F_q_is_right) (eL [eV 11, eV 6, eV 3, eV 2, eV 8]))))) (sB [sRet (eC (.bl false))]) (sB []),
  sIf (tB1 (e2 neD (eA (F_q_same 12) (eL [eV 10, eV 11])) (eA (F_q_alike) (eL [eV 5, eV 6, eV 8])))) (sB [sRet (eC (.bl false))]) (sB []),
  sIf (tB1 (e2 ltD (eV 2) (eC (.int 5)))) (sB [sSet 12 (e2 modD (eA (on1 intD) (eL [e2 (addD true) (eV 3) (eC (.int 1))])) (eV 2)),
    sSet 8 (eLC true [9] (iS (eA (F_q_rows) (eL [eV 2]))) (gV 9) (tB1 (e2 neD (e2 ixD (eV 9) (eV 12)) (eC (.int 0)))) (eV 9)),
    sIf (tNot (tV (eA (F_q_is_right) (eL [eA (F_least_tree) (eL [eV 5, eV 12, eV 2]), eV 5, eV 12, eV 2, eV 8])))) (sB [sRet (eC (.bl false))]) (sB [])]) (sB []),
  sRet (eAnd (eA (F_q_same 12) (eL [eA (F_least_tree) (eL [eV 5, eV 3, eV 2]), eV 10])) (eA (F_q_same 12) (eL [eA (F_least_tree) (eL [eV 10, eV 3, eV 2]), eV 10])))]
def F_law : AF := fnT 1 13 b_law
end Sm.K25
end

section
set_option Elab.async false
set_option linter.all false
set_option maxRecDepth 100000
set_option maxHeartbeats 1000000
namespace Sm.K25
open PySem PySem.Spec PyProof.Rows L2 Sm
def topS (i : Nat) : Stmt := PySem.Challenge.pw_fieldrides_k25_whole_least_trees.main.body.getD i (.Pass ⟨0, 0, 0, 0⟩)
abbrev s_q_follow : Stmt := topS 13
theorem S_q_follow : FnScope ["_law_tree_here", "_law_row", "_law_k"] ["_law_tree_here", "_law_row"] (defScope s_q_follow) := ⟨rfl, rfl, rfl, by decide +kernel, rfl, by decide +kernel, by decide +kernel⟩
abbrev s_q_alike : Stmt := topS 18
theorem S_q_alike : FnScope ["_law_tree_here", "_law_other", "_law_rows_here", "_law_row"] ["_law_tree_here", "_law_other", "_law_rows_here"] (defScope s_q_alike) := ⟨rfl, rfl, rfl, by decide +kernel, rfl, by decide +kernel, by decide +kernel⟩
abbrev s_q_is_integer : Stmt := topS 15
theorem S_q_is_integer : FnScope ["_law_actual"] ["_law_actual"] (defScope s_q_is_integer) := ⟨rfl, rfl, rfl, by decide +kernel, rfl, by decide +kernel, by decide +kernel⟩
abbrev s_q_same : Stmt := topS 16
theorem S_q_same : FnScope ["_law_actual", "_law_expected", "_law_k"] ["_law_actual", "_law_expected"] (defScope s_q_same) := ⟨rfl, rfl, rfl, by decide +kernel, rfl, by decide +kernel, by decide +kernel⟩
abbrev s_q_is_least : Stmt := topS 17
theorem S_q_is_least : FnScope ["_law_tree_here", "_law_left", "_law_field", "_law_rest", "_law_k"] ["_law_tree_here", "_law_left", "_law_field"] (defScope s_q_is_least) := ⟨rfl, rfl, rfl, by decide +kernel, rfl, by decide +kernel, by decide +kernel⟩
abbrev s_q_is_right : Stmt := topS 19
theorem S_q_is_right : FnScope ["_law_actual", "_law_tree_here", "_law_field", "_law_n", "_law_rows_here", "_law_left", "_law_g"] ["_law_actual", "_law_tree_here", "_law_field", "_law_n", "_law_rows_here"] (defScope s_q_is_right) := ⟨rfl, rfl, rfl, by decide +kernel, rfl, by decide +kernel, by decide +kernel⟩
abbrev s_q_take : Stmt := topS 9
theorem S_q_take : FnScope ["_law_tape_here", "_law_size", "_law_cell", "_law_k", "_law_mixed"] ["_law_tape_here", "_law_size"] (defScope s_q_take) := ⟨rfl, rfl, rfl, by decide +kernel, rfl, by decide +kernel, by decide +kernel⟩
abbrev s_q_tree : Stmt := topS 10
theorem S_q_tree : FnScope ["_law_tape_here", "_law_n", "_law_levels", "_law_field", "_law_less", "_law_same_here", "_law_more"] ["_law_tape_here", "_law_n", "_law_levels"] (defScope s_q_tree) := ⟨rfl, rfl, rfl, by decide +kernel, rfl, by decide +kernel, by decide +kernel⟩
abbrev s_q_padded : Stmt := topS 11
theorem S_q_padded : FnScope ["_law_tape_here", "_law_tree_here", "_law_field", "_law_known", "_law_levels", "_law_extra", "_law_place", "_law_branches", "_law_s", "_law_fixed"] ["_law_tape_here", "_law_tree_here", "_law_field", "_law_known", "_law_levels"] (defScope s_q_padded) := ⟨rfl, rfl, rfl, by decide +kernel, rfl, by decide +kernel, by decide +kernel⟩
abbrev s_q_rows : Stmt := topS 14
theorem S_q_rows : FnScope ["_law_n", "_law_rows_here", "_law_k", "_law_longer", "_law_row", "_law_s"] ["_law_n"] (defScope s_q_rows) := ⟨rfl, rfl, rfl, by decide +kernel, rfl, by decide +kernel, by decide +kernel⟩
abbrev s_q_tape : Stmt := topS 8
theorem S_q_tape : FnScope ["_law_script", "_law_k"] ["_law_script", "_law_k"] (defScope s_q_tape) := ⟨rfl, rfl, rfl, by decide +kernel, rfl, by decide +kernel, by decide +kernel⟩
abbrev s_q_turn : Stmt := topS 12
theorem S_q_turn : FnScope ["_law_tape_here", "_law_tree_here", "_law_place"] ["_law_tape_here", "_law_tree_here"] (defScope s_q_turn) := ⟨rfl, rfl, rfl, by decide +kernel, rfl, by decide +kernel, by decide +kernel⟩
abbrev s_asked : Stmt := topS 2
theorem S_asked : FnScope ["tree", "fields", "left", "part"] ["tree"] (defScope s_asked) := ⟨rfl, rfl, rfl, by decide +kernel, rfl, by decide +kernel, by decide +kernel⟩
abbrev s_field_order : Stmt := topS 3
theorem S_field_order : FnScope ["field", "fields", "other"] ["field", "fields"] (defScope s_field_order) := ⟨rfl, rfl, rfl, by decide +kernel, rfl, by decide +kernel, by decide +kernel⟩
abbrev s_follow : Stmt := topS 1
theorem S_follow : FnScope ["tree", "row"] ["tree", "row"] (defScope s_follow) := ⟨rfl, rfl, rfl, by decide +kernel, rfl, by decide +kernel, by decide +kernel⟩
abbrev s_with_sign : Stmt := topS 4
theorem S_with_sign : FnScope ["row", "field", "value"] ["row", "field", "value"] (defScope s_with_sign) := ⟨rfl, rfl, rfl, by decide +kernel, rfl, by decide +kernel, by decide +kernel⟩
abbrev s_least_from : Stmt := topS 5
theorem S_least_from : FnScope ["tree", "field", "row", "left", "less", "more", "same", "alike"] ["tree", "field", "row", "left"] (defScope s_least_from) := ⟨rfl, rfl, rfl, by decide +kernel, rfl, by decide +kernel, by decide +kernel⟩
abbrev s_least_tree : Stmt := topS 6
theorem S_least_tree : FnScope ["tree", "field", "fields", "known", "left", "other"] ["tree", "field", "fields"] (defScope s_least_tree) := ⟨rfl, rfl, rfl, by decide +kernel, rfl, by decide +kernel, by decide +kernel⟩
abbrev s_law : Stmt := topS 20
theorem S_law : FnScope ["_law_script", "_law_tape_here", "_law_n", "_law_field", "_law_pick", "_law_tree_here", "_law_other", "_law_g", "_law_rows_here", "_law_row", "_law_least", "_law_second", "_law_place"] ["_law_script"] (defScope s_law) := ⟨rfl, rfl, rfl, by decide +kernel, rfl, by decide +kernel, by decide +kernel⟩
/-- what the top has written -/
structure Gd (K : PySem.W.Frag) (mg : Str → Option Value) where
  a_q_follow : Addr
  d_q_follow : FuncData
  F_q_follow : Fun K "_law_follow" "_law_follow" s_q_follow a_q_follow d_q_follow
  m_q_follow : mg "_law_follow" = some (.ref a_q_follow)
  b_q_follow : Binds K d_q_follow ["_law_tree_here", "_law_row"] []
  a_q_alike : Addr
  d_q_alike : FuncData
  F_q_alike : Fun K "_law_alike" "_law_alike" s_q_alike a_q_alike d_q_alike
  m_q_alike : mg "_law_alike" = some (.ref a_q_alike)
  b_q_alike : Binds K d_q_alike ["_law_tree_here", "_law_other", "_law_rows_here"] []
  a_q_is_integer : Addr
  d_q_is_integer : FuncData
  F_q_is_integer : Fun K "_law_is_integer" "_law_is_integer" s_q_is_integer a_q_is_integer d_q_is_integer
  m_q_is_integer : mg "_law_is_integer" = some (.ref a_q_is_integer)
  b_q_is_integer : Binds K d_q_is_integer ["_law_actual"] []
  a_q_same : Addr
  d_q_same : FuncData
  F_q_same : Fun K "_law_same" "_law_same" s_q_same a_q_same d_q_same
  m_q_same : mg "_law_same" = some (.ref a_q_same)
  b_q_same : Binds K d_q_same ["_law_actual", "_law_expected"] []
  a_q_is_least : Addr
  d_q_is_least : FuncData
  F_q_is_least : Fun K "_law_is_least" "_law_is_least" s_q_is_least a_q_is_least d_q_is_least
  m_q_is_least : mg "_law_is_least" = some (.ref a_q_is_least)
  b_q_is_least : Binds K d_q_is_least ["_law_tree_here", "_law_left", "_law_field"] []
  a_q_is_right : Addr
  d_q_is_right : FuncData
  F_q_is_right : Fun K "_law_is_right" "_law_is_right" s_q_is_right a_q_is_right d_q_is_right
  m_q_is_right : mg "_law_is_right" = some (.ref a_q_is_right)
  b_q_is_right : Binds K d_q_is_right ["_law_actual", "_law_tree_here", "_law_field", "_law_n", "_law_rows_here"] []
  a_q_take : Addr
  d_q_take : FuncData
  F_q_take : Fun K "_law_take" "_law_take" s_q_take a_q_take d_q_take
  m_q_take : mg "_law_take" = some (.ref a_q_take)
  b_q_take : Binds K d_q_take ["_law_tape_here", "_law_size"] []
  a_q_tree : Addr
  d_q_tree : FuncData
  F_q_tree : Fun K "_law_tree" "_law_tree" s_q_tree a_q_tree d_q_tree
  m_q_tree : mg "_law_tree" = some (.ref a_q_tree)
  b_q_tree : Binds K d_q_tree ["_law_tape_here", "_law_n", "_law_levels"] []
  a_q_padded : Addr
  d_q_padded : FuncData
  F_q_padded : Fun K "_law_padded" "_law_padded" s_q_padded a_q_padded d_q_padded
  m_q_padded : mg "_law_padded" = some (.ref a_q_padded)
  b_q_padded : Binds K d_q_padded ["_law_tape_here", "_law_tree_here", "_law_field", "_law_known", "_law_levels"] []
  a_q_rows : Addr
  d_q_rows : FuncData
  F_q_rows : Fun K "_law_rows" "_law_rows" s_q_rows a_q_rows d_q_rows
  m_q_rows : mg "_law_rows" = some (.ref a_q_rows)
  b_q_rows : Binds K d_q_rows ["_law_n"] []
  a_q_tape : Addr
  d_q_tape : FuncData
  F_q_tape : Fun K "_law_tape" "_law_tape" s_q_tape a_q_tape d_q_tape
  m_q_tape : mg "_law_tape" = some (.ref a_q_tape)
  b_q_tape : Binds K d_q_tape ["_law_script", "_law_k"] []
  a_q_turn : Addr
  d_q_turn : FuncData
  F_q_turn : Fun K "_law_turn" "_law_turn" s_q_turn a_q_turn d_q_turn
  m_q_turn : mg "_law_turn" = some (.ref a_q_turn)
  b_q_turn : Binds K d_q_turn ["_law_tape_here", "_law_tree_here"] []
  a_asked : Addr
  d_asked : FuncData
  F_asked : Fun K "asked" "asked" s_asked a_asked d_asked
  m_asked : mg "asked" = some (.ref a_asked)
  b_asked : Binds K d_asked ["tree"] []
  a_field_order : Addr
  d_field_order : FuncData
  F_field_order : Fun K "field_order" "field_order" s_field_order a_field_order d_field_order
  m_field_order : mg "field_order" = some (.ref a_field_order)
  b_field_order : Binds K d_field_order ["field", "fields"] []
  a_follow : Addr
  d_follow : FuncData
  F_follow : Fun K "follow" "follow" s_follow a_follow d_follow
  m_follow : mg "follow" = some (.ref a_follow)
  b_follow : Binds K d_follow ["tree", "row"] []
  a_with_sign : Addr
  d_with_sign : FuncData
  F_with_sign : Fun K "with_sign" "with_sign" s_with_sign a_with_sign d_with_sign
  m_with_sign : mg "with_sign" = some (.ref a_with_sign)
  b_with_sign : Binds K d_with_sign ["row", "field", "value"] []
  a_least_from : Addr
  d_least_from : FuncData
  F_least_from : Fun K "least_from" "least_from" s_least_from a_least_from d_least_from
  m_least_from : mg "least_from" = some (.ref a_least_from)
  b_least_from : Binds K d_least_from ["tree", "field", "row", "left"] []
  a_least_tree : Addr
  d_least_tree : FuncData
  F_least_tree : Fun K "least_tree" "least_tree" s_least_tree a_least_tree d_least_tree
  m_least_tree : mg "least_tree" = some (.ref a_least_tree)
  b_least_tree : Binds K d_least_tree ["tree", "field", "fields"] []
  a_law : Addr
  d_law : FuncData
  F_law : Fun K "law" "law" s_law a_law d_law
  m_law : mg "law" = some (.ref a_law)
  b_law : Binds K d_law ["_law_script"] []
  z_abs : mg "abs" = none
  z_bool : mg "bool" = none
  z_int : mg "int" = none
  z_isinstance : mg "isinstance" = none
  z_len : mg "len" = none
  z_list : mg "list" = none
  z_range : mg "range" = none
  z_set : mg "set" = none
  z_sorted : mg "sorted" = none
  z_str : mg "str" = none
  z_tuple : mg "tuple" = none
section
variable {P : Program} {w : World} {K : PySem.W.Frag} {mg : Str → Option Value} {base : Heap}
theorem len_q_follow : ∀ ds h, ds.length ≠ 2 → F_q_follow ds h = .no := fun ds h e => fnT_len (n := 3) (b := b_q_follow) ds h e
theorem ok_q_follow (G : Gd K mg) : FnOk P w K mg base (L2.CX P w) 1 G.a_q_follow G.d_q_follow ["_law_tree_here", "_law_row"] (spF ⟨K, mg⟩ 2 F_q_follow) :=
  fn_okT (k := 0) (N := ["_law_tree_here", "_law_row", "_law_k"]) (ps := ["_law_tree_here", "_law_row"]) (b := b_q_follow) G.F_q_follow S_q_follow fun cdv A outer s H E hr => by
    have S := S_q_follow
    unfold b_q_follow
    exact (z_cons (z_for (vs := [2]) passB rfl (i_rng1 rfl (by rfl) G.z_range (s_int)) (gn 2 S.nd)
    (z_cons (z_if (t_val (s_isTy (by decide) rfl (by decide +kernel) (by decide) (by decide) (by rfl) G.z_isinstance (by rfl) G.z_str (sv 0)))
      (z_cons (z_ret (sv 0))
      (z_nil))
      (z_nil))
    (z_cons (zs 0 S.nd (s_ix (sv 0) (s_add (s_int) (s_ix (sv 1) (s_ix (sv 0) (s_int) (fun _ _ => rfl)) (fun _ _ => rfl))) (fun _ _ => rfl)))
    (z_nil))))
  (z_cons (z_ret (sv 0))
  (z_nil)))
theorem len_q_alike : ∀ ds h, ds.length ≠ 3 → F_q_alike ds h = .no := fun ds h e => fnT_len (n := 4) (b := b_q_alike) ds h e
theorem ok_q_alike (G : Gd K mg) : FnOk P w K mg base (L2.CX P w) 2 G.a_q_alike G.d_q_alike ["_law_tree_here", "_law_other", "_law_rows_here"] (spF ⟨K, mg⟩ 3 F_q_alike) :=
  fn_okT (k := 1) (N := ["_law_tree_here", "_law_other", "_law_rows_here", "_law_row"]) (ps := ["_law_tree_here", "_law_other", "_law_rows_here"]) (b := b_q_alike) G.F_q_alike S_q_alike fun cdv A outer s H E hr => by
    have S := S_q_alike
    unfold b_q_alike
    exact (z_cons (z_for (vs := [3]) passB rfl (i_seq (sv 2)) (gn 3 S.nd)
    (z_cons (z_if (t_cmp (op_ne.or (op_neD hr.units)) o2_ne (s_call (ok_q_follow G) len_q_follow (hr.mono (by omega)) (by rfl) G.m_q_follow G.F_q_follow.kp G.b_q_follow takesB (a_cons (sv 0) (a_cons (sv 3) (a_nil)))) (s_call (ok_q_follow G) len_q_follow (hr.mono (by omega)) (by rfl) G.m_q_follow G.F_q_follow.kp G.b_q_follow takesB (a_cons (sv 1) (a_cons (sv 3) (a_nil)))) (nomark _))
      (z_cons (z_ret (s_bl))
      (z_nil))
      (z_nil))
    (z_nil)))
  (z_cons (z_ret (s_bl))
  (z_nil)))
theorem len_q_is_integer : ∀ ds h, ds.length ≠ 1 → F_q_is_integer ds h = .no := fun ds h e => fnT_len (n := 1) (b := b_q_is_integer) ds h e
theorem ok_q_is_integer (G : Gd K mg) : FnOk P w K mg base (L2.CX P w) 1 G.a_q_is_integer G.d_q_is_integer ["_law_actual"] (spF ⟨K, mg⟩ 1 F_q_is_integer) :=
  fn_okT (k := 0) (N := ["_law_actual"]) (ps := ["_law_actual"]) (b := b_q_is_integer) G.F_q_is_integer S_q_is_integer fun cdv A outer s H E hr => by
    have S := S_q_is_integer
    unfold b_q_is_integer
    exact (z_cons (z_ret (s_and (s_isTy (by decide) rfl (by decide +kernel) (by decide) (by decide) (by rfl) G.z_isinstance (by rfl) G.z_int (sv 0)) (s_one (s_not (s_isTy (by decide) rfl (by decide +kernel) (by decide) (by decide) (by rfl) G.z_isinstance (by rfl) G.z_bool (sv 0))))))
  (z_nil))
theorem len_q_same : ∀ n ds h, ds.length ≠ 2 → F_q_same n ds h = .no
  | 0, _, _, _ => rfl
  | n + 1, ds, h, e => fnT_len (n := 3) (b := b_q_same (F_q_same n)) ds h e
theorem ok_q_same (G : Gd K mg) : ∀ n : Nat, FnOk P w K mg base (L2.CX P w) (2 + n) G.a_q_same G.d_q_same ["_law_actual", "_law_expected"] (spF ⟨K, mg⟩ 2 (F_q_same n))
  | 0 => fn_no fun _ _ => rfl
  | n + 1 => fn_okT (k := 2 + n) (N := ["_law_actual", "_law_expected", "_law_k"]) (ps := ["_law_actual", "_law_expected"]) (b := b_q_same (F_q_same n)) G.F_q_same S_q_same fun cdv A outer s H E hr => by
    have hF := ok_q_same G n
    have hG := len_q_same n
    have S := S_q_same
    generalize F_q_same n = F at hF hG ⊢
    unfold b_q_same
    exact (z_cons (z_if (t_val (s_isTy (by decide) rfl (by decide +kernel) (by decide) (by decide) (by rfl) G.z_isinstance (by rfl) G.z_str (sv 1)))
    (z_cons (z_ret (s_and (s_isTy (by decide) rfl (by decide +kernel) (by decide) (by decide) (by rfl) G.z_isinstance (by rfl) G.z_str (sv 0)) (s_one (s_cmp (op_eq.or (op_eqD hr.units)) o2_eq (sv 0) (sv 1) (nomark _)))))
    (z_nil))
    (z_nil))
  (z_cons (z_if (t_of (w_or (t_not (t_val (s_isTy (by decide) rfl (by decide +kernel) (by decide) (by decide) (by rfl) G.z_isinstance (by rfl) G.z_tuple (sv 0)))) (w_or1 (t_cmp (op_ne.or (op_neD hr.units)) o2_ne (c_len G.z_len (a_cons (sv 0) (a_nil))) (s_int) (nomark _)))))
    (z_cons (z_ret (s_bl))
    (z_nil))
    (z_nil))
  (z_cons (z_if (t_of (w_or (t_not (t_val (s_call (ok_q_is_integer G) len_q_is_integer (hr.mono (by omega)) (by rfl) G.m_q_is_integer G.F_q_is_integer.kp G.b_q_is_integer takesB (a_cons (s_ix (sv 0) (s_int) (fun _ _ => rfl)) (a_nil))))) (w_or1 (t_cmp (op_ne.or (op_neD hr.units)) o2_ne (s_ix (sv 0) (s_int) (fun _ _ => rfl)) (s_ix (sv 1) (s_int) (fun _ _ => rfl)) (nomark _)))))
    (z_cons (z_ret (s_bl))
    (z_nil))
    (z_nil))
  (z_cons (z_for (vs := [2]) passB rfl (i_rng2 rfl (by rfl) G.z_range (s_int) (s_int)) (gn 2 S.nd)
    (z_cons (z_if (t_not (t_val (s_call hF hG hr (by rfl) G.m_q_same G.F_q_same.kp G.b_q_same takesB (a_cons (s_ix (sv 0) (sv 2) (fun _ _ => rfl)) (a_cons (s_ix (sv 1) (sv 2) (fun _ _ => rfl)) (a_nil))))))
      (z_cons (z_ret (s_bl))
      (z_nil))
      (z_nil))
    (z_nil)))
  (z_cons (z_ret (s_bl))
  (z_nil))))))
theorem len_q_is_least : ∀ n ds h, ds.length ≠ 3 → F_q_is_least n ds h = .no
  | 0, _, _, _ => rfl
  | n + 1, ds, h, e => fnT_len (n := 5) (b := b_q_is_least (F_q_is_least n)) ds h e
theorem ok_q_is_least (G : Gd K mg) : ∀ n : Nat, FnOk P w K mg base (L2.CX P w) (15 + n) G.a_q_is_least G.d_q_is_least ["_law_tree_here", "_law_left", "_law_field"] (spF ⟨K, mg⟩ 3 (F_q_is_least n))
  | 0 => fn_no fun _ _ => rfl
  | n + 1 => fn_okT (k := 15 + n) (N := ["_law_tree_here", "_law_left", "_law_field", "_law_rest", "_law_k"]) (ps := ["_law_tree_here", "_law_left", "_law_field"]) (b := b_q_is_least (F_q_is_least n)) G.F_q_is_least S_q_is_least fun cdv A outer s H E hr => by
    have hF := ok_q_is_least G n
    have hG := len_q_is_least n
    have S := S_q_is_least
    generalize F_q_is_least n = F at hF hG ⊢
    unfold b_q_is_least
    exact (z_cons (z_if (t_val (s_isTy (by decide) rfl (by decide +kernel) (by decide) (by decide) (by rfl) G.z_isinstance (by rfl) G.z_str (sv 0)))
    (z_cons (z_ret (s_or (s_cmp (op_eq.or (op_eqD hr.units)) o2_eq (sv 0) (s_str (by rfl)) (nomark _)) (s_one (s_cmp (op_eq.or (op_eqD hr.units)) o2_eq (sv 0) (s_str (by rfl)) (nomark _)))))
    (z_nil))
    (z_nil))
  (z_cons (z_if (t_of (w_or (t_not (t_val (s_isTy (by decide) rfl (by decide +kernel) (by decide) (by decide) (by rfl) G.z_isinstance (by rfl) G.z_tuple (sv 0)))) (w_or (t_cmp (op_ne.or (op_neD hr.units)) o2_ne (c_len G.z_len (a_cons (sv 0) (a_nil))) (s_int) (nomark _)) (w_or (t_not (t_val (s_call (ok_q_is_integer G) len_q_is_integer (hr.mono (by omega)) (by rfl) G.m_q_is_integer G.F_q_is_integer.kp G.b_q_is_integer takesB (a_cons (s_ix (sv 0) (s_int) (fun _ _ => rfl)) (a_nil))))) (w_or1 (t_cmp op_notIn_seq o2_notIn (s_ix (sv 0) (s_int) (fun _ _ => rfl)) (sv 1) (by rfl)))))))
    (z_cons (z_ret (s_bl))
    (z_nil))
    (z_nil))
  (z_cons (zs 3 S.nd (s_sl (sv 1) (o_some (s_add (mm_index (sv 1) (a_cons (s_ix (sv 0) (s_int) (fun _ _ => rfl)) (a_nil))) (s_int))) (o_none)))
  (z_cons (z_for (vs := [4]) passB rfl (i_rng2 rfl (by rfl) G.z_range (s_int) (s_int)) (gn 4 S.nd)
    (z_cons (z_if (t_not (t_val (s_call hF hG hr (by rfl) G.m_q_is_least G.F_q_is_least.kp G.b_q_is_least takesB (a_cons (s_ix (sv 0) (sv 4) (fun _ _ => rfl)) (a_cons (sv 3) (a_cons (sv 2) (a_nil)))))))
      (z_cons (z_ret (s_bl))
      (z_nil))
      (z_nil))
    (z_nil)))
  (z_cons (z_if (t_cmp (op_eq.or (op_eqD hr.units)) o2_eq (s_ix (sv 0) (s_int) (fun _ _ => rfl)) (sv 2) (nomark _))
    (z_cons (z_ret (s_and (s_cmp (op_eq.or (op_eqD hr.units)) o2_eq (s_ix (sv 0) (s_int) (fun _ _ => rfl)) (s_str (by rfl)) (nomark _)) (s_one (s_not (s_call (ok_q_same G 12) (len_q_same 12) (hr.mono (by omega)) (by rfl) G.m_q_same G.F_q_same.kp G.b_q_same takesB (a_cons (s_ix (sv 0) (s_int) (fun _ _ => rfl)) (a_cons (s_ix (sv 0) (s_int) (fun _ _ => rfl)) (a_nil))))))))
    (z_nil))
    (z_nil))
  (z_cons (z_ret (s_or (s_not (s_call (ok_q_same G 12) (len_q_same 12) (hr.mono (by omega)) (by rfl) G.m_q_same G.F_q_same.kp G.b_q_same takesB (a_cons (s_ix (sv 0) (s_int) (fun _ _ => rfl)) (a_cons (s_ix (sv 0) (s_int) (fun _ _ => rfl)) (a_nil))))) (s_one (s_not (s_call (ok_q_same G 12) (len_q_same 12) (hr.mono (by omega)) (by rfl) G.m_q_same G.F_q_same.kp G.b_q_same takesB (a_cons (s_ix (sv 0) (s_int) (fun _ _ => rfl)) (a_cons (s_ix (sv 0) (s_int) (fun _ _ => rfl)) (a_nil))))))))
  (z_nil)))))))
theorem len_q_is_right : ∀ ds h, ds.length ≠ 5 → F_q_is_right ds h = .no := fun ds h e => fnT_len (n := 7) (b := b_q_is_right) ds h e
theorem ok_q_is_right (G : Gd K mg) : FnOk P w K mg base (L2.CX P w) 28 G.a_q_is_right G.d_q_is_right ["_law_actual", "_law_tree_here", "_law_field", "_law_n", "_law_rows_here"] (spF ⟨K, mg⟩ 5 F_q_is_right) :=
  fn_okT (k := 27) (N := ["_law_actual", "_law_tree_here", "_law_field", "_law_n", "_law_rows_here", "_law_left", "_law_g"]) (ps := ["_law_actual", "_law_tree_here", "_law_field", "_law_n", "_law_rows_here"]) (b := b_q_is_right) G.F_q_is_right S_q_is_right fun cdv A outer s H E hr => by
    have S := S_q_is_right
    unfold b_q_is_right
    exact (z_cons (zs 5 S.nd (s_add (s_lst (a_cons (sv 2) (a_nil))) (s_lc (own := [("_law_g", 6)]) rfl S.nd (i_rng1 rfl (by rfl) G.z_range (sv 3)) (by rfl) (fun _ _ _ _ _ => gn 6 S.nd) (fun _ _ _ _ _ => ts_one (t_cmp (op_ne.or (op_neD hr.units)) o2_ne (sv 6) (sv 2) (nomark _))) (fun _ _ _ _ _ => sv 6))))
  (z_cons (z_ret (s_and (s_call (ok_q_is_least G 12) (len_q_is_least 12) (hr.mono (by omega)) (by rfl) G.m_q_is_least G.F_q_is_least.kp G.b_q_is_least takesB (a_cons (sv 0) (a_cons (sv 5) (a_cons (sv 2) (a_nil))))) (s_one (s_call (ok_q_alike G) len_q_alike (hr.mono (by omega)) (by rfl) G.m_q_alike G.F_q_alike.kp G.b_q_alike takesB (a_cons (sv 0) (a_cons (sv 1) (a_cons (sv 4) (a_nil))))))))
  (z_nil)))
theorem len_q_take : ∀ ds h, ds.length ≠ 2 → F_q_take ds h = .no := fun ds h e => fnT_len (n := 5) (b := b_q_take) ds h e
theorem ok_q_take (G : Gd K mg) : FnOk P w K mg base (L2.CX P w) 1 G.a_q_take G.d_q_take ["_law_tape_here", "_law_size"] (spF ⟨K, mg⟩ 2 F_q_take) :=
  fn_okT (k := 0) (N := ["_law_tape_here", "_law_size", "_law_cell", "_law_k", "_law_mixed"]) (ps := ["_law_tape_here", "_law_size"]) (b := b_q_take) G.F_q_take S_q_take fun cdv A outer s H E hr => by
    have S := S_q_take
    unfold b_q_take
    exact (z_cons (zs 2 S.nd (s_ix (sv 0) (s_int) (fun _ _ => rfl)))
  (z_cons (z_sub set_list set3_list (sv 0) (s_int) (s_add (s_ix (sv 0) (s_int) (fun _ _ => rfl)) (s_int)) (ha := fun _ => rfl))
  (z_cons (zs 3 S.nd (s_ix (sv 0) (s_int) (fun _ _ => rfl)))
  (z_cons (z_if (t_cmp op_ge o2_cmpI (sv 2) (s_pow (s_int) (s_int)) (nomark _))
    (z_cons (z_sub set_list set3_list (sv 0) (s_int) (s_fdiv (sv 2) (sv 1)) (ha := fun _ => rfl))
    (z_cons (z_ret (s_mod (c_int G.z_int (a_cons (sv 2) (a_nil))) (sv 1)))
    (z_nil)))
    (z_nil))
  (z_cons (zs 4 S.nd (s_mod (c_int G.z_int (a_cons (s_add (s_add (sv 2) (s_mul (s_int) (sv 3))) (s_int)) (a_nil))) (s_int)))
  (z_cons (zs 4 S.nd (s_mod (c_int G.z_int (a_cons (s_mul (sv 4) (s_add (sv 4) (s_int))) (a_nil))) (s_int)))
  (z_cons (zs 4 S.nd (s_mod (c_int G.z_int (a_cons (s_add (s_mul (sv 4) (s_add (sv 4) (s_int))) (s_mul (s_int) (sv 3))) (a_nil))) (s_int)))
  (z_cons (z_ret (s_mod (c_int G.z_int (a_cons (s_fdiv (sv 4) (s_int)) (a_nil))) (sv 1)))
  (z_nil)))))))))
theorem len_q_tree : ∀ n ds h, ds.length ≠ 3 → F_q_tree n ds h = .no
  | 0, _, _, _ => rfl
  | n + 1, ds, h, e => fnT_len (n := 7) (b := b_q_tree (F_q_tree n)) ds h e
theorem ok_q_tree (G : Gd K mg) : ∀ n : Nat, FnOk P w K mg base (L2.CX P w) (2 + n) G.a_q_tree G.d_q_tree ["_law_tape_here", "_law_n", "_law_levels"] (spF ⟨K, mg⟩ 3 (F_q_tree n))
  | 0 => fn_no fun _ _ => rfl
  | n + 1 => fn_okT (k := 2 + n) (N := ["_law_tape_here", "_law_n", "_law_levels", "_law_field", "_law_less", "_law_same_here", "_law_more"]) (ps := ["_law_tape_here", "_law_n", "_law_levels"]) (b := b_q_tree (F_q_tree n)) G.F_q_tree S_q_tree fun cdv A outer s H E hr => by
    have hF := ok_q_tree G n
    have hG := len_q_tree n
    have S := S_q_tree
    generalize F_q_tree n = F at hF hG ⊢
    unfold b_q_tree
    exact (z_cons (z_if (t_of (w_or (t_cmp (op_eq.or (op_eqD hr.units)) o2_eq (sv 2) (s_int) (nomark _)) (w_or1 (t_cmp (op_eq.or (op_eqD hr.units)) o2_eq (s_call (ok_q_take G) len_q_take (hr.mono (by omega)) (by rfl) G.m_q_take G.F_q_take.kp G.b_q_take takesB (a_cons (sv 0) (a_cons (s_int) (a_nil)))) (s_int) (nomark _)))))
    (z_cons (z_ret (s_ix (s_lst (a_cons (s_str (by rfl)) (a_cons (s_str (by rfl)) (a_nil)))) (s_call (ok_q_take G) len_q_take (hr.mono (by omega)) (by rfl) G.m_q_take G.F_q_take.kp G.b_q_take takesB (a_cons (sv 0) (a_cons (s_int) (a_nil)))) (fun _ _ => rfl)))
    (z_nil))
    (z_nil))
  (z_cons (zs 3 S.nd (s_call (ok_q_take G) len_q_take (hr.mono (by omega)) (by rfl) G.m_q_take G.F_q_take.kp G.b_q_take takesB (a_cons (sv 0) (a_cons (sv 1) (a_nil)))))
  (z_cons (zs 4 S.nd (s_call hF hG hr (by rfl) G.m_q_tree G.F_q_tree.kp G.b_q_tree takesB (a_cons (sv 0) (a_cons (sv 1) (a_cons (s_sub (sv 2) (s_int)) (a_nil))))))
  (z_cons (zs 5 S.nd (s_call hF hG hr (by rfl) G.m_q_tree G.F_q_tree.kp G.b_q_tree takesB (a_cons (sv 0) (a_cons (sv 1) (a_cons (s_sub (sv 2) (s_int)) (a_nil))))))
  (z_cons (zs 6 S.nd (s_call hF hG hr (by rfl) G.m_q_tree G.F_q_tree.kp G.b_q_tree takesB (a_cons (sv 0) (a_cons (sv 1) (a_cons (s_sub (sv 2) (s_int)) (a_nil))))))
  (z_cons (z_ret (s_tup (a_cons (sv 3) (a_cons (sv 4) (a_cons (sv 5) (a_cons (sv 6) (a_nil)))))))
  (z_nil)))))))
theorem len_q_padded : ∀ n ds h, ds.length ≠ 5 → F_q_padded n ds h = .no
  | 0, _, _, _ => rfl
  | n + 1, ds, h, e => fnT_len (n := 10) (b := b_q_padded (F_q_padded n)) ds h e
theorem ok_q_padded (G : Gd K mg) : ∀ n : Nat, FnOk P w K mg base (L2.CX P w) (11 + n) G.a_q_padded G.d_q_padded ["_law_tape_here", "_law_tree_here", "_law_field", "_law_known", "_law_levels"] (spF ⟨K, mg⟩ 5 (F_q_padded n))
  | 0 => fn_no fun _ _ => rfl
  | n + 1 => fn_okT (k := 11 + n) (N := ["_law_tape_here", "_law_tree_here", "_law_field", "_law_known", "_law_levels", "_law_extra", "_law_place", "_law_branches", "_law_s", "_law_fixed"]) (ps := ["_law_tape_here", "_law_tree_here", "_law_field", "_law_known", "_law_levels"]) (b := b_q_padded (F_q_padded n)) G.F_q_padded S_q_padded fun cdv A outer s H E hr => by
    have hF := ok_q_padded G n
    have hG := len_q_padded n
    have S := S_q_padded
    generalize F_q_padded n = F at hF hG ⊢
    unfold b_q_padded
    exact (z_cons (z_if (t_of (w_and (t_cmp op_gt o2_cmpI (sv 4) (s_int) (nomark _)) (w_and1 (t_cmp (op_eq.or (op_eqD hr.units)) o2_eq (s_call (ok_q_take G) len_q_take (hr.mono (by omega)) (by rfl) G.m_q_take G.F_q_take.kp G.b_q_take takesB (a_cons (sv 0) (a_cons (s_int) (a_nil)))) (s_int) (nomark _)))))
    (z_cons (zs 5 S.nd (s_call (ok_q_take G) len_q_take (hr.mono (by omega)) (by rfl) G.m_q_take G.F_q_take.kp G.b_q_take takesB (a_cons (sv 0) (a_cons (c_len G.z_len (a_cons (sv 3) (a_nil))) (a_nil)))))
    (z_cons (zs 1 S.nd (s_tup (a_cons (sv 5) (a_cons (sv 1) (a_cons (sv 1) (a_cons (sv 1) (a_nil)))))))
    (z_cons (zs 4 S.nd (s_sub (sv 4) (s_int)))
    (z_nil))))
    (z_nil))
  (z_cons (z_if (t_val (s_isTy (by decide) rfl (by decide +kernel) (by decide) (by decide) (by rfl) G.z_isinstance (by rfl) G.z_str (sv 1)))
    (z_cons (z_ret (sv 1))
    (z_nil))
    (z_nil))
  (z_cons (zs 6 S.nd (s_ix (sv 1) (s_int) (fun _ _ => rfl)))
  (z_cons (z_if (t_of (w_and (t_notN (s_ix (sv 3) (sv 6) (fun _ _ => rfl))) (w_and1 (t_cmp (op_eq.or (op_eqD hr.units)) o2_eq (s_call (ok_q_take G) len_q_take (hr.mono (by omega)) (by rfl) G.m_q_take G.F_q_take.kp G.b_q_take takesB (a_cons (sv 0) (a_cons (s_int) (a_nil)))) (s_int) (nomark _)))))
    (z_cons (z_ret (s_call hF hG hr (by rfl) G.m_q_padded G.F_q_padded.kp G.b_q_padded takesB (a_cons (sv 0) (a_cons (s_ix (sv 1) (s_add (s_int) (s_ix (sv 3) (sv 6) (fun _ _ => rfl))) (fun _ _ => rfl)) (a_cons (sv 2) (a_cons (sv 3) (a_cons (sv 4) (a_nil))))))))
    (z_nil))
    (z_nil))
  (z_cons (zs 7 S.nd (s_lst (a_nil)))
  (z_cons (z_for (vs := [8]) passB rfl (i_seq (s_lst (a_cons (s_sub (s_int) (s_int)) (a_cons (s_int) (a_cons (s_int) (a_nil)))))) (gn 8 S.nd)
    (z_cons (z_if (t_of (w_or (t_of (w_and (t_cmp (op_eq.or (op_eqD hr.units)) o2_eq (sv 6) (sv 2) (nomark _)) (w_and1 (t_cmp (op_eq.or (op_eqD hr.units)) o2_eq (sv 8) (s_int) (nomark _))))) (w_or1 (t_of (w_and (t_notN (s_ix (sv 3) (sv 6) (fun _ _ => rfl))) (w_and1 (t_cmp (op_ne.or (op_neD hr.units)) o2_ne (s_ix (sv 3) (sv 6) (fun _ _ => rfl)) (sv 8) (nomark _))))))))
      (z_cons (z_expr (mm_append (sv 7) (a_cons (s_call (ok_q_tree G 8) (len_q_tree 8) (hr.mono (by omega)) (by rfl) G.m_q_tree G.F_q_tree.kp G.b_q_tree takesB (a_cons (sv 0) (a_cons (c_len G.z_len (a_cons (sv 3) (a_nil))) (a_cons (s_int) (a_nil))))) (a_nil))))
      (z_nil))
      (z_cons (zs 9 S.nd (s_add (s_add (s_sl (sv 3) (o_none) (o_some (sv 6))) (s_lst (a_cons (sv 8) (a_nil)))) (s_sl (sv 3) (o_some (s_add (sv 6) (s_int))) (o_none))))
      (z_cons (z_expr (mm_append (sv 7) (a_cons (s_call hF hG hr (by rfl) G.m_q_padded G.F_q_padded.kp G.b_q_padded takesB (a_cons (sv 0) (a_cons (s_ix (sv 1) (s_add (s_int) (sv 8)) (fun _ _ => rfl)) (a_cons (sv 2) (a_cons (sv 9) (a_cons (sv 4) (a_nil))))))) (a_nil))))
      (z_nil))))
    (z_nil)))
  (z_cons (z_ret (s_tup (a_cons (sv 6) (a_cons (s_ix (sv 7) (s_int) (fun _ _ => rfl)) (a_cons (s_ix (sv 7) (s_int) (fun _ _ => rfl)) (a_cons (s_ix (sv 7) (s_int) (fun _ _ => rfl)) (a_nil)))))))
  (z_nil))))))))
theorem len_q_rows : ∀ ds h, ds.length ≠ 1 → F_q_rows ds h = .no := fun ds h e => fnT_len (n := 6) (b := b_q_rows) ds h e
theorem ok_q_rows (G : Gd K mg) : FnOk P w K mg base (L2.CX P w) 1 G.a_q_rows G.d_q_rows ["_law_n"] (spF ⟨K, mg⟩ 1 F_q_rows) :=
  fn_okT (k := 0) (N := ["_law_n", "_law_rows_here", "_law_k", "_law_longer", "_law_row", "_law_s"]) (ps := ["_law_n"]) (b := b_q_rows) G.F_q_rows S_q_rows fun cdv A outer s H E hr => by
    have S := S_q_rows
    unfold b_q_rows
    exact (z_cons (zs 1 S.nd (s_lst (a_cons (s_tup (a_nil)) (a_nil))))
  (z_cons (z_for (vs := [2]) passB rfl (i_rng1 rfl (by rfl) G.z_range (sv 0)) (gn 2 S.nd)
    (z_cons (zs 3 S.nd (s_lst (a_nil)))
    (z_cons (z_for (vs := [4]) passB rfl (i_seq (sv 1)) (gn 4 S.nd)
      (z_cons (z_for (vs := [5]) passB rfl (i_seq (s_lst (a_cons (s_int) (a_cons (s_int) (a_cons (s_int) (a_nil)))))) (gn 5 S.nd)
        (z_cons (z_expr (mm_append (sv 3) (a_cons (s_add (sv 4) (s_tup (a_cons (s_sub (sv 5) (s_int)) (a_nil)))) (a_nil))))
        (z_nil)))
      (z_nil)))
    (z_cons (zs 1 S.nd (c_list G.z_list (a_cons (sv 3) (a_nil))))
    (z_nil)))))
  (z_cons (z_ret (sv 1))
  (z_nil))))
theorem len_q_tape : ∀ ds h, ds.length ≠ 2 → F_q_tape ds h = .no := fun ds h e => fnK_len (n := 2) (b := b_q_tape) ds h e
theorem ok_q_tape (G : Gd K mg) : FnOk P w K mg base (L2.CX P w) 1 G.a_q_tape G.d_q_tape ["_law_script", "_law_k"] (spF ⟨K, mg⟩ 2 F_q_tape) :=
  fn_okK (k := 0) (N := ["_law_script", "_law_k"]) (ps := ["_law_script", "_law_k"]) (b := b_q_tape) G.F_q_tape S_q_tape fun cdv A outer s H E hr => by
    have S := S_q_tape
    unfold b_q_tape
    exact (z_cons (z_if (t_cmp (op_lt.or (op_ltT hr.units0)) o2_lt (sv 1) (c_len G.z_len (a_cons (sv 0) (a_nil))) (nomark _))
    (z_cons (z_ret (s_lst (a_cons (c_abs G.z_abs (a_cons (s_ix (sv 0) (sv 1) (fun _ _ => rfl)) (a_nil))) (a_cons (s_int) (a_nil)))))
    (z_nil))
    (z_nil))
  (z_cons (z_ret (s_lst (a_cons (sv 1) (a_cons (s_int) (a_nil)))))
  (z_nil)))
theorem len_q_turn : ∀ n ds h, ds.length ≠ 2 → F_q_turn n ds h = .no
  | 0, _, _, _ => rfl
  | n + 1, ds, h, e => fnT_len (n := 3) (b := b_q_turn (F_q_turn n)) ds h e
theorem ok_q_turn (G : Gd K mg) : ∀ n : Nat, FnOk P w K mg base (L2.CX P w) (2 + n) G.a_q_turn G.d_q_turn ["_law_tape_here", "_law_tree_here"] (spF ⟨K, mg⟩ 2 (F_q_turn n))
  | 0 => fn_no fun _ _ => rfl
  | n + 1 => fn_okT (k := 2 + n) (N := ["_law_tape_here", "_law_tree_here", "_law_place"]) (ps := ["_law_tape_here", "_law_tree_here"]) (b := b_q_turn (F_q_turn n)) G.F_q_turn S_q_turn fun cdv A outer s H E hr => by
    have hF := ok_q_turn G n
    have hG := len_q_turn n
    have S := S_q_turn
    generalize F_q_turn n = F at hF hG ⊢
    unfold b_q_turn
    exact (z_cons (z_if (t_cmp (op_eq.or (op_eqD hr.units)) o2_eq (sv 1) (s_str (by rfl)) (nomark _))
    (z_cons (z_ret (s_str (by rfl)))
    (z_nil))
    (z_nil))
  (z_cons (z_if (t_cmp (op_eq.or (op_eqD hr.units)) o2_eq (sv 1) (s_str (by rfl)) (nomark _))
    (z_cons (z_ret (s_str (by rfl)))
    (z_nil))
    (z_nil))
  (z_cons (zs 2 S.nd (s_add (s_int) (s_call (ok_q_take G) len_q_take (hr.mono (by omega)) (by rfl) G.m_q_take G.F_q_take.kp G.b_q_take takesB (a_cons (sv 0) (a_cons (s_int) (a_nil))))))
  (z_cons (z_ret (s_add (s_add (s_sl (sv 1) (o_none) (o_some (sv 2))) (s_tup (a_cons (s_call hF hG hr (by rfl) G.m_q_turn G.F_q_turn.kp G.b_q_turn takesB (a_cons (sv 0) (a_cons (s_ix (sv 1) (sv 2) (fun _ _ => rfl)) (a_nil)))) (a_nil)))) (s_sl (sv 1) (o_some (s_add (sv 2) (s_int))) (o_none))))
  (z_nil)))))
theorem len_asked : ∀ ds h, ds.length ≠ 1 → F_asked ds h = .no := fun ds h e => fnT_len (n := 4) (b := b_asked) ds h e
theorem ok_asked (G : Gd K mg) : FnOk P w K mg base (L2.CX P w) 1 G.a_asked G.d_asked ["tree"] (spF ⟨K, mg⟩ 1 F_asked) :=
  fn_okT (k := 0) (N := ["tree", "fields", "left", "part"]) (ps := ["tree"]) (b := b_asked) G.F_asked S_asked fun cdv A outer s H E hr => by
    have S := S_asked
    unfold b_asked
    exact (z_cons (zs 1 S.nd (s_lst (a_nil)))
  (z_cons (zs 2 S.nd (s_lst (a_cons (sv 0) (a_nil))))
  (z_cons (z_while passB (t_val (sv 2))
    (z_cons (zs 3 S.nd (mm_pop (sv 2)))
    (z_cons (z_if (t_not (t_val (s_isTy (by decide) rfl (by decide +kernel) (by decide) (by decide) (by rfl) G.z_isinstance (by rfl) G.z_str (sv 3))))
      (z_cons (z_expr (mm_append (sv 1) (a_cons (s_ix (sv 3) (s_int) (fun _ _ => rfl)) (a_nil))))
      (z_cons (z_expr (mm_extend (sv 2) (a_cons (s_sl (sv 3) (o_some (s_int)) (o_none)) (a_nil))))
      (z_nil)))
      (z_nil))
    (z_nil))))
  (z_cons (z_ret (c_tuple G.z_tuple (a_cons (s_sortedSet rfl rfl rfl (by rfl) G.z_sorted (by rfl) G.z_set (sv 1)) (a_nil))))
  (z_nil)))))
theorem len_field_order : ∀ ds h, ds.length ≠ 2 → F_field_order ds h = .no := fun ds h e => fnT_len (n := 3) (b := b_field_order) ds h e
theorem ok_field_order (G : Gd K mg) : FnOk P w K mg base (L2.CX P w) 1 G.a_field_order G.d_field_order ["field", "fields"] (spF ⟨K, mg⟩ 2 F_field_order) :=
  fn_okT (k := 0) (N := ["field", "fields", "other"]) (ps := ["field", "fields"]) (b := b_field_order) G.F_field_order S_field_order fun cdv A outer s H E hr => by
    have S := S_field_order
    unfold b_field_order
    exact (z_cons (z_ret (s_add (s_tup (a_cons (sv 0) (a_nil))) (c_tuple G.z_tuple (a_cons (s_lc (own := [("other", 2)]) rfl S.nd (i_rng1 rfl (by rfl) G.z_range (sv 1)) (by rfl) (fun _ _ _ _ _ => gn 2 S.nd) (fun _ _ _ _ _ => ts_one (t_cmp (op_ne.or (op_neD hr.units)) o2_ne (sv 2) (sv 0) (nomark _))) (fun _ _ _ _ _ => sv 2)) (a_nil)))))
  (z_nil))
theorem len_follow : ∀ ds h, ds.length ≠ 2 → F_follow ds h = .no := fun ds h e => fnT_len (n := 2) (b := b_follow) ds h e
theorem ok_follow (G : Gd K mg) : FnOk P w K mg base (L2.CX P w) 1 G.a_follow G.d_follow ["tree", "row"] (spF ⟨K, mg⟩ 2 F_follow) :=
  fn_okT (k := 0) (N := ["tree", "row"]) (ps := ["tree", "row"]) (b := b_follow) G.F_follow S_follow fun cdv A outer s H E hr => by
    have S := S_follow
    unfold b_follow
    exact (z_cons (z_while passB (t_not (t_val (s_isTy (by decide) rfl (by decide +kernel) (by decide) (by decide) (by rfl) G.z_isinstance (by rfl) G.z_str (sv 0))))
    (z_cons (zs 0 S.nd (s_ix (sv 0) (s_add (s_int) (s_ix (sv 1) (s_ix (sv 0) (s_int) (fun _ _ => rfl)) (fun _ _ => rfl))) (fun _ _ => rfl)))
    (z_nil)))
  (z_cons (z_ret (sv 0))
  (z_nil)))
theorem len_with_sign : ∀ ds h, ds.length ≠ 3 → F_with_sign ds h = .no := fun ds h e => fnT_len (n := 3) (b := b_with_sign) ds h e
theorem ok_with_sign (G : Gd K mg) : FnOk P w K mg base (L2.CX P w) 1 G.a_with_sign G.d_with_sign ["row", "field", "value"] (spF ⟨K, mg⟩ 3 F_with_sign) :=
  fn_okT (k := 0) (N := ["row", "field", "value"]) (ps := ["row", "field", "value"]) (b := b_with_sign) G.F_with_sign S_with_sign fun cdv A outer s H E hr => by
    have S := S_with_sign
    unfold b_with_sign
    exact (z_cons (z_ret (s_add (s_add (s_sl (sv 0) (o_none) (o_some (sv 1))) (s_tup (a_cons (sv 2) (a_nil)))) (s_sl (sv 0) (o_some (s_add (sv 1) (s_int))) (o_none))))
  (z_nil))
theorem len_least_from : ∀ n ds h, ds.length ≠ 4 → F_least_from n ds h = .no
  | 0, _, _, _ => rfl
  | n + 1, ds, h, e => fnT_len (n := 8) (b := b_least_from (F_least_from n)) ds h e
theorem ok_least_from (G : Gd K mg) : ∀ n : Nat, FnOk P w K mg base (L2.CX P w) (2 + n) G.a_least_from G.d_least_from ["tree", "field", "row", "left"] (spF ⟨K, mg⟩ 4 (F_least_from n))
  | 0 => fn_no fun _ _ => rfl
  | n + 1 => fn_okT (k := 2 + n) (N := ["tree", "field", "row", "left", "less", "more", "same", "alike"]) (ps := ["tree", "field", "row", "left"]) (b := b_least_from (F_least_from n)) G.F_least_from S_least_from fun cdv A outer s H E hr => by
    have hF := ok_least_from G n
    have hG := len_least_from n
    have S := S_least_from
    generalize F_least_from n = F at hF hG ⊢
    unfold b_least_from
    exact (z_cons (z_if (t_not (t_val (sv 3)))
    (z_cons (z_ret (s_call (ok_follow G) len_follow (hr.mono (by omega)) (by rfl) G.m_follow G.F_follow.kp G.b_follow takesB (a_cons (sv 0) (a_cons (sv 2) (a_nil)))))
    (z_nil))
    (z_nil))
  (z_cons (zs 4 S.nd (s_call hF hG hr (by rfl) G.m_least_from G.F_least_from.kp G.b_least_from takesB (a_cons (sv 0) (a_cons (sv 1) (a_cons (s_call (ok_with_sign G) len_with_sign (hr.mono (by omega)) (by rfl) G.m_with_sign G.F_with_sign.kp G.b_with_sign takesB (a_cons (sv 2) (a_cons (s_ix (sv 3) (s_int) (fun _ _ => rfl)) (a_cons (s_neg (s_int)) (a_nil))))) (a_cons (s_sl (sv 3) (o_some (s_int)) (o_none)) (a_nil)))))))
  (z_cons (zs 5 S.nd (s_call hF hG hr (by rfl) G.m_least_from G.F_least_from.kp G.b_least_from takesB (a_cons (sv 0) (a_cons (sv 1) (a_cons (s_call (ok_with_sign G) len_with_sign (hr.mono (by omega)) (by rfl) G.m_with_sign G.F_with_sign.kp G.b_with_sign takesB (a_cons (sv 2) (a_cons (s_ix (sv 3) (s_int) (fun _ _ => rfl)) (a_cons (s_int) (a_nil))))) (a_cons (s_sl (sv 3) (o_some (s_int)) (o_none)) (a_nil)))))))
  (z_cons (z_if (t_cmp (op_eq.or (op_eqD hr.units)) o2_eq (s_ix (sv 3) (s_int) (fun _ _ => rfl)) (sv 1) (nomark _))
    (z_cons (zs 6 S.nd (s_str (by rfl)))
    (z_cons (zs 7 S.nd (s_cmp (op_eq.or (op_eqD hr.units)) o2_eq (sv 4) (sv 5) (nomark _)))
    (z_nil)))
    (z_cons (zs 6 S.nd (s_call hF hG hr (by rfl) G.m_least_from G.F_least_from.kp G.b_least_from takesB (a_cons (sv 0) (a_cons (sv 1) (a_cons (s_call (ok_with_sign G) len_with_sign (hr.mono (by omega)) (by rfl) G.m_with_sign G.F_with_sign.kp G.b_with_sign takesB (a_cons (sv 2) (a_cons (s_ix (sv 3) (s_int) (fun _ _ => rfl)) (a_cons (s_int) (a_nil))))) (a_cons (s_sl (sv 3) (o_some (s_int)) (o_none)) (a_nil)))))))
    (z_cons (zs 7 S.nd (s_chain (op_eq.or (op_eqD hr.units)) o2_eq (op_eq.or (op_eqD hr.units)) o2_eq (sv 4) (sv 6) (sv 5)))
    (z_nil))))
  (z_cons (z_if (t_val (sv 7))
    (z_cons (z_ret (sv 4))
    (z_nil))
    (z_nil))
  (z_cons (z_ret (s_tup (a_cons (s_ix (sv 3) (s_int) (fun _ _ => rfl)) (a_cons (sv 4) (a_cons (sv 6) (a_cons (sv 5) (a_nil)))))))
  (z_nil)))))))
theorem len_least_tree : ∀ ds h, ds.length ≠ 3 → F_least_tree ds h = .no := fun ds h e => fnT_len (n := 6) (b := b_least_tree) ds h e
theorem ok_least_tree (G : Gd K mg) : FnOk P w K mg base (L2.CX P w) 11 G.a_least_tree G.d_least_tree ["tree", "field", "fields"] (spF ⟨K, mg⟩ 3 F_least_tree) :=
  fn_okT (k := 10) (N := ["tree", "field", "fields", "known", "left", "other"]) (ps := ["tree", "field", "fields"]) (b := b_least_tree) G.F_least_tree S_least_tree fun cdv A outer s H E hr => by
    have S := S_least_tree
    unfold b_least_tree
    exact (z_cons (zs 3 S.nd (s_call (ok_asked G) len_asked (hr.mono (by omega)) (by rfl) G.m_asked G.F_asked.kp G.b_asked takesB (a_cons (sv 0) (a_nil))))
  (z_cons (z_setLc (i := 4) (own := [("other", 5)]) rfl S.nd (by rfl) (by rfl) (by rfl) (by rfl) (by rfl) (i_seq (s_call (ok_field_order G) len_field_order (hr.mono (by omega)) (by rfl) G.m_field_order G.F_field_order.kp G.b_field_order takesB (a_cons (sv 1) (a_cons (sv 2) (a_nil))))) (by rfl) (fun _ _ _ _ _ => gn 5 S.nd) (fun _ _ _ _ _ => ts_one (t_cmp op_in_seq o2_in (sv 5) (sv 3) (by rfl))) (fun _ _ _ _ _ => sv 5))
  (z_cons (z_ret (s_call (ok_least_from G 8) (len_least_from 8) (hr.mono (by omega)) (by rfl) G.m_least_from G.F_least_from.kp G.b_least_from takesB (a_cons (sv 0) (a_cons (sv 1) (a_cons (s_mul (s_tup (a_cons (s_int) (a_nil))) (sv 2)) (a_cons (c_tuple G.z_tuple (a_cons (sv 4) (a_nil))) (a_nil)))))))
  (z_nil))))
theorem len_law : ∀ ds h, ds.length ≠ 1 → F_law ds h = .no := fun ds h e => fnT_len (n := 13) (b := b_law) ds h e
theorem ok_law (G : Gd K mg) : FnOk P w K mg base (L2.CX P w) 29 G.a_law G.d_law ["_law_script"] (spF ⟨K, mg⟩ 1 F_law) :=
  fn_okT (k := 28) (N := ["_law_script", "_law_tape_here", "_law_n", "_law_field", "_law_pick", "_law_tree_here", "_law_other", "_law_g", "_law_rows_here", "_law_row", "_law_least", "_law_second", "_law_place"]) (ps := ["_law_script"]) (b := b_law) G.F_law S_law fun cdv A outer s H E hr => by
    have S := S_law
    unfold b_law
    exact (z_cons (zs 1 S.nd (s_call (ok_q_tape G) len_q_tape (hr.mono (by omega)) (by rfl) G.m_q_tape G.F_q_tape.kp G.b_q_tape takesB (a_cons (sv 0) (a_cons (s_int) (a_nil)))))
  (z_cons (zs 2 S.nd (s_add (s_int) (s_call (ok_q_take G) len_q_take (hr.mono (by omega)) (by rfl) G.m_q_take G.F_q_take.kp G.b_q_take takesB (a_cons (sv 1) (a_cons (s_int) (a_nil))))))
  (z_cons (z_if (t_cmp (op_eq.or (op_eqD hr.units)) o2_eq (s_call (ok_q_take G) len_q_take (hr.mono (by omega)) (by rfl) G.m_q_take G.F_q_take.kp G.b_q_take takesB (a_cons (sv 1) (a_cons (s_int) (a_nil)))) (s_int) (nomark _))
    (z_cons (zs 2 S.nd (s_add (s_int) (s_fdiv (s_call (ok_q_take G) len_q_take (hr.mono (by omega)) (by rfl) G.m_q_take G.F_q_take.kp G.b_q_take takesB (a_cons (sv 1) (a_cons (s_int) (a_nil)))) (s_int))))
    (z_nil))
    (z_nil))
  (z_cons (zs 3 S.nd (s_call (ok_q_take G) len_q_take (hr.mono (by omega)) (by rfl) G.m_q_take G.F_q_take.kp G.b_q_take takesB (a_cons (sv 1) (a_cons (sv 2) (a_nil)))))
  (z_cons (zs 4 S.nd (s_call (ok_q_take G) len_q_take (hr.mono (by omega)) (by rfl) G.m_q_take G.F_q_take.kp G.b_q_take takesB (a_cons (sv 1) (a_cons (s_int) (a_nil)))))
  (z_cons (zs 5 S.nd (s_call (ok_q_tree G 8) (len_q_tree 8) (hr.mono (by omega)) (by rfl) G.m_q_tree G.F_q_tree.kp G.b_q_tree takesB (a_cons (s_call (ok_q_tape G) len_q_tape (hr.mono (by omega)) (by rfl) G.m_q_tape G.F_q_tape.kp G.b_q_tape takesB (a_cons (sv 0) (a_cons (s_int) (a_nil)))) (a_cons (sv 2) (a_cons (s_int) (a_nil))))))
  (z_cons (z_if (t_cmp (op_eq.or (op_eqD hr.units)) o2_eq (sv 4) (s_int) (nomark _))
    (z_cons (zs 6 S.nd (s_call (ok_q_tree G 8) (len_q_tree 8) (hr.mono (by omega)) (by rfl) G.m_q_tree G.F_q_tree.kp G.b_q_tree takesB (a_cons (s_call (ok_q_tape G) len_q_tape (hr.mono (by omega)) (by rfl) G.m_q_tape G.F_q_tape.kp G.b_q_tape takesB (a_cons (sv 0) (a_cons (s_int) (a_nil)))) (a_cons (sv 2) (a_cons (s_int) (a_nil))))))
    (z_nil))
    (z_cons (zs 6 S.nd (s_call (ok_q_padded G 8) (len_q_padded 8) (hr.mono (by omega)) (by rfl) G.m_q_padded G.F_q_padded.kp G.b_q_padded takesB (a_cons (s_call (ok_q_tape G) len_q_tape (hr.mono (by omega)) (by rfl) G.m_q_tape G.F_q_tape.kp G.b_q_tape takesB (a_cons (sv 0) (a_cons (s_int) (a_nil)))) (a_cons (sv 5) (a_cons (sv 3) (a_cons (s_lc (own := [("_law_g", 7)]) rfl S.nd (i_rng1 rfl (by rfl) G.z_range (sv 2)) (by rfl) (fun _ _ _ _ _ => gn 7 S.nd) (fun _ _ _ _ _ => ts_nil) (fun _ _ _ _ _ => s_non)) (a_cons (s_int) (a_nil))))))))
    (z_nil)))
  (z_cons (z_if (t_cmp (op_eq.or (op_eqD hr.units)) o2_eq (sv 4) (s_int) (nomark _))
    (z_cons (zs 6 S.nd (s_call (ok_q_turn G 12) (len_q_turn 12) (hr.mono (by omega)) (by rfl) G.m_q_turn G.F_q_turn.kp G.b_q_turn takesB (a_cons (s_call (ok_q_tape G) len_q_tape (hr.mono (by omega)) (by rfl) G.m_q_tape G.F_q_tape.kp G.b_q_tape takesB (a_cons (sv 0) (a_cons (s_int) (a_nil)))) (a_cons (sv 6) (a_nil)))))
    (z_nil))
    (z_nil))
  (z_cons (z_setLc (i := 8) (own := [("_law_row", 9)]) rfl S.nd (by rfl) (by rfl) (by rfl) (by rfl) (by rfl) (i_seq (s_call (ok_q_rows G) len_q_rows (hr.mono (by omega)) (by rfl) G.m_q_rows G.F_q_rows.kp G.b_q_rows takesB (a_cons (sv 2) (a_nil)))) (by rfl) (fun _ _ _ _ _ => gn 9 S.nd) (fun _ _ _ _ _ => ts_one (t_cmp (op_ne.or (op_neD hr.units)) o2_ne (s_ix (sv 9) (sv 3) (fun _ _ => rfl)) (s_int) (nomark _))) (fun _ _ _ _ _ => sv 9))
  (z_cons (zs 10 S.nd (s_call (ok_least_tree G) len_least_tree (hr.mono (by omega)) (by rfl) G.m_least_tree G.F_least_tree.kp G.b_least_tree takesB (a_cons (sv 5) (a_cons (sv 3) (a_cons (sv 2) (a_nil))))))
  (z_cons (zs 11 S.nd (s_call (ok_least_tree G) len_least_tree (hr.mono (by omega)) (by rfl) G.m_least_tree G.F_least_tree.kp G.b_least_tree takesB (a_cons (sv 6) (a_cons (sv 3) (a_cons (sv 2) (a_nil))))))
  (z_cons (z_if (t_of (w_or (t_not (t_val (s_call (ok_q_is_right G) len_q_is_right (hr.mono (by omega)) (by rfl) G.m_q_is_right G.F_q_is_right.kp G.b_q_is_right takesB (a_cons (sv 10) (a_cons (sv 5) (a_cons (sv 3) (a_cons (sv 2) (a_cons (sv 8) (a_nil))))))))) (w_or1 (t_not (t_val (s_call (ok_q_is_right G) len_q_is_right (hr.mono (by omega)) (by rfl) G.m_q_is_right G.F_q_is_right.kp G.b_q_is_right takesB (a_cons (sv 11) (a_cons (sv 6) (a_cons (sv 3) (a_cons (sv 2) (a_cons (sv 8) (a_nil))))))))))))
    (z_cons (z_ret (s_bl))
    (z_nil))
    (z_nil))
  (z_cons (z_if (t_cmp (op_ne.or (op_neD hr.units)) o2_ne (s_call (ok_q_same G 12) (len_q_same 12) (hr.mono (by omega)) (by rfl) G.m_q_same G.F_q_same.kp G.b_q_same takesB (a_cons (sv 10) (a_cons (sv 11) (a_nil)))) (s_call (ok_q_alike G) len_q_alike (hr.mono (by omega)) (by rfl) G.m_q_alike G.F_q_alike.kp G.b_q_alike takesB (a_cons (sv 5) (a_cons (sv 6) (a_cons (sv 8) (a_nil))))) (nomark _))
    (z_cons (z_ret (s_bl))
    (z_nil))
    (z_nil))
  (z_cons (z_if (t_cmp (op_lt.or (op_ltT hr.units0)) o2_lt (sv 2) (s_int) (nomark _))
    (z_cons (zs 12 S.nd (s_mod (c_int G.z_int (a_cons (s_add (sv 3) (s_int)) (a_nil))) (sv 2)))
    (z_cons (z_setLc (i := 8) (own := [("_law_row", 9)]) rfl S.nd (by rfl) (by rfl) (by rfl) (by rfl) (by rfl) (i_seq (s_call (ok_q_rows G) len_q_rows (hr.mono (by omega)) (by rfl) G.m_q_rows G.F_q_rows.kp G.b_q_rows takesB (a_cons (sv 2) (a_nil)))) (by rfl) (fun _ _ _ _ _ => gn 9 S.nd) (fun _ _ _ _ _ => ts_one (t_cmp (op_ne.or (op_neD hr.units)) o2_ne (s_ix (sv 9) (sv 12) (fun _ _ => rfl)) (s_int) (nomark _))) (fun _ _ _ _ _ => sv 9))
    (z_cons (z_if (t_not (t_val (s_call (ok_q_is_right G) len_q_is_right (hr.mono (by omega)) (by rfl) G.m_q_is_right G.F_q_is_right.kp G.b_q_is_right takesB (a_cons (s_call (ok_least_tree G) len_least_tree (hr.mono (by omega)) (by rfl) G.m_least_tree G.F_least_tree.kp G.b_least_tree takesB (a_cons (sv 5) (a_cons (sv 12) (a_cons (sv 2) (a_nil))))) (a_cons (sv 5) (a_cons (sv 12) (a_cons (sv 2) (a_cons (sv 8) (a_nil)))))))))
      (z_cons (z_ret (s_bl))
      (z_nil))
      (z_nil))
    (z_nil))))
    (z_nil))
  (z_cons (z_ret (s_and (s_call (ok_q_same G 12) (len_q_same 12) (hr.mono (by omega)) (by rfl) G.m_q_same G.F_q_same.kp G.b_q_same takesB (a_cons (s_call (ok_least_tree G) len_least_tree (hr.mono (by omega)) (by rfl) G.m_least_tree G.F_least_tree.kp G.b_least_tree takesB (a_cons (sv 5) (a_cons (sv 3) (a_cons (sv 2) (a_nil))))) (a_cons (sv 10) (a_nil)))) (s_one (s_call (ok_q_same G 12) (len_q_same 12) (hr.mono (by omega)) (by rfl) G.m_q_same G.F_q_same.kp G.b_q_same takesB (a_cons (s_call (ok_least_tree G) len_least_tree (hr.mono (by omega)) (by rfl) G.m_least_tree G.F_least_tree.kp G.b_least_tree takesB (a_cons (sv 10) (a_cons (sv 3) (a_cons (sv 2) (a_nil))))) (a_cons (sv 10) (a_nil)))))))
  (z_nil))))))))))))))))
end
end Sm.K25
namespace Sm.K25
open PySem PySem.Spec PyProof.Rows L2 Sm
theorem mk_Gd {K : PySem.W.Frag} {h : Heap} {mg : Str → Option Value} (X : K.In h) (G : h.Ns mainGlobals mg)
    {f0 : Addr} {od0 an0 : Option Addr} {sl0 : Array (Option Value)} {oc0 kV0 dc0 pm0 cd0 ct0 : Value} (a0 : PySem.W.nsIn K mainGlobals "_law_follow" = some (some (.ref f0))) (l0 : K.lookup f0 = some ⟨oc0, od0, .func (PySem.W.fnOf "_law_follow" "_law_follow" (defArgs s_q_follow) (defBody s_q_follow) (defScope s_q_follow) .none kV0 dc0 pm0 an0 cd0 ct0), sl0⟩) (c0 : PySem.W.codeIn K cd0 "_law_follow" = true) (k0 : PySem.W.keepIn K (.ref f0) = true)
    {f1 : Addr} {od1 an1 : Option Addr} {sl1 : Array (Option Value)} {oc1 kV1 dc1 pm1 cd1 ct1 : Value} (a1 : PySem.W.nsIn K mainGlobals "_law_alike" = some (some (.ref f1))) (l1 : K.lookup f1 = some ⟨oc1, od1, .func (PySem.W.fnOf "_law_alike" "_law_alike" (defArgs s_q_alike) (defBody s_q_alike) (defScope s_q_alike) .none kV1 dc1 pm1 an1 cd1 ct1), sl1⟩) (c1 : PySem.W.codeIn K cd1 "_law_alike" = true) (k1 : PySem.W.keepIn K (.ref f1) = true)
    {f2 : Addr} {od2 an2 : Option Addr} {sl2 : Array (Option Value)} {oc2 kV2 dc2 pm2 cd2 ct2 : Value} (a2 : PySem.W.nsIn K mainGlobals "_law_is_integer" = some (some (.ref f2))) (l2 : K.lookup f2 = some ⟨oc2, od2, .func (PySem.W.fnOf "_law_is_integer" "_law_is_integer" (defArgs s_q_is_integer) (defBody s_q_is_integer) (defScope s_q_is_integer) .none kV2 dc2 pm2 an2 cd2 ct2), sl2⟩) (c2 : PySem.W.codeIn K cd2 "_law_is_integer" = true) (k2 : PySem.W.keepIn K (.ref f2) = true)
    {f3 : Addr} {od3 an3 : Option Addr} {sl3 : Array (Option Value)} {oc3 kV3 dc3 pm3 cd3 ct3 : Value} (a3 : PySem.W.nsIn K mainGlobals "_law_same" = some (some (.ref f3))) (l3 : K.lookup f3 = some ⟨oc3, od3, .func (PySem.W.fnOf "_law_same" "_law_same" (defArgs s_q_same) (defBody s_q_same) (defScope s_q_same) .none kV3 dc3 pm3 an3 cd3 ct3), sl3⟩) (c3 : PySem.W.codeIn K cd3 "_law_same" = true) (k3 : PySem.W.keepIn K (.ref f3) = true)
    {f4 : Addr} {od4 an4 : Option Addr} {sl4 : Array (Option Value)} {oc4 kV4 dc4 pm4 cd4 ct4 : Value} (a4 : PySem.W.nsIn K mainGlobals "_law_is_least" = some (some (.ref f4))) (l4 : K.lookup f4 = some ⟨oc4, od4, .func (PySem.W.fnOf "_law_is_least" "_law_is_least" (defArgs s_q_is_least) (defBody s_q_is_least) (defScope s_q_is_least) .none kV4 dc4 pm4 an4 cd4 ct4), sl4⟩) (c4 : PySem.W.codeIn K cd4 "_law_is_least" = true) (k4 : PySem.W.keepIn K (.ref f4) = true)
    {f5 : Addr} {od5 an5 : Option Addr} {sl5 : Array (Option Value)} {oc5 kV5 dc5 pm5 cd5 ct5 : Value} (a5 : PySem.W.nsIn K mainGlobals "_law_is_right" = some (some (.ref f5))) (l5 : K.lookup f5 = some ⟨oc5, od5, .func (PySem.W.fnOf "_law_is_right" "_law_is_right" (defArgs s_q_is_right) (defBody s_q_is_right) (defScope s_q_is_right) .none kV5 dc5 pm5 an5 cd5 ct5), sl5⟩) (c5 : PySem.W.codeIn K cd5 "_law_is_right" = true) (k5 : PySem.W.keepIn K (.ref f5) = true)
    {f6 : Addr} {od6 an6 : Option Addr} {sl6 : Array (Option Value)} {oc6 kV6 dc6 pm6 cd6 ct6 : Value} (a6 : PySem.W.nsIn K mainGlobals "_law_take" = some (some (.ref f6))) (l6 : K.lookup f6 = some ⟨oc6, od6, .func (PySem.W.fnOf "_law_take" "_law_take" (defArgs s_q_take) (defBody s_q_take) (defScope s_q_take) .none kV6 dc6 pm6 an6 cd6 ct6), sl6⟩) (c6 : PySem.W.codeIn K cd6 "_law_take" = true) (k6 : PySem.W.keepIn K (.ref f6) = true)
    {f7 : Addr} {od7 an7 : Option Addr} {sl7 : Array (Option Value)} {oc7 kV7 dc7 pm7 cd7 ct7 : Value} (a7 : PySem.W.nsIn K mainGlobals "_law_tree" = some (some (.ref f7))) (l7 : K.lookup f7 = some ⟨oc7, od7, .func (PySem.W.fnOf "_law_tree" "_law_tree" (defArgs s_q_tree) (defBody s_q_tree) (defScope s_q_tree) .none kV7 dc7 pm7 an7 cd7 ct7), sl7⟩) (c7 : PySem.W.codeIn K cd7 "_law_tree" = true) (k7 : PySem.W.keepIn K (.ref f7) = true)
    {f8 : Addr} {od8 an8 : Option Addr} {sl8 : Array (Option Value)} {oc8 kV8 dc8 pm8 cd8 ct8 : Value} (a8 : PySem.W.nsIn K mainGlobals "_law_padded" = some (some (.ref f8))) (l8 : K.lookup f8 = some ⟨oc8, od8, .func (PySem.W.fnOf "_law_padded" "_law_padded" (defArgs s_q_padded) (defBody s_q_padded) (defScope s_q_padded) .none kV8 dc8 pm8 an8 cd8 ct8), sl8⟩) (c8 : PySem.W.codeIn K cd8 "_law_padded" = true) (k8 : PySem.W.keepIn K (.ref f8) = true)
    {f9 : Addr} {od9 an9 : Option Addr} {sl9 : Array (Option Value)} {oc9 kV9 dc9 pm9 cd9 ct9 : Value} (a9 : PySem.W.nsIn K mainGlobals "_law_rows" = some (some (.ref f9))) (l9 : K.lookup f9 = some ⟨oc9, od9, .func (PySem.W.fnOf "_law_rows" "_law_rows" (defArgs s_q_rows) (defBody s_q_rows) (defScope s_q_rows) .none kV9 dc9 pm9 an9 cd9 ct9), sl9⟩) (c9 : PySem.W.codeIn K cd9 "_law_rows" = true) (k9 : PySem.W.keepIn K (.ref f9) = true)
    {f10 : Addr} {od10 an10 : Option Addr} {sl10 : Array (Option Value)} {oc10 kV10 dc10 pm10 cd10 ct10 : Value} (a10 : PySem.W.nsIn K mainGlobals "_law_tape" = some (some (.ref f10))) (l10 : K.lookup f10 = some ⟨oc10, od10, .func (PySem.W.fnOf "_law_tape" "_law_tape" (defArgs s_q_tape) (defBody s_q_tape) (defScope s_q_tape) .none kV10 dc10 pm10 an10 cd10 ct10), sl10⟩) (c10 : PySem.W.codeIn K cd10 "_law_tape" = true) (k10 : PySem.W.keepIn K (.ref f10) = true)
    {f11 : Addr} {od11 an11 : Option Addr} {sl11 : Array (Option Value)} {oc11 kV11 dc11 pm11 cd11 ct11 : Value} (a11 : PySem.W.nsIn K mainGlobals "_law_turn" = some (some (.ref f11))) (l11 : K.lookup f11 = some ⟨oc11, od11, .func (PySem.W.fnOf "_law_turn" "_law_turn" (defArgs s_q_turn) (defBody s_q_turn) (defScope s_q_turn) .none kV11 dc11 pm11 an11 cd11 ct11), sl11⟩) (c11 : PySem.W.codeIn K cd11 "_law_turn" = true) (k11 : PySem.W.keepIn K (.ref f11) = true)
    {f12 : Addr} {od12 an12 : Option Addr} {sl12 : Array (Option Value)} {oc12 kV12 dc12 pm12 cd12 ct12 : Value} (a12 : PySem.W.nsIn K mainGlobals "asked" = some (some (.ref f12))) (l12 : K.lookup f12 = some ⟨oc12, od12, .func (PySem.W.fnOf "asked" "asked" (defArgs s_asked) (defBody s_asked) (defScope s_asked) .none kV12 dc12 pm12 an12 cd12 ct12), sl12⟩) (c12 : PySem.W.codeIn K cd12 "asked" = true) (k12 : PySem.W.keepIn K (.ref f12) = true)
    {f13 : Addr} {od13 an13 : Option Addr} {sl13 : Array (Option Value)} {oc13 kV13 dc13 pm13 cd13 ct13 : Value} (a13 : PySem.W.nsIn K mainGlobals "field_order" = some (some (.ref f13))) (l13 : K.lookup f13 = some ⟨oc13, od13, .func (PySem.W.fnOf "field_order" "field_order" (defArgs s_field_order) (defBody s_field_order) (defScope s_field_order) .none kV13 dc13 pm13 an13 cd13 ct13), sl13⟩) (c13 : PySem.W.codeIn K cd13 "field_order" = true) (k13 : PySem.W.keepIn K (.ref f13) = true)
    {f14 : Addr} {od14 an14 : Option Addr} {sl14 : Array (Option Value)} {oc14 kV14 dc14 pm14 cd14 ct14 : Value} (a14 : PySem.W.nsIn K mainGlobals "follow" = some (some (.ref f14))) (l14 : K.lookup f14 = some ⟨oc14, od14, .func (PySem.W.fnOf "follow" "follow" (defArgs s_follow) (defBody s_follow) (defScope s_follow) .none kV14 dc14 pm14 an14 cd14 ct14), sl14⟩) (c14 : PySem.W.codeIn K cd14 "follow" = true) (k14 : PySem.W.keepIn K (.ref f14) = true)
    {f15 : Addr} {od15 an15 : Option Addr} {sl15 : Array (Option Value)} {oc15 kV15 dc15 pm15 cd15 ct15 : Value} (a15 : PySem.W.nsIn K mainGlobals "with_sign" = some (some (.ref f15))) (l15 : K.lookup f15 = some ⟨oc15, od15, .func (PySem.W.fnOf "with_sign" "with_sign" (defArgs s_with_sign) (defBody s_with_sign) (defScope s_with_sign) .none kV15 dc15 pm15 an15 cd15 ct15), sl15⟩) (c15 : PySem.W.codeIn K cd15 "with_sign" = true) (k15 : PySem.W.keepIn K (.ref f15) = true)
    {f16 : Addr} {od16 an16 : Option Addr} {sl16 : Array (Option Value)} {oc16 kV16 dc16 pm16 cd16 ct16 : Value} (a16 : PySem.W.nsIn K mainGlobals "least_from" = some (some (.ref f16))) (l16 : K.lookup f16 = some ⟨oc16, od16, .func (PySem.W.fnOf "least_from" "least_from" (defArgs s_least_from) (defBody s_least_from) (defScope s_least_from) .none kV16 dc16 pm16 an16 cd16 ct16), sl16⟩) (c16 : PySem.W.codeIn K cd16 "least_from" = true) (k16 : PySem.W.keepIn K (.ref f16) = true)
    {f17 : Addr} {od17 an17 : Option Addr} {sl17 : Array (Option Value)} {oc17 kV17 dc17 pm17 cd17 ct17 : Value} (a17 : PySem.W.nsIn K mainGlobals "least_tree" = some (some (.ref f17))) (l17 : K.lookup f17 = some ⟨oc17, od17, .func (PySem.W.fnOf "least_tree" "least_tree" (defArgs s_least_tree) (defBody s_least_tree) (defScope s_least_tree) .none kV17 dc17 pm17 an17 cd17 ct17), sl17⟩) (c17 : PySem.W.codeIn K cd17 "least_tree" = true) (k17 : PySem.W.keepIn K (.ref f17) = true)
    {f18 : Addr} {od18 an18 : Option Addr} {sl18 : Array (Option Value)} {oc18 kV18 dc18 pm18 cd18 ct18 : Value} (a18 : PySem.W.nsIn K mainGlobals "law" = some (some (.ref f18))) (l18 : K.lookup f18 = some ⟨oc18, od18, .func (PySem.W.fnOf "law" "law" (defArgs s_law) (defBody s_law) (defScope s_law) .none kV18 dc18 pm18 an18 cd18 ct18), sl18⟩) (c18 : PySem.W.codeIn K cd18 "law" = true) (k18 : PySem.W.keepIn K (.ref f18) = true)
    (z0 : PySem.W.nsIn K mainGlobals "abs" = some none)
    (z1 : PySem.W.nsIn K mainGlobals "bool" = some none)
    (z2 : PySem.W.nsIn K mainGlobals "int" = some none)
    (z3 : PySem.W.nsIn K mainGlobals "isinstance" = some none)
    (z4 : PySem.W.nsIn K mainGlobals "len" = some none)
    (z5 : PySem.W.nsIn K mainGlobals "list" = some none)
    (z6 : PySem.W.nsIn K mainGlobals "range" = some none)
    (z7 : PySem.W.nsIn K mainGlobals "set" = some none)
    (z8 : PySem.W.nsIn K mainGlobals "sorted" = some none)
    (z9 : PySem.W.nsIn K mainGlobals "str" = some none)
    (z10 : PySem.W.nsIn K mainGlobals "tuple" = some none)
    : Nonempty (Gd K mg) := ⟨{
  a_q_follow := f0, d_q_follow := PySem.W.fnOf "_law_follow" "_law_follow" (defArgs s_q_follow) (defBody s_q_follow) (defScope s_q_follow) .none kV0 dc0 pm0 an0 cd0 ct0, F_q_follow := fun_mk (st := s_q_follow) l0 c0 k0, m_q_follow := PySem.W.mg_of X G a0, b_q_follow := (fun_mk (st := s_q_follow) l0 c0 k0).binds (ps := ["_law_tree_here", "_law_row"]) fun _ _ _ _ _ _ us hl => match us, hl with | [_, _], _ => rfl,
  a_q_alike := f1, d_q_alike := PySem.W.fnOf "_law_alike" "_law_alike" (defArgs s_q_alike) (defBody s_q_alike) (defScope s_q_alike) .none kV1 dc1 pm1 an1 cd1 ct1, F_q_alike := fun_mk (st := s_q_alike) l1 c1 k1, m_q_alike := PySem.W.mg_of X G a1, b_q_alike := (fun_mk (st := s_q_alike) l1 c1 k1).binds (ps := ["_law_tree_here", "_law_other", "_law_rows_here"]) fun _ _ _ _ _ _ us hl => match us, hl with | [_, _, _], _ => rfl,
  a_q_is_integer := f2, d_q_is_integer := PySem.W.fnOf "_law_is_integer" "_law_is_integer" (defArgs s_q_is_integer) (defBody s_q_is_integer) (defScope s_q_is_integer) .none kV2 dc2 pm2 an2 cd2 ct2, F_q_is_integer := fun_mk (st := s_q_is_integer) l2 c2 k2, m_q_is_integer := PySem.W.mg_of X G a2, b_q_is_integer := (fun_mk (st := s_q_is_integer) l2 c2 k2).binds (ps := ["_law_actual"]) fun _ _ _ _ _ _ us hl => match us, hl with | [_], _ => rfl,
  a_q_same := f3, d_q_same := PySem.W.fnOf "_law_same" "_law_same" (defArgs s_q_same) (defBody s_q_same) (defScope s_q_same) .none kV3 dc3 pm3 an3 cd3 ct3, F_q_same := fun_mk (st := s_q_same) l3 c3 k3, m_q_same := PySem.W.mg_of X G a3, b_q_same := (fun_mk (st := s_q_same) l3 c3 k3).binds (ps := ["_law_actual", "_law_expected"]) fun _ _ _ _ _ _ us hl => match us, hl with | [_, _], _ => rfl,
  a_q_is_least := f4, d_q_is_least := PySem.W.fnOf "_law_is_least" "_law_is_least" (defArgs s_q_is_least) (defBody s_q_is_least) (defScope s_q_is_least) .none kV4 dc4 pm4 an4 cd4 ct4, F_q_is_least := fun_mk (st := s_q_is_least) l4 c4 k4, m_q_is_least := PySem.W.mg_of X G a4, b_q_is_least := (fun_mk (st := s_q_is_least) l4 c4 k4).binds (ps := ["_law_tree_here", "_law_left", "_law_field"]) fun _ _ _ _ _ _ us hl => match us, hl with | [_, _, _], _ => rfl,
  a_q_is_right := f5, d_q_is_right := PySem.W.fnOf "_law_is_right" "_law_is_right" (defArgs s_q_is_right) (defBody s_q_is_right) (defScope s_q_is_right) .none kV5 dc5 pm5 an5 cd5 ct5, F_q_is_right := fun_mk (st := s_q_is_right) l5 c5 k5, m_q_is_right := PySem.W.mg_of X G a5, b_q_is_right := (fun_mk (st := s_q_is_right) l5 c5 k5).binds (ps := ["_law_actual", "_law_tree_here", "_law_field", "_law_n", "_law_rows_here"]) fun _ _ _ _ _ _ us hl => match us, hl with | [_, _, _, _, _], _ => rfl,
  a_q_take := f6, d_q_take := PySem.W.fnOf "_law_take" "_law_take" (defArgs s_q_take) (defBody s_q_take) (defScope s_q_take) .none kV6 dc6 pm6 an6 cd6 ct6, F_q_take := fun_mk (st := s_q_take) l6 c6 k6, m_q_take := PySem.W.mg_of X G a6, b_q_take := (fun_mk (st := s_q_take) l6 c6 k6).binds (ps := ["_law_tape_here", "_law_size"]) fun _ _ _ _ _ _ us hl => match us, hl with | [_, _], _ => rfl,
  a_q_tree := f7, d_q_tree := PySem.W.fnOf "_law_tree" "_law_tree" (defArgs s_q_tree) (defBody s_q_tree) (defScope s_q_tree) .none kV7 dc7 pm7 an7 cd7 ct7, F_q_tree := fun_mk (st := s_q_tree) l7 c7 k7, m_q_tree := PySem.W.mg_of X G a7, b_q_tree := (fun_mk (st := s_q_tree) l7 c7 k7).binds (ps := ["_law_tape_here", "_law_n", "_law_levels"]) fun _ _ _ _ _ _ us hl => match us, hl with | [_, _, _], _ => rfl,
  a_q_padded := f8, d_q_padded := PySem.W.fnOf "_law_padded" "_law_padded" (defArgs s_q_padded) (defBody s_q_padded) (defScope s_q_padded) .none kV8 dc8 pm8 an8 cd8 ct8, F_q_padded := fun_mk (st := s_q_padded) l8 c8 k8, m_q_padded := PySem.W.mg_of X G a8, b_q_padded := (fun_mk (st := s_q_padded) l8 c8 k8).binds (ps := ["_law_tape_here", "_law_tree_here", "_law_field", "_law_known", "_law_levels"]) fun _ _ _ _ _ _ us hl => match us, hl with | [_, _, _, _, _], _ => rfl,
  a_q_rows := f9, d_q_rows := PySem.W.fnOf "_law_rows" "_law_rows" (defArgs s_q_rows) (defBody s_q_rows) (defScope s_q_rows) .none kV9 dc9 pm9 an9 cd9 ct9, F_q_rows := fun_mk (st := s_q_rows) l9 c9 k9, m_q_rows := PySem.W.mg_of X G a9, b_q_rows := (fun_mk (st := s_q_rows) l9 c9 k9).binds (ps := ["_law_n"]) fun _ _ _ _ _ _ us hl => match us, hl with | [_], _ => rfl,
  a_q_tape := f10, d_q_tape := PySem.W.fnOf "_law_tape" "_law_tape" (defArgs s_q_tape) (defBody s_q_tape) (defScope s_q_tape) .none kV10 dc10 pm10 an10 cd10 ct10, F_q_tape := fun_mk (st := s_q_tape) l10 c10 k10, m_q_tape := PySem.W.mg_of X G a10, b_q_tape := (fun_mk (st := s_q_tape) l10 c10 k10).binds (ps := ["_law_script", "_law_k"]) fun _ _ _ _ _ _ us hl => match us, hl with | [_, _], _ => rfl,
  a_q_turn := f11, d_q_turn := PySem.W.fnOf "_law_turn" "_law_turn" (defArgs s_q_turn) (defBody s_q_turn) (defScope s_q_turn) .none kV11 dc11 pm11 an11 cd11 ct11, F_q_turn := fun_mk (st := s_q_turn) l11 c11 k11, m_q_turn := PySem.W.mg_of X G a11, b_q_turn := (fun_mk (st := s_q_turn) l11 c11 k11).binds (ps := ["_law_tape_here", "_law_tree_here"]) fun _ _ _ _ _ _ us hl => match us, hl with | [_, _], _ => rfl,
  a_asked := f12, d_asked := PySem.W.fnOf "asked" "asked" (defArgs s_asked) (defBody s_asked) (defScope s_asked) .none kV12 dc12 pm12 an12 cd12 ct12, F_asked := fun_mk (st := s_asked) l12 c12 k12, m_asked := PySem.W.mg_of X G a12, b_asked := (fun_mk (st := s_asked) l12 c12 k12).binds (ps := ["tree"]) fun _ _ _ _ _ _ us hl => match us, hl with | [_], _ => rfl,
  a_field_order := f13, d_field_order := PySem.W.fnOf "field_order" "field_order" (defArgs s_field_order) (defBody s_field_order) (defScope s_field_order) .none kV13 dc13 pm13 an13 cd13 ct13, F_field_order := fun_mk (st := s_field_order) l13 c13 k13, m_field_order := PySem.W.mg_of X G a13, b_field_order := (fun_mk (st := s_field_order) l13 c13 k13).binds (ps := ["field", "fields"]) fun _ _ _ _ _ _ us hl => match us, hl with | [_, _], _ => rfl,
  a_follow := f14, d_follow := PySem.W.fnOf "follow" "follow" (defArgs s_follow) (defBody s_follow) (defScope s_follow) .none kV14 dc14 pm14 an14 cd14 ct14, F_follow := fun_mk (st := s_follow) l14 c14 k14, m_follow := PySem.W.mg_of X G a14, b_follow := (fun_mk (st := s_follow) l14 c14 k14).binds (ps := ["tree", "row"]) fun _ _ _ _ _ _ us hl => match us, hl with | [_, _], _ => rfl,
  a_with_sign := f15, d_with_sign := PySem.W.fnOf "with_sign" "with_sign" (defArgs s_with_sign) (defBody s_with_sign) (defScope s_with_sign) .none kV15 dc15 pm15 an15 cd15 ct15, F_with_sign := fun_mk (st := s_with_sign) l15 c15 k15, m_with_sign := PySem.W.mg_of X G a15, b_with_sign := (fun_mk (st := s_with_sign) l15 c15 k15).binds (ps := ["row", "field", "value"]) fun _ _ _ _ _ _ us hl => match us, hl with | [_, _, _], _ => rfl,
  a_least_from := f16, d_least_from := PySem.W.fnOf "least_from" "least_from" (defArgs s_least_from) (defBody s_least_from) (defScope s_least_from) .none kV16 dc16 pm16 an16 cd16 ct16, F_least_from := fun_mk (st := s_least_from) l16 c16 k16, m_least_from := PySem.W.mg_of X G a16, b_least_from := (fun_mk (st := s_least_from) l16 c16 k16).binds (ps := ["tree", "field", "row", "left"]) fun _ _ _ _ _ _ us hl => match us, hl with | [_, _, _, _], _ => rfl,
  a_least_tree := f17, d_least_tree := PySem.W.fnOf "least_tree" "least_tree" (defArgs s_least_tree) (defBody s_least_tree) (defScope s_least_tree) .none kV17 dc17 pm17 an17 cd17 ct17, F_least_tree := fun_mk (st := s_least_tree) l17 c17 k17, m_least_tree := PySem.W.mg_of X G a17, b_least_tree := (fun_mk (st := s_least_tree) l17 c17 k17).binds (ps := ["tree", "field", "fields"]) fun _ _ _ _ _ _ us hl => match us, hl with | [_, _, _], _ => rfl,
  a_law := f18, d_law := PySem.W.fnOf "law" "law" (defArgs s_law) (defBody s_law) (defScope s_law) .none kV18 dc18 pm18 an18 cd18 ct18, F_law := fun_mk (st := s_law) l18 c18 k18, m_law := PySem.W.mg_of X G a18, b_law := (fun_mk (st := s_law) l18 c18 k18).binds (ps := ["_law_script"]) fun _ _ _ _ _ _ us hl => match us, hl with | [_], _ => rfl,
  z_abs := PySem.W.mg_none_of X G z0,
  z_bool := PySem.W.mg_none_of X G z1,
  z_int := PySem.W.mg_none_of X G z2,
  z_isinstance := PySem.W.mg_none_of X G z3,
  z_len := PySem.W.mg_none_of X G z4,
  z_list := PySem.W.mg_none_of X G z5,
  z_range := PySem.W.mg_none_of X G z6,
  z_set := PySem.W.mg_none_of X G z7,
  z_sorted := PySem.W.mg_none_of X G z8,
  z_str := PySem.W.mg_none_of X G z9,
  z_tuple := PySem.W.mg_none_of X G z10 }⟩
theorem all_mk {l : PySem.W.OpenLaw} {w : World} {K : PySem.W.Frag} {mg : Str → Option Value} {fa : Addr} (g : Nonempty (Gd K mg)) (hfa : mg "law" = some (.ref fa)) (hl : ∀ ns : List Int, ns.length ≤ 63 → ∃ h', F_law [.scr (ns.map .int)] [] = .ok (.bl true) h') :
    ∃ fd : FuncData, (∀ (s : Shared) (v : Value), BindsTo s fd ⟨[v], []⟩ [("_law_script", v)]) ∧ ∀ base : Heap, K.In base → base.Ns mainGlobals mg → FnOk l.prog w K mg base (L2.CX l.prog w) 29 fa fd ["_law_script"] (spLaw K) := by
  obtain ⟨g⟩ := g
  have e := hfa.symm.trans g.m_law
  cases e
  refine ⟨g.d_law, ?_, fun base _ _ => law_imp (ok_law g) hl⟩
  obtain ⟨oc, od, kV, doc, pm, an, cdv, ct, osl, e, _⟩ := g.F_law.ex
  rw [e]
  exact fun s v => .of_eq rfl
end Sm.K25
end

section
set_option linter.all false
set_option maxRecDepth 10000
/-! Pl: how the plain computations run (no model in sight). -/
namespace Sm
section
variable {e : Env} {h : AH}
/-! continuations by name: simp does not look into them before their turn -/
def kV : Option (Option D) → AH → R D := fun o h => match o with
  | some (some d) => .ok d h
  | _ => .no
@[simp] theorem kV_s (d : D) : kV (some (some d)) h = .ok d h := rfl
@[simp] theorem eV_def (i : Nat) : eV i e h = kV e[i]? h := by unfold eV kV; rfl
@[simp] theorem eC_def (d : D) : eC d e h = .ok d h := rfl
@[simp] theorem e1_def (f : D → AH → R D) (a : AE) : e1 f a e h = (a e h).bind f := rfl
def k2b (f : D → D → AH → R D) (x : D) : D → AH → R D := fun y h => f x y h
@[simp] theorem k2b_def (f : D → D → AH → R D) (x y : D) : k2b f x y h = f x y h := rfl
def k2 (f : D → D → AH → R D) (b : AE) (e : Env) : D → AH → R D := fun x h => (b e h).bind (k2b f x)
@[simp] theorem k2_def (f : D → D → AH → R D) (b : AE) (x : D) : k2 f b e x h = (b e h).bind (k2b f x) := rfl
@[simp] theorem e2_def (f : D → D → AH → R D) (a b : AE) : e2 f a b e h = (a e h).bind (k2 f b e) := rfl
def kcons (x : D) : List D → AH → R (List D) := fun xs h => .ok (x :: xs) h
@[simp] theorem kcons_def (x : D) (xs : List D) : kcons x xs h = .ok (x :: xs) h := rfl
def kL (as : List AE) (e : Env) : D → AH → R (List D) := fun x h => (eL as e h).bind (kcons x)
@[simp] theorem kL_def (as : List AE) (x : D) : kL as e x h = (eL as e h).bind (kcons x) := rfl
@[simp] theorem eL_nil : eL [] e h = .ok [] h := rfl
@[simp] theorem eL_cons (a : AE) (as : List AE) : eL (a :: as) e h = (a e h).bind (kL as e) := rfl
@[simp] theorem eA_def (f : List D → AH → R D) (as : AA) : eA f as e h = (as e h).bind f := rfl
def kIf (a b : AE) (e : Env) : Bool → AH → R D := fun c h => if c then a e h else b e h
@[simp] theorem kIf_t (a b : AE) : kIf a b e true h = a e h := rfl
@[simp] theorem kIf_f (a b : AE) : kIf a b e false h = b e h := rfl
@[simp] theorem eIf_def (t : AB) (a b : AE) : eIf t a b e h = (t e h).bind (kIf a b e) := rfl
def kAnd (b : AE) (e : Env) : D → AH → R D := fun x h1 => match x with
  | .bl true => b e h1
  | .bl false => .ok (.bl false) h1
  | _ => .no
@[simp] theorem kAnd_t (b : AE) : kAnd b e (.bl true) h = b e h := rfl
@[simp] theorem kAnd_f (b : AE) : kAnd b e (.bl false) h = .ok (.bl false) h := rfl
@[simp] theorem eAnd_def (a b : AE) : eAnd a b e h = (a e h).bind (kAnd b e) := rfl
def kOr (b : AE) (e : Env) : D → AH → R D := fun x h1 => match x with
  | .bl true => .ok (.bl true) h1
  | .bl false => b e h1
  | _ => .no
@[simp] theorem kOr_t (b : AE) : kOr b e (.bl true) h = .ok (.bl true) h := rfl
@[simp] theorem kOr_f (b : AE) : kOr b e (.bl false) h = b e h := rfl
@[simp] theorem eOr_def (a b : AE) : eOr a b e h = (a e h).bind (kOr b e) := rfl
def kC2 (g : D → D → AH → R D) (c : AE) (e : Env) (y : D) : D → AH → R D := fun z h3 => match z with
  | .bl true => (c e h3).bind (k2b g y)
  | .bl false => .ok (.bl false) h3
  | _ => .no
@[simp] theorem kC2_t (g : D → D → AH → R D) (c : AE) (y : D) : kC2 g c e y (.bl true) h = (c e h).bind (k2b g y) := rfl
@[simp] theorem kC2_f (g : D → D → AH → R D) (c : AE) (y : D) : kC2 g c e y (.bl false) h = .ok (.bl false) h := rfl
def kC1 (f g : D → D → AH → R D) (c : AE) (e : Env) (x : D) : D → AH → R D := fun y h2 => (f x y h2).bind (kC2 g c e y)
@[simp] theorem kC1_def (f g : D → D → AH → R D) (c : AE) (x y : D) : kC1 f g c e x y h = (f x y h).bind (kC2 g c e y) := rfl
def kC0 (f g : D → D → AH → R D) (b c : AE) (e : Env) : D → AH → R D := fun x h1 => (b e h1).bind (kC1 f g c e x)
@[simp] theorem kC0_def (f g : D → D → AH → R D) (b c : AE) (x : D) : kC0 f g b c e x h = (b e h).bind (kC1 f g c e x) := rfl
@[simp] theorem eChain_def (f g : D → D → AH → R D) (a b c : AE) : eChain f g a b c e h = (a e h).bind (kC0 f g b c e) := rfl
@[simp] theorem notD_def (b : Bool) : notD (.bl b) h = .ok (.bl (!b)) h := rfl
@[simp] theorem tB_def (b : Bool) : tB (.bl b) = some b := rfl
def kB : D → AH → R Bool := fun d h => R.of (tB d) h
@[simp] theorem kB_def (b : Bool) : kB (.bl b) h = .ok b h := rfl
@[simp] theorem tB1_def (a : AE) : tB1 a e h = (a e h).bind kB := rfl
def kTr : D → AH → R Bool := fun d h => R.of (truth h d) h
@[simp] theorem kTr_def (d : D) : kTr d h = R.of (truth h d) h := rfl
@[simp] theorem tV_def (a : AE) : tV a e h = (a e h).bind kTr := rfl
def kN : Bool → AH → R Bool := fun c h => .ok (!c) h
@[simp] theorem kN_def (c : Bool) : kN c h = .ok (!c) h := rfl
@[simp] theorem tNot_def (t : AB) : tNot t e h = (t e h).bind kN := rfl
def kTA (u : AB) (e : Env) : Bool → AH → R Bool := fun c h => if c then u e h else .ok false h
@[simp] theorem kTA_t (u : AB) : kTA u e true h = u e h := rfl
@[simp] theorem kTA_f (u : AB) : kTA u e false h = .ok false h := rfl
@[simp] theorem tAnd_def (t u : AB) : tAnd t u e h = (t e h).bind (kTA u e) := rfl
def kTO (u : AB) (e : Env) : Bool → AH → R Bool := fun c h => if c then .ok true h else u e h
@[simp] theorem kTO_t (u : AB) : kTO u e true h = .ok true h := rfl
@[simp] theorem kTO_f (u : AB) : kTO u e false h = u e h := rfl
@[simp] theorem tOr_def (t u : AB) : tOr t u e h = (t e h).bind (kTO u e) := rfl
@[simp] theorem tYes_def : tYes e h = .ok true h := rfl
@[simp] theorem oN_def : oN e h = .ok none h := rfl
def kO : D → AH → R (Option Int) := fun d h => match d with
  | .int i => .ok (some i) h
  | _ => .no
@[simp] theorem kO_def (i : Int) : kO (.int i) h = .ok (some i) h := rfl
@[simp] theorem oS_def (a : AE) : oS a e h = (a e h).bind kO := rfl
def kS3 (fz : Bool) (x : D) (l : Option Int) : Option Int → AH → R D := fun u h => slD fz x l u h
@[simp] theorem kS3_def (fz : Bool) (x : D) (l u : Option Int) : kS3 fz x l u h = slD fz x l u h := rfl
def kS2 (fz : Bool) (hi : AO1) (e : Env) (x : D) : Option Int → AH → R D := fun l h => (hi e h).bind (kS3 fz x l)
@[simp] theorem kS2_def (fz : Bool) (hi : AO1) (x : D) (l : Option Int) : kS2 fz hi e x l h = (hi e h).bind (kS3 fz x l) := rfl
def kS1 (fz : Bool) (lo hi : AO1) (e : Env) : D → AH → R D := fun x h => (lo e h).bind (kS2 fz hi e x)
@[simp] theorem kS1_def (fz : Bool) (lo hi : AO1) (x : D) : kS1 fz lo hi e x h = (lo e h).bind (kS2 fz hi e x) := rfl
@[simp] theorem eSl_def (fz : Bool) (a : AE) (lo hi : AO1) : eSl fz a lo hi e h = (a e h).bind (kS1 fz lo hi e) := rfl
def kTup : List D → AH → R D := fun xs h1 => R.chk (decide (xs.length ≤ big)) (.ok (.tup xs) h1)
@[simp] theorem kTup_def (xs : List D) : kTup xs h = R.chk (decide (xs.length ≤ big)) (.ok (.tup xs) h) := rfl
@[simp] theorem eTup_def (as : AA) : eTup as e h = (as e h).bind kTup := rfl
def kLst (fz : Bool) : List D → AH → R D := fun xs h1 => R.chk (decide (xs.length ≤ big)) (mkL fz xs h1)
@[simp] theorem kLst_def (fz : Bool) (xs : List D) : kLst fz xs h = R.chk (decide (xs.length ≤ big)) (mkL fz xs h) := rfl
@[simp] theorem eLst_def (fz : Bool) (as : AA) : eLst fz as e h = (as e h).bind (kLst fz) := rfl
def kM (g : AH → D → Bool) (f : D → List D → AH → R D) (as : AA) (e : Env) : D → AH → R D := fun d h1 => R.chk (g h1 d) ((as e h1).bind (f d))
@[simp] theorem kM_def (g : AH → D → Bool) (f : D → List D → AH → R D) (as : AA) (d : D) : kM g f as e d h = R.chk (g h d) ((as e h).bind (f d)) := rfl
@[simp] theorem eM_def (g : AH → D → Bool) (f : D → List D → AH → R D) (a : AE) (as : AA) : eM g f a as e h = (a e h).bind (kM g f as e) := rfl
@[simp] theorem sB_nil : sB [] e h = .ok (.nx e) h := rfl
def kB2 (ss : List AS) : Fl → AH → R Fl := fun f h1 => match f with
  | .nx e1 => sB ss e1 h1
  | f => .ok f h1
@[simp] theorem kB2_nx (ss : List AS) : kB2 ss (.nx e) h = sB ss e h := (rfl)
@[simp] theorem kB2_rt (ss : List AS) (d : D) : kB2 ss (.rt d) h = .ok (.rt d) h := rfl
@[simp] theorem kB2_bk (ss : List AS) : kB2 ss (.bk e) h = .ok (.bk e) h := rfl
@[simp] theorem kB2_ct (ss : List AS) : kB2 ss (.ct e) h = .ok (.ct e) h := rfl
@[simp] theorem kB2_ex (ss : List AS) (x : Ex) : kB2 ss (.ex x e) h = .ok (.ex x e) h := rfl
@[simp] theorem sB_cons (s : AS) (ss : List AS) : sB (s :: ss) e h = (s e h).bind (kB2 ss) := (rfl)
def kE (e : Env) : D → AH → R Fl := fun _ h1 => .ok (.nx e) h1
@[simp] theorem kE_def (d : D) : kE e d h = .ok (.nx e) h := rfl
@[simp] theorem sE_def (a : AE) : sE a e h = up e (a e h) (kE e) := rfl
def kSet (e : Env) (i : Nat) : D → AH → R Fl := fun d h1 => .ok (.nx (e.set i (some d))) h1
@[simp] theorem kSet_def (i : Nat) (d : D) : kSet e i d h = .ok (.nx (e.set i (some d))) h := rfl
@[simp] theorem sSet_def (i : Nat) (a : AE) : sSet i a e h = up e (a e h) (kSet e i) := rfl
def kU3 (f : D → D → D → AH → R D) (z x : D) : D → AH → R D := fun y h3 => f x y z h3
@[simp] theorem kU3_def (f : D → D → D → AH → R D) (z x y : D) : kU3 f z x y h = f x y z h := rfl
def kU2 (f : D → D → D → AH → R D) (i : AE) (e : Env) (z : D) : D → AH → R D := fun x h2 => (i e h2).bind (kU3 f z x)
@[simp] theorem kU2_def (f : D → D → D → AH → R D) (i : AE) (z x : D) : kU2 f i e z x h = (i e h).bind (kU3 f z x) := rfl
def kU1 (f : D → D → D → AH → R D) (o i : AE) (e : Env) : D → AH → R D := fun z h1 => (o e h1).bind (kU2 f i e z)
@[simp] theorem kU1_def (f : D → D → D → AH → R D) (o i : AE) (z : D) : kU1 f o i e z h = (o e h).bind (kU2 f i e z) := rfl
@[simp] theorem sSub_def (f : D → D → D → AH → R D) (o i v : AE) : sSub f o i v e h = up e ((v e h).bind (kU1 f o i e)) (kE e) := rfl
def kAug (i : Nat) (f : D → D → AH → R D) (a : AE) (e : Env) : Option (Option D) → AH → R Fl := fun o h => match o with
  | some (some x) => up e ((a e h).bind (k2b f x)) (kSet e i)
  | _ => .no
@[simp] theorem kAug_def (i : Nat) (f : D → D → AH → R D) (a : AE) (x : D) : kAug i f a e (some (some x)) h = up e ((a e h).bind (k2b f x)) (kSet e i) := rfl
@[simp] theorem sAug_def (i : Nat) (f : D → D → AH → R D) (a : AE) : sAug i f a e h = kAug i f a e e[i]? h := by unfold sAug kAug; rfl
def kSI (a b : AS) (e : Env) : Bool → AH → R Fl := fun c h1 => if c then a e h1 else b e h1
@[simp] theorem kSI_t (a b : AS) : kSI a b e true h = a e h := rfl
@[simp] theorem kSI_f (a b : AS) : kSI a b e false h = b e h := rfl
@[simp] theorem sIf_def (t : AB) (a b : AS) : sIf t a b e h = up e (t e h) (kSI a b e) := rfl
def kRet : D → AH → R Fl := fun d h => .ok (.rt d) h
@[simp] theorem kRet_def (d : D) : kRet d h = .ok (.rt d) h := rfl
@[simp] theorem sRet_def (a : AE) : sRet a e h = up e (a e h) kRet := rfl
@[simp] theorem sRetN_def : sRetN e h = .ok (.rt .non) h := rfl
@[simp] theorem sBrk_def : sBrk e h = .ok (.bk e) h := rfl
@[simp] theorem sCt_def : sCt e h = .ok (.ct e) h := rfl
@[simp] theorem sPass_def : sPass e h = .ok (.nx e) h := rfl
@[simp] theorem gV_def (i : Nat) (d : D) : gV i d e h = .ok (e.set i (some d)) h := rfl
@[simp] theorem on1_def (f : D → AH → R D) (d : D) : on1 f [d] h = f d h := rfl
@[simp] theorem mt0_def (f : D → AH → R D) (d : D) : mt0 f d [] h = f d h := rfl
@[simp] theorem mt1_def (f : D → D → AH → R D) (d x : D) : mt1 f d [x] h = f d x h := rfl
@[simp] theorem add_int (fz : Bool) (i j : Int) : addD fz (.int i) (.int j) h = .ok (.int (i + j)) h := rfl
@[simp] theorem sub_int (i j : Int) : subD (.int i) (.int j) h = .ok (.int (i - j)) h := rfl
@[simp] theorem mul_int (fz : Bool) (i j : Int) : mulD fz (.int i) (.int j) h = R.chk (small i || small j) (.ok (.int (i * j)) h) := rfl
@[simp] theorem mod_int (i j : Int) : modD (.int i) (.int j) h = R.chk (decide (0 < j)) (.ok (.int (i % j)) h) := rfl
@[simp] theorem fdiv_int (i j : Int) : fdivD (.int i) (.int j) h = R.chk (decide (0 < j ∧ j < 1073741824)) (.ok (.int (i / j)) h) := rfl
@[simp] theorem neg_int (i : Int) : negD (.int i) h = .ok (.int (-i)) h := rfl
@[simp] theorem lt_int (i j : Int) : ltD (.int i) (.int j) h = .ok (.bl (decide (i < j))) h := rfl
@[simp] theorem le_int (i j : Int) : leD (.int i) (.int j) h = .ok (.bl (decide (i ≤ j))) h := rfl
@[simp] theorem gt_int (i j : Int) : gtD (.int i) (.int j) h = .ok (.bl (decide (j < i))) h := rfl
@[simp] theorem ge_int (i j : Int) : geD (.int i) (.int j) h = .ok (.bl (decide (j ≤ i))) h := rfl
@[simp] theorem eq_int (i j : Int) : eqD (.int i) (.int j) h = .ok (.bl (decide (i = j))) h := by
  have : decide (D.int i = D.int j) = decide (i = j) := decide_eq_decide.mpr ⟨fun e => D.int.inj e, fun e => by rw [e]⟩
  show R.ok (D.bl (decide (D.int i = D.int j))) h = _
  rw [this]
@[simp] theorem ne_int (i j : Int) : neD (.int i) (.int j) h = .ok (.bl (!decide (i = j))) h := by
  have : decide (D.int i = D.int j) = decide (i = j) := decide_eq_decide.mpr ⟨fun e => D.int.inj e, fun e => by rw [e]⟩
  show R.ok (D.bl (!decide (D.int i = D.int j))) h = _
  rw [this]
@[simp] theorem eq_str (i j : List Nat) : eqD (.str i) (.str j) h = .ok (.bl (decide (i = j))) h := by
  have : decide (D.str i = D.str j) = decide (i = j) := decide_eq_decide.mpr ⟨fun e => D.str.inj e, fun e => by rw [e]⟩
  show R.ok (D.bl (decide (D.str i = D.str j))) h = _
  rw [this]
@[simp] theorem ne_str (i j : List Nat) : neD (.str i) (.str j) h = .ok (.bl (!decide (i = j))) h := by
  have : decide (D.str i = D.str j) = decide (i = j) := decide_eq_decide.mpr ⟨fun e => D.str.inj e, fun e => by rw [e]⟩
  show R.ok (D.bl (!decide (D.str i = D.str j))) h = _
  rw [this]
@[simp] theorem abs_int (i : Int) : absD (.int i) h = .ok (.int (if i < 0 then -i else i)) h := rfl
@[simp] theorem int_int (i : Int) : intD (.int i) h = .ok (.int i) h := rfl
@[simp] theorem isTy_str_str (s : List Nat) : isTy "str" (.str s) h = .ok (.bl true) h := rfl
@[simp] theorem isTy_str_tup (s : List D) : isTy "str" (.tup s) h = .ok (.bl false) h := rfl
@[simp] theorem isTy_str_int (s : Int) : isTy "str" (.int s) h = .ok (.bl false) h := rfl
@[simp] theorem isTy_tup_str (s : List Nat) : isTy "tuple" (.str s) h = .ok (.bl false) h := rfl
@[simp] theorem isTy_tup_tup (s : List D) : isTy "tuple" (.tup s) h = .ok (.bl true) h := rfl
@[simp] theorem isTy_int_int (i : Int) : isTy "int" (.int i) h = .ok (.bl true) h := rfl
@[simp] theorem isTy_bl_int (i : Int) : isTy "bool" (.int i) h = .ok (.bl false) h := rfl
@[simp] theorem len_lst (xs : List D) : lenD (.lst xs) h = .ok (.int xs.length) h := rfl
@[simp] theorem len_tup (xs : List D) : lenD (.tup xs) h = .ok (.int xs.length) h := rfl
@[simp] theorem len_scr (xs : List D) : lenD (.scr xs) h = .ok (.int xs.length) h := rfl
@[simp] theorem tupD_lst (xs : List D) : tupD (.lst xs) h = .ok (.tup xs) h := rfl
@[simp] theorem tupD_tup (xs : List D) : tupD (.tup xs) h = .ok (.tup xs) h := rfl
@[simp] theorem listD_tup (xs : List D) : listD true (.tup xs) h = .ok (.lst xs) h := rfl
@[simp] theorem listD_lst (xs : List D) : listD true (.lst xs) h = .ok (.lst xs) h := rfl
@[simp] theorem ix_tup (xs : List D) (i : Int) : ixD (.tup xs) (.int i) h = R.of (at? xs i) h := rfl
@[simp] theorem ix_lst (xs : List D) (i : Int) : ixD (.lst xs) (.int i) h = R.of (at? xs i) h := rfl
@[simp] theorem ix_scr (xs : List D) (i : Int) : ixD (.scr xs) (.int i) h = R.of (at? xs i) h := rfl
@[simp] theorem truth_bl (b : Bool) : truth h (.bl b) = some b := rfl
@[simp] theorem sl_tup (fz : Bool) (xs : List D) (lo hi : Option Int) : slD fz (.tup xs) lo hi h = .ok (.tup (cut xs lo hi)) h := rfl
@[simp] theorem add_tup (fz : Bool) (xs ys : List D) : addD fz (.tup xs) (.tup ys) h = R.chk (xs.length + ys.length ≤ big) (.ok (.tup (xs ++ ys)) h) := rfl
def kR1 : D → AH → R Src := fun d h1 => match d with
  | .int j => R.chk (inI j) (.ok (.lst (rng 0 j.toNat)) h1)
  | _ => .no
@[simp] theorem kR1_def (j : Int) : kR1 (.int j) h = R.chk (inI j) (.ok (.lst (rng 0 j.toNat)) h) := rfl
@[simp] theorem iR1_def (a : AE) : iR1 a e h = (a e h).bind kR1 := rfl
def kR2 (x : D) : D → AH → R Src := fun y h2 => match x with
  | .int i => match y with
    | .int j => R.chk (inI i && inI j) (.ok (.lst (rng i (j - i).toNat)) h2)
    | _ => .no
  | _ => .no
@[simp] theorem kR2_def (i j : Int) : kR2 (.int i) (.int j) h = R.chk (inI i && inI j) (.ok (.lst (rng i (j - i).toNat)) h) := rfl
def kR2a (b : AE) (e : Env) : D → AH → R Src := fun x h => (b e h).bind (kR2 x)
@[simp] theorem kR2a_def (b : AE) (x : D) : kR2a b e x h = (b e h).bind (kR2 x) := rfl
@[simp] theorem iR2_def (a b : AE) : iR2 a b e h = (a e h).bind (kR2a b e) := rfl
def kIS : D → AH → R Src := fun d h1 => match d with
  | .loc l => match h1[l]? with
    | some (.lst _) => .ok (.live l) h1
    | _ => .no
  | d => match seqH h1 d with
    | some xs => .ok (.lst xs) h1
    | none => .no
@[simp] theorem kIS_tup (xs : List D) : kIS (.tup xs) h = .ok (.lst xs) h := rfl
@[simp] theorem kIS_lst (xs : List D) : kIS (.lst xs) h = .ok (.lst xs) h := rfl
@[simp] theorem kIS_scr (xs : List D) : kIS (.scr xs) h = .ok (.lst xs) h := rfl
@[simp] theorem iS_def (a : AE) : iS a e h = (a e h).bind kIS := rfl
def kFor (g : AG) (b : AS) (e : Env) : Src → AH → R Fl := fun s h1 => forN g b s s.fuel 0 e h1
@[simp] theorem kFor_def (g : AG) (b : AS) (s : Src) : kFor g b e s h = forN g b s s.fuel 0 e h := (rfl)
@[simp] theorem sFor_def (it : AI) (g : AG) (b : AS) : sFor it g b e h = up e (it e h) (kFor g b e) := (rfl)
@[simp] theorem sWhile_def (t : AB) (b : AS) : sWhile t b e h = whileN t b (2 ^ 40) e h := (rfl)
def kmkL (fz : Bool) : List D → AH → R D := fun ys h => mkL fz ys h
@[simp] theorem kmkL_def (fz : Bool) (ys : List D) : kmkL fz ys h = mkL fz ys h := rfl
def kLC (fz : Bool) (own : List Nat) (g : AG) (t : AB) (a : AE) (e : Env) : Src → AH → R D := fun s h1 => (lcN g t a (wipeE e own) s s.fuel 0 [] h1).bind (kmkL fz)
@[simp] theorem kLC_def (fz : Bool) (own : List Nat) (g : AG) (t : AB) (a : AE) (s : Src) : kLC fz own g t a e s h = (lcN g t a (wipeE e own) s s.fuel 0 [] h).bind (kmkL fz) := (rfl)
@[simp] theorem eLC_def (fz : Bool) (own : List Nat) (it : AI) (g : AG) (t : AB) (a : AE) : eLC fz own it g t a e h = (it e h).bind (kLC fz own g t a e) := (rfl)
@[simp] theorem turn_nx (k : Env → AH → R Fl) : turn (.nx e) h k = k e h := rfl
@[simp] theorem turn_ct (k : Env → AH → R Fl) : turn (.ct e) h k = k e h := rfl
@[simp] theorem turn_bk (k : Env → AH → R Fl) : turn (.bk e) h k = .ok (.nx e) h := rfl
@[simp] theorem turn_rt (d : D) (k : Env → AH → R Fl) : turn (.rt d) h k = .ok (.rt d) h := rfl
end
/-! ### places -/
@[simp] theorem at_nat {α : Type} (xs : List α) (i : Nat) : at? xs (i : Int) = xs[i]? := by
  unfold at? ixN
  by_cases h : i < xs.length
  · rw [if_pos (Int.natCast_nonneg i), if_pos (by omega)]; simp
  · rw [if_pos (Int.natCast_nonneg i), if_neg (by omega), List.getElem?_eq_none (by omega)]; rfl
theorem at_nn {α : Type} (xs : List α) (i : Int) (h : 0 ≤ i) : at? xs i = xs[i.toNat]? := by
  obtain ⟨n, rfl⟩ := Int.eq_ofNat_of_zero_le h
  simp
@[simp] theorem at_2 {α : Type} (xs : List α) : at? xs 2 = xs[2]? := at_nat xs 2
@[simp] theorem at_3 {α : Type} (xs : List α) : at? xs 3 = xs[3]? := at_nat xs 3
@[simp] theorem at_4 {α : Type} (xs : List α) : at? xs 4 = xs[4]? := at_nat xs 4
@[simp] theorem at_0 {α : Type} (xs : List α) : at? xs 0 = xs[0]? := at_nat xs 0
@[simp] theorem at_1 {α : Type} (xs : List α) : at? xs 1 = xs[1]? := at_nat xs 1
/-! ### the heap: what stood before, and the new objects -/
theorem get_new {h : AH} {L : AH} {n : Nat} (hn : h.length ≤ n) : (h ++ L)[n]? = L[n - h.length]? := List.getElem?_append_right hn
theorem get_old {h : AH} {L : AH} {n : Nat} (hn : n < h.length) : (h ++ L)[n]? = h[n]? := List.getElem?_append_left hn
theorem set_new {h : AH} {L : AH} {n : Nat} {o : AO} (hn : h.length ≤ n) : (h ++ L).set n o = h ++ L.set (n - h.length) o := List.set_append_right _ _ hn
theorem set_old {h : AH} {L : AH} {n : Nat} {o : AO} (hn : n < h.length) : (h ++ L).set n o = h.set n o ++ L := List.set_append_left _ _ hn
/-! ### list objects -/
def getL (h : AH) (l : Nat) : Option (List D) := match h[l]? with
  | some (.lst xs) => some xs
  | _ => none
theorem getL_of {h : AH} {l : Nat} {xs : List D} (e : h[l]? = some (.lst xs)) : getL h l = some xs := by unfold getL; rw [e]
@[simp] theorem lstH_loc (h : AH) (l : Nat) : lstH h (.loc l) = getL h l := by unfold lstH getL; rfl
@[simp] theorem getL_set {h : AH} {l : Nat} {xs : List D} (hl : l < h.length) : getL (h.set l (.lst xs)) l = some xs := getL_of (by simp [hl])
theorem getL_set_ne {h : AH} {l m : Nat} {o : AO} (hl : l ≠ m) : getL (h.set l o) m = getL h m := by unfold getL; rw [List.getElem?_set_ne hl]
@[simp] theorem getL_old {h L : AH} {l : Nat} (hl : l < h.length) : getL (h ++ L) l = getL h l := by unfold getL; rw [List.getElem?_append_left hl]
theorem getL_new {h L : AH} {l : Nat} (hl : h.length ≤ l) : getL (h ++ L) l = getL L (l - h.length) := by unfold getL; rw [List.getElem?_append_right hl]
@[simp] theorem getL_0 (xs : List D) (L : AH) : getL (.lst xs :: L) 0 = some xs := rfl
@[simp] theorem getL_1 (o : AO) (xs : List D) (L : AH) : getL (o :: .lst xs :: L) 1 = some xs := rfl
@[simp] theorem getL_2 (o o2 : AO) (xs : List D) (L : AH) : getL (o :: o2 :: .lst xs :: L) 2 = some xs := rfl
def kOn (f : Nat → List D → R D) (l : Nat) : Option (List D) → R D
  | some xs => f l xs
  | none => .no
@[simp] theorem kOn_s (f : Nat → List D → R D) (l : Nat) (xs : List D) : kOn f l (some xs) = f l xs := rfl
theorem onL_def (h : AH) (l : Nat) (f : Nat → List D → R D) : onL h (.loc l) f = kOn f l (getL h l) := by
  unfold getL
  show (match h[l]? with
    | some (.lst xs) => f l xs
    | _ => .no) = _
  split <;> simp_all [kOn]
section
variable {h : AH}
theorem append_ok {l : Nat} {xs : List D} (y : D) (e : getL h l = some xs) (hl : xs.length < big) : appendD (.loc l) y h = .ok .non (h.set l (.lst (xs ++ [y]))) := by
  unfold appendD
  rw [onL_def, e]
  show R.chk (decide (xs.length < big)) _ = _
  rw [decide_eq_true hl]; rfl
theorem pop_ok {l : Nat} {xs : List D} {y : D} (e : getL h l = some (xs ++ [y])) : popD (.loc l) h = .ok y (h.set l (.lst xs)) := by
  unfold popD
  rw [onL_def, e]
  simp [kOn]
theorem popAt0_ok {l : Nat} {xs : List D} {y : D} (e : getL h l = some (y :: xs)) : popAtD (.loc l) (.int 0) h = .ok y (h.set l (.lst xs)) := by
  unfold popAtD
  dsimp only
  rw [onL_def, e]
  simp [kOn, ixN]
theorem extT_ok {l : Nat} {xs ys : List D} (e : getL h l = some xs) (hl : xs.length + ys.length ≤ big) : extendD (.loc l) (.tup ys) h = .ok .non (h.set l (.lst (xs ++ ys))) := by
  unfold extendD
  rw [onL_def, e]
  show R.chk (decide (xs.length + ys.length ≤ big)) _ = _
  rw [decide_eq_true hl]; rfl
theorem setIx_ok {l k : Nat} {xs : List D} {i : Int} (v : D) (e : getL h l = some xs) (hk : ixN xs.length i = some k) : setIxD (.loc l) (.int i) v h = .ok .non (h.set l (.lst (xs.set k v))) := by
  unfold setIxD
  dsimp only
  rw [onL_def, e]
  show (R.of (ixN xs.length i) h).bind _ = _
  rw [hk]; rfl
theorem ixL {l : Nat} {xs : List D} (i : Int) (e : getL h l = some xs) : ixD (.loc l) (.int i) h = R.of (at? xs i) h := by
  show (match seqH h (.loc l) with
    | some xs => R.of (at? xs i) h
    | none => .no) = _
  have : seqH h (.loc l) = some xs := (lstH_loc h l).trans e
  rw [this]
theorem lenL {l : Nat} {xs : List D} (e : getL h l = some xs) : lenD (.loc l) h = .ok (.int xs.length) h := by
  show (match seqH h (.loc l) with
    | some xs => R.ok (D.int xs.length) h
    | none => R.no) = _
  have : seqH h (.loc l) = some xs := (lstH_loc h l).trans e
  rw [this]
theorem tupL {l : Nat} {xs : List D} (e : getL h l = some xs) : tupD (.loc l) h = .ok (.tup xs) h := by
  unfold tupD
  have : seqH h (.loc l) = some xs := (lstH_loc h l).trans e
  rw [this]
theorem isL {l : Nat} {xs : List D} (e : getL h l = some xs) : isLst h (.loc l) = true := by
  unfold getL at e
  unfold isLst
  split at e <;> simp_all
theorem truthL {l : Nat} {xs : List D} (e : getL h l = some xs) : truth h (.loc l) = some (!xs.isEmpty) := by
  unfold getL at e
  unfold truth
  split at e <;> simp_all
end
/-! ### loops -/
theorem for_inv {g : AG} {b : AS} {xs : List D} {P : Nat → Env → AH → Prop} {Z : R Fl → Prop}
    (step : ∀ i x e h (k : Env → AH → R Fl), xs[i]? = some x → P i e h → (∀ e2 h2, P (i + 1) e2 h2 → Z (k e2 h2)) → Z ((g x e h).bind fun e1 h1 => (b e1 h1).bind fun f h2 => turn f h2 k))
    (fin : ∀ e h, P xs.length e h → Z (.ok (.nx e) h)) {e : Env} {h : AH} (h0 : P 0 e h) : Z (forN g b (.lst xs) (Src.lst xs).fuel 0 e h) := by
  have main : ∀ n i e h, i ≤ xs.length → xs.length - i < n → P i e h → Z (forN g b (.lst xs) n i e h) := by
    intro n
    induction n with
    | zero => intro i e h _ hn; omega
    | succ n ih =>
      intro i e h hi hn hp
      show Z (match nxt (.lst xs) i h with
        | none => .no
        | some none => .ok (.nx e) h
        | some (some x) => (g x e h).bind fun e1 h1 => (b e1 h1).bind fun f h2 => turn f h2 (forN g b (.lst xs) n (i + 1)))
      show Z (match some xs[i]? with
        | none => .no
        | some none => .ok (.nx e) h
        | some (some x) => (g x e h).bind fun e1 h1 => (b e1 h1).bind fun f h2 => turn f h2 (forN g b (.lst xs) n (i + 1)))
      by_cases hl : i < xs.length
      · rw [List.getElem?_eq_getElem hl]
        exact step i _ e h _ (List.getElem?_eq_getElem hl) hp fun e2 h2 hp2 => ih (i + 1) e2 h2 hl (by omega) hp2
      · rw [List.getElem?_eq_none (by omega)]
        have : i = xs.length := by omega
        subst this
        exact fin e h hp
  exact main _ 0 e h (Nat.zero_le _) (by show _ < xs.length + 1; omega) h0
theorem lc_inv {g : AG} {t : AB} {a : AE} {e0 : Env} {xs : List D} {P : Nat → List D → AH → Prop} {Z : R (List D) → Prop}
    (step : ∀ i x acc h (k : List D → AH → R (List D)), xs[i]? = some x → P i acc h → (∀ acc2 h2, P (i + 1) acc2 h2 → Z (k acc2 h2)) → Z ((g x e0 h).nox.bind fun e1 h1 => (t e1 h1).nox.bind fun c h2 => if c then (a e1 h2).nox.bind fun y h3 => R.chk (decide (acc.length < big)) (k (acc ++ [y]) h3) else k acc h2))
    (fin : ∀ acc h, P xs.length acc h → Z (.ok acc h)) {h : AH} (h0 : P 0 [] h) : Z (lcN g t a e0 (.lst xs) (Src.lst xs).fuel 0 [] h) := by
  have main : ∀ n i acc h, i ≤ xs.length → xs.length - i < n → P i acc h → Z (lcN g t a e0 (.lst xs) n i acc h) := by
    intro n
    induction n with
    | zero => intro i e h _ hn; omega
    | succ n ih =>
      intro i acc h hi hn hp
      show Z (match some xs[i]? with
        | none => .no
        | some none => .ok acc h
        | some (some x) => (g x e0 h).nox.bind fun e1 h1 => (t e1 h1).nox.bind fun c h2 => if c then (a e1 h2).nox.bind fun y h3 => R.chk (decide (acc.length < big)) (lcN g t a e0 (.lst xs) n (i + 1) (acc ++ [y]) h3) else lcN g t a e0 (.lst xs) n (i + 1) acc h2)
      by_cases hl : i < xs.length
      · rw [List.getElem?_eq_getElem hl]
        exact step i _ acc h (fun acc h => lcN g t a e0 (.lst xs) n (i + 1) acc h) (List.getElem?_eq_getElem hl) hp fun e2 h2 hp2 => ih (i + 1) e2 h2 hl (by omega) hp2
      · rw [List.getElem?_eq_none (by omega)]
        have : i = xs.length := by omega
        subst this
        exact fin acc h hp
  exact main _ 0 [] h (Nat.zero_le _) (by show _ < xs.length + 1; omega) h0
theorem while_inv {t : AB} {b : AS} {P : Nat → Env → AH → Prop} {Z : R Fl → Prop}
    (step : ∀ m e h (k : Env → AH → R Fl), P m e h → (∀ m' e2 h2, m' < m → P m' e2 h2 → Z (k e2 h2)) → Z (up e (t e h) fun c h1 => if c then (b e h1).bind fun f h2 => turn f h2 k else .ok (.nx e) h1)) :
    ∀ (n m : Nat) {e : Env} {h : AH}, m < n → P m e h → Z (whileN t b n e h) := by
  intro n
  induction n with
  | zero => intro m e h hm; omega
  | succ n ih => exact fun m e h hm hp => step m e h (whileN t b n) hp fun m' e2 h2 hm' hp' => ih m' (by omega) hp'
theorem rng_get {lo : Int} {n i : Nat} {x : D} (h : (rng lo n)[i]? = some x) : i < n ∧ x = .int (lo + i) := by
  unfold rng at h
  rw [List.getElem?_map] at h
  by_cases hi : i < n
  · rw [List.getElem?_range hi] at h; simp at h; exact ⟨hi, h.symm⟩
  · rw [List.getElem?_eq_none (by simp; omega)] at h; cases h
@[simp] theorem rng_len {lo : Int} {n : Nat} : (rng lo n).length = n := by simp [rng]
/-! ### closed values -/
@[simp] theorem clo_int (n : Nat) (i : Int) : clo n (.int i) = true := rfl
@[simp] theorem clo_str (n : Nat) (i : List Nat) : clo n (.str i) = true := rfl
@[simp] theorem clo_bl (n : Nat) (i : Bool) : clo n (.bl i) = true := rfl
@[simp] theorem clo_non (n : Nat) : clo n .non = true := rfl
@[simp] theorem clo_tup (n : Nat) (ds : List D) : clo n (.tup ds) = clos n ds := by rw [clo]
@[simp] theorem clo_lst (n : Nat) (ds : List D) : clo n (.lst ds) = clos n ds := by rw [clo]
@[simp] theorem clos_nil (n : Nat) : clos n [] = true := by rw [clos]
@[simp] theorem clos_cons (n : Nat) (d : D) (ds : List D) : clos n (d :: ds) = (clo n d && clos n ds) := by rw [clos]
theorem clos_all (n : Nat) : ∀ ds : List D, clos n ds = ds.all (clo n)
  | [] => by simp
  | d :: ds => by simp [clos_all n ds]
@[simp] theorem clos_ints (n : Nat) (ns : List Int) : clos n (ns.map .int) = true := by
  rw [clos_all]; simp
/-- a def's end -/
theorem pre_app {h h1 : AH} {L : AH} (hl : h1.length = h.length) (hp : pre h.length h h1 = true) : pre h.length h (h1 ++ L) = true := by
  unfold pre at hp ⊢
  rw [List.all_eq_true] at hp ⊢
  intro i hi
  have := List.mem_range.mp hi
  rw [List.getElem?_append_left (by omega)]
  exact hp i hi
theorem pre_refl (h : AH) : pre h.length h h = true := by
  unfold pre
  rw [List.all_eq_true]
  intro i _
  simp
theorem pre_set {h : AH} {l : Nat} {o : AO} (ho : cloO h.length o = true) : pre h.length h (h.set l o) = true := by
  unfold pre
  rw [List.all_eq_true]
  intro i hi
  by_cases e : l = i
  · subst e
    rw [List.getElem?_set_self (List.mem_range.mp hi)]
    simp [ho]
  · rw [List.getElem?_set_ne e]; simp
theorem trim_val {h h1 L : AH} {d : D} (hl : h1.length = h.length) (hp : pre h.length h h1 = true) (hd : ∀ l, d ≠ .loc l) (hc : clo h.length d = true) : trim h (.ok d (h1 ++ L)) = .ok d h1 := by
  have hz : frz h.length (h1 ++ L) d = some d := by
    cases d with
    | loc l => exact absurd rfl (hd l)
    | _ =>
      unfold frz
      simp only [hc]
      rfl
  unfold trim
  dsimp only
  rw [hz]
  dsimp only
  rw [pre_app hl hp]
  show R.ok d ((h1 ++ L).take h.length) = _
  rw [← hl, List.take_left]
theorem trim_lst {h h1 L : AH} {l : Nat} {xs : List D} (hl : h1.length = h.length) (hp : pre h.length h h1 = true) (hn : h.length ≤ l) (hg : (h1 ++ L)[l]? = some (.lst xs)) (hc : clos h.length xs = true) : trim h (.ok (.loc l) (h1 ++ L)) = .ok (.lst xs) h1 := by
  have hz : frz h.length (h1 ++ L) (.loc l) = some (.lst xs) := by
    unfold frz
    dsimp only
    rw [if_neg (by omega), hg]
    dsimp only
    rw [hc]; rfl
  unfold trim
  dsimp only
  rw [hz]
  dsimp only
  rw [pre_app hl hp]
  show R.ok _ ((h1 ++ L).take h.length) = _
  rw [← hl, List.take_left]
theorem fnT_eq {p n : Nat} {b : AS} {ds : List D} {h : AH} {d d' : D} {h1 h2 : AH} (hl : ds.length = p) (hb : b (envOf n ds) h = .ok (.rt d) h1) (ht : trim h (.ok d h1) = .ok d' h2) : fnT p n b ds h = .ok d' h2 := by
  unfold fnT
  rw [decide_eq_true hl, hb]
  exact ht
end Sm
end

section
set_option linter.all false
set_option maxRecDepth 10000
/-! Dr: the draws that every law makes. -/
namespace Sm
def takeB : AS := sB [sSet 2 (e2 ixD (eV 0) (eC (.int 0))),
  sSub setIxD (eV 0) (eC (.int 1)) (e2 (addD true) (e2 ixD (eV 0) (eC (.int 1))) (eC (.int 1))),
  sSet 3 (e2 ixD (eV 0) (eC (.int 1))),
  sIf (tB1 (e2 geD (eV 2) (e2 powD (eC (.int 10)) (eC (.int 18))))) (sB [sSub setIxD (eV 0) (eC (.int 0)) (e2 fdivD (eV 2) (eV 1)),
    sRet (e2 modD (eA (on1 intD) (eL [eV 2])) (eV 1))]) (sB []),
  sSet 4 (e2 modD (eA (on1 intD) (eL [e2 (addD true) (e2 (addD true) (eV 2) (e2 (mulD true) (eC (.int 7919)) (eV 3))) (eC (.int 13))])) (eC (.int 2147483647))),
  sSet 4 (e2 modD (eA (on1 intD) (eL [e2 (mulD true) (eV 4) (e2 (addD true) (eV 4) (eC (.int 48271)))])) (eC (.int 2147483629))),
  sSet 4 (e2 modD (eA (on1 intD) (eL [e2 (addD true) (e2 (mulD true) (eV 4) (e2 (addD true) (eV 4) (eC (.int 69621)))) (e2 (mulD true) (eC (.int 31)) (eV 3))])) (eC (.int 2147483647))),
  sRet (e2 modD (eA (on1 intD) (eL [e2 fdivD (eV 4) (eC (.int 9))])) (eV 1))]
def tapeB : AS := sB [sIf (tB1 (e2 ltD (eV 1) (eA (on1 lenD) (eL [eV 0])))) (sB [sRet (eLst false (eL [eA (on1 absD) (eL [e2 ixD (eV 0) (eV 1)]), eC (.int 0)]))]) (sB []),
  sRet (eLst false (eL [eV 1, eC (.int 0)]))]
def tape (c k : Int) : AO := .lst [.int c, .int k]
structure Tp (h : AH) (l : Nat) : Prop where
  ex : ∃ c k, h[l]? = some (tape c k) ∧ 0 ≤ c
def IsTp (o : AO) : Prop := ∃ c k, o = tape c k ∧ 0 ≤ c
theorem Tp.lt {h : AH} {l : Nat} (t : Tp h l) : l < h.length := by
  obtain ⟨c, k, e, _⟩ := t.ex
  exact (List.getElem?_eq_some_iff.mp e).1
theorem IsTp.clo {o : AO} (t : IsTp o) (n : Nat) : cloO n o = true := by
  obtain ⟨c, k, rfl, _⟩ := t
  simp [tape, cloO]
theorem Tp.set {h : AH} {l : Nat} {o : AO} (t : IsTp o) (hl : l < h.length) : Tp (h.set l o) l := by
  obtain ⟨c, k, rfl, hc⟩ := t
  exact ⟨c, k, by simp [hl], hc⟩
theorem Tp.app {h L : AH} {l : Nat} (t : Tp h l) : Tp (h ++ L) l := by
  obtain ⟨c, k, e, hc⟩ := t.ex
  exact ⟨c, k, by rw [List.getElem?_append_left t.lt]; exact e, hc⟩
theorem take_ok {h : AH} {l : Nat} {n : Int} (t : Tp h l) (h0 : 0 < n) (h1 : n < 1073741824) : ∃ r o, 0 ≤ r ∧ r < n ∧ IsTp o ∧ fnT 2 5 takeB [.loc l, .int n] h = .ok (.int r) (h.set l o) := by
  have hl := t.lt
  obtain ⟨c, k, e, hc⟩ := t.ex
  have e0 : getL h l = some [.int c, .int k] := getL_of e
  have hx : ∀ o, pre h.length h (h.set l (tape o (k + 1))) = true := fun o => pre_set (by simp [tape, cloO])
  have fin : ∀ (r o : Int), 0 ≤ r → r < n → 0 ≤ o → takeB (envOf 5 [.loc l, .int n]) h = .ok (.rt (.int r)) (h.set l (tape o (k + 1))) → ∃ r o, 0 ≤ r ∧ r < n ∧ IsTp o ∧ fnT 2 5 takeB [.loc l, .int n] h = .ok (.int r) (h.set l o) := fun r o h1 h2 h3 hb =>
    ⟨r, tape o (k + 1), h1, h2, ⟨o, k + 1, rfl, h3⟩, fnT_eq rfl hb (by
      have := trim_val (h := h) (h1 := h.set l (tape o (k + 1))) (L := []) (d := .int r) (by simp) (hx o) (by simp) (by simp)
      simpa using this)⟩
  have e1 : getL (h.set l (.lst [.int c, .int (k + 1)])) l = some [.int c, .int (k + 1)] := getL_set hl
  have x1 := setIx_ok (h := h) (i := 1) (k := 1) (.int (k + 1)) e0 rfl
  have x2 := fun v => setIx_ok (i := 0) (k := 0) v e1 rfl
  have p1 : powD (.int 10) (.int 18) = fun h => .ok (.int 1000000000000000000) h := by
    funext h; rfl
  by_cases hb : 1000000000000000000 ≤ c
  · refine fin (c % n) (c / n) (Int.emod_nonneg c (by omega)) (Int.emod_lt_of_pos c h0) (Int.ediv_nonneg hc (by omega)) ?_
    simp [takeB, envOf, ixL _ e0, ixL _ e1, x1, x2, p1, hb, h0, h1, tape]
  · have s1 : ∀ x m : Int, m < 2147483648 → 0 < m → small (x % m) = true := fun x m h1 h2 => by
      have a1 := Int.emod_nonneg x (show m ≠ 0 by omega)
      have a2 := Int.emod_lt_of_pos x h2
      exact (small_iff _).mpr ⟨by omega, by omega⟩
    refine fin ((let m1 := (c + 7919 * (k + 1) + 13) % 2147483647; let m2 := (m1 * (m1 + 48271)) % 2147483629; let m3 := (m2 * (m2 + 69621) + 31 * (k + 1)) % 2147483647; m3 / 9) % n) c (Int.emod_nonneg _ (by omega)) (Int.emod_lt_of_pos _ h0) hc ?_
    have s2 : small 7919 = true := by decide
    have s3 : small 31 = true := by decide
    simp [takeB, envOf, ixL _ e0, ixL _ e1, x1, x2, p1, hb, h0, h1, tape, s1, s2, s3]
end Sm
end

section
set_option linter.all false
/-! Srt: ascending lists of ints; sorted() of our model. -/
namespace Sm
theorem asc_eq : ∀ {a b : List Int}, a.Pairwise (· < ·) → b.Pairwise (· < ·) → (∀ x, x ∈ a ↔ x ∈ b) → a = b
  | [], [], _, _, _ => rfl
  | [], y :: b, _, _, h => absurd ((h y).mpr List.mem_cons_self) (by simp)
  | x :: a, [], _, _, h => absurd ((h x).mp List.mem_cons_self) (by simp)
  | x :: a, y :: b, ha, hb, h => by
    rw [List.pairwise_cons] at ha hb
    have hxy : x = y := by
      have h1 : x ∈ y :: b := (h x).mp List.mem_cons_self
      have h2 : y ∈ x :: a := (h y).mpr List.mem_cons_self
      rcases List.mem_cons.mp h1 with z | z
      · exact z
      · rcases List.mem_cons.mp h2 with w | w
        · exact w.symm
        · have := hb.1 x z; have := ha.1 y w; omega
    subst hxy
    refine congrArg (x :: ·) (asc_eq ha.2 hb.2 fun z => ⟨fun hz => ?_, fun hz => ?_⟩)
    · rcases List.mem_cons.mp ((h z).mp (List.mem_cons_of_mem _ hz)) with w | w
      · have := ha.1 z hz; omega
      · exact w
    · rcases List.mem_cons.mp ((h z).mpr (List.mem_cons_of_mem _ hz)) with w | w
      · have := hb.1 z hz; omega
      · exact w
theorem insU_mm (x z : Int) : ∀ ys : List Int, z ∈ insU x ys ↔ z = x ∨ z ∈ ys
  | [] => by simp [insU]
  | y :: ys => by
    unfold insU
    split
    · simp
    · split
      · rename_i h; subst h; simp
      · rw [List.mem_cons, insU_mm x z ys, List.mem_cons]
        constructor
        · rintro (h | h | h) <;> simp [h]
        · rintro (h | h | h) <;> simp [h]
theorem insU_asc (x : Int) : ∀ {ys : List Int}, ys.Pairwise (· < ·) → (insU x ys).Pairwise (· < ·)
  | [], _ => by simp [insU]
  | y :: ys, h => by
    unfold insU
    have h' := List.pairwise_cons.mp h
    split
    · rename_i hxy
      exact List.pairwise_cons.mpr ⟨fun z hz => by
        rcases List.mem_cons.mp hz with e | e
        · omega
        · have := h'.1 z e; omega, h⟩
    · split
      · exact h
      · refine List.pairwise_cons.mpr ⟨fun z hz => ?_, insU_asc x h'.2⟩
        rcases (insU_mm x z ys).mp hz with e | e
        · omega
        · exact h'.1 z e
theorem sortU_mm (z : Int) : ∀ xs : List Int, z ∈ sortU xs ↔ z ∈ xs
  | [] => by simp [sortU]
  | x :: xs => by rw [sortU, insU_mm, sortU_mm z xs, List.mem_cons]
theorem sortU_asc : ∀ xs : List Int, (sortU xs).Pairwise (· < ·)
  | [] => by simp [sortU]
  | x :: xs => by rw [sortU]; exact insU_asc x (sortU_asc xs)
theorem insI_mem (x z : Int) : ∀ ys : List Int, z ∈ insI x ys ↔ z = x ∨ z ∈ ys
  | [] => by simp [insI]
  | y :: ys => by
    unfold insI
    split
    · simp
    · rw [List.mem_cons, insI_mem x z ys, List.mem_cons]
      constructor
      · rintro (h | h | h) <;> simp [h]
      · rintro (h | h | h) <;> simp [h]
theorem insI_asc (x : Int) : ∀ {ys : List Int}, ys.Pairwise (· < ·) → x ∉ ys → (insI x ys).Pairwise (· < ·)
  | [], _, _ => by simp [insI]
  | y :: ys, h, hx => by
    unfold insI
    have h' := List.pairwise_cons.mp h
    have ne : x ≠ y := fun e => hx (by simp [e])
    split
    · rename_i hxy
      exact List.pairwise_cons.mpr ⟨fun z hz => by
        rcases List.mem_cons.mp hz with e | e
        · omega
        · have := h'.1 z e; omega, h⟩
    · refine List.pairwise_cons.mpr ⟨fun z hz => ?_, insI_asc x h'.2 fun e => hx (List.mem_cons_of_mem _ e)⟩
      rcases (insI_mem x z ys).mp hz with e | e
      · omega
      · exact h'.1 z e
theorem sortI_mem (z : Int) : ∀ xs : List Int, z ∈ sortI xs ↔ z ∈ xs
  | [] => by simp [sortI]
  | x :: xs => by rw [sortI, insI_mem, sortI_mem z xs, List.mem_cons]
theorem sortI_asc : ∀ {xs : List Int}, xs.Nodup → (sortI xs).Pairwise (· < ·)
  | [], _ => by simp [sortI]
  | x :: xs, h => by
    rw [sortI]
    have h' := List.nodup_cons.mp h
    exact insI_asc x (sortI_asc h'.2) fun e => h'.1 ((sortI_mem x xs).mp e)
/-- ascending within 0 .. n - 1: at most n -/
theorem asc_len : ∀ {xs : List Int} {lo n : Int}, xs.Pairwise (· < ·) → (∀ x ∈ xs, lo ≤ x ∧ x < n) → lo ≤ n → (xs.length : Int) ≤ n - lo
  | [], lo, n, _, _, h => by simp; omega
  | x :: xs, lo, n, h, hb, hn => by
    have h' := List.pairwise_cons.mp h
    have b := hb x List.mem_cons_self
    have := asc_len (lo := x + 1) (n := n) h'.2 (fun z hz => ⟨by have := h'.1 z hz; omega, (hb z (List.mem_cons_of_mem _ hz)).2⟩) (by omega)
    simp only [List.length_cons]
    omega
@[simp] theorem asInts_map : ∀ ns : List Int, asInts (ns.map .int) = some ns
  | [] => rfl
  | n :: ns => by simp [asInts, asInts_map ns]
/-! ### lists of ints, side by side -/
theorem mapO_ints {f : D → Option D} (hf : ∀ i, f (.int i) = some (.int i)) : ∀ ns : List Int, mapO f (ns.map .int) = some (ns.map .int)
  | [] => rfl
  | n :: ns => by simp [mapO, hf, mapO_ints hf ns]
theorem evs_ints : ∀ a b : List Int, evs (a.map .int) (b.map .int) = decide (a = b)
  | [], [] => rfl
  | [], y :: b => by simp [evs]
  | x :: a, [] => by simp [evs]
  | x :: a, y :: b => by
    rw [List.map_cons, List.map_cons, evs, evs_ints a b, ev, Bool.eq_iff_iff]
    simp
theorem pd_lst_ints (h : AH) (ns : List Int) : pd h 64 (.lst (ns.map .int)) = some (.lst (ns.map .int)) := by
  show (mapO (pd h 63) (ns.map .int)).map D.lst = _
  rw [mapO_ints (f := pd h 63) fun i => rfl]; rfl
@[simp] theorem ne_lst_ints (a b : List Int) (h : AH) : neD (.lst (a.map .int)) (.lst (b.map .int)) h = .ok (.bl (!decide (a = b))) h := by
  unfold neD eqH
  rw [if_neg (by simp [scal]), pd_lst_ints, pd_lst_ints]
  show (R.of (some (ev _ _)) h).bind _ = _
  rw [ev, evs_ints]; rfl
theorem inL_ints (x : Int) : ∀ ys : List Int, inL (.int x) (ys.map .int) = decide (x ∈ ys)
  | [] => by simp [inL]
  | y :: ys => by
    have := inL_ints x ys
    unfold inL at this ⊢
    rw [List.map_cons, List.any_cons, this, ev, Bool.eq_iff_iff]
    simp only [Bool.or_eq_true, beq_iff_eq, decide_eq_true_eq, List.mem_cons]
    exact ⟨fun h => h.imp Eq.symm id, fun h => h.imp Eq.symm id⟩
theorem all_flat_ints (ys : List Int) : (ys.map D.int).all flat = true := by simp [flat]
theorem notIn_L {h : AH} {l : Nat} {ys : List Int} (x : Int) (e : getL h l = some (ys.map .int)) : notInD (.int x) (.loc l) h = .ok (.bl (!decide (x ∈ ys))) h := by
  unfold notInD inH
  have : seqH h (.loc l) = some (ys.map .int) := (lstH_loc h l).trans e
  rw [this]
  dsimp only
  rw [all_flat_ints, inL_ints]
  simp [flat]
theorem sortedL {h : AH} {l : Nat} {ys : List Int} (e : getL h l = some (ys.map .int)) : sortedD true (.loc l) h = .ok (.lst ((sortI ys).map .int)) h := by
  unfold sortedD
  rw [lstH_loc, e]
  simp
theorem sortedSetL {h : AH} {l : Nat} {ys : List Int} (e : getL h l = some (ys.map .int)) (h1 : ys.length < 4000) (h2 : (sortU ys).length < 64) : sortedSetD true (.loc l) h = .ok (.lst ((sortU ys).map .int)) h := by
  unfold sortedSetD
  rw [lstH_loc, e]
  simp [h1, h2]
end Sm
end

section
set_option linter.all false
/-! k01: the plain computations (printed by gen.py) -/
namespace Sm.K01
open Sm
/- _law_are_words: _law_actual, _law_expected, _law_k -/
def b_q_are_words : AS := sB [sIf (tOr (tNot (tV (e1 (isTy "tuple") (eV 0)))) (tB1 (e2 neD (eA (on1 lenD) (eL [eV 0])) (eA (on1 lenD) (eL [eV 1]))))) (sB [sRet (eC (.bl false))]) (sB []),
  sFor (iR1 (eA (on1 lenD) (eL [eV 1]))) (gV 2) (sB [sIf (tOr (tNot (tV (e1 (isTy "str") (e2 ixD (eV 0) (eV 2))))) (tB1 (e2 neD (e2 ixD (eV 0) (eV 2)) (e2 ixD (eV 1) (eV 2))))) (sB [sRet (eC (.bl false))]) (sB [])]),
  sRet (eC (.bl true))]
def F_q_are_words : AF := fnT 2 3 b_q_are_words
/- _law_asked: _law_tree_here, _law_left, _law_fields, _law_k, _law_part -/
def b_q_asked : AS := sB [sSet 1 (eLst false (eL [eV 0])),
  sSet 2 (eLst false (eL [])),
  sFor (iR1 (eC (.int 1200))) (gV 3) (sB [sIf (tB1 (e2 eqD (eA (on1 lenD) (eL [eV 1])) (eC (.int 0)))) (sB [sBrk]) (sB []),
    sSet 4 (eM isLst (mt0 popD) (eV 1) (eL [])),
    sIf (tNot (tV (e1 (isTy "str") (eV 4)))) (sB [sSet 1 (e2 (addD false) (eV 1) (eLst true (eL [e2 ixD (eV 4) (eC (.int 1)), e2 ixD (eV 4) (eC (.int 2)), e2 ixD (eV 4) (eC (.int 3))]))),
      sIf (tB1 (e2 notInD (e2 ixD (eV 4) (eC (.int 0))) (eV 2))) (sB [sE (eM isLst (mt1 appendD) (eV 2) (eL [e2 ixD (eV 4) (eC (.int 0))]))]) (sB [])]) (sB [])]),
  sRet (eA (on1 (sortedD true)) (eL [eV 2]))]
def F_q_asked : AF := fnT 1 5 b_q_asked
/- _law_clashing: _law_tree_here, _law_word, _law_parts, _law_k -/
def b_q_clashing (F : AF) : AS := sB [sIf (tV (e1 (isTy "str") (eV 0))) (sB [sRet (eGet2 (eDisp true [(eV 1, eC (.str [99, 108, 97, 115, 104]))]) (eV 0) (eV 0))]) (sB []),
  sSet 2 (eLC true [3] (iR2 (eC (.int 1)) (eC (.int 4))) (gV 3) (tYes) (eA (F) (eL [e2 ixD (eV 0) (eV 3), eV 1]))),
  sRet (eTup (eL [e2 ixD (eV 0) (eC (.int 0)), e2 ixD (eV 2) (eC (.int 0)), e2 ixD (eV 2) (eC (.int 1)), e2 ixD (eV 2) (eC (.int 2))]))]
def F_q_clashing : Nat → AF
  | 0 => fun _ _ => .no
  | n + 1 => fnT 2 4 (b_q_clashing (F_q_clashing n))
/- _law_ends: _law_tree_here, _law_left, _law_found, _law_k, _law_part -/
def b_q_ends : AS := sB [sSet 1 (eLst false (eL [eV 0])),
  sSet 2 (eLst false (eL [])),
  sFor (iR1 (eC (.int 1200))) (gV 3) (sB [sIf (tB1 (e2 eqD (eA (on1 lenD) (eL [eV 1])) (eC (.int 0)))) (sB [sBrk]) (sB []),
    sSet 4 (eM isLst (mt1 popAtD) (eV 1) (eL [eC (.int 0)])),
    sIf (tV (e1 (isTy "str") (eV 4))) (sB [sE (eM isLst (mt1 appendD) (eV 2) (eL [eV 4]))]) (sB [sSet 1 (e2 (addD false) (eLst true (eL [e2 ixD (eV 4) (eC (.int 1)), e2 ixD (eV 4) (eC (.int 2)), e2 ixD (eV 4) (eC (.int 3))])) (eV 1))])]),
  sRet (eV 2)]
def F_q_ends : AF := fnT 1 5 b_q_ends
/- _law_follow: _law_tree_here, _law_row_here, _law_k -/
def b_q_follow : AS := sB [sFor (iR1 (eC (.int 60))) (gV 2) (sB [sIf (tV (e1 (isTy "str") (eV 0))) (sB [sRet (eV 0)]) (sB []),
    sSet 0 (e2 ixD (eV 0) (e2 (addD true) (eC (.int 2)) (e2 ixD (eV 1) (e2 ixD (eV 0) (eC (.int 0))))))]),
  sRet (eV 0)]
def F_q_follow : AF := fnT 2 3 b_q_follow
/- _law_is_integer: _law_actual -/
def b_q_is_integer : AS := sB [sRet (eAnd (e1 (isTy "int") (eV 0)) (e1 notD (e1 (isTy "bool") (eV 0))))]
def F_q_is_integer : AF := fnT 1 1 b_q_is_integer
/- _law_is_ascending: _law_actual, _law_n, _law_last, _law_value -/
def b_q_is_ascending : AS := sB [sIf (tNot (tV (e1 (isTy "tuple") (eV 0)))) (sB [sRet (eC (.bl false))]) (sB []),
  sSet 2 (e2 subD (eC (.int 0)) (eC (.int 1))),
  sFor (iS (eV 0)) (gV 3) (sB [sIf (tOr (tNot (tV (eA (F_q_is_integer) (eL [eV 3])))) (tNot (tB1 (eChain ltD ltD (eV 2) (eV 3) (eV 1))))) (sB [sRet (eC (.bl false))]) (sB []),
    sSet 2 (eV 3)]),
  sRet (eC (.bl true))]
def F_q_is_ascending : AF := fnT 2 4 b_q_is_ascending
/- _law_take: _law_tape_here, _law_size, _law_cell, _law_k, _law_mixed -/
def b_q_take : AS := sB [sSet 2 (e2 ixD (eV 0) (eC (.int 0))),
  sSub setIxD (eV 0) (eC (.int 1)) (e2 (addD true) (e2 ixD (eV 0) (eC (.int 1))) (eC (.int 1))),
  sSet 3 (e2 ixD (eV 0) (eC (.int 1))),
  sIf (tB1 (e2 geD (eV 2) (e2 powD (eC (.int 10)) (eC (.int 18))))) (sB [sSub setIxD (eV 0) (eC (.int 0)) (e2 fdivD (eV 2) (eV 1)),
    sRet (e2 modD (eA (on1 intD) (eL [eV 2])) (eV 1))]) (sB []),
  sSet 4 (e2 modD (eA (on1 intD) (eL [e2 (addD true) (e2 (addD true) (eV 2) (e2 (mulD true) (eC (.int 7919)) (eV 3))) (eC (.int 13))])) (eC (.int 2147483647))),
  sSet 4 (e2 modD (eA (on1 intD) (eL [e2 (mulD true) (eV 4) (e2 (addD true) (eV 4) (eC (.int 48271)))])) (eC (.int 2147483629))),
  sSet 4 (e2 modD (eA (on1 intD) (eL [e2 (addD true) (e2 (mulD true) (eV 4) (e2 (addD true) (eV 4) (eC (.int 69621)))) (e2 (mulD true) (eC (.int 31)) (eV 3))])) (eC (.int 2147483647))),
  sRet (e2 modD (eA (on1 intD) (eL [e2 fdivD (eV 4) (eC (.int 9))])) (eV 1))]
def F_q_take : AF := fnT 2 5 b_q_take
/- _law_row: _law_tape_here, _law_n, _law_k -/
def b_q_row : AS := sB [sRet (eA (on1 tupD) (eL [eLC true [2] (iR1 (eV 1)) (gV 2) (tYes) (e2 subD (eA (F_q_take) (eL [eV 0, eC (.int 3)])) (eC (.int 1)))]))]
def F_q_row : AF := fnT 2 3 b_q_row
/- _law_tape: _law_script, _law_k -/
def b_q_tape : AS := sB [sIf (tB1 (e2 ltD (eV 1) (eA (on1 lenD) (eL [eV 0])))) (sB [sRet (eLst false (eL [eA (on1 absD) (eL [e2 ixD (eV 0) (eV 1)]), eC (.int 0)]))]) (sB []),
  sRet (eLst false (eL [eV 1, eC (.int 0)]))]
def F_q_tape : AF := fnK 2 2 b_q_tape
/- _law_tree: _law_tape_here, _law_n, _law_levels, _law_field, _law_less, _law_same, _law_more -/
def b_q_tree (F : AF) : AS := sB [sIf (tOr (tB1 (e2 eqD (eV 2) (eC (.int 0)))) (tB1 (e2 eqD (eA (F_q_take) (eL [eV 0, eC (.int 4)])) (eC (.int 0))))) (sB [sRet (e2 ixD (eLst true (eL [eC (.str [111, 108, 100, 101, 114]), eC (.str [110, 101, 119, 101, 114])])) (eA (F_q_take) (eL [eV 0, eC (.int 2)])))]) (sB []),
  sSet 3 (eA (F_q_take) (eL [eV 0, eV 1])),
  sSet 4 (eA (F) (eL [eV 0, eV 1, e2 subD (eV 2) (eC (.int 1))])),
  sSet 5 (eA (F) (eL [eV 0, eV 1, e2 subD (eV 2) (eC (.int 1))])),
  sSet 6 (eA (F) (eL [eV 0, eV 1, e2 subD (eV 2) (eC (.int 1))])),
  sRet (eTup (eL [eV 3, eV 4, eV 5, eV 6]))]
def F_q_tree : Nat → AF
  | 0 => fun _ _ => .no
  | n + 1 => fnT 3 7 (b_q_tree (F_q_tree n))
/- _law_vine: _law_tape_here, _law_n, _law_asks, _law_row_here, _law_tree_here, _law_k, _law_field, _law_place, _law_branches, _law_m -/
def b_q_vine : AS := sB [sSet 4 (e2 ixD (eLst true (eL [eC (.str [111, 108, 100, 101, 114]), eC (.str [110, 101, 119, 101, 114])])) (eA (F_q_take) (eL [eV 0, eC (.int 2)]))),
  sFor (iR1 (eV 2)) (gV 5) (sB [sSet 6 (eA (F_q_take) (eL [eV 0, eV 1])),
    sSet 7 (e2 (addD true) (eC (.int 1)) (e2 ixD (eV 3) (eV 6))),
    sIf (tB1 (e2 eqD (eA (F_q_take) (eL [eV 0, eC (.int 8)])) (eC (.int 0)))) (sB [sSet 7 (eA (F_q_take) (eL [eV 0, eC (.int 3)]))]) (sB []),
    sSet 8 (eLC false [9] (iR1 (eC (.int 3))) (gV 9) (tYes) (e2 ixD (eLst true (eL [eC (.str [111, 108, 100, 101, 114]), eC (.str [110, 101, 119, 101, 114])])) (eA (F_q_take) (eL [eV 0, eC (.int 2)])))),
    sSub setIxD (eV 8) (eV 7) (eV 4),
    sSet 4 (eTup (eL [eV 6, e2 ixD (eV 8) (eC (.int 0)), e2 ixD (eV 8) (eC (.int 1)), e2 ixD (eV 8) (eC (.int 2))]))]),
  sRet (eV 4)]
def F_q_vine : AF := fnT 4 10 b_q_vine
/- _law_wide: _law_tape_here, _law_n, _law_tree_here, _law_layers, _law_k -/
def b_q_wide : AS := sB [sFor (iR1 (eV 3)) (gV 4) (sB [sSet 2 (eTup (eL [eA (F_q_take) (eL [eV 0, eV 1]), eV 2, eV 2, eV 2]))]),
  sRet (eV 2)]
def F_q_wide : AF := fnT 4 5 b_q_wide
/- asked: tree, fields, left, part -/
def b_asked : AS := sB [sSet 1 (eLst false (eL [])),
  sSet 2 (eLst false (eL [eV 0])),
  sWhile (tV (eV 2)) (sB [sSet 3 (eM isLst (mt0 popD) (eV 2) (eL [])),
    sIf (tNot (tV (e1 (isTy "str") (eV 3)))) (sB [sE (eM isLst (mt1 appendD) (eV 1) (eL [e2 ixD (eV 3) (eC (.int 0))])),
      sE (eM isLst (mt1 extendD) (eV 2) (eL [eSl true (eV 3) (oS (eC (.int 1))) (oN)]))]) (sB [])]),
  sRet (eA (on1 tupD) (eL [e1 (sortedSetD true) (eV 1)]))]
def F_asked : AF := fnT 1 4 b_asked
/- ends: tree, found, left, part -/
def b_ends : AS := sB [sSet 1 (eLst false (eL [])),
  sSet 2 (eLst false (eL [eV 0])),
  sWhile (tV (eV 2)) (sB [sSet 3 (eM isLst (mt0 popD) (eV 2) (eL [])),
    sIf (tV (e1 (isTy "str") (eV 3))) (sB [sE (eM isLst (mt1 appendD) (eV 1) (eL [eV 3]))]) (sB [sE (eM isLst (mt1 extendD) (eV 2) (eL [eTup (eL [e2 ixD (eV 3) (eC (.int 3)), e2 ixD (eV 3) (eC (.int 2)), e2 ixD (eV 3) (eC (.int 1))])]))])]),
  sRet (eA (on1 tupD) (eL [eV 1]))]
def F_ends : AF := fnT 1 4 b_ends
/- follow: tree, row -/
def b_follow : AS := sB [sWhile (tNot (tV (e1 (isTy "str") (eV 0)))) (sB [sSet 0 (e2 ixD (eV 0) (e2 (addD true) (eC (.int 2)) (e2 ixD (eV 1) (e2 ixD (eV 0) (eC (.int 0))))))]),
  sRet (eV 0)]
def F_follow : AF := fnT 2 2 b_follow
/- law: _law_script, _law_tape_here, _law_n, _law_shape, _law_levels, _law_rows, _law_k, _law_tree_here, _law_expected_ends, _law_expected_fields, _law_turn, _law_row_here, _law_actual -/
def b_law : AS := sB [sSet 1 (eA (F_q_tape) (eL [eV 0, eC (.int 0)])),
  sSet 2 (e2 (addD true) (eC (.int 1)) (eA (F_q_take) (eL [eV 1, eC (.int 10)]))),
  sSet 3 (eA (F_q_take) (eL [eV 1, eC (.int 8)])),
  sSet 4 (e2 (addD true) (eC (.int 1)) (eA (F_q_take) (eL [eV 1, eC (.int 4)]))),
  sSet 5 (eLC true [6] (iR1 (eC (.int 3))) (gV 6) (tYes) (eA (F_q_row) (eL [eA (F_q_tape) (eL [eV 0, e2 (addD true) (eC (.int 1)) (eV 6)]), eV 2]))),
  sIf (tB1 (e2 eqD (eV 3) (eC (.int 0)))) (sB [sSet 7 (eA (F_q_vine) (eL [eV 1, eV 2, e2 (addD true) (eC (.int 5)) (eA (F_q_take) (eL [eV 1, eC (.int 16)])), e2 ixD (eV 5) (eC (.int 0))]))]) (sB [sIf (tB1 (e2 eqD (eV 3) (eC (.int 1)))) (sB [sSet 7 (eA (F_q_wide) (eL [eV 1, eV 2, eA (F_q_tree 8) (eL [eV 1, eV 2, e2 subD (eV 4) (eC (.int 1))]), eC (.int 1)]))]) (sB [sIf (tB1 (e2 eqD (eV 3) (eC (.int 2)))) (sB [sSet 7 (eA (F_q_wide) (eL [eV 1, eV 2, eA (F_q_tree 8) (eL [eV 1, eV 2, eV 4]), eC (.int 2)]))]) (sB [sSet 7 (eA (F_q_tree 8) (eL [eV 1, eV 2, eV 4]))])])]),
  sIf (tB1 (e2 eqD (eA (F_q_take) (eL [eV 1, eC (.int 4)])) (eC (.int 0)))) (sB [sSet 7 (eA (F_q_clashing 24) (eL [eV 7, e2 ixD (eLst true (eL [eC (.str [111, 108, 100, 101, 114]), eC (.str [110, 101, 119, 101, 114])])) (eA (F_q_take) (eL [eV 1, eC (.int 2)]))]))]) (sB []),
  sSet 8 (eA (F_q_ends) (eL [eV 7])),
  sSet 9 (eA (F_q_asked) (eL [eV 7])),
  sFor (iR1 (eC (.int 2))) (gV 10) (sB [sFor (iS (eV 5)) (gV 11) (sB [sSet 12 (eA (F_follow) (eL [eV 7, eV 11])),
      sIf (tOr (tNot (tV (e1 (isTy "str") (eV 12)))) (tB1 (e2 neD (eV 12) (eA (F_q_follow) (eL [eV 7, eV 11]))))) (sB [sRet (eC (.bl false))]) (sB [])]),
    sIf (tNot (tV (eA (F_q_are_words) (eL [eA (F_ends) (eL [eV 7]), eV 8])))) (sB [sRet (eC (.bl false))]) (sB []),
    sSet 12 (eA (F_asked) (eL [eV 7])),
    sIf (tOr (tNot (tV (eA (F_q_is_ascending) (eL [eV 12, eV 2])))) (tB1 (e2 neD (eA (on1 (listD true)) (eL [eV 12])) (eV 9)))) (sB [sRet (eC (.bl false))]) (sB [])]),
  sRet (eC (.bl true))]
def F_law : AF := fnT 1 13 b_law
end Sm.K01
end

section
set_option linter.all false
set_option maxRecDepth 10000
namespace Sm.K01
open Sm
theorem take_ok {h : AH} {l : Nat} {n : Int} (t : Tp h l) (h0 : 0 < n) (h1 : n < 1073741824) : ∃ r o, 0 ≤ r ∧ r < n ∧ IsTp o ∧ F_q_take [.loc l, .int n] h = .ok (.int r) (h.set l o) := Sm.take_ok t h0 h1
/-- the end of a def that only draws -/
theorem fnT_draw {p n : Nat} {b : AS} {ds : List D} {h : AH} {d : D} {l : Nat} {o : AO} (ho : IsTp o) (hl : ds.length = p) (hb : b (envOf n ds) h = .ok (.rt d) (h.set l o)) (hd : ∀ l, d ≠ .loc l) (hc : clo h.length d = true) : fnT p n b ds h = .ok d (h.set l o) :=
  fnT_eq hl hb (by
    have := trim_val (h := h) (h1 := h.set l o) (L := []) (d := d) (by simp) (pre_set (ho.clo _)) hd hc
    simpa using this)
theorem fnT_same {p n : Nat} {b : AS} {ds : List D} {h : AH} {d : D} {L : AH} (hl : ds.length = p) (hb : b (envOf n ds) h = .ok (.rt d) (h ++ L)) (hd : ∀ l, d ≠ .loc l) (hc : clo h.length d = true) : fnT p n b ds h = .ok d h :=
  fnT_eq hl hb (trim_val rfl (pre_refl h) hd hc)
inductive Tr where
  | leaf (s : List Nat) | node (f : Int) (a b c : Tr)
def Tr.enc : Tr → D
  | .leaf s => .str s
  | .node f a b c => .tup [.int f, a.enc, b.enc, c.enc]
def Tr.ok (n : Int) : Tr → Prop
  | .leaf _ => True
  | .node f a b c => 0 ≤ f ∧ f < n ∧ a.ok n ∧ b.ok n ∧ c.ok n
def Tr.dep : Tr → Nat
  | .leaf _ => 0
  | .node _ a b c => 1 + max a.dep (max b.dep c.dep)
def Tr.size : Tr → Nat
  | .leaf _ => 1
  | .node _ a b c => 1 + (a.size + b.size + c.size)
theorem Tr.clo_enc (n : Nat) : ∀ t : Tr, clo n t.enc = true
  | .leaf s => by simp [Tr.enc]
  | .node f a b c => by simp [Tr.enc, a.clo_enc n, b.clo_enc n, c.clo_enc n]
theorem Tr.enc_loc (t : Tr) (l : Nat) : t.enc ≠ .loc l := by cases t <;> simp [Tr.enc]
def word (r : Int) : List Nat := if r = 0 then [111, 108, 100, 101, 114] else [110, 101, 119, 101, 114]
theorem at_word {r : Int} (h0 : 0 ≤ r) (h2 : r < 2) : at? [D.str [111, 108, 100, 101, 114], D.str [110, 101, 119, 101, 114]] r = some (.str (word r)) := by
  have : r = 0 ∨ r = 1 := by omega
  rcases this with rfl | rfl <;> simp [word]
theorem is_integer_ok (h : AH) (i : Int) : F_q_is_integer [.int i] h = .ok (.bl true) h :=
  fnT_same (L := []) rfl (by simp [b_q_is_integer, envOf]) (by simp) (by simp)
@[simp] theorem leBig2 : decide (2 ≤ big) = true := by decide
@[simp] theorem leBig3 : decide (3 ≤ big) = true := by decide
@[simp] theorem leBig4 : decide (4 ≤ big) = true := by decide
theorem big2 : 2 ≤ big := by decide
theorem big4 : 4 ≤ big := by decide
theorem big1 : 1 ≤ big := by decide
theorem big3 : 3 ≤ big := by decide
def S : Nat → Nat
  | 0 => 1
  | n + 1 => 1 + 3 * S n
theorem S_mono (n : Nat) : 1 ≤ S n := by cases n <;> simp [S]
theorem tree_ok {n : Int} (h0 : 0 < n) (h1 : n < 1073741824) {l : Nat} : ∀ (lv fuel : Nat) (h : AH), lv < fuel → Tp h l → ∃ (t : Tr) (o : AO), IsTp o ∧ t.ok n ∧ t.dep ≤ lv ∧ t.size ≤ S lv ∧ F_q_tree fuel [.loc l, .int n, .int lv] h = .ok t.enc (h.set l o) := by
  intro lv
  induction lv with
  | zero =>
    intro fuel h hf tp
    obtain ⟨fuel, rfl⟩ : ∃ m, fuel = m + 1 := ⟨fuel - 1, by omega⟩
    obtain ⟨r, o, r0, r1, ho, e⟩ := take_ok (n := 2) tp (by omega) (by omega)
    refine ⟨.leaf (word r), o, ho, trivial, Nat.le_refl _, Nat.le_refl _, fnT_draw ho rfl ?_ (Tr.enc_loc _) (Tr.clo_enc _ _)⟩
    simp [b_q_tree, envOf, e, at_word r0 r1, Tr.enc, big2]
  | succ lv ih =>
    intro fuel h hf tp
    obtain ⟨fuel, rfl⟩ : ∃ m, fuel = m + 1 := ⟨fuel - 1, by omega⟩
    have hl := tp.lt
    have hz : ¬ ((lv : Int) + 1 = 0) := by omega
    obtain ⟨r, o, r0, r1, ho, e⟩ := take_ok (n := 4) tp (by omega) (by omega)
    by_cases hr : r = 0
    · subst hr
      obtain ⟨r2, o2, r20, r21, ho2, e2⟩ := take_ok (n := 2) (Tp.set ho hl) (by omega) (by omega)
      refine ⟨.leaf (word r2), o2, ho2, trivial, Nat.zero_le _, S_mono _, fnT_draw ho2 rfl ?_ (Tr.enc_loc _) (Tr.clo_enc _ _)⟩
      simp [b_q_tree, envOf, e, e2, at_word r20 r21, Tr.enc, hz, big2]
    · obtain ⟨f, o2, f0, f1, ho2, e2⟩ := take_ok (n := n) (Tp.set ho hl) h0 h1
      obtain ⟨a, o3, ho3, ka, da, sa, e3⟩ := ih fuel _ (by omega) (Tp.set ho2 (h := h.set l o) (by simpa using hl))
      obtain ⟨b, o4, ho4, kb, db, sb, e4⟩ := ih fuel _ (by omega) (Tp.set ho3 (h := (h.set l o).set l o2) (by simpa using hl))
      obtain ⟨c, o5, ho5, kc, dc, sc, e5⟩ := ih fuel _ (by omega) (Tp.set ho4 (h := ((h.set l o).set l o2).set l o3) (by simpa using hl))
      refine ⟨.node f a b c, o5, ho5, ⟨f0, f1, ka, kb, kc⟩, by simp only [Tr.dep]; omega, by simp only [Tr.size, S]; omega, fnT_draw ho5 rfl ?_ (Tr.enc_loc _) (Tr.clo_enc _ _)⟩
      simp only [List.set_set] at e2 e3 e4 e5
      have hv : (lv : Int) + 1 - 1 = lv := by omega
      simp [b_q_tree, envOf, e, hr, e2, e3, e4, e5, Tr.enc, hz, hv, big4]
end Sm.K01
end

section
set_option linter.all false
set_option maxRecDepth 10000
namespace Sm.K01
open Sm
theorem set_self {h : AH} {l : Nat} {o : AO} (e : h[l]? = some o) : h.set l o = h := by
  obtain ⟨hl, e⟩ := List.getElem?_eq_some_iff.mp e
  rw [← e]; simp
theorem tp_self {h : AH} {l : Nat} (t : Tp h l) : ∃ o, IsTp o ∧ h.set l o = h := by
  obtain ⟨c, k, e, hc⟩ := t.ex
  exact ⟨_, ⟨c, k, rfl, hc⟩, set_self e⟩
def Row (n : Int) (rs : List Int) : Prop := (rs.length : Int) = n ∧ ∀ r ∈ rs, -1 ≤ r ∧ r ≤ 1
theorem row_ok {n : Int} (h0 : 0 < n) (h1 : n < 1073741) {l : Nat} {h : AH} (tp : Tp h l) : ∃ (rs : List Int) (o : AO), IsTp o ∧ Row n rs ∧ F_q_row [.loc l, .int n] h = .ok (.tup (rs.map .int)) (h.set l o) := by
  have hl := tp.lt
  obtain ⟨o0, ho0, hs0⟩ := tp_self tp
  have hi : inI n = true := (inI_iff _).mpr ⟨by omega, by omega⟩
  have key : ∃ (rs : List Int) (o : AO), IsTp o ∧ Row n rs ∧ lcN (gV 2) tYes (e2 subD (eA F_q_take (eL [eV 0, eC (.int 3)])) (eC (.int 1))) (wipeE [some (.loc l), some (.int n), none] [2]) (.lst (rng 0 n.toNat)) (Src.lst (rng 0 n.toNat)).fuel 0 [] h = .ok (rs.map .int) (h.set l o) := by
    refine lc_inv (P := fun i acc h' => ∃ (rs : List Int) (o : AO), acc = rs.map .int ∧ rs.length = i ∧ (∀ r ∈ rs, -1 ≤ r ∧ r ≤ 1) ∧ IsTp o ∧ h' = h.set l o) (Z := fun r => ∃ (rs : List Int) (o : AO), IsTp o ∧ Row n rs ∧ r = .ok (rs.map .int) (h.set l o)) ?_ ?_ ⟨[], o0, rfl, rfl, by simp, ho0, hs0.symm⟩
    · rintro i x acc h' k hx ⟨rs, o, rfl, hi, hr, ho, rfl⟩ ih
      obtain ⟨hin, rfl⟩ := rng_get hx
      obtain ⟨r, o2, r0, r1, ho2, e⟩ := take_ok (n := 3) (Tp.set ho hl) (by omega) (by omega)
      have hb : rs.length < big := by
        have : (16777216 : Nat) = big := rfl
        omega
      simp only [List.set_set] at e
      have := ih ((rs ++ [r - 1]).map .int) (h.set l o2) ⟨rs ++ [r - 1], o2, rfl, by simp [hi], by
        intro q hq
        rcases List.mem_append.mp hq with z | z
        · exact hr q z
        · simp at z; subst z; omega, ho2, rfl⟩
      simpa [wipeE, e, hb] using this
    · rintro acc h' ⟨rs, o, rfl, hi, hr, ho, rfl⟩
      rw [rng_len] at hi
      exact ⟨rs, o, ho, ⟨by omega, hr⟩, rfl⟩
  obtain ⟨rs, o, ho, hr, e⟩ := key
  refine ⟨rs, o, ho, hr, fnT_draw ho rfl ?_ (by simp) (by simp)⟩
  simp [b_q_row, envOf, hi, e]
theorem tape_new {xs : List Int} {k : Nat} {h : AH} : ∃ o, IsTp o ∧ F_q_tape [.scr (xs.map .int), .int k] h = .ok (.loc h.length) (h ++ [o]) := by
  by_cases hk : k < xs.length
  · refine ⟨tape (if xs[k] < 0 then -xs[k] else xs[k]) 0, ⟨_, 0, rfl, by split <;> omega⟩, ?_⟩
    have hk2 : (k : Int) < (xs.length : Int) := by omega
    simp [F_q_tape, fnK, fnR, b_q_tape, envOf, hk, hk2, tape, big2]
  · refine ⟨tape k 0, ⟨_, 0, rfl, by omega⟩, ?_⟩
    have hk2 : ¬ (k : Int) < (xs.length : Int) := by omega
    simp [F_q_tape, fnK, fnR, b_q_tape, envOf, hk, hk2, tape, big2]
theorem wide_ok {n : Int} (h0 : 0 < n) (h1 : n < 1073741824) {l : Nat} {h : AH} (tp : Tp h l) (t : Tr) (ht : t.ok n) (layers : Nat) (m : Int) (hm0 : 0 ≤ m) (hm : m.toNat = layers) (hly : layers < 1000) : ∃ (t' : Tr) (o : AO), IsTp o ∧ t'.ok n ∧ t'.dep ≤ t.dep + layers ∧ t'.size ≤ (t.size + 1) * 3 ^ layers ∧ F_q_wide [.loc l, .int n, t.enc, .int m] h = .ok t'.enc (h.set l o) := by
  have hl := tp.lt
  obtain ⟨o0, ho0, hs0⟩ := tp_self tp
  have hi : inI m = true := (inI_iff _).mpr ⟨by omega, by omega⟩
  have key : ∃ (t' : Tr) (o : AO), IsTp o ∧ t'.ok n ∧ t'.dep ≤ t.dep + layers ∧ t'.size + 1 ≤ (t.size + 1) * 3 ^ layers ∧ ∀ X : List AS, X = [sRet (eV 2)] → (forN (gV 4) (sB [sSet 2 (eTup (eL [eA F_q_take (eL [eV 0, eV 1]), eV 2, eV 2, eV 2]))]) (.lst (rng 0 layers)) (Src.lst (rng 0 layers)).fuel 0 [some (.loc l), some (.int n), some t.enc, some (.int m), none] h).bind (kB2 X) = .ok (.rt t'.enc) (h.set l o) := by
    refine for_inv (P := fun i e h' => ∃ (t' : Tr) (o : AO) (x : Option D), e = [some (.loc l), some (.int n), some t'.enc, some (.int m), x] ∧ IsTp o ∧ t'.ok n ∧ t'.dep ≤ t.dep + i ∧ t'.size + 1 ≤ (t.size + 1) * 3 ^ i ∧ h' = h.set l o) (Z := fun r => ∃ (t' : Tr) (o : AO), IsTp o ∧ t'.ok n ∧ t'.dep ≤ t.dep + layers ∧ t'.size + 1 ≤ (t.size + 1) * 3 ^ layers ∧ ∀ X : List AS, X = [sRet (eV 2)] → r.bind (kB2 X) = .ok (.rt t'.enc) (h.set l o)) ?_ ?_ ⟨t, o0, none, rfl, ho0, ht, by omega, by simp, hs0.symm⟩
    · rintro i x e h' k hx ⟨t1, o, x4, rfl, ho, k1, d1, s1, rfl⟩ ih
      obtain ⟨hin, rfl⟩ := rng_get hx
      obtain ⟨r, o2, r0, r1, ho2, e⟩ := take_ok (n := n) (Tp.set ho hl) h0 h1
      simp only [List.set_set] at e
      have := ih [some (.loc l), some (.int n), some (Tr.node r t1 t1 t1).enc, some (.int m), some (.int i)] (h.set l o2) ⟨.node r t1 t1 t1, o2, _, rfl, ho2, ⟨r0, r1, k1, k1, k1⟩, by simp only [Tr.dep]; omega, by
        simp only [Tr.size, Nat.pow_succ]
        have : (t.size + 1) * (3 ^ i * 3) = 3 * ((t.size + 1) * 3 ^ i) := by rw [← Nat.mul_assoc, Nat.mul_comm]
        omega, rfl⟩
      simpa [e, Tr.enc, big4] using this
    · rintro e h' ⟨t1, o, x4, rfl, ho, k1, d1, s1, rfl⟩
      rw [rng_len] at d1 s1
      exact ⟨t1, o, ho, k1, d1, s1, by rintro _ rfl; simp⟩
  obtain ⟨t', o, ho, k1, d1, s1, e⟩ := key
  have e := e _ rfl
  refine ⟨t', o, ho, k1, d1, by omega, fnT_draw ho rfl ?_ (Tr.enc_loc _) (Tr.clo_enc _ _)⟩
  simp [b_q_wide, envOf, hi, hm, e]
end Sm.K01
end

section
set_option linter.all false
set_option maxRecDepth 10000
namespace Sm.K01
open Sm
theorem Row.get {n : Int} {rs : List Int} (hr : Row n rs) {f : Int} (f0 : 0 ≤ f) (f1 : f < n) : ∃ r, at? (rs.map D.int) f = some (.int r) ∧ -1 ≤ r ∧ r ≤ 1 ∧ rs[f.toNat]? = some r := by
  obtain ⟨k, rfl⟩ := Int.eq_ofNat_of_zero_le f0
  have hk : k < rs.length := by have := hr.1; omega
  refine ⟨rs[k], by simp [hk], ?_, ?_, by simp [hk]⟩
  · exact (hr.2 _ (List.getElem_mem hk)).1
  · exact (hr.2 _ (List.getElem_mem hk)).2
/-- the three branch words -/
theorem words_ok {l : Nat} {h : AH} (tp : Tp h l) (e0 : Env) (he : e0[0]? = some (some (.loc l))) (hlen : 9 < e0.length) : ∃ (a b c : List Nat) (o : AO), IsTp o ∧
    lcN (gV 9) tYes (e2 ixD (eLst true (eL [eC (.str [111, 108, 100, 101, 114]), eC (.str [110, 101, 119, 101, 114])])) (eA F_q_take (eL [eV 0, eC (.int 2)]))) e0 (.lst (rng 0 3)) (Src.lst (rng 0 3)).fuel 0 [] h = .ok [.str a, .str b, .str c] (h.set l o) := by
  have hl := tp.lt
  obtain ⟨o0, ho0, hs0⟩ := tp_self tp
  have key : ∃ (ws : List (List Nat)) (o : AO), IsTp o ∧ ws.length = 3 ∧ lcN (gV 9) tYes (e2 ixD (eLst true (eL [eC (.str [111, 108, 100, 101, 114]), eC (.str [110, 101, 119, 101, 114])])) (eA F_q_take (eL [eV 0, eC (.int 2)]))) e0 (.lst (rng 0 3)) (Src.lst (rng 0 3)).fuel 0 [] h = .ok (ws.map .str) (h.set l o) := by
    refine lc_inv (P := fun i acc h' => ∃ (ws : List (List Nat)) (o : AO), acc = ws.map .str ∧ ws.length = i ∧ IsTp o ∧ h' = h.set l o) (Z := fun r => ∃ (ws : List (List Nat)) (o : AO), IsTp o ∧ ws.length = 3 ∧ r = .ok (ws.map .str) (h.set l o)) ?_ ?_ ⟨[], o0, rfl, rfl, ho0, hs0.symm⟩
    · rintro i x acc h' k hx ⟨ws, o, rfl, hi, ho, rfl⟩ ih
      obtain ⟨hin, rfl⟩ := rng_get hx
      obtain ⟨r, o2, r0, r1, ho2, e⟩ := take_ok (n := 2) (Tp.set ho hl) (by omega) (by omega)
      have hb : ws.length < big := by
        have : (16777216 : Nat) = big := rfl
        omega
      simp only [List.set_set] at e
      have he2 : (e0.set 9 (some (.int i)))[0]? = some (some (.loc l)) := by rw [List.getElem?_set_ne (by decide)]; exact he
      have := ih ((ws ++ [word r]).map .str) (h.set l o2) ⟨ws ++ [word r], o2, rfl, by simp [hi], ho2, rfl⟩
      simpa [he2, e, hb, big2, at_word r0 r1] using this
    · rintro acc h' ⟨ws, o, rfl, hi, ho, rfl⟩
      exact ⟨ws, o, ho, by simpa using hi, rfl⟩
  obtain ⟨ws, o, ho, hw, e⟩ := key
  match ws, hw with
  | [a, b, c], _ => exact ⟨a, b, c, o, ho, e⟩
theorem ix3 {r : Int} (h0 : 0 ≤ r) (h3 : r < 3) : ∃ k, ixN 3 r = some k ∧ k < 3 ∧ (k = 0 ∨ k = 1 ∨ k = 2) := by
  have : r = 0 ∨ r = 1 ∨ r = 2 := by omega
  rcases this with rfl | rfl | rfl
  · exact ⟨0, rfl, by omega, by omega⟩
  · exact ⟨1, rfl, by omega, by omega⟩
  · exact ⟨2, rfl, by omega, by omega⟩
theorem vine_ok {n : Int} (h0 : 0 < n) (h1 : n < 1073741824) {l : Nat} {h : AH} (tp : Tp h l) {rs : List Int} (hr : Row n rs) (asks : Nat) (m : Int) (hm0 : 0 ≤ m) (hm : m.toNat = asks) (hly : asks < 1000) :
    ∃ (t' : Tr) (o : AO), IsTp o ∧ t'.ok n ∧ t'.dep ≤ asks ∧ t'.size ≤ 1 + 3 * asks ∧ F_q_vine [.loc l, .int n, .int m, .tup (rs.map .int)] h = .ok t'.enc (h.set l o) := by
  have hl := tp.lt
  obtain ⟨w0, ow, w00, w01, how, ew⟩ := take_ok (n := 2) tp (by omega) (by omega)
  have hi : inI m = true := (inI_iff _).mpr ⟨by omega, by omega⟩
  have key : ∀ Z : R Fl → Prop, (∀ (t' : Tr) (o : AO) (L : AH), IsTp o → t'.ok n → t'.dep ≤ asks → t'.size ≤ 1 + 3 * asks → Z (.ok (.rt t'.enc) (h.set l o ++ L))) → Z (b_q_vine (envOf 10 [.loc l, .int n, .int m, .tup (rs.map .int)]) h) := by
    intro Z hZ
    simp [b_q_vine, envOf, ew, at_word w00 w01, hi, hm, big2]
    refine for_inv (Z := fun r => Z (r.bind (kB2 [sRet (eV 4)]))) (P := fun i e h' => ∃ (t' : Tr) (o : AO) (L : AH) (x5 x6 x7 x8 x9 : Option D), e = [some (.loc l), some (.int n), some (.int m), some (.tup (rs.map .int)), some t'.enc, x5, x6, x7, x8, x9] ∧ IsTp o ∧ t'.ok n ∧ t'.dep ≤ i ∧ t'.size ≤ 1 + 3 * i ∧ h' = h.set l o ++ L) ?_ ?_ ⟨.leaf (word w0), ow, [], none, none, none, none, none, rfl, how, trivial, by simp [Tr.dep], by simp [Tr.size], by simp⟩
    · rintro i x e h' k hx ⟨t1, o, L, x5, x6, x7, x8, x9, rfl, ho, k1, d1, s1, rfl⟩ ih
      obtain ⟨hin, rfl⟩ := rng_get hx
      have hH : l < (h.set l o ++ L).length := by simp; omega
      have tH : Tp (h.set l o ++ L) l := (Tp.set ho hl).app
      have cl : ∀ o2, (h.set l o ++ L).set l o2 = h.set l o2 ++ L := fun o2 => by rw [set_old (by simpa using hl), List.set_set]
      generalize (h.set l o ++ L) = H at hH tH cl ⊢
      obtain ⟨f, o2, f0, f1, ho2, k2⟩ := take_ok (n := n) tH h0 h1
      obtain ⟨r, er, rl, ru, _⟩ := hr.get f0 f1
      obtain ⟨q, o3, q0, q1, ho3, e3⟩ := take_ok (n := 8) (Tp.set ho2 hH) (by omega) (by omega)
      simp only [List.set_set] at e3
      -- the place
      have fin : ∀ (p : Int) (o4 : AO), 0 ≤ p → p < 3 → IsTp o4 → Z ((((sB [sSet 8 (eLC false [9] (iR1 (eC (.int 3))) (gV 9) tYes (e2 ixD (eLst true (eL [eC (.str [111, 108, 100, 101, 114]), eC (.str [110, 101, 119, 101, 114])])) (eA F_q_take (eL [eV 0, eC (.int 2)])))),
          sSub setIxD (eV 8) (eV 7) (eV 4), sSet 4 (eTup (eL [eV 6, e2 ixD (eV 8) (eC (.int 0)), e2 ixD (eV 8) (eC (.int 1)), e2 ixD (eV 8) (eC (.int 2))]))]) [some (.loc l), some (.int n), some (.int m), some (.tup (rs.map .int)), some t1.enc, some (.int i), some (.int f), some (.int p), x8, x9] (H.set l o4)).bind fun f h2 => turn f h2 k).bind (kB2 [sRet (eV 4)])) := by
        intro p o4 p0 p1 ho4
        obtain ⟨a, b, c, o5, ho5, e5⟩ := words_ok (Tp.set ho4 hH) [some (.loc l), some (.int n), some (.int m), some (.tup (rs.map .int)), some t1.enc, some (.int i), some (.int f), some (.int p), x8, none] rfl (by simp)
        simp only [List.set_set] at e5
        obtain ⟨j, ej, j3, hj⟩ := ix3 p0 p1
        have i3 : inI 3 = true := by decide
        have es := setIx_ok (h := H.set l o5 ++ [.lst [.str a, .str b, .str c]]) (l := H.length) (xs := [.str a, .str b, .str c]) (k := j) (i := p) t1.enc (by rw [getL_new (by simp)]; simp) ej
        rw [set_new (by simp)] at es
        have eg : getL (H.set l o5 ++ [AO.lst ([D.str a, .str b, .str c].set j t1.enc)]) H.length = some ([D.str a, .str b, .str c].set j t1.enc) := by rw [getL_new (by simp)]; simp
        have hABC : ∃ A B C : Tr, [D.str a, .str b, .str c].set j t1.enc = [A.enc, B.enc, C.enc] ∧ A.ok n ∧ B.ok n ∧ C.ok n ∧ A.dep ≤ i ∧ B.dep ≤ i ∧ C.dep ≤ i ∧ A.size + B.size + C.size ≤ 2 + (1 + 3 * i) := by
          rcases hj with rfl | rfl | rfl
          · exact ⟨t1, .leaf b, .leaf c, rfl, k1, trivial, trivial, d1, Nat.zero_le _, Nat.zero_le _, by simp only [Tr.size]; omega⟩
          · exact ⟨.leaf a, t1, .leaf c, rfl, trivial, k1, trivial, Nat.zero_le _, d1, Nat.zero_le _, by simp only [Tr.size]; omega⟩
          · exact ⟨.leaf a, .leaf b, t1, rfl, trivial, trivial, k1, Nat.zero_le _, Nat.zero_le _, d1, by simp only [Tr.size]; omega⟩
        obtain ⟨A, B, C, eA, kA, kB, kC, dA, dB, dC, sABC⟩ := hABC
        have hz := ih [some (.loc l), some (.int n), some (.int m), some (.tup (rs.map .int)), some (Tr.node f A B C).enc, some (.int i), some (.int f), some (.int p), some (.loc H.length), x9] (H.set l o5 ++ [.lst [A.enc, B.enc, C.enc]]) ⟨.node f A B C, o5, L ++ [.lst [A.enc, B.enc, C.enc]], _, _, _, _, _, rfl, ho5, ⟨f0, f1, kA, kB, kC⟩, by simp only [Tr.dep]; omega, by simp only [Tr.size]; omega, by rw [cl]; simp⟩
        rw [eA] at eg
        simp only [List.length_set, Nat.sub_self, List.set_cons_zero, eA] at es
        simp [wipeE, i3, e5, es, ixL _ eg, big4, Tr.enc] at hz ⊢
        exact hz
      by_cases hq : q = 0
      · subst hq
        obtain ⟨p, o4, p0, p1, ho4, e4⟩ := take_ok (n := 3) (Tp.set ho3 hH) (by omega) (by omega)
        simp only [List.set_set] at e4
        have hf := fin p o4 p0 p1 ho4
        simp [k2, er, e3, e4] at hf ⊢
        exact hf
      · have hf := fin (1 + r) o3 (by omega) (by omega) ho3
        simp [k2, er, e3, hq] at hf ⊢
        exact hf
    · rintro e h' ⟨t1, o, L, x5, x6, x7, x8, x9, rfl, ho, k1, d1, s1, rfl⟩
      rw [rng_len] at d1 s1
      simpa using hZ t1 o L ho k1 d1 s1
  refine key (fun r => ∃ (t' : Tr) (o : AO), IsTp o ∧ t'.ok n ∧ t'.dep ≤ asks ∧ t'.size ≤ 1 + 3 * asks ∧ fnR r = fnR r ∧ trim h (fnR r) = .ok t'.enc (h.set l o)) (fun t' o L ho k1 d1 s1 => ⟨t', o, ho, k1, d1, s1, rfl, ?_⟩) |>.imp fun t' ⟨o, ho, k1, d1, s1, _, e⟩ => ⟨o, ho, k1, d1, s1, ?_⟩
  · exact trim_val (by simp) (pre_set (ho.clo _)) (Tr.enc_loc _) (Tr.clo_enc _ _)
  · exact e
end Sm.K01
end

section
set_option linter.all false
set_option maxRecDepth 10000
namespace Sm.K01
open Sm
/-! ### clashing -/
def clash : List Nat := [99, 108, 97, 115, 104]
def Tr.cl (w : List Nat) : Tr → Tr
  | .leaf s => .leaf (if w = s then clash else s)
  | .node f a b c => .node f (a.cl w) (b.cl w) (c.cl w)
theorem Tr.cl_ok {n : Int} (w : List Nat) : ∀ t : Tr, t.ok n → (t.cl w).ok n
  | .leaf s, _ => trivial
  | .node f a b c, h => ⟨h.1, h.2.1, a.cl_ok w h.2.2.1, b.cl_ok w h.2.2.2.1, c.cl_ok w h.2.2.2.2⟩
theorem Tr.cl_dep (w : List Nat) : ∀ t : Tr, (t.cl w).dep = t.dep
  | .leaf s => rfl
  | .node f a b c => by simp [Tr.cl, Tr.dep, a.cl_dep w, b.cl_dep w, c.cl_dep w]
theorem Tr.cl_size (w : List Nat) : ∀ t : Tr, (t.cl w).size = t.size
  | .leaf s => rfl
  | .node f a b c => by simp [Tr.cl, Tr.size, a.cl_size w, b.cl_size w, c.cl_size w]
theorem clashing_ok (w : List Nat) {h : AH} : ∀ (fuel : Nat) (t : Tr), t.dep < fuel → F_q_clashing fuel [t.enc, .str w] h = .ok (t.cl w).enc h := by
  intro fuel
  induction fuel with
  | zero => intro t ht; omega
  | succ fuel ih =>
    intro t ht
    cases t with
    | leaf s =>
      refine fnT_same (L := []) rfl ?_ (Tr.enc_loc _) (Tr.clo_enc _ _)
      by_cases hs : w = s
      · subst hs
        simp [b_q_clashing, envOf, Tr.enc, Tr.cl, eGet2, eDisp, eKVs, kD, mkDic, putA, isDic, dicH, lookD, getA, clash]
      · simp [b_q_clashing, envOf, Tr.enc, Tr.cl, eGet2, eDisp, eKVs, kD, mkDic, putA, isDic, dicH, lookD, getA, clash, hs]
    | node f a b c =>
      simp only [Tr.dep] at ht
      have ea := ih a (by omega)
      have eb := ih b (by omega)
      have ec := ih c (by omega)
      have i1 : inI 1 = true := by decide
      have i4 : inI 4 = true := by decide
      have b0 : (0 : Nat) < big := by decide
      have b1 : (1 : Nat) < big := by decide
      have b2 : (2 : Nat) < big := by decide
      have key : lcN (gV 3) tYes (eA (F_q_clashing fuel) (eL [e2 ixD (eV 0) (eV 3), eV 1])) [some (Tr.node f a b c).enc, some (.str w), none, none] (.lst (rng 1 3)) (Src.lst (rng 1 3)).fuel 0 [] h = .ok [(a.cl w).enc, (b.cl w).enc, (c.cl w).enc] h := by
        refine lc_inv (P := fun i acc h' => acc = [(a.cl w).enc, (b.cl w).enc, (c.cl w).enc].take i ∧ h' = h) (Z := fun r => r = .ok [(a.cl w).enc, (b.cl w).enc, (c.cl w).enc] h) ?_ ?_ ⟨rfl, rfl⟩
        · rintro i x acc h' k hx ⟨rfl, rfl⟩ ihk
          obtain ⟨hin, rfl⟩ := rng_get hx
          have : i = 0 ∨ i = 1 ∨ i = 2 := by omega
          rcases this with rfl | rfl | rfl
          · simpa [Tr.enc, ea, b0] using ihk _ _ ⟨rfl, rfl⟩
          · simpa [Tr.enc, eb, b1] using ihk _ _ ⟨rfl, rfl⟩
          · simpa [Tr.enc, ec, b2] using ihk _ _ ⟨rfl, rfl⟩
        · rintro acc h' ⟨rfl, rfl⟩
          rfl
      refine fnT_same (L := []) rfl ?_ (Tr.enc_loc _) (Tr.clo_enc _ _)
      simp [Tr.enc] at key
      simp [b_q_clashing, envOf, Tr.enc, Tr.cl, i1, i4, wipeE, key, big4]
/-! ### follow -/
def foll (rs : List Int) : Tr → List Nat
  | .leaf s => s
  | .node f a b c => if rs[f.toNat]? = some (-1) then foll rs a else if rs[f.toNat]? = some 0 then foll rs b else foll rs c
theorem foll_step {n : Int} {rs : List Int} (hr : Row n rs) {f : Int} {a b c : Tr} (ht : (Tr.node f a b c).ok n) : ∃ (r : Int) (t' : Tr), at? (rs.map D.int) f = some (.int r) ∧ at? [.int f, a.enc, b.enc, c.enc] (2 + r) = some t'.enc ∧ foll rs (.node f a b c) = foll rs t' ∧ t'.ok n ∧ t'.dep < (Tr.node f a b c).dep := by
  obtain ⟨f0, f1, ka, kb, kc⟩ := ht
  obtain ⟨r, er, r0, r1, eg⟩ := hr.get f0 f1
  have : r = -1 ∨ r = 0 ∨ r = 1 := by omega
  rcases this with rfl | rfl | rfl
  · exact ⟨-1, a, er, by simp, by simp [foll, eg], ka, by simp only [Tr.dep]; omega⟩
  · exact ⟨0, b, er, by simp, by simp [foll, eg], kb, by simp only [Tr.dep]; omega⟩
  · exact ⟨1, c, er, by simp, by simp [foll, eg], kc, by simp only [Tr.dep]; omega⟩
theorem follow_ok {n : Int} {rs : List Int} (hr : Row n rs) {t : Tr} (ht : t.ok n) (hd : t.dep < 1000) {h : AH} : F_follow [t.enc, .tup (rs.map .int)] h = .ok (.str (foll rs t)) h := by
  refine fnT_same (L := []) rfl ?_ (by simp) (by simp)
  simp only [b_follow, envOf, sB_cons, sWhile_def]
  refine while_inv (P := fun m e h' => ∃ t' : Tr, e = [some t'.enc, some (.tup (rs.map .int))] ∧ t'.ok n ∧ foll rs t = foll rs t' ∧ t'.dep = m ∧ h' = h) (Z := fun r => r.bind (kB2 [sRet (eV 0)]) = .ok (.rt (.str (foll rs t))) (h ++ [])) ?_ (2 ^ 40) t.dep (by omega) ⟨t, by simp, ht, rfl, rfl, rfl⟩
  rintro m e h' k ⟨t', rfl, k1, e1, rfl, rfl⟩ ih
  cases t' with
  | leaf s => simp [Tr.enc, e1, foll]
  | node f a b c =>
    obtain ⟨r, t2, x1, x2, x3, k2, d2⟩ := foll_step hr k1
    have := ih _ [some t2.enc, some (.tup (rs.map .int))] _ d2 ⟨t2, rfl, k2, e1.trans x3, rfl, rfl⟩
    simpa [Tr.enc, x1, x2] using this
theorem lfollow_ok {n : Int} {rs : List Int} (hr : Row n rs) {t : Tr} (ht : t.ok n) (hd : t.dep < 60) {h : AH} : F_q_follow [t.enc, .tup (rs.map .int)] h = .ok (.str (foll rs t)) h := by
  refine fnT_same (L := []) rfl ?_ (by simp) (by simp)
  have i6 : inI 60 = true := by decide
  have key : ∀ Z : R Fl → Prop, Z (.ok (.rt (.str (foll rs t))) (h ++ [])) → Z (b_q_follow (envOf 3 [t.enc, .tup (rs.map .int)]) h) := by
    intro Z hZ
    simp [b_q_follow, envOf, i6]
    refine for_inv (Z := fun r => Z (r.bind (kB2 [sRet (eV 0)]))) (P := fun i e h' => ∃ (t' : Tr) (x : Option D), e = [some t'.enc, some (.tup (rs.map .int)), x] ∧ t'.ok n ∧ foll rs t = foll rs t' ∧ t'.dep + i < 60 ∧ h' = h) ?_ ?_ ⟨t, none, rfl, ht, rfl, by omega, rfl⟩
    · rintro i x e h' k hx ⟨t', x2, rfl, k1, e1, d1, rfl⟩ ih
      obtain ⟨hin, rfl⟩ := rng_get hx
      cases t' with
      | leaf s => simpa [Tr.enc, e1, foll] using hZ
      | node f a b c =>
        obtain ⟨r, t2, x1, x2, x3, k2, d2⟩ := foll_step hr k1
        have := ih [some t2.enc, some (.tup (rs.map .int)), some (.int i)] _ ⟨t2, _, rfl, k2, e1.trans x3, by omega, rfl⟩
        simpa [Tr.enc, x1, x2] using this
    · rintro e h' ⟨t', x, rfl, k1, e1, d1, rfl⟩
      simp at d1
      omega
  exact key (fun r => r = .ok (.rt (.str (foll rs t))) (h ++ [])) rfl
end Sm.K01
end

section
set_option linter.all false
set_option maxRecDepth 10000
namespace Sm.K01
open Sm
def Tr.leaves : Tr → List (List Nat)
  | .leaf s => [s]
  | .node _ a b c => a.leaves ++ (b.leaves ++ c.leaves)
def Tr.fields : Tr → List Int
  | .leaf _ => []
  | .node f a b c => f :: (a.fields ++ (b.fields ++ c.fields))
def sizes (ts : List Tr) : Nat := (ts.map Tr.size).sum
@[simp] theorem sizes_nil : sizes [] = 0 := rfl
@[simp] theorem sizes_cons (t : Tr) (ts : List Tr) : sizes (t :: ts) = t.size + sizes ts := by simp [sizes]
@[simp] theorem sizes_app (a b : List Tr) : sizes (a ++ b) = sizes a + sizes b := by simp [sizes]
theorem Tr.size_pos (t : Tr) : 1 ≤ t.size := by cases t <;> simp [Tr.size] <;> omega
theorem sizes_len : ∀ ts : List Tr, ts.length ≤ sizes ts
  | [] => by simp
  | t :: ts => by have := sizes_len ts; have := t.size_pos; simp; omega
theorem Tr.fields_ok {n : Int} : ∀ t : Tr, t.ok n → ∀ x ∈ t.fields, 0 ≤ x ∧ x < n
  | .leaf _, _, x, hx => by simp [Tr.fields] at hx
  | .node f a b c, h, x, hx => by
    obtain ⟨h0, h1, ka, kb, kc⟩ := h
    simp only [Tr.fields, List.mem_cons, List.mem_append] at hx
    rcases hx with rfl | hx | hx | hx
    · exact ⟨h0, h1⟩
    · exact a.fields_ok ka x hx
    · exact b.fields_ok kb x hx
    · exact c.fields_ok kc x hx
theorem bigv : big = 16777216 := rfl
theorem snoc {α : Type} : ∀ {xs : List α}, xs ≠ [] → ∃ ys y, xs = ys ++ [y]
  | xs, h => ⟨xs.dropLast, xs.getLast h, (List.dropLast_concat_getLast h).symm⟩
theorem ends_ok {t : Tr} (hs : t.size ≤ 1200) {h : AH} : F_ends [t.enc] h = .ok (.tup (t.leaves.map .str)) h := by
  refine fnT_same (L := [.lst (t.leaves.map .str), .lst []]) rfl ?_ (by simp) (by rw [clo_tup, clos_all]; simp)
  have key : ∀ Z : R Fl → Prop, Z (.ok (.rt (.tup (t.leaves.map .str))) (h ++ [.lst (t.leaves.map .str), .lst []])) → Z (b_ends (envOf 4 [t.enc]) h) := by
    intro Z hZ
    simp [b_ends, envOf]
    have hb : 1 ≤ big := by decide
    simp only [hb, decide_true, chk_true, mkL_f, up_ok, kSet_def, bind_ok, kB2_nx, sB_cons, sWhile_def, List.set_cons_succ, List.set_cons_zero, List.length_append, List.length_cons, List.length_nil, List.append_assoc, List.cons_append, List.nil_append]
    refine while_inv (P := fun m e h' => ∃ (ts : List Tr) (found : List (List Nat)) (x3 : Option D), e = [some t.enc, some (.loc h.length), some (.loc (h.length + 1)), x3] ∧ h' = h ++ [.lst (found.map .str), .lst (ts.map Tr.enc)] ∧ found ++ ts.reverse.flatMap Tr.leaves = t.leaves ∧ sizes ts = m ∧ found.length + m ≤ t.size) (Z := fun r => Z (r.bind (kB2 [sRet (eA (on1 tupD) (eL [eV 1]))]))) ?_ (2 ^ 40) t.size (by omega) ⟨[t], [], none, by simp, by simp, by simp, by simp, by simp⟩
    rintro m e h' k ⟨ts, found, x3, rfl, rfl, el, rfl, hfl⟩ ih
    have g0 : getL (h ++ [.lst (found.map .str), .lst (ts.map Tr.enc)]) h.length = some (found.map .str) := by rw [getL_new (by omega)]; simp
    have g1 : getL (h ++ [.lst (found.map .str), .lst (ts.map Tr.enc)]) (h.length + 1) = some (ts.map Tr.enc) := by rw [getL_new (by omega)]; simp
    by_cases hts : ts = []
    · subst hts
      simp at el
      subst el
      have tz := truthL g1
      have tu := tupL g0
      simp only [List.map_nil, List.isEmpty_nil] at tz tu
      simpa [tz, tu] using hZ
    · obtain ⟨us, u, rfl⟩ := snoc hts
      have tz := truthL g1
      have iz := isL g1
      have pz := pop_ok (h := h ++ [.lst (found.map .str), .lst ((us ++ [u]).map Tr.enc)]) (l := h.length + 1) (xs := us.map Tr.enc) (y := u.enc) (by rw [g1]; simp)
      rw [set_new (by omega)] at pz
      simp at pz tz iz el hfl
      have up := u.size_pos
      have ul := sizes_len us
      cases u with
      | leaf s =>
        simp only [Tr.enc] at tz iz pz
        have g2 : getL (h ++ [.lst (found.map .str), .lst (us.map Tr.enc)]) h.length = some (found.map .str) := by rw [getL_new (by omega)]; simp
        have i2 := isL g2
        have a2 := append_ok (.str s) g2 (by rw [bigv]; simp; omega)
        rw [set_new (by omega)] at a2
        simp at a2
        have hz := ih (sizes us) [some t.enc, some (.loc h.length), some (.loc (h.length + 1)), some (.str s)] _ (by simp; omega) ⟨us, found ++ [s], _, rfl, rfl, by simpa [Tr.leaves] using el, rfl, by simp [Tr.size] at hfl ⊢; omega⟩
        simp at hz
        simpa [tz, iz, pz, Tr.enc, i2, a2] using hz
      | node f a b c =>
        simp only [Tr.enc] at tz iz pz
        have g2 : getL (h ++ [.lst (found.map .str), .lst (us.map Tr.enc)]) (h.length + 1) = some (us.map Tr.enc) := by rw [getL_new (by omega)]; simp
        have i2 := isL g2
        have x2 := extT_ok (ys := [c.enc, b.enc, a.enc]) g2 (by rw [bigv]; simp; omega)
        rw [set_new (by omega)] at x2
        simp at x2
        simp only [Tr.size] at hfl
        have hz := ih (sizes (us ++ [c, b, a])) [some t.enc, some (.loc h.length), some (.loc (h.length + 1)), some (Tr.node f a b c).enc] _ (by simp [Tr.size]; omega) ⟨us ++ [c, b, a], found, _, rfl, rfl, by simpa [Tr.leaves] using el, rfl, by simp; omega⟩
        simp [Tr.enc] at hz
        simpa [tz, iz, pz, Tr.enc, i2, x2, big3] using hz
  exact key (fun r => r = .ok (.rt (.tup (t.leaves.map .str))) (h ++ [.lst (t.leaves.map .str), .lst []])) rfl
end Sm.K01
end

section
set_option linter.all false
set_option maxRecDepth 10000
namespace Sm.K01
open Sm
theorem asked_ok {n : Int} (h0 : 0 < n) (h1 : n < 60) {t : Tr} (ht : t.ok n) (hs : t.size ≤ 1200) {h : AH} : ∃ fs : List Int, (∀ x, x ∈ fs ↔ x ∈ t.fields) ∧ F_asked [t.enc] h = .ok (.tup ((sortU fs).map .int)) h := by
  have key : ∀ Z : R Fl → Prop, (∀ fs : List Int, (∀ x, x ∈ fs ↔ x ∈ t.fields) → Z (.ok (.rt (.tup ((sortU fs).map .int))) (h ++ [.lst (fs.map .int), .lst []]))) → Z (b_asked (envOf 4 [t.enc]) h) := by
    intro Z hZ
    simp [b_asked, envOf]
    have hb : 1 ≤ big := by decide
    simp only [hb, decide_true, chk_true, mkL_f, up_ok, kSet_def, bind_ok, kB2_nx, sB_cons, sWhile_def, List.set_cons_succ, List.set_cons_zero, List.length_append, List.length_cons, List.length_nil, List.append_assoc, List.cons_append, List.nil_append]
    refine while_inv (P := fun m e h' => ∃ (ts : List Tr) (fs : List Int) (x3 : Option D), e = [some t.enc, some (.loc h.length), some (.loc (h.length + 1)), x3] ∧ h' = h ++ [.lst (fs.map .int), .lst (ts.map Tr.enc)] ∧ (∀ x, x ∈ t.fields ↔ x ∈ fs ∨ ∃ u ∈ ts, x ∈ u.fields) ∧ sizes ts = m ∧ fs.length + m ≤ t.size) (Z := fun r => Z (r.bind (kB2 [sRet (eA (on1 tupD) (eL [e1 (sortedSetD true) (eV 1)]))]))) ?_ (2 ^ 40) t.size (by omega) ⟨[t], [], none, by simp, by simp, by simp, by simp, by simp⟩
    rintro m e h' k ⟨ts, fs, x3, rfl, rfl, el, rfl, hfl⟩ ih
    have g0 : getL (h ++ [.lst (fs.map .int), .lst (ts.map Tr.enc)]) h.length = some (fs.map .int) := by rw [getL_new (by omega)]; simp
    have g1 : getL (h ++ [.lst (fs.map .int), .lst (ts.map Tr.enc)]) (h.length + 1) = some (ts.map Tr.enc) := by rw [getL_new (by omega)]; simp
    by_cases hts : ts = []
    · subst hts
      simp at el
      have tz := truthL g1
      have hlen : (sortU fs).length < 64 := by
        have := asc_len (lo := 0) (n := n) (sortU_asc fs) (fun x hx => t.fields_ok ht x ((el x).mpr ((sortU_mm x fs).mp hx))) (by omega)
        omega
      have tu := sortedSetL g0 (by omega) hlen
      simp only [List.map_nil, List.isEmpty_nil] at tz tu
      simpa [tz, tu] using hZ fs fun x => (el x).symm
    · obtain ⟨us, u, rfl⟩ := snoc hts
      have tz := truthL g1
      have iz := isL g1
      have pz := pop_ok (h := h ++ [.lst (fs.map .int), .lst ((us ++ [u]).map Tr.enc)]) (l := h.length + 1) (xs := us.map Tr.enc) (y := u.enc) (by rw [g1]; simp)
      rw [set_new (by omega)] at pz
      simp at pz tz iz hfl
      have up := u.size_pos
      have ul := sizes_len us
      cases u with
      | leaf s =>
        simp only [Tr.enc] at tz iz pz
        have hz := ih (sizes us) [some t.enc, some (.loc h.length), some (.loc (h.length + 1)), some (.str s)] _ (by simp; omega) ⟨us, fs, _, rfl, rfl, fun x => by rw [el x]; simp [or_and_right, exists_or, Tr.fields], rfl, by simp [Tr.size] at hfl ⊢; omega⟩
        simpa [tz, iz, pz, Tr.enc] using hz
      | node f a b c =>
        simp only [Tr.enc] at tz iz pz
        have g2 : getL (h ++ [.lst (fs.map .int), .lst (us.map Tr.enc)]) h.length = some (fs.map .int) := by rw [getL_new (by omega)]; simp
        have i2 := isL g2
        have a2 := append_ok (.int f) g2 (by rw [bigv]; simp; omega)
        rw [set_new (by omega)] at a2
        simp at a2
        have g3 : getL (h ++ [.lst (fs.map .int ++ [.int f]), .lst (us.map Tr.enc)]) (h.length + 1) = some (us.map Tr.enc) := by rw [getL_new (by omega)]; simp
        have i3 := isL g3
        have x2 := extT_ok (ys := [a.enc, b.enc, c.enc]) g3 (by rw [bigv]; simp; omega)
        rw [set_new (by omega)] at x2
        simp at x2
        simp only [Tr.size] at hfl
        have hz := ih (sizes (us ++ [a, b, c])) [some t.enc, some (.loc h.length), some (.loc (h.length + 1)), some (Tr.node f a b c).enc] _ (by simp [Tr.size]; omega) ⟨us ++ [a, b, c], fs ++ [f], _, rfl, rfl, fun x => by
          rw [el x]
          simp [or_and_right, exists_or, Tr.fields]
          grind, rfl, by simp; omega⟩
        simp [Tr.enc] at hz
        have hc : cut [D.int f, a.enc, b.enc, c.enc] (some 1) none = [a.enc, b.enc, c.enc] := by simp [cut, sIx]
        simpa [tz, iz, pz, Tr.enc, i2, a2, i3, x2, hc] using hz
  refine key (fun r => ∃ fs : List Int, (∀ x, x ∈ fs ↔ x ∈ t.fields) ∧ trim h (fnR r) = .ok (.tup ((sortU fs).map .int)) h) fun fs hf => ⟨fs, hf, ?_⟩
  exact trim_val rfl (pre_refl h) (by simp) (by simp)
theorem lends_ok {t : Tr} (hs : t.size ≤ 1200) {h : AH} : F_q_ends [t.enc] h = .ok (.lst (t.leaves.map .str)) h := by
  have i12 : inI 1200 = true := by decide
  have key : ∀ Z : R Fl → Prop, (∀ L : AH, getL (h ++ L) (h.length + 1) = some (t.leaves.map .str) → Z (.ok (.rt (.loc (h.length + 1))) (h ++ L))) → Z (b_q_ends (envOf 5 [t.enc]) h) := by
    intro Z hZ
    simp [b_q_ends, envOf, i12, big1]
    refine for_inv (P := fun i e h' => ∃ (ts : List Tr) (found : List (List Nat)) (l : Nat) (L : AH) (x3 x4 : Option D), e = [some t.enc, some (.loc l), some (.loc (h.length + 1)), x3, x4] ∧ h' = h ++ L ∧ h.length ≤ l ∧ l ≠ h.length + 1 ∧ getL h' l = some (ts.map Tr.enc) ∧ getL h' (h.length + 1) = some (found.map .str) ∧ found ++ ts.flatMap Tr.leaves = t.leaves ∧ found.length ≤ i ∧ (sizes ts + i = t.size)) (Z := fun r => Z (r.bind (kB2 [sRet (eV 2)]))) ?_ ?_ ⟨[t], [], h.length, [.lst [t.enc], .lst []], none, none, rfl, rfl, Nat.le_refl _, by omega, by rw [getL_new (by omega)]; simp, by rw [getL_new (by omega)]; simp, by simp, by simp, by simp⟩
    · rintro i x e h' k hx ⟨ts, found, l, L, x3, x4, rfl, rfl, hl, hne, g1, g2, el, hfi, hsz⟩ ih
      obtain ⟨hin, rfl⟩ := rng_get hx
      have hin : i < 1200 := by simpa using hin
      have ln := lenL g1
      cases ts with
      | nil =>
        simp at el
        subst el
        simp at ln
        simpa [ln] using hZ L g2
      | cons u us =>
        have hlt : l < (h ++ L).length := by
          unfold getL at g1
          cases z : (h ++ L)[l]? with
          | none => rw [z] at g1; cases g1
          | some o => exact (List.getElem?_eq_some_iff.mp z).1
        have hnz : ¬ ((us.length : Int) + 1 = 0) := by omega
        have pz := popAt0_ok (xs := us.map Tr.enc) (y := u.enc) g1
        have i1 := isL g1
        have e1 : getL ((h ++ L).set l (.lst (us.map Tr.enc))) (h.length + 1) = some (found.map .str) := by rw [getL_set_ne hne]; exact g2
        have e0 : getL ((h ++ L).set l (.lst (us.map Tr.enc))) l = some (us.map Tr.enc) := getL_set hlt
        have hsetL : (h ++ L).set l (.lst (us.map Tr.enc)) = h ++ L.set (l - h.length) (.lst (us.map Tr.enc)) := set_new hl
        have up := u.size_pos
        have ul := sizes_len us
        simp at ln el hsz
        have hlt2 : h.length + 1 < (h ++ L).length := by
          unfold getL at g2
          cases z : (h ++ L)[h.length + 1]? with
          | none => rw [z] at g2; cases g2
          | some o => exact (List.getElem?_eq_some_iff.mp z).1
        cases u with
        | leaf s =>
          simp only [Tr.enc] at pz
          have i2 := isL e1
          have a2 := append_ok (.str s) e1 (by rw [bigv]; simp; omega)
          have hz := ih [some t.enc, some (.loc l), some (.loc (h.length + 1)), some (.int i), some (.str s)] (((h ++ L).set l (.lst (us.map Tr.enc))).set (h.length + 1) (.lst (found.map .str ++ [.str s]))) ⟨us, found ++ [s], l, (L.set (l - h.length) (.lst (us.map Tr.enc))).set (h.length + 1 - h.length) (.lst (found.map .str ++ [.str s])), _, _, rfl, by rw [hsetL, set_new (by omega)], hl, hne, by rw [getL_set_ne (Ne.symm hne)]; exact e0, by rw [getL_set (by simpa using hlt2)]; simp, by simpa [Tr.leaves] using el, by simp; omega, by simp [Tr.size] at hsz ⊢; omega⟩
          simpa [ln, hnz, i1, pz, i2, a2] using hz
        | node f a b c =>
          simp only [Tr.enc] at pz
          simp only [Tr.size] at hsz
          have hc : (cat false (.lst [a.enc, b.enc, c.enc]) (.loc l) ((h ++ L).set l (.lst (us.map Tr.enc)))) = .ok (.loc ((h ++ L).set l (.lst (us.map Tr.enc))).length) ((h ++ L).set l (.lst (us.map Tr.enc)) ++ [.lst ([a.enc, b.enc, c.enc] ++ us.map Tr.enc)]) := by
            unfold cat
            rw [show lstH ((h ++ L).set l (.lst (us.map Tr.enc))) (.lst [a.enc, b.enc, c.enc]) = some [a.enc, b.enc, c.enc] from rfl, lstH_loc, e0]
            dsimp only
            rw [decide_eq_true (by rw [bigv]; simp; omega)]
            rfl
          have hc' : addD false (.lst [a.enc, b.enc, c.enc]) (.loc l) ((h ++ L).set l (.lst (us.map Tr.enc))) = _ := hc
          have hz := ih [some t.enc, some (.loc (h ++ L).length), some (.loc (h.length + 1)), some (.int i), some (Tr.node f a b c).enc] ((h ++ L).set l (.lst (us.map Tr.enc)) ++ [.lst ([a.enc, b.enc, c.enc] ++ us.map Tr.enc)]) ⟨[a, b, c] ++ us, found, (h ++ L).length, L.set (l - h.length) (.lst (us.map Tr.enc)) ++ [.lst ([a.enc, b.enc, c.enc] ++ us.map Tr.enc)], _, _, rfl, by rw [hsetL, List.append_assoc], by simp, by omega, by rw [getL_new (by simp)]; simp, by rw [getL_old (by simpa using hlt2)]; exact e1, by simpa [Tr.leaves] using el, by omega, by simp; omega⟩
          simp [Tr.enc] at hz hc'
          simpa [ln, hnz, i1, pz, Tr.enc, hc', big3] using hz
    · rintro e h' ⟨ts, found, l, L, x3, x4, rfl, rfl, hl, hne, g1, g2, el, hfi, hsz⟩
      have : ts = [] := by
        cases ts with
        | nil => rfl
        | cons u us => have := u.size_pos; simp at hsz; omega
      subst this
      simp at el
      subst el
      simpa using hZ L g2
  refine key (fun r => trim h (fnR r) = .ok (.lst (t.leaves.map .str)) h) fun L hg => ?_
  have : (h ++ L)[h.length + 1]? = some (.lst (t.leaves.map .str)) := by
    unfold getL at hg
    split at hg
    · rename_i xs hx; rw [hx]; cases hg; rfl
    · cases hg
  exact trim_lst rfl (pre_refl h) (by omega) this (by rw [clos_all]; simp)
end Sm.K01
end

section
set_option linter.all false
set_option maxRecDepth 10000
/-! Bd: reduced trees, in plain Lean. -/
namespace Sm.K01
open Sm
def Tr.beq : Tr → Tr → Bool
  | .leaf s, .leaf t => s == t
  | .node f a b c, .node g x y z => f == g && (a.beq x && (b.beq y && c.beq z))
  | _, _ => false
theorem Tr.beq_iff : ∀ a b : Tr, a.beq b = true ↔ a = b
  | .leaf s, .leaf t => by simp [Tr.beq]
  | .leaf s, .node g x y z => by simp [Tr.beq]
  | .node f a b c, .leaf t => by simp [Tr.beq]
  | .node f a b c, .node g x y z => by simp [Tr.beq, a.beq_iff x, b.beq_iff y, c.beq_iff z]
instance : DecidableEq Tr := fun a b => decidable_of_iff _ (Tr.beq_iff a b)
def old : List Nat := [111, 108, 100, 101, 114]
def new : List Nat := [110, 101, 119, 101, 114]
def Word (s : List Nat) : Prop := s = old ∨ s = new
theorem word_Word (r : Int) : Word (word r) := by unfold word Word old new; split <;> simp
def Tr.W : Tr → Prop
  | .leaf s => Word s
  | .node _ a b c => a.W ∧ b.W ∧ c.W
theorem Word.flat {s : List Nat} (h : Word s) : s.all (fun c => decide (c < 1114112)) = true := by
  rcases h with rfl | rfl <;> decide
theorem pd_enc (h : AH) : ∀ (t : Tr) (n : Nat), t.W → t.dep ≤ n → pd h n t.enc = some t.enc
  | .leaf s, n, w, _ => by
    have hw : pd0 (.str s) = some (.str s) := by
      show (if s.all (fun c => decide (c < 1114112)) then some (D.str s) else none) = _
      rw [if_pos (Word.flat w)]
    cases n with
    | zero => exact hw
    | succ n => exact hw
  | .node f a b c, 0, w, hd => by simp [Tr.dep] at hd
  | .node f a b c, n + 1, w, hd => by
    simp only [Tr.dep] at hd
    have ea := pd_enc h a n w.1 (by omega)
    have eb := pd_enc h b n w.2.1 (by omega)
    have ec := pd_enc h c n w.2.2 (by omega)
    have ef : pd h n (.int f) = some (.int f) := by cases n <;> rfl
    show (mapO (pd h n) [.int f, a.enc, b.enc, c.enc]).map D.tup = _
    simp [mapO, ef, ea, eb, ec, Tr.enc]
theorem ev_enc : ∀ a b : Tr, ev a.enc b.enc = decide (a = b)
  | .leaf s, .leaf t => by rw [Bool.eq_iff_iff]; simp [Tr.enc, ev]
  | .leaf s, .node g x y z => by simp [Tr.enc, ev]
  | .node f a b c, .leaf t => by simp [Tr.enc, ev]
  | .node f a b c, .node g x y z => by
    rw [Bool.eq_iff_iff]
    simp only [Tr.enc, ev, evs, ev_enc a x, ev_enc b y, ev_enc c z]
    simp
theorem eq_enc {a b : Tr} (wa : a.W) (wb : b.W) (da : a.dep ≤ 64) (db : b.dep ≤ 64) (h : AH) : eqH h a.enc b.enc = some (decide (a = b)) := by
  unfold eqH
  rw [pd_enc h a 64 wa da, pd_enc h b 64 wb db]
  show (if scal a.enc b.enc = true then some (decide (a.enc = b.enc)) else some (ev a.enc b.enc)) = _
  rw [ev_enc]
  have : ∀ x y : Tr, scal x.enc y.enc = true → decide (x.enc = y.enc) = decide (x = y) := fun x y hs => by
    cases x <;> cases y <;> simp [Tr.enc, scal] at hs ⊢
  by_cases hs : scal a.enc b.enc = true
  · rw [if_pos hs, this a b hs]
  · rw [if_neg hs]
theorem eqD_enc {a b : Tr} (wa : a.W) (wb : b.W) (da : a.dep ≤ 64) (db : b.dep ≤ 64) (h : AH) : eqD a.enc b.enc h = .ok (.bl (decide (a = b))) h := by
  unfold eqD; rw [eq_enc wa wb da db]; rfl
/-! ### rows and trees -/
theorem foll_congr {r1 r2 : List Int} : ∀ t : Tr, (∀ x ∈ t.fields, r1[x.toNat]? = r2[x.toNat]?) → foll r1 t = foll r2 t
  | .leaf s, _ => rfl
  | .node f a b c, h => by
    simp only [Tr.fields, List.mem_cons, List.mem_append] at h
    simp only [foll]
    rw [h f (.inl rfl), foll_congr a fun x hx => h x (.inr (.inl hx)), foll_congr b fun x hx => h x (.inr (.inr (.inl hx))), foll_congr c fun x hx => h x (.inr (.inr (.inr hx)))]
theorem Tr.W_foll (rs : List Int) : ∀ t : Tr, t.W → Word (foll rs t)
  | .leaf s, w => w
  | .node f a b c, w => by
    simp only [foll]
    split
    · exact a.W_foll rs w.1
    · split
      · exact b.W_foll rs w.2.1
      · exact c.W_foll rs w.2.2
def least (t : Tr) (fld : Int) : List Int → List Int → Tr
  | row, [] => .leaf (foll row t)
  | row, g :: l =>
    let a := least t fld (row.set g.toNat (-1)) l
    let c := least t fld (row.set g.toNat 1) l
    if g = fld then (if a = c then a else .node g a (.leaf old) c)
    else
      let b := least t fld (row.set g.toNat 0) l
      if a = b ∧ b = c then a else .node g a b c
inductive IsL (fld : Int) : List Int → Tr → Prop
  | leaf {l : List Int} {s : List Nat} (h : Word s) : IsL fld l (.leaf s)
  | skip {x : Int} {l : List Int} {t : Tr} (h : IsL fld l t) : IsL fld (x :: l) t
  | node {x : Int} {l : List Int} {a b c : Tr} (ha : IsL fld l a) (hb : IsL fld l b) (hc : IsL fld l c) (h1 : x = fld → b = .leaf old ∧ a ≠ c) (h2 : x ≠ fld → ¬ (a = b ∧ b = c)) : IsL fld (x :: l) (.node x a b c)
theorem least_isL {t : Tr} (w : t.W) (fld : Int) : ∀ (l row : List Int), IsL fld l (least t fld row l)
  | [], row => .leaf (t.W_foll row w)
  | g :: l, row => by
    simp only [least]
    split
    · split
      · exact .skip (least_isL w fld l _)
      · rename_i h1 h2
        exact .node (least_isL w fld l _) (.leaf (.inl rfl)) (least_isL w fld l _) (fun _ => ⟨rfl, h2⟩) fun h => absurd h1 h
    · split
      · exact .skip (least_isL w fld l _)
      · rename_i h1 h2
        exact .node (least_isL w fld l _) (least_isL w fld l _) (least_isL w fld l _) (fun h => absurd h h1) fun _ => h2
theorem IsL.sub {fld : Int} {l1 l2 : List Int} (s : l1.Sublist l2) : ∀ {t : Tr}, IsL fld l1 t → IsL fld l2 t := by
  induction s with
  | slnil => exact fun h => h
  | cons a s ih => exact fun h => .skip (ih h)
  | cons_cons a s ih =>
    intro t h
    cases h with
    | leaf h => exact .leaf h
    | skip h => exact .skip (ih h)
    | node ha hb hc h1 h2 => exact .node (ih ha) (ih hb) (ih hc) h1 h2
theorem IsL.W {fld : Int} {l : List Int} {t : Tr} (h : IsL fld l t) : t.W := by
  induction h with
  | leaf h => exact h
  | skip h ih => exact ih
  | node _ _ _ _ _ ia ib ic => exact ⟨ia, ib, ic⟩
theorem IsL.dep {fld : Int} {l : List Int} {t : Tr} (h : IsL fld l t) : t.dep ≤ l.length := by
  induction h with
  | leaf h => exact Nat.zero_le _
  | skip h ih => simp; omega
  | node _ _ _ _ _ ia ib ic => simp only [Tr.dep, List.length_cons]; omega
theorem IsL.mem {fld : Int} {l : List Int} {t : Tr} (h : IsL fld l t) : ∀ x ∈ t.fields, x ∈ l := by
  induction h with
  | leaf h => simp [Tr.fields]
  | skip h ih => exact fun x hx => List.mem_cons_of_mem _ (ih x hx)
  | node _ _ _ _ _ ia ib ic =>
    intro x hx
    simp only [Tr.fields, List.mem_cons, List.mem_append] at hx ⊢
    rcases hx with h | h | h | h
    · exact .inl h
    · exact .inr (ia x h)
    · exact .inr (ib x h)
    · exact .inr (ic x h)
/-- a row of the law's: the field's own sign is not 0 -/
structure RowF (n fld : Int) (rs : List Int) : Prop where
  row : Row n rs
  ne : rs[fld.toNat]? ≠ some 0
theorem Row.set {n : Int} {rs : List Int} (h : Row n rs) {x v : Int} (hv : -1 ≤ v ∧ v ≤ 1) : Row n (rs.set x.toNat v) :=
  ⟨by rw [List.length_set]; exact h.1, fun r hr => by
    rcases List.mem_or_eq_of_mem_set hr with h' | h'
    · exact h.2 r h'
    · subst h'; exact hv⟩
theorem RowF.set {n fld : Int} {rs : List Int} (h : RowF n fld rs) {x v : Int} (h0 : 0 ≤ x) (hf0 : 0 ≤ fld) (hx : x < n) (hv : -1 ≤ v ∧ v ≤ 1) (hne : x = fld → v ≠ 0) : RowF n fld (rs.set x.toNat v) := by
  refine ⟨h.row.set hv, ?_⟩
  by_cases e : x = fld
  · subst e
    rw [List.getElem?_set_self (by have := h.row.1; omega)]
    intro z; exact hne rfl (Option.some.inj z)
  · rw [List.getElem?_set_ne (by omega)]; exact h.ne
theorem get_set_self {n : Int} {rs : List Int} (h : Row n rs) {x v : Int} (h0 : 0 ≤ x) (hx : x < n) : (rs.set x.toNat v)[x.toNat]? = some v := List.getElem?_set_self (by have := h.1; omega)
/-- the field is not asked: its sign says nothing -/
theorem foll_set {rs : List Int} {t : Tr} {l : List Int} {x v : Int} (hl : ∀ y ∈ l, 0 ≤ y) (h0 : 0 ≤ x) (hm : ∀ y ∈ t.fields, y ∈ l) (hx : x ∉ l) : foll (rs.set x.toNat v) t = foll rs t :=
  foll_congr t fun y hy => List.getElem?_set_ne (by
    have := hl y (hm y hy)
    have : y ≠ x := fun e => hx (e ▸ hm y hy)
    omega)
theorem foll_less {n : Int} {rs : List Int} (h : Row n rs) {x : Int} (h0 : 0 ≤ x) (hx : x < n) (a b c : Tr) : foll (rs.set x.toNat (-1)) (.node x a b c) = foll (rs.set x.toNat (-1)) a := by
  simp only [foll]; rw [get_set_self h h0 hx]; simp
theorem foll_same {n : Int} {rs : List Int} (h : Row n rs) {x : Int} (h0 : 0 ≤ x) (hx : x < n) (a b c : Tr) : foll (rs.set x.toNat 0) (.node x a b c) = foll (rs.set x.toNat 0) b := by
  simp only [foll]; rw [get_set_self h h0 hx]; simp
theorem foll_more {n : Int} {rs : List Int} (h : Row n rs) {x : Int} (h0 : 0 ≤ x) (hx : x < n) (a b c : Tr) : foll (rs.set x.toNat 1) (.node x a b c) = foll (rs.set x.toNat 1) c := by
  simp only [foll]; rw [get_set_self h h0 hx]; simp
theorem canon {n fld : Int} (hn : 0 < n) (hf0 : 0 ≤ fld) (hf : fld < n) : ∀ {l : List Int}, l.Nodup → (∀ x ∈ l, 0 ≤ x ∧ x < n) → ∀ {s t : Tr}, IsL fld l s → IsL fld l t → (∀ rs, RowF n fld rs → foll rs s = foll rs t) → s = t
  | [], _, _, s, t, hs, ht, h => by
    cases hs; cases ht
    have := h (List.replicate n.toNat 1) ⟨⟨by simp; omega, fun r hr => by rw [List.mem_replicate] at hr; omega⟩, by rw [List.getElem?_replicate]; split <;> simp⟩
    simp only [foll] at this
    rw [this]
  | x :: l, nd, hl, s, t, hs, ht, h => by
    have nd' := List.nodup_cons.mp nd
    obtain ⟨x0, x1⟩ := hl x List.mem_cons_self
    have hl' : ∀ y ∈ l, 0 ≤ y ∧ y < n := fun y hy => hl y (List.mem_cons_of_mem _ hy)
    have ih := fun {s t : Tr} => canon hn hf0 hf nd'.2 hl' (s := s) (t := t)
    have drop : ∀ {u : Tr} {rs : List Int} {v : Int}, IsL fld l u → foll (rs.set x.toNat v) u = foll rs u := fun hu => foll_set (fun y hy => (hl' y hy).1) x0 hu.mem nd'.1
    have lift : ∀ {u : Tr}, IsL fld (x :: l) u → (IsL fld l u) ∨ ∃ a b c, u = .node x a b c ∧ IsL fld l a ∧ IsL fld l b ∧ IsL fld l c ∧ (x = fld → b = .leaf old ∧ a ≠ c) ∧ (x ≠ fld → ¬ (a = b ∧ b = c)) := fun hu => by
      cases hu with
      | leaf h => exact .inl (.leaf h)
      | skip h => exact .inl h
      | node ha hb hc h1 h2 => exact .inr ⟨_, _, _, rfl, ha, hb, hc, h1, h2⟩
    have clash : ∀ {a b c u : Tr}, IsL fld l a → IsL fld l b → IsL fld l c → (x = fld → b = .leaf old ∧ a ≠ c) → (x ≠ fld → ¬ (a = b ∧ b = c)) → IsL fld l u → (∀ rs, RowF n fld rs → foll rs (.node x a b c) = foll rs u) → False := by
      intro a b c u ha hb hc h1 h2 hu hh
      have ea : ∀ rs, RowF n fld rs → foll rs a = foll rs u := fun rs hr => by
        have := hh _ (hr.set (x := x) (v := -1) x0 hf0 x1 (by omega) (by omega))
        rw [foll_less hr.row x0 x1, drop ha, drop hu] at this; exact this
      have ec : ∀ rs, RowF n fld rs → foll rs c = foll rs u := fun rs hr => by
        have := hh _ (hr.set (x := x) (v := 1) x0 hf0 x1 (by omega) (by omega))
        rw [foll_more hr.row x0 x1, drop hc, drop hu] at this; exact this
      have eac := ih ha hc fun rs hr => (ea rs hr).trans (ec rs hr).symm
      by_cases e : x = fld
      · exact (h1 e).2 eac
      · have eb : ∀ rs, RowF n fld rs → foll rs b = foll rs u := fun rs hr => by
          have := hh _ (hr.set (x := x) (v := 0) x0 hf0 x1 (by omega) (fun z => absurd z e))
          rw [foll_same hr.row x0 x1, drop hb, drop hu] at this; exact this
        have eab := ih ha hb fun rs hr => (ea rs hr).trans (eb rs hr).symm
        exact h2 e ⟨eab, eab ▸ eac⟩
    rcases lift hs with hs | ⟨a, b, c, rfl, ha, hb, hc, h1, h2⟩
    · rcases lift ht with ht | ⟨a, b, c, rfl, ha, hb, hc, h1, h2⟩
      · exact ih hs ht h
      · exact (clash ha hb hc h1 h2 hs fun rs hr => (h rs hr).symm).elim
    · rcases lift ht with ht | ⟨a', b', c', rfl, ha', hb', hc', h1', h2'⟩
      · exact (clash ha hb hc h1 h2 ht h).elim
      · have ea := ih ha ha' fun rs hr => by
          have := h _ (hr.set (x := x) (v := -1) x0 hf0 x1 (by omega) (by omega))
          rw [foll_less hr.row x0 x1, foll_less hr.row x0 x1, drop ha, drop ha'] at this; exact this
        have ec := ih hc hc' fun rs hr => by
          have := h _ (hr.set (x := x) (v := 1) x0 hf0 x1 (by omega) (by omega))
          rw [foll_more hr.row x0 x1, foll_more hr.row x0 x1, drop hc, drop hc'] at this; exact this
        have eb : b = b' := by
          by_cases e : x = fld
          · rw [(h1 e).1, (h1' e).1]
          · exact ih hb hb' fun rs hr => by
              have := h _ (hr.set (x := x) (v := 0) x0 hf0 x1 (by omega) (fun z => absurd z e))
              rw [foll_same hr.row x0 x1, foll_same hr.row x0 x1, drop hb, drop hb'] at this; exact this
        rw [ea, eb, ec]
/-! ### what the least tree names -/
def updR (rs : List Int) : List Int → List Int → List Int
  | row, [] => row
  | row, g :: l => updR rs (row.set g.toNat (rs[g.toNat]?.getD 0)) l
theorem updR_out {rs : List Int} {x : Nat} : ∀ {l row : List Int}, (∀ g ∈ l, g.toNat ≠ x) → (updR rs row l)[x]? = row[x]?
  | [], _, _ => rfl
  | g :: l, row, h => by
    rw [updR, updR_out fun y hy => h y (List.mem_cons_of_mem _ hy), List.getElem?_set_ne (h g List.mem_cons_self)]
theorem updR_get {n : Int} {rs : List Int} (hr : Row n rs) {x : Int} (x0 : 0 ≤ x) (hxn : x < n) : ∀ {l row : List Int}, row.length = rs.length → ((∃ g ∈ l, g = x) ∨ row[x.toNat]? = rs[x.toNat]?) → (∀ g ∈ l, 0 ≤ g) → (updR rs row l)[x.toNat]? = rs[x.toNat]?
  | [], row, _, h, _ => by
    rcases h with ⟨g, hg, _⟩ | h
    · cases hg
    · exact h
  | g :: l, row, hl, h, hp => by
    rw [updR]
    have hlen : x.toNat < rs.length := by have := hr.1; omega
    refine updR_get hr x0 hxn (by simpa using hl) ?_ fun y hy => hp y (List.mem_cons_of_mem _ hy)
    by_cases e : g = x
    · subst e
      refine .inr ?_
      rw [List.getElem?_set_self (by omega), List.getElem?_eq_getElem hlen]; simp
    · rcases h with ⟨y, hy, rfl⟩ | h
      · rcases List.mem_cons.mp hy with z | z
        · exact absurd z.symm e
        · exact .inl ⟨y, z, rfl⟩
      · refine .inr ?_
        have := hp g List.mem_cons_self
        rw [List.getElem?_set_ne (by omega)]; exact h
theorem foll_least {n fld : Int} (t : Tr) {rs : List Int} (hr : RowF n fld rs) : ∀ {l row : List Int}, (∀ x ∈ l, 0 ≤ x ∧ x < n) → foll rs (least t fld row l) = foll (updR rs row l) t
  | [], row, _ => rfl
  | g :: l, row, hl => by
    obtain ⟨g0, g1⟩ := hl g List.mem_cons_self
    have ih := fun row => foll_least t hr (l := l) (row := row) fun y hy => hl y (List.mem_cons_of_mem _ hy)
    have hlen : g.toNat < rs.length := by have := hr.row.1; omega
    have hv := hr.row.2 _ (List.getElem_mem hlen)
    have hg : rs[g.toNat]? = some rs[g.toNat] := List.getElem?_eq_getElem hlen
    have cases3 : rs[g.toNat] = -1 ∨ rs[g.toNat] = 0 ∨ rs[g.toNat] = 1 := by omega
    rw [updR, hg]
    simp only [Option.getD_some, least]
    by_cases e : g = fld
    · subst e
      rw [if_pos rfl]
      have hz : rs[g.toNat] ≠ 0 := fun z => hr.ne (by rw [hg, z])
      split
      · rename_i hac
        rcases cases3 with z | z | z
        · rw [z, ih]
        · exact absurd z hz
        · rw [z, hac, ih]
      · simp only [foll, hg]
        rcases cases3 with z | z | z
        · rw [z, if_pos rfl, ih]
        · exact absurd z hz
        · rw [z, if_neg (by simp), if_neg (by simp), ih]
    · rw [if_neg e]
      split
      · rename_i hac
        rcases cases3 with z | z | z
        · rw [z, ih]
        · rw [z, hac.1, ih]
        · rw [z, hac.1, hac.2, ih]
      · simp only [foll, hg]
        rcases cases3 with z | z | z
        · rw [z, if_pos rfl, ih]
        · rw [z, if_neg (by simp), if_pos rfl, ih]
        · rw [z, if_neg (by simp), if_neg (by simp), ih]
theorem least_foll {n fld : Int} {t : Tr} (ht : t.ok n) {rs : List Int} (hr : RowF n fld rs) {l row : List Int} (hl : ∀ x ∈ l, 0 ≤ x ∧ x < n) (hrow : row.length = rs.length) (hm : ∀ x ∈ t.fields, x ∈ l) : foll rs (least t fld row l) = foll rs t := by
  rw [foll_least t hr hl]
  exact foll_congr t fun x hx => updR_get hr.row (hl x (hm x hx)).1 (hl x (hm x hx)).2 hrow (.inl ⟨x, hm x hx, rfl⟩) fun g hg => (hl g hg).1
end Sm.K01
end

section
set_option linter.all false
set_option maxRecDepth 10000
namespace Sm.K25
open Sm Sm.K01
theorem e_take : F_q_take = K01.F_q_take := rfl
theorem e_tape : F_q_tape = K01.F_q_tape := rfl
theorem e_follow : F_follow = K01.F_follow := rfl
theorem e_asked : F_asked = K01.F_asked := rfl
theorem e_lfollow : F_q_follow = K01.F_q_follow := rfl
theorem e_isint : F_q_is_integer = K01.F_q_is_integer := rfl
theorem size_le : ∀ t : Tr, t.size ≤ S t.dep
  | .leaf s => by simp [Tr.size, Tr.dep, S]
  | .node f a b c => by
    have mono : ∀ {i j : Nat}, i ≤ j → S i ≤ S j := fun {i j} h => by
      induction h with
      | refl => exact Nat.le_refl _
      | step h ih => exact Nat.le_trans ih (by simp only [S]; omega)
    have ha := Nat.le_trans (size_le a) (mono (show a.dep ≤ max a.dep (max b.dep c.dep) by omega))
    have hb := Nat.le_trans (size_le b) (mono (show b.dep ≤ max a.dep (max b.dep c.dep) by omega))
    have hc := Nat.le_trans (size_le c) (mono (show c.dep ≤ max a.dep (max b.dep c.dep) by omega))
    simp only [Tr.size, Tr.dep]
    rw [Nat.add_comm 1 (max _ _)]
    simp only [S]
    omega
theorem tree_ok {n : Int} (h0 : 0 < n) (h1 : n < 1073741824) {l : Nat} : ∀ (lv fuel : Nat) (h : AH), lv < fuel → Tp h l → ∃ (t : Tr) (o : AO), IsTp o ∧ t.ok n ∧ t.W ∧ t.dep ≤ lv ∧ F_q_tree fuel [.loc l, .int n, .int lv] h = .ok t.enc (h.set l o) := by
  intro lv
  induction lv with
  | zero =>
    intro fuel h hf tp
    obtain ⟨fuel, rfl⟩ : ∃ m, fuel = m + 1 := ⟨fuel - 1, by omega⟩
    obtain ⟨r, o, r0, r1, ho, e⟩ := K01.take_ok (n := 2) tp (by omega) (by omega)
    refine ⟨.leaf (word r), o, ho, trivial, word_Word r, Nat.le_refl _, fnT_draw ho rfl ?_ (Tr.enc_loc _) (Tr.clo_enc _ _)⟩
    simp [b_q_tree, envOf, e_take, e, at_word r0 r1, Tr.enc, big2]
  | succ lv ih =>
    intro fuel h hf tp
    obtain ⟨fuel, rfl⟩ : ∃ m, fuel = m + 1 := ⟨fuel - 1, by omega⟩
    have hl := tp.lt
    have hz : ¬ ((lv : Int) + 1 = 0) := by omega
    obtain ⟨r, o, r0, r1, ho, e⟩ := K01.take_ok (n := 4) tp (by omega) (by omega)
    by_cases hr : r = 0
    · subst hr
      obtain ⟨r2, o2, r20, r21, ho2, e2⟩ := K01.take_ok (n := 2) (Tp.set ho hl) (by omega) (by omega)
      refine ⟨.leaf (word r2), o2, ho2, trivial, word_Word r2, Nat.zero_le _, fnT_draw ho2 rfl ?_ (Tr.enc_loc _) (Tr.clo_enc _ _)⟩
      simp [b_q_tree, envOf, e_take, e, e2, at_word r20 r21, Tr.enc, hz, big2]
    · obtain ⟨f, o2, f0, f1, ho2, e2⟩ := K01.take_ok (n := n) (Tp.set ho hl) h0 h1
      obtain ⟨a, o3, ho3, ka, wa, da, e3⟩ := ih fuel _ (by omega) (Tp.set ho2 (h := h.set l o) (by simpa using hl))
      obtain ⟨b, o4, ho4, kb, wb, db, e4⟩ := ih fuel _ (by omega) (Tp.set ho3 (h := (h.set l o).set l o2) (by simpa using hl))
      obtain ⟨c, o5, ho5, kc, wc, dc, e5⟩ := ih fuel _ (by omega) (Tp.set ho4 (h := ((h.set l o).set l o2).set l o3) (by simpa using hl))
      refine ⟨.node f a b c, o5, ho5, ⟨f0, f1, ka, kb, kc⟩, ⟨wa, wb, wc⟩, by simp only [Tr.dep]; omega, fnT_draw ho5 rfl ?_ (Tr.enc_loc _) (Tr.clo_enc _ _)⟩
      simp only [List.set_set] at e2 e3 e4 e5
      have hv : (lv : Int) + 1 - 1 = lv := by omega
      simp [b_q_tree, envOf, e_take, e, hr, e2, e3, e4, e5, Tr.enc, hz, hv, big4]
/-! ### with_sign, field_order -/
theorem cut_pre {α : Type} (xs : List α) (i : Nat) (h : i ≤ xs.length) : cut xs none (some (i : Int)) = xs.take i := by
  have : ¬ ((i : Int) < 0) := by omega
  simp [cut, sIx, this, h]
theorem cut_suf {α : Type} (xs : List α) (i : Nat) (h : i ≤ xs.length) : cut xs (some (i : Int)) none = xs.drop i := by
  have h1 : ¬ ((i : Int) < 0) := by omega
  have h2 : min i xs.length = i := by omega
  simp [cut, sIx, h1, h2]
  exact List.take_of_length_le (by simp)
theorem set_cut {α : Type} (xs : List α) (i : Nat) (v : α) (h : i < xs.length) : xs.take i ++ ([v] ++ xs.drop (i + 1)) = xs.set i v := by
  rw [List.set_eq_take_append_cons_drop, if_pos h]; rfl
theorem with_sign_ok {n : Int} {rs : List Int} (hr : (rs.length : Int) = n) (hn : n < 100) {f v : Int} (f0 : 0 ≤ f) (f1 : f < n) {h : AH} : F_with_sign [.tup (rs.map .int), .int f, .int v] h = .ok (.tup ((rs.set f.toNat v).map .int)) h := by
  refine fnT_same (L := []) rfl ?_ (by simp) (by rw [clo_tup, clos_ints])
  obtain ⟨k, rfl⟩ := Int.eq_ofNat_of_zero_le f0
  have hk : k < rs.length := by omega
  have c1 := cut_pre (rs.map D.int) k (by simp; omega)
  have c2 := cut_suf (rs.map D.int) (k + 1) (by simp; omega)
  have c3 := set_cut (rs.map D.int) k (.int v) (by simpa using hk)
  have b1 : min k rs.length + 1 ≤ big := by rw [bigv]; omega
  have b2 : min k rs.length + 1 + (rs.length - (k + 1)) ≤ big := by rw [bigv]; omega
  simp only [Int.natCast_add, Int.natCast_one] at c2
  simp [b_with_sign, envOf, c1, c2, big1, b1, b2, List.map_set]
  simpa using c3
def others (fld n : Int) : List Int := ((List.range n.toNat).map fun (k : Nat) => (k : Int)).filter fun g => decide (g ≠ fld)
theorem others_mem {fld n x : Int} : x ∈ others fld n ↔ 0 ≤ x ∧ x < n ∧ x ≠ fld := by
  unfold others
  rw [List.mem_filter, List.mem_map]
  constructor
  · rintro ⟨⟨k, hk, rfl⟩, h2⟩
    rw [List.mem_range] at hk
    exact ⟨by omega, by omega, of_decide_eq_true h2⟩
  · rintro ⟨h0, h1, h2⟩
    refine ⟨⟨x.toNat, List.mem_range.mpr (by omega), ?_⟩, decide_eq_true h2⟩
    show ((x.toNat : Nat) : Int) = x
    omega
theorem others_nodup (fld n : Int) : (others fld n).Nodup := by
  unfold others
  refine List.Pairwise.filter _ ?_
  exact List.Pairwise.map _ (fun a b h z => h (Int.ofNat.inj z)) List.nodup_range
end Sm.K25
end

section
set_option linter.all false
set_option maxRecDepth 10000
namespace Sm.K25
open Sm Sm.K01
theorem inI_of {m : Int} (h0 : 0 ≤ m) (h1 : m < 1000000) : inI m = true := (inI_iff _).mpr ⟨by omega, by omega⟩
/-- [g for g in range(n) if g != field] -/
theorem others_lc {fld n : Int} (h0 : 0 ≤ n) (h1 : n < 100) (s fs : Nat) (hne : s ≠ fs) (e0 : Env) (hf : e0[fs]? = some (some (.int fld))) (hl : s < e0.length) (h : AH) :
    lcN (gV s) (tB1 (e2 neD (eV s) (eV fs))) (eV s) e0 (.lst (rng 0 n.toNat)) (Src.lst (rng 0 n.toNat)).fuel 0 [] h = .ok ((others fld n).map .int) h := by
  refine lc_inv (P := fun i acc h' => acc = (((List.range i).map fun (k : Nat) => (k : Int)).filter fun g => decide (g ≠ fld)).map .int ∧ h' = h) (Z := fun r => r = .ok ((others fld n).map .int) h) ?_ ?_ ⟨rfl, rfl⟩
  · rintro i x acc h' k hx ⟨rfl, rfl⟩ ih
    obtain ⟨hin, rfl⟩ := rng_get hx
    have g0 : (e0.set s (some (.int i)))[fs]? = some (some (.int fld)) := by rw [List.getElem?_set_ne hne]; exact hf
    have g1 : (e0.set s (some (.int i)))[s]? = some (some (.int i)) := List.getElem?_set_self hl
    have hb : ((((List.range i).map fun (k : Nat) => (k : Int)).filter fun g => decide (g ≠ fld)).map D.int).length < big := by
      rw [List.length_map]
      have := List.length_filter_le (fun g => decide (g ≠ fld)) ((List.range i).map fun (k : Nat) => (k : Int))
      rw [List.length_map, List.length_range] at this
      rw [bigv]; omega
    have hz := ih ((((List.range (i + 1)).map fun (k : Nat) => (k : Int)).filter fun g => decide (g ≠ fld)).map .int) h' ⟨rfl, rfl⟩
    rw [List.range_succ, List.map_append, List.filter_append, List.map_append] at hz
    by_cases e : (i : Int) = fld
    · have hf0 : (([i].map fun (k : Nat) => (k : Int)).filter fun g => decide (g ≠ fld)) = [] := by simp [e]
      rw [hf0] at hz
      simp [g0, g1, eq_true e] at hz ⊢
      exact hz
    · have hf0 : (([i].map fun (k : Nat) => (k : Int)).filter fun g => decide (g ≠ fld)) = [(i : Int)] := by simp [e]
      rw [hf0] at hz
      generalize ((((List.range i).map fun (k : Nat) => (k : Int)).filter fun g => decide (g ≠ fld)).map D.int) = acc at hz hb
      simp [g0, g1, e, hb] at hz ⊢
      exact hz
  · rintro acc h' ⟨rfl, rfl⟩
    rw [rng_len]; rfl
theorem field_order_ok {fld n : Int} (h0 : 0 ≤ n) (h1 : n < 100) {h : AH} : F_field_order [.int fld, .int n] h = .ok (.tup ((fld :: others fld n).map .int)) h := by
  refine fnT_same (L := []) rfl ?_ (by simp) (by rw [clo_tup, clos_ints])
  have e := others_lc (fld := fld) h0 h1 2 0 (by decide) [some (.int fld), some (.int n), none] rfl (by simp) h
  have hl : (others fld n).length ≤ 100 := by
    unfold others
    have := List.length_filter_le (fun g => decide (g ≠ fld)) ((List.range n.toNat).map fun (k : Nat) => (k : Int))
    rw [List.length_map, List.length_range] at this
    omega
  have hb : 1 + (others fld n).length ≤ big := by rw [bigv]; omega
  simp [b_field_order, envOf, inI_of h0 (show n < 1000000 by omega), wipeE, e, big1, hb]
theorem eqT {a b : Tr} (wa : a.W) (wb : b.W) (da : a.dep ≤ 64) (db : b.dep ≤ 64) (h : AH) : eqD a.enc b.enc h = .ok (.bl (decide (a = b))) h := eqD_enc wa wb da db h
theorem follow_any {n : Int} {rs : List Int} (hr : Row n rs) {t : Tr} (ht : t.ok n) (hd : t.dep < 60) (h : AH) : F_follow [t.enc, .tup (rs.map .int)] h = .ok (.str (foll rs t)) h := by
  rw [e_follow]; exact follow_ok hr ht (by omega)
theorem truthT (xs : List D) (h : AH) : truth h (.tup xs) = some (!xs.isEmpty) := rfl
theorem least_from_ok {n : Int} (hn : n < 60) {t : Tr} (ht : t.ok n) (w : t.W) (hd : t.dep < 60) (fld : Int) {h : AH} : ∀ (l rs : List Int) (fuel : Nat), l.length < fuel → l.length < 60 → Row n rs → (∀ x ∈ l, 0 ≤ x ∧ x < n) →
    F_least_from fuel [t.enc, .int fld, .tup (rs.map .int), .tup (l.map .int)] h = .ok (least t fld rs l).enc h := by
  intro l
  induction l with
  | nil =>
    intro rs fuel hf _ hr _
    obtain ⟨fuel, rfl⟩ : ∃ m, fuel = m + 1 := ⟨fuel - 1, by omega⟩
    refine fnT_same (L := []) rfl ?_ (Tr.enc_loc _) (Tr.clo_enc _ _)
    simp [b_least_from, envOf, truthT, follow_any hr ht hd, least, Tr.enc]
  | cons g l ih =>
    intro rs fuel hf h60 hr hl
    obtain ⟨fuel, rfl⟩ : ∃ m, fuel = m + 1 := ⟨fuel - 1, by omega⟩
    obtain ⟨g0, g1⟩ := hl g List.mem_cons_self
    have hl' : ∀ x ∈ l, 0 ≤ x ∧ x < n := fun x hx => hl x (List.mem_cons_of_mem _ hx)
    simp only [List.length_cons] at hf h60
    have ws := fun v => with_sign_ok (v := v) hr.1 (by omega) g0 g1 (h := h)
    have ia := ih (rs.set g.toNat (-1)) fuel (by omega) (by omega) (hr.set (by omega)) hl'
    have ib := ih (rs.set g.toNat 0) fuel (by omega) (by omega) (hr.set (by omega)) hl'
    have ic := ih (rs.set g.toNat 1) fuel (by omega) (by omega) (hr.set (by omega)) hl'
    have wa := (least_isL w fld l (rs.set g.toNat (-1)))
    have wb := (least_isL w fld l (rs.set g.toNat 0))
    have wc := (least_isL w fld l (rs.set g.toNat 1))
    have hc : cut (D.int g :: l.map .int) (some 1) none = l.map .int := by
      have := cut_suf (D.int g :: l.map .int) 1 (by simp)
      simpa using this
    have eac := eqT wa.W wc.W (by have := wa.dep; omega) (by have := wc.dep; omega) h
    have eab := eqT wa.W wb.W (by have := wa.dep; omega) (by have := wb.dep; omega) h
    have ebc := eqT wb.W wc.W (by have := wb.dep; omega) (by have := wc.dep; omega) h
    refine fnT_same (L := []) rfl ?_ (Tr.enc_loc _) (Tr.clo_enc _ _)
    have wm1 := ws (-1)
    have w0 := ws 0
    have w1 := ws 1
    have lw : ∀ d : D, d = (least t fld rs (g :: l)).enc → R.ok (Fl.rt d) h = R.ok (Fl.rt (least t fld rs (g :: l)).enc) (h ++ []) := fun d e => by rw [e, List.append_nil]
    generalize hA : least t fld (rs.set g.toNat (-1)) l = A at *
    generalize hB : least t fld (rs.set g.toNat 0) l = B at *
    generalize hC : least t fld (rs.set g.toNat 1) l = C at *
    have eL0 : least t fld rs (g :: l) = if g = fld then (if A = C then A else .node g A (.leaf old) C) else (if A = B ∧ B = C then A else .node g A B C) := by
      simp only [least, hA, hB, hC]
    simp only [List.map_set] at ia ib ic wm1 w0 w1
    by_cases e : g = fld
    · subst e
      rw [if_pos rfl] at eL0
      by_cases hac : A = C
      · rw [if_pos hac] at eL0
        simp [b_least_from, envOf, truthT, hc, wm1, w1, ia, ic, eac, eq_true hac, eL0]
      · rw [if_neg hac] at eL0
        simp [b_least_from, envOf, truthT, hc, wm1, w1, ia, ic, eac, hac, eL0, big4, Tr.enc, old]
    · rw [if_neg e] at eL0
      by_cases hab : A = B
      · by_cases hbc : B = C
        · rw [if_pos ⟨hab, hbc⟩] at eL0
          simp [b_least_from, envOf, truthT, hc, wm1, w0, w1, ia, ib, ic, eab, ebc, eq_true hab, eq_true hbc, e, eL0]
        · rw [if_neg (fun z => hbc z.2)] at eL0
          simp [b_least_from, envOf, truthT, hc, wm1, w0, w1, ia, ib, ic, eab, ebc, eq_true hab, hbc, e, eL0, big4, Tr.enc]
      · rw [if_neg (fun z => hab z.1)] at eL0
        simp [b_least_from, envOf, truthT, hc, wm1, w0, w1, ia, ib, ic, eab, hab, e, eL0, big4, Tr.enc]
end Sm.K25
end

section
set_option linter.all false
set_option maxRecDepth 10000
namespace Sm.K25
open Sm Sm.K01
theorem inD_ints (x : Int) (ys : List Int) (h : AH) : inD (.int x) (.tup (ys.map .int)) h = .ok (.bl (decide (x ∈ ys))) h := by
  unfold inD inH
  rw [show seqH h (.tup (ys.map .int)) = some (ys.map .int) from rfl]
  dsimp only
  rw [all_flat_ints, inL_ints]
  simp [flat]
theorem filter_lc {xs ys : List Int} (hx : xs.length < 1000) (s fs : Nat) (hne : s ≠ fs) (e0 : Env) (hf : e0[fs]? = some (some (.tup (ys.map .int)))) (hl : s < e0.length) (h : AH) :
    lcN (gV s) (tB1 (e2 inD (eV s) (eV fs))) (eV s) e0 (.lst (xs.map .int)) (Src.lst (xs.map D.int)).fuel 0 [] h = .ok ((xs.filter fun g => decide (g ∈ ys)).map .int) h := by
  refine lc_inv (P := fun i acc h' => acc = ((xs.take i).filter fun g => decide (g ∈ ys)).map .int ∧ h' = h) (Z := fun r => r = .ok ((xs.filter fun g => decide (g ∈ ys)).map .int) h) ?_ ?_ ⟨rfl, rfl⟩
  · rintro i x acc h' k hx2 ⟨rfl, rfl⟩ ih
    rw [List.getElem?_map] at hx2
    cases hg : xs[i]? with
    | none => rw [hg] at hx2; cases hx2
    | some y =>
      rw [hg] at hx2
      simp at hx2
      subst hx2
      have g0 : (e0.set s (some (.int y)))[fs]? = some (some (.tup (ys.map .int))) := by rw [List.getElem?_set_ne hne]; exact hf
      have g1 : (e0.set s (some (.int y)))[s]? = some (some (.int y)) := List.getElem?_set_self hl
      have hb : (((xs.take i).filter fun g => decide (g ∈ ys)).map D.int).length < big := by
        rw [List.length_map]
        have := List.length_filter_le (fun g => decide (g ∈ ys)) (xs.take i)
        rw [List.length_take] at this
        rw [bigv]; omega
      have hz := ih (((xs.take (i + 1)).filter fun g => decide (g ∈ ys)).map .int) h' ⟨rfl, rfl⟩
      rw [List.take_add_one, hg, List.filter_append, List.map_append] at hz
      generalize (((xs.take i).filter fun g => decide (g ∈ ys)).map D.int) = acc at hz hb
      by_cases e : y ∈ ys
      · simp [g0, g1, inD_ints, e, hb] at hz ⊢
        exact hz
      · simp [g0, g1, inD_ints, e] at hz ⊢
        exact hz
  · rintro acc h' ⟨rfl, rfl⟩
    rw [List.take_of_length_le (by simp)]
def leftOf (t : Tr) (fld n : Int) : List Int := (fld :: others fld n).filter fun g => decide (g ∈ t.fields)
def leastT (t : Tr) (fld n : Int) : Tr := least t fld (List.replicate n.toNat 0) (leftOf t fld n)
theorem order_nodup (fld n : Int) : (fld :: others fld n).Nodup := List.nodup_cons.mpr ⟨fun h => (others_mem.mp h).2.2 rfl, others_nodup fld n⟩
theorem order_mem {fld n x : Int} (f0 : 0 ≤ fld) (f1 : fld < n) : x ∈ fld :: others fld n ↔ 0 ≤ x ∧ x < n := by
  rw [List.mem_cons, others_mem]
  constructor
  · rintro (rfl | h)
    · exact ⟨f0, f1⟩
    · exact ⟨h.1, h.2.1⟩
  · rintro ⟨h0, h1⟩
    by_cases e : x = fld
    · exact .inl e
    · exact .inr ⟨h0, h1, e⟩
theorem others_len (fld n : Int) : (others fld n).length ≤ n.toNat := by
  unfold others
  have := List.length_filter_le (fun g => decide (g ≠ fld)) ((List.range n.toNat).map fun (k : Nat) => (k : Int))
  rw [List.length_map, List.length_range] at this
  exact this
theorem leftOf_len (t : Tr) (fld n : Int) : (leftOf t fld n).length ≤ n.toNat + 1 := by
  have h1 := List.length_filter_le (fun g => decide (g ∈ t.fields)) (fld :: others fld n)
  have h2 := others_len fld n
  rw [List.length_cons] at h1
  unfold leftOf
  omega
theorem least_tree_ok {n fld : Int} (h0 : 0 < n) (h1 : n < 7) (f0 : 0 ≤ fld) (f1 : fld < n) {t : Tr} (ht : t.ok n) (w : t.W) (hd : t.dep ≤ 6) {h : AH} : F_least_tree [t.enc, .int fld, .int n] h = .ok (leastT t fld n).enc h := by
  have hs : t.size ≤ 1200 := by
    have := size_le t
    have mono : ∀ j, j ≤ 6 → S j ≤ 1093 := by decide
    have := mono t.dep hd
    omega
  obtain ⟨gs, hg, ea⟩ := asked_ok (h := h) h0 (by omega) ht hs
  have fo := field_order_ok (fld := fld) (n := n) (by omega) (by omega) (h := h)
  have lc := filter_lc (xs := fld :: others fld n) (ys := sortU gs) (by have := others_len fld n; simp; omega) 5 3 (by decide) [some t.enc, some (.int fld), some (.int n), some (.tup ((sortU gs).map .int)), none, none] rfl (by simp) h
  have hfil : (fld :: others fld n).filter (fun g => decide (g ∈ sortU gs)) = leftOf t fld n := by
    unfold leftOf
    congr 1
    funext g
    rw [decide_eq_decide, sortU_mm, hg]
  rw [hfil] at lc
  have lf := least_from_ok (n := n) (by omega) ht w (by omega) fld (leftOf t fld n) (List.replicate n.toNat 0) 8 (by have := leftOf_len t fld n; omega) (by have := leftOf_len t fld n; omega) ⟨by simp; omega, fun r hr => by rw [List.mem_replicate] at hr; omega⟩ (fun x hx => (order_mem f0 f1).mp (List.mem_filter.mp hx).1) (h := h)
  refine fnT_same (L := []) rfl ?_ (Tr.enc_loc _) (Tr.clo_enc _ _)
  have hm : mulD true (.tup [.int 0]) (.int n) h = .ok (.tup ((List.replicate n.toNat 0).map .int)) h := by
    show R.chk _ _ = _
    rw [decide_eq_true (by simp; omega)]
    show R.ok (D.tup (List.replicate n.toNat [D.int 0]).flatten) h = _
    simp
  simp at lc hm lf
  simp [b_least_tree, envOf, e_asked, ea, fo, wipeE, lc, hm, lf, leastT, big1]
/-! ### same -/
theorem same_ok {h : AH} : ∀ (b a : Tr) (fuel : Nat), b.dep < fuel → F_q_same fuel [a.enc, b.enc] h = .ok (.bl (decide (a = b))) h := by
  intro b
  induction b with
  | leaf s =>
    intro a fuel hf
    obtain ⟨fuel, rfl⟩ : ∃ m, fuel = m + 1 := ⟨fuel - 1, by omega⟩
    refine fnT_same (L := []) rfl ?_ (by simp) (by simp)
    cases a with
    | leaf r => simp [b_q_same, envOf, Tr.enc]
    | node g x y z => simp [b_q_same, envOf, Tr.enc]
  | node g x y z ix iy iz =>
    intro a fuel hf
    obtain ⟨fuel, rfl⟩ : ∃ m, fuel = m + 1 := ⟨fuel - 1, by omega⟩
    refine fnT_same (L := []) rfl ?_ (by simp) (by simp)
    simp only [Tr.dep] at hf
    cases a with
    | leaf r => simp [b_q_same, envOf, Tr.enc]
    | node f p q r =>
      have ep := ix p fuel (by omega)
      have eq := iy q fuel (by omega)
      have er := iz r fuel (by omega)
      have i1 : inI 1 = true := by decide
      have i4 : inI 4 = true := by decide
      have isi := is_integer_ok h f
      have key : ∀ Z : R Fl → Prop, Z (.ok (.rt (.bl (decide (Tr.node f p q r = Tr.node g x y z)))) (h ++ [])) → Z (b_q_same (F_q_same fuel) (envOf 3 [(Tr.node f p q r).enc, (Tr.node g x y z).enc]) h) := by
        intro Z hZ
        by_cases e : f = g
        · subst e
          simp only [Tr.enc] at *
          simp [b_q_same, envOf, e_isint, isi, i1, i4]
          refine for_inv (Z := fun r => Z (r.bind (kB2 [sRet (eC (.bl true))]))) (P := fun i e h' => ∃ x2 : Option D, e = [some (.tup [.int f, p.enc, q.enc, r.enc]), some (.tup [.int f, x.enc, y.enc, z.enc]), x2] ∧ h' = h ∧ (0 < i → p = x) ∧ (1 < i → q = y) ∧ (2 < i → r = z)) ?_ ?_ ⟨none, rfl, rfl, by omega, by omega, by omega⟩
          · rintro i x' e h' k hx ⟨x2, rfl, rfl, a1, a2, a3⟩ ih
            obtain ⟨hin, rfl⟩ := rng_get hx
            have : i = 0 ∨ i = 1 ∨ i = 2 := by omega
            rcases this with rfl | rfl | rfl
            · by_cases hp : p = x
              · have := ih [some (.tup [.int f, p.enc, q.enc, r.enc]), some (.tup [.int f, x.enc, y.enc, z.enc]), some (.int 1)] h' ⟨_, rfl, rfl, fun _ => hp, by omega, by omega⟩
                simpa [ep, eq_true hp] using this
              · simp [hp] at hZ
                simpa [ep, hp] using hZ
            · by_cases hp : q = y
              · have := ih [some (.tup [.int f, p.enc, q.enc, r.enc]), some (.tup [.int f, x.enc, y.enc, z.enc]), some (.int 2)] h' ⟨_, rfl, rfl, fun _ => a1 (by omega), fun _ => hp, by omega⟩
                simpa [eq, eq_true hp] using this
              · simp [hp] at hZ
                simpa [eq, hp] using hZ
            · by_cases hp : r = z
              · have := ih [some (.tup [.int f, p.enc, q.enc, r.enc]), some (.tup [.int f, x.enc, y.enc, z.enc]), some (.int 3)] h' ⟨_, rfl, rfl, fun _ => a1 (by omega), fun _ => a2 (by omega), fun _ => hp⟩
                simpa [er, eq_true hp] using this
              · simp [hp] at hZ
                simpa [er, hp] using hZ
          · rintro e h' ⟨x2, rfl, rfl, a1, a2, a3⟩
            rw [rng_len] at a1 a2 a3
            have h1 := a1 (by decide)
            have h2 := a2 (by decide)
            have h3 := a3 (by decide)
            subst h1 h2 h3
            simpa using hZ
        · simp [e] at hZ
          simpa [b_q_same, envOf, e_isint, isi, Tr.enc, e] using hZ
      exact key (fun r' => r' = .ok (.rt (.bl (decide (Tr.node f p q r = Tr.node g x y z)))) (h ++ [])) rfl
end Sm.K25
end

section
set_option linter.all false
set_option maxRecDepth 10000
namespace Sm.K25
open Sm Sm.K01
theorem isL_node {fld g : Int} {a b c : Tr} : ∀ {l : List Int}, IsL fld l (.node g a b c) → ∃ pre rest, l = pre ++ g :: rest ∧ IsL fld rest a ∧ IsL fld rest b ∧ IsL fld rest c ∧ (g = fld → b = .leaf old ∧ a ≠ c) ∧ (g ≠ fld → ¬ (a = b ∧ b = c))
  | [], h => by cases h
  | x :: l, h => by
    cases h with
    | skip h =>
      obtain ⟨pre, rest, e, r⟩ := isL_node h
      exact ⟨x :: pre, rest, by rw [e]; rfl, r⟩
    | node ha hb hc h1 h2 => exact ⟨[], l, rfl, ha, hb, hc, h1, h2⟩
theorem index_ok {pre rest : List Int} {g : Int} (hg : g ∉ pre) (h : AH) : indexD (.lst ((pre ++ g :: rest).map .int)) (.int g) h = .ok (.int pre.length) h := by
  have hf : ((pre ++ g :: rest).map D.int).findIdx? (fun z => ev z (.int g)) = some pre.length := by
    rw [List.findIdx?_eq_some_iff_getElem]
    refine ⟨by simp, by simp [ev], fun j hj => ?_⟩
    have : (pre ++ g :: rest)[j]'(by simp; omega) = pre[j] := List.getElem_append_left hj
    simp only [List.getElem_map, this, ev]
    simp
    exact fun e => hg (e ▸ List.getElem_mem hj)
  unfold indexD
  rw [show lstH h (.lst ((pre ++ g :: rest).map .int)) = some ((pre ++ g :: rest).map .int) from rfl]
  dsimp only
  rw [all_flat_ints, hf]
  rfl
theorem is_least_ok {n fld : Int} : ∀ (fuel : Nat) (l : List Int) (t : Tr), l.length < fuel → l.length < 11 → l.Nodup → IsL fld l t → ∀ h : AH, F_q_is_least fuel [t.enc, .lst (l.map .int), .int fld] h = .ok (.bl true) h := by
  intro fuel
  induction fuel with
  | zero => intro l t hf; omega
  | succ fuel ih =>
    intro l t hf hl11 nd hL h
    refine fnT_same (L := []) rfl ?_ (by simp) (by simp)
    have wt := hL.W
    have dt := hL.dep
    cases t with
    | leaf s =>
      rcases wt with rfl | rfl <;> simp [b_q_is_least, envOf, Tr.enc, old, new]
    | node g a b c =>
      obtain ⟨pre, rest, rfl, ha, hb, hc, h1, h2⟩ := isL_node hL
      have hg : g ∉ pre := fun z => by
        rw [List.nodup_append] at nd
        exact nd.2.2 g z g (by simp) rfl
      have ndr : rest.Nodup := (List.nodup_cons.mp (List.nodup_append.mp nd).2.1).2
      have lr : rest.length < fuel := by simp at hf; omega
      have lr2 : rest.length < 11 := by simp at hl11; omega
      have ea := ih rest a lr lr2 ndr ha h
      have eb := ih rest b lr lr2 ndr hb h
      have ec := ih rest c lr lr2 ndr hc h
      have ix := index_ok (rest := rest) hg h
      have cs : cut ((pre ++ g :: rest).map D.int) (some ((pre.length : Int) + 1)) none = rest.map .int := by
        have := cut_suf ((pre ++ g :: rest).map D.int) (pre.length + 1) (by simp)
        rw [Int.natCast_add] at this
        refine Eq.trans this ?_
        rw [← List.map_drop, show (pre ++ g :: rest).drop (pre.length + 1) = rest by simp]
      have ni : notInD (.int g) (.lst ((pre ++ g :: rest).map .int)) h = .ok (.bl false) h := by
        unfold notInD inH
        rw [show seqH h (.lst ((pre ++ g :: rest).map .int)) = some ((pre ++ g :: rest).map .int) from rfl]
        dsimp only
        rw [all_flat_ints, inL_ints]
        simp [flat]
      have il : isLst h (.lst ((pre ++ g :: rest).map .int)) = true := rfl
      have i1 : inI 1 = true := by decide
      have i4 : inI 4 = true := by decide
      have isi := is_integer_ok h g
      have dac := ha.dep
      have dbc := hb.dep
      have dcc := hc.dep
      have sac := same_ok c a 12 (by omega) (h := h)
      have sab := same_ok b a 12 (by omega) (h := h)
      have sbc := same_ok c b 12 (by omega) (h := h)
      have eold := eqT (a := b) (b := .leaf old) hb.W (.inl rfl) (by omega) (by simp [Tr.dep]) h
      have key : ∀ Z : R Fl → Prop, Z (.ok (.rt (.bl true)) (h ++ [])) → Z (b_q_is_least (F_q_is_least fuel) (envOf 5 [(Tr.node g a b c).enc, .lst ((pre ++ g :: rest).map .int), .int fld]) h) := by
        intro Z hZ
        generalize hLL : (pre ++ g :: rest).map D.int = LL at *
        simp [b_q_is_least, envOf, e_isint, isi, i1, i4, Tr.enc, ni, il, ix]
        rw [show slD true (.lst LL) (some ((pre.length : Int) + 1)) none h = .ok (.lst (rest.map .int)) h from by rw [← cs]; rfl]
        simp [i1, i4]
        refine for_inv (Z := fun r => Z (r.bind (kB2 _))) (P := fun i e h' => ∃ x4 : Option D, e = [some (.tup [.int g, a.enc, b.enc, c.enc]), some (.lst LL), some (.int fld), some (.lst (rest.map .int)), x4] ∧ h' = h) ?_ ?_ ⟨none, rfl, rfl⟩
        · rintro i x' e h' k hx ⟨x4, rfl, rfl⟩ ih2
          obtain ⟨hin, rfl⟩ := rng_get hx
          have : i = 0 ∨ i = 1 ∨ i = 2 := by omega
          rcases this with rfl | rfl | rfl
          · have := ih2 [some (.tup [.int g, a.enc, b.enc, c.enc]), some (.lst LL), some (.int fld), some (.lst (rest.map .int)), some (.int 1)] h' ⟨_, rfl, rfl⟩
            simpa [ea] using this
          · have := ih2 [some (.tup [.int g, a.enc, b.enc, c.enc]), some (.lst LL), some (.int fld), some (.lst (rest.map .int)), some (.int 2)] h' ⟨_, rfl, rfl⟩
            simpa [eb] using this
          · have := ih2 [some (.tup [.int g, a.enc, b.enc, c.enc]), some (.lst LL), some (.int fld), some (.lst (rest.map .int)), some (.int 3)] h' ⟨_, rfl, rfl⟩
            simpa [ec] using this
        · rintro e h' ⟨x4, rfl, rfl⟩
          by_cases e : g = fld
          · obtain ⟨e1, e2⟩ := h1 e
            simp only [Tr.enc] at eold
            have e1' : b = Tr.leaf [111, 108, 100, 101, 114] := e1
            simp [eq_true e, eold, sac, e2, old] at eold hZ ⊢
            simpa [eold, eq_true e1', sac, e2] using hZ
          · have h2 := h2 e
            by_cases eab : a = b
            · have ebc : ¬ b = c := fun z => h2 ⟨eab, z⟩
              simpa [e, sab, sbc, eq_true eab, ebc] using hZ
            · simpa [e, sab, eab] using hZ
      exact key (fun r' => r' = .ok (.rt (.bl true)) (h ++ [])) rfl
/-! ### alike -/
theorem alike_ok {n : Int} {t u : Tr} (ht : t.ok n) (hu : u.ok n) (dt : t.dep < 60) (du : u.dep < 60) (rows : List (List Int)) (hr : ∀ r ∈ rows, Row n r) (h : AH) :
    F_q_alike [t.enc, u.enc, .lst (rows.map fun r => .tup (r.map .int))] h = .ok (.bl (rows.all fun r => decide (foll r t = foll r u))) h := by
  refine fnT_same (L := []) rfl ?_ (by simp) (by simp)
  have key : ∀ Z : R Fl → Prop, Z (.ok (.rt (.bl (rows.all fun r => decide (foll r t = foll r u)))) (h ++ [])) → Z (b_q_alike (envOf 4 [t.enc, u.enc, .lst (rows.map fun r => .tup (r.map .int))]) h) := by
    intro Z hZ
    simp only [b_q_alike, envOf, List.map_cons, List.map_nil, List.length_cons, List.length_nil, List.replicate, List.cons_append, List.nil_append, sB_cons, sFor_def, iS_def, eV_def, List.getElem?_cons_succ, List.getElem?_cons_zero, kV_s, bind_ok, kIS_lst, up_ok, kFor_def]
    refine for_inv (Z := fun r => Z (r.bind (kB2 _))) (P := fun i e h' => ∃ x3 : Option D, e = [some t.enc, some u.enc, some (.lst (rows.map fun r => .tup (r.map .int))), x3] ∧ h' = h ∧ ((rows.take i).all fun r => decide (foll r t = foll r u)) = true) ?_ ?_ ⟨none, rfl, rfl, rfl⟩
    · rintro i x e h' k hx ⟨x3, rfl, rfl, ha⟩ ih
      rw [List.getElem?_map] at hx
      cases hg : rows[i]? with
      | none => rw [hg] at hx; cases hx
      | some r =>
        rw [hg] at hx
        simp at hx
        subst hx
        have hrr := hr r (List.mem_of_getElem? hg)
        have f1 := lfollow_ok hrr ht dt (h := h')
        have f2 := lfollow_ok hrr hu du (h := h')
        by_cases e : foll r t = foll r u
        · have := ih [some t.enc, some u.enc, some (.lst (rows.map fun r => .tup (r.map .int))), some (.tup (r.map .int))] h' ⟨_, rfl, rfl, by rw [List.take_add_one, hg, List.all_append, ha]; simp [e]⟩
          simpa [e_lfollow, f1, f2, eq_true e] using this
        · have hall : (rows.all fun r => decide (foll r t = foll r u)) = false := by
            rw [List.all_eq_false]
            exact ⟨r, List.mem_of_getElem? hg, by simp [e]⟩
          rw [hall] at hZ
          simpa [e_lfollow, f1, f2, e] using hZ
    · rintro e h' ⟨x3, rfl, rfl, ha⟩
      rw [List.length_map, List.take_length] at ha
      rw [ha] at hZ
      simpa using hZ
  exact key (fun r' => r' = .ok (.rt (.bl (rows.all fun r => decide (foll r t = foll r u)))) (h ++ [])) rfl
theorem is_right_ok {n fld : Int} (h0 : 0 < n) (h1 : n < 7) (f0 : 0 ≤ fld) (f1 : fld < n) {t u : Tr} (hL : IsL fld (fld :: others fld n) u) (hu : u.ok n) (ht : t.ok n) (dt : t.dep < 60) (rows : List (List Int)) (hr : ∀ r ∈ rows, RowF n fld r) (he : ∀ r, RowF n fld r → foll r u = foll r t) (h : AH) :
    F_q_is_right [u.enc, t.enc, .int fld, .int n, .lst (rows.map fun r => .tup (r.map .int))] h = .ok (.bl true) h := by
  refine fnT_same (L := []) rfl ?_ (by simp) (by simp)
  have ol := others_len fld n
  have du := hL.dep
  simp only [List.length_cons] at du
  have lc := others_lc (fld := fld) (n := n) (by omega) (by omega) 6 2 (by decide) [some u.enc, some t.enc, some (.int fld), some (.int n), some (.lst (rows.map fun r => .tup (r.map .int))), none, none] rfl (by simp) h
  have il := is_least_ok (n := n) 12 (fld :: others fld n) u (by simp; omega) (by simp; omega) (order_nodup fld n) hL h
  have al := alike_ok hu ht (by omega) dt rows (fun r hr2 => (hr r hr2).row) h
  have all1 : (rows.all fun r => decide (foll r u = foll r t)) = true := by
    rw [List.all_eq_true]
    exact fun r hr2 => decide_eq_true (he r (hr r hr2))
  rw [all1] at al
  have ca : addD true (.lst [.int fld]) (.lst ((others fld n).map .int)) h = .ok (.lst ((fld :: others fld n).map .int)) h := by
    show cat true (.lst [.int fld]) (.lst ((others fld n).map .int)) h = _
    unfold cat
    rw [show lstH h (.lst [.int fld]) = some [.int fld] from rfl, show lstH h (.lst ((others fld n).map .int)) = some ((others fld n).map .int) from rfl]
    dsimp only
    rw [decide_eq_true (by rw [bigv]; simp; omega)]
    rfl
  simp at il ca lc al
  simp [b_q_is_right, envOf, inI_of (show (0 : Int) ≤ n by omega) (show n < 1000000 by omega), wipeE, lc, ca, il, al, big1]
end Sm.K25
end

section
set_option linter.all false
set_option maxRecDepth 10000
namespace Sm.K25
open Sm Sm.K01
/-- every row of signs of k fields -/
def AllR (k : Nat) (rows : List (List Int)) : Prop := (∀ r, r ∈ rows ↔ r.length = k ∧ ∀ x ∈ r, -1 ≤ x ∧ x ≤ 1) ∧ rows.length ≤ 3 ^ k
def grow (rows : List (List Int)) : List (List Int) := rows.flatMap fun r => [r ++ [-1], r ++ [0], r ++ [1]]
theorem grow_len : ∀ rows : List (List Int), (grow rows).length = 3 * rows.length
  | [] => rfl
  | r :: rows => by
    have := grow_len rows
    unfold grow at this ⊢
    rw [List.flatMap_cons, List.length_append, this]; simp; omega
theorem grow_all {k : Nat} {rows : List (List Int)} (h : AllR k rows) : AllR (k + 1) (grow rows) := by
  refine ⟨fun r => ?_, by rw [grow_len, Nat.pow_succ]; have := h.2; omega⟩
  unfold grow
  rw [List.mem_flatMap]
  constructor
  · rintro ⟨s, hs, hr⟩
    obtain ⟨h1, h2⟩ := (h.1 s).mp hs
    simp only [List.mem_cons, List.not_mem_nil, or_false] at hr
    rcases hr with rfl | rfl | rfl
    all_goals
      refine ⟨by simp [h1], fun x hx => ?_⟩
      rcases List.mem_append.mp hx with z | z
      · exact h2 x z
      · simp at z; omega
  · rintro ⟨h1, h2⟩
    have hne : r ≠ [] := fun z => by subst z; simp at h1
    obtain ⟨s, y, rfl⟩ := snoc hne
    refine ⟨s, (h.1 s).mpr ⟨by simpa using h1, fun x hx => h2 x (List.mem_append_left _ hx)⟩, ?_⟩
    have := h2 y (by simp)
    have : y = -1 ∨ y = 0 ∨ y = 1 := by omega
    rcases this with rfl | rfl | rfl <;> simp
def encR (rows : List (List Int)) : List D := rows.map fun r => .tup (r.map .int)
theorem encR_len (rows : List (List Int)) : (encR rows).length = rows.length := by simp [encR]
theorem rows_ok {n : Int} (h0 : 0 < n) (h1 : n < 7) {h : AH} : ∃ rows, AllR n.toNat rows ∧ F_q_rows [.int n] h = .ok (.lst (encR rows)) h := by
  have p6 : ∀ k, k ≤ 6 → 3 ^ k ≤ 729 := by decide
  have key : ∀ Z : R Fl → Prop, (∀ (rows : List (List Int)) (L : AH), AllR n.toNat rows → Z (.ok (.rt (.lst (encR rows))) (h ++ L))) → Z (b_q_rows (envOf 6 [.int n]) h) := by
    intro Z hZ
    simp [b_q_rows, envOf, big1, inI_of (show (0 : Int) ≤ n by omega) (show n < 1000000 by omega)]
    refine for_inv (Z := fun r => Z (r.bind (kB2 [sRet (eV 1)]))) (P := fun i e h' => ∃ (rows : List (List Int)) (L : AH) (x2 x3 x4 x5 : Option D), e = [some (.int n), some (.lst (encR rows)), x2, x3, x4, x5] ∧ h' = h ++ L ∧ AllR i rows) ?_ ?_ ⟨[[]], [], none, none, none, none, rfl, by simp, ⟨fun r => by simp; intro z; simp [z], by simp⟩⟩
    · rintro i x e h' k hx ⟨rows, L, x2, x3, x4, x5, rfl, rfl, ha⟩ ih
      obtain ⟨hin, rfl⟩ := rng_get hx
      have hlen : rows.length ≤ 243 := Nat.le_trans ha.2 (by
        have : ∀ j, j ≤ 5 → 3 ^ j ≤ 243 := by decide
        exact this i (by omega))
      generalize hH : h ++ L = H
      simp
      refine for_inv (Z := fun r => Z (((r.bind (kB2 _)).bind _).bind (kB2 [sRet (eV 1)]))) (P := fun j e h' => ∃ (x4 x5 : Option D), e = [some (.int n), some (.lst (encR rows)), some (.int i), some (.loc H.length), x4, x5] ∧ h' = H ++ [.lst (encR (grow (rows.take j)))]) ?_ ?_ ⟨x4, x5, rfl, rfl⟩
      · rintro j x e h' k2 hx2 ⟨x4, x5, rfl, rfl⟩ ih2
        have hx2 : (rows.map fun r => D.tup (r.map .int))[j]? = some x := hx2
        rw [List.getElem?_map] at hx2
        cases hg : rows[j]? with
        | none => rw [hg] at hx2; cases hx2
        | some r =>
          rw [hg] at hx2
          simp at hx2
          subst hx2
          have hrl : r.length = i := ((ha.1 r).mp (List.mem_of_getElem? hg)).1
          have hGl : (encR (grow (rows.take j))).length ≤ 729 := by
            rw [encR_len, grow_len, List.length_take]; omega
          have hb : r.length + 1 ≤ big := by rw [bigv]; omega
          have step : ∀ (xs : List D) (v : D), xs.length ≤ 800 → appendD (.loc H.length) v (H ++ [.lst xs]) = .ok .non (H ++ [.lst (xs ++ [v])]) := fun xs v hxs => by
            have := append_ok (l := H.length) (h := H ++ [.lst xs]) (xs := xs) v (by rw [getL_new (Nat.le_refl _)]; simp) (by rw [bigv]; omega)
            rw [set_new (Nat.le_refl _)] at this
            simpa using this
          have isl : ∀ xs : List D, isLst (H ++ [.lst xs]) (.loc H.length) = true := fun xs => isL (xs := xs) (by rw [getL_new (Nat.le_refl _)]; simp)
          have hnext : encR (grow (rows.take (j + 1))) = encR (grow (rows.take j)) ++ [.tup ((r ++ [-1]).map .int), .tup ((r ++ [0]).map .int), .tup ((r ++ [1]).map .int)] := by
            rw [List.take_add_one, hg]
            simp [encR, grow]
          have s1 := step (encR (grow (rows.take j))) (.tup ((r ++ [-1]).map .int)) (by omega)
          have s2 := step (encR (grow (rows.take j)) ++ [.tup ((r ++ [-1]).map .int)]) (.tup ((r ++ [0]).map .int)) (by simp; omega)
          have s3 := step (encR (grow (rows.take j)) ++ [.tup ((r ++ [-1]).map .int)] ++ [.tup ((r ++ [0]).map .int)]) (.tup ((r ++ [1]).map .int)) (by simp; omega)
          generalize hG : encR (grow (rows.take j)) = G at *
          simp [big3]
          refine for_inv (Z := fun r => Z (((((r.bind (kB2 _)).bind _).bind (kB2 _)).bind _).bind (kB2 [sRet (eV 1)]))) (P := fun m e h' => ∃ x5 : Option D, e = [some (.int n), some (.lst (encR rows)), some (.int i), some (.loc H.length), some (.tup (r.map .int)), x5] ∧ h' = H ++ [.lst (G ++ [D.tup ((r ++ [-1]).map .int), .tup ((r ++ [0]).map .int), .tup ((r ++ [1]).map .int)].take m)]) ?_ ?_ ⟨x5, rfl, by simp⟩
          · rintro m x e h' k3 hx3 ⟨x5, rfl, rfl⟩ ih3
            match m, hx3 with
            | 0, hx3 =>
              simp at hx3; subst hx3
              have := ih3 [some (.int n), some (.lst (encR rows)), some (.int i), some (.loc H.length), some (.tup (r.map .int)), some (.int 0)] _ ⟨_, rfl, rfl⟩
              simp at s1 this
              simpa [isl, hb, big1, s1] using this
            | 1, hx3 =>
              simp at hx3; subst hx3
              have := ih3 [some (.int n), some (.lst (encR rows)), some (.int i), some (.loc H.length), some (.tup (r.map .int)), some (.int 1)] _ ⟨_, rfl, rfl⟩
              simp at s2 this
              simpa [isl, hb, big1, s2] using this
            | 2, hx3 =>
              simp at hx3; subst hx3
              have := ih3 [some (.int n), some (.lst (encR rows)), some (.int i), some (.loc H.length), some (.tup (r.map .int)), some (.int 2)] _ ⟨_, rfl, rfl⟩
              simp at s3 this
              simpa [isl, hb, big1, s3] using this
            | m + 3, hx3 => simp at hx3
          · rintro e h' ⟨x5, rfl, rfl⟩
            have := ih2 [some (.int n), some (.lst (encR rows)), some (.int i), some (.loc H.length), some (.tup (r.map .int)), x5] _ ⟨_, _, rfl, rfl⟩
            rw [hnext] at this
            simpa using this
      · rintro e h' ⟨x4, x5, rfl, rfl⟩
        rw [show (encR rows).length = rows.length from encR_len rows, List.take_length]
        have ll : listD true (.loc H.length) (H ++ [.lst (encR (grow rows))]) = .ok (.lst (encR (grow rows))) (H ++ [.lst (encR (grow rows))]) := by
          unfold listD
          have : seqH (H ++ [.lst (encR (grow rows))]) (.loc H.length) = some (encR (grow rows)) := (lstH_loc _ _).trans (by rw [getL_new (Nat.le_refl _)]; simp)
          rw [this]; rfl
        have := ih [some (.int n), some (.lst (encR (grow rows))), some (.int i), some (.loc H.length), x4, x5] (H ++ [.lst (encR (grow rows))]) ⟨grow rows, L ++ [.lst (encR (grow rows))], _, _, _, _, rfl, by rw [← hH, List.append_assoc], grow_all ha⟩
        simpa [ll] using this
    · rintro e h' ⟨rows, L, x2, x3, x4, x5, rfl, rfl, ha⟩
      rw [rng_len] at ha
      simpa using hZ rows L ha
  refine key (fun r => ∃ rows, AllR n.toNat rows ∧ trim h (fnR r) = .ok (.lst (encR rows)) h) fun rows L ha => ⟨rows, ha, ?_⟩
  exact trim_val rfl (pre_refl h) (by simp) (by rw [clo_lst, clos_all]; simp [encR])
end Sm.K25
end

section
set_option linter.all false
set_option maxRecDepth 10000
namespace Sm.K25
open Sm Sm.K01
/-! ### turn -/
theorem turn_ok {n : Int} {l : Nat} : ∀ (fuel : Nat) (t : Tr) (h : AH), t.dep < fuel → t.dep ≤ 60 → t.ok n → t.W → Tp h l → ∃ (t' : Tr) (o : AO), IsTp o ∧ t'.ok n ∧ t'.W ∧ t'.dep = t.dep ∧ F_q_turn fuel [.loc l, t.enc] h = .ok t'.enc (h.set l o) := by
  intro fuel
  induction fuel with
  | zero => intro t h ht; omega
  | succ fuel ih =>
    intro t h hf hd ht w tp
    have hl := tp.lt
    cases t with
    | leaf s =>
      obtain ⟨o0, ho0, hs0⟩ := tp_self tp
      rcases w with rfl | rfl
      · exact ⟨.leaf new, o0, ho0, trivial, .inr rfl, rfl, fnT_draw ho0 rfl (by simp [b_q_turn, envOf, Tr.enc, old, new, hs0]) (Tr.enc_loc _) (Tr.clo_enc _ _)⟩
      · exact ⟨.leaf old, o0, ho0, trivial, .inl rfl, rfl, fnT_draw ho0 rfl (by simp [b_q_turn, envOf, Tr.enc, old, new, hs0]) (Tr.enc_loc _) (Tr.clo_enc _ _)⟩
    | node f a b c =>
      obtain ⟨f0, f1, ka, kb, kc⟩ := ht
      obtain ⟨wa, wb, wc⟩ := w
      have e1 := eqT (a := .node f a b c) (b := .leaf old) ⟨wa, wb, wc⟩ (.inl rfl) (by omega) (by simp [Tr.dep]) h
      have e2 := eqT (a := .node f a b c) (b := .leaf new) ⟨wa, wb, wc⟩ (.inr rfl) (by omega) (by simp [Tr.dep]) h
      have d1 : decide (Tr.node f a b c = .leaf old) = false := decide_eq_false (by simp)
      have d2 : decide (Tr.node f a b c = .leaf new) = false := decide_eq_false (by simp)
      rw [d1] at e1
      rw [d2] at e2
      simp only [Tr.dep] at hf hd
      obtain ⟨r, o, r0, r1, ho, et⟩ := K01.take_ok (n := 3) tp (by omega) (by omega)
      have tp2 : Tp (h.set l o) l := Tp.set ho hl
      have : r = 0 ∨ r = 1 ∨ r = 2 := by omega
      simp only [Tr.enc, old, new] at e1 e2
      rcases this with rfl | rfl | rfl
      · obtain ⟨a', o2, ho2, ka', wa', da', e3⟩ := ih a _ (by omega) (by omega) ka wa tp2
        refine ⟨.node f a' b c, o2, ho2, ⟨f0, f1, ka', kb, kc⟩, ⟨wa', wb, wc⟩, by simp only [Tr.dep, da'], fnT_draw ho2 rfl ?_ (Tr.enc_loc _) (Tr.clo_enc _ _)⟩
        simp only [List.set_set] at e3
        simp [b_q_turn, envOf, Tr.enc, e1, e2, e_take, et, e3, cut, sIx, big1, big2, big4]
      · obtain ⟨b', o2, ho2, kb', wb', db', e3⟩ := ih b _ (by omega) (by omega) kb wb tp2
        refine ⟨.node f a b' c, o2, ho2, ⟨f0, f1, ka, kb', kc⟩, ⟨wa, wb', wc⟩, by simp only [Tr.dep, db'], fnT_draw ho2 rfl ?_ (Tr.enc_loc _) (Tr.clo_enc _ _)⟩
        simp only [List.set_set] at e3
        simp [b_q_turn, envOf, Tr.enc, e1, e2, e_take, et, e3, cut, sIx, big1, big3, big4]
      · obtain ⟨c', o2, ho2, kc', wc', dc', e3⟩ := ih c _ (by omega) (by omega) kc wc tp2
        refine ⟨.node f a b c', o2, ho2, ⟨f0, f1, ka, kb, kc'⟩, ⟨wa, wb, wc'⟩, by simp only [Tr.dep, dc'], fnT_draw ho2 rfl ?_ (Tr.enc_loc _) (Tr.clo_enc _ _)⟩
        simp only [List.set_set] at e3
        simp [b_q_turn, envOf, Tr.enc, e1, e2, e_take, et, e3, cut, sIx, big1, big4]
/-! ### padded -/
def Kn (n : Int) (ks : List D) : Prop := (ks.length : Int) = n ∧ ∀ d ∈ ks, d = .non ∨ ∃ r : Int, d = .int r ∧ -1 ≤ r ∧ r ≤ 1
theorem Kn.get {n : Int} {ks : List D} (hk : Kn n ks) {f : Int} (f0 : 0 ≤ f) (f1 : f < n) : (at? ks f = some .non) ∨ ∃ r : Int, at? ks f = some (.int r) ∧ -1 ≤ r ∧ r ≤ 1 := by
  obtain ⟨k, rfl⟩ := Int.eq_ofNat_of_zero_le f0
  have hl : k < ks.length := by have := hk.1; omega
  rw [at_nat, List.getElem?_eq_getElem hl]
  rcases hk.2 _ (List.getElem_mem hl) with e | ⟨r, e, hr⟩
  · exact .inl (by rw [e])
  · exact .inr ⟨r, by rw [e], hr⟩
theorem Kn.set {n : Int} {ks : List D} (hk : Kn n ks) (i : Nat) {v : Int} (hv : -1 ≤ v ∧ v ≤ 1) : Kn n (ks.set i (.int v)) :=
  ⟨by rw [List.length_set]; exact hk.1, fun d hd => by
    rcases List.mem_or_eq_of_mem_set hd with h | h
    · exact hk.2 d h
    · exact .inr ⟨v, h, hv⟩⟩
theorem child {f : Int} {a b c : Tr} {r : Int} {n : Int} {d : Nat} (hr : -1 ≤ r ∧ r ≤ 1) (ka : a.ok n ∧ b.ok n ∧ c.ok n) (wa : a.W ∧ b.W ∧ c.W) (da : a.dep ≤ d ∧ b.dep ≤ d ∧ c.dep ≤ d) : ∃ t : Tr, at? [.int f, a.enc, b.enc, c.enc] (2 + r) = some t.enc ∧ t.ok n ∧ t.W ∧ t.dep ≤ d := by
  have : r = -1 ∨ r = 0 ∨ r = 1 := by omega
  rcases this with rfl | rfl | rfl
  · exact ⟨a, by simp, ka.1, wa.1, da.1⟩
  · exact ⟨b, by simp, ka.2.1, wa.2.1, da.2.1⟩
  · exact ⟨c, by simp, ka.2.2, wa.2.2, da.2.2⟩
end Sm.K25
end

section
set_option linter.all false
set_option maxRecDepth 10000
namespace Sm.K25
open Sm Sm.K01
def restP (F : AF) : List AS := [
  sIf (tV (e1 (isTy "str") (eV 1))) (sB [sRet (eV 1)]) (sB []),
  sSet 6 (e2 ixD (eV 1) (eC (.int 0))),
  sIf (tAnd (tB1 (e1 notNonD (e2 ixD (eV 3) (eV 6)))) (tB1 (e2 eqD (eA (F_q_take) (eL [eV 0, eC (.int 2)])) (eC (.int 0))))) (sB [sRet (eA (F) (eL [eV 0, e2 ixD (eV 1) (e2 (addD true) (eC (.int 2)) (e2 ixD (eV 3) (eV 6))), eV 2, eV 3, eV 4]))]) (sB []),
  sSet 7 (eLst false (eL [])),
  sFor (iS (eLst true (eL [e2 subD (eC (.int 0)) (eC (.int 1)), eC (.int 0), eC (.int 1)]))) (gV 8) (sB [sIf (tOr (tAnd (tB1 (e2 eqD (eV 6) (eV 2))) (tB1 (e2 eqD (eV 8) (eC (.int 0))))) (tAnd (tB1 (e1 notNonD (e2 ixD (eV 3) (eV 6)))) (tB1 (e2 neD (e2 ixD (eV 3) (eV 6)) (eV 8))))) (sB [sE (eM isLst (mt1 appendD) (eV 7) (eL [eA (F_q_tree 8) (eL [eV 0, eA (on1 lenD) (eL [eV 3]), eC (.int 1)])]))]) (sB [sSet 9 (e2 (addD true) (e2 (addD true) (eSl true (eV 3) (oN) (oS (eV 6))) (eLst true (eL [eV 8]))) (eSl true (eV 3) (oS (e2 (addD true) (eV 6) (eC (.int 1)))) (oN))),
      sE (eM isLst (mt1 appendD) (eV 7) (eL [eA (F) (eL [eV 0, e2 ixD (eV 1) (e2 (addD true) (eC (.int 2)) (eV 8)), eV 2, eV 9, eV 4])]))])]),
  sRet (eTup (eL [eV 6, e2 ixD (eV 7) (eC (.int 0)), e2 ixD (eV 7) (eC (.int 1)), e2 ixD (eV 7) (eC (.int 2))]))]
theorem sl_lstT (xs : List D) (lo hi : Option Int) (h : AH) : slD true (.lst xs) lo hi h = .ok (.lst (cut xs lo hi)) h := rfl
theorem add_lstT (xs ys : List D) (h : AH) : addD true (.lst xs) (.lst ys) h = R.chk (decide (xs.length + ys.length ≤ big)) (.ok (.lst (xs ++ ys)) h) := rfl
def PadIH (n fld : Int) (l : Nat) (fuel : Nat) : Prop := ∀ (t : Tr) (lv : Nat) (h : AH) (ks : List D), t.dep + lv < fuel → t.dep + lv ≤ 20 → t.ok n → t.W → Kn n ks → Tp h l → ∃ (t' : Tr) (o : AO), IsTp o ∧ t'.ok n ∧ t'.W ∧ t'.dep ≤ t.dep + lv + 1 ∧ F_q_padded fuel [.loc l, t.enc, .int fld, .lst ks, .int lv] h = .ok t'.enc (h.set l o)
theorem pad_rest {n fld : Int} (h0 : 0 < n) (h1 : n < 100) {l fuel : Nat} (ih : PadIH n fld l fuel) {h : AH} (hl : l < h.length) {o1 : AO} (ho1 : IsTp o1) (t1 : Tr) (k1 : t1.ok n) (w1 : t1.W) (lv B : Nat) (hB : 2 ≤ B)
    (hch : ∀ g a b c, t1 = .node g a b c → ∃ d, a.dep ≤ d ∧ b.dep ≤ d ∧ c.dep ≤ d ∧ d + lv < fuel ∧ d + lv ≤ 20 ∧ d + lv + 2 ≤ B) (ks : List D) (hk : Kn n ks) (x5 : Option D)
    (Z : R Fl → Prop) (hZ : ∀ (t' : Tr) (o : AO) (L : AH), IsTp o → t'.ok n → t'.W → t'.dep ≤ B → Z (.ok (.rt t'.enc) (h.set l o ++ L))) :
    Z (sB (restP (F_q_padded fuel)) [some (.loc l), some t1.enc, some (.int fld), some (.lst ks), some (.int lv), x5, none, none, none, none] (h.set l o1)) := by
  cases t1 with
  | leaf s =>
    have := hZ (.leaf s) o1 [] ho1 trivial w1 (Nat.zero_le _)
    simpa [restP, Tr.enc] using this
  | node g a b c =>
    obtain ⟨g0, g1, ka, kb, kc⟩ := k1
    obtain ⟨wa, wb, wc⟩ := w1
    obtain ⟨d, da, db, dc, df, d20, dB⟩ := hch g a b c rfl
    have kg := hk.get g0 g1
    -- the loop's part
    have loop : ∀ (o2 : AO), IsTp o2 → Z (sB ((restP (F_q_padded fuel)).drop 3) [some (.loc l), some (Tr.node g a b c).enc, some (.int fld), some (.lst ks), some (.int lv), x5, some (.int g), none, none, none] (h.set l o2)) := by
      intro o2 ho2
      simp only [restP, List.drop_succ_cons, List.drop_zero]
      simp [Tr.enc, big3]
      refine for_inv (Z := fun r => Z (r.bind (kB2 _))) (P := fun i e h' => ∃ (bs : List Tr) (o : AO) (x8 x9 : Option D), e = [some (.loc l), some (.tup [.int g, a.enc, b.enc, c.enc]), some (.int fld), some (.lst ks), some (.int lv), x5, some (.int g), some (.loc h.length), x8, x9] ∧ bs.length = i ∧ (∀ t ∈ bs, t.ok n ∧ t.W ∧ t.dep + 1 ≤ B) ∧ IsTp o ∧ h' = h.set l o ++ [.lst (bs.map Tr.enc)]) ?_ ?_ ⟨[], o2, none, none, rfl, rfl, by simp, ho2, rfl⟩
      · rintro i x e h' k hx ⟨bs, o, x8, x9, rfl, hi, hbs, ho, rfl⟩ ihk
        obtain ⟨s, hs, rfl⟩ : ∃ s : Int, (-1 ≤ s ∧ s ≤ 1) ∧ x = .int s := by
          match i, hx with
          | 0, hx => exact ⟨-1, by omega, by simpa using hx.symm⟩
          | 1, hx => exact ⟨0, by omega, by simpa using hx.symm⟩
          | 2, hx => exact ⟨1, by omega, by simpa using hx.symm⟩
          | i + 3, hx => simp at hx
        have hi3 : i < 3 := by
          have := (List.getElem?_eq_some_iff.mp hx).1
          simpa using this
        have tH : Tp (h.set l o ++ [.lst (bs.map Tr.enc)]) l := (Tp.set ho hl).app
        have cl : ∀ o', (h.set l o ++ [AO.lst (bs.map Tr.enc)]).set l o' = h.set l o' ++ [.lst (bs.map Tr.enc)] := fun o' => by rw [set_old (by simpa using hl), List.set_set]
        have isl : ∀ o', isLst (h.set l o' ++ [.lst (bs.map Tr.enc)]) (.loc h.length) = true := fun o' => isL (xs := bs.map Tr.enc) (by rw [getL_new (by simp)]; simp)
        have app : ∀ o' (t : Tr), appendD (.loc h.length) t.enc (h.set l o' ++ [.lst (bs.map Tr.enc)]) = .ok .non (h.set l o' ++ [.lst (bs.map Tr.enc ++ [t.enc])]) := fun o' t => by
          have := append_ok (l := h.length) (h := h.set l o' ++ [.lst (bs.map Tr.enc)]) (xs := bs.map Tr.enc) t.enc (by rw [getL_new (by simp)]; simp) (by rw [bigv]; simp; omega)
          rw [set_new (by simp)] at this
          simpa using this
        -- a free tree
        obtain ⟨tf, of, hof, kf, wf, dtf, ef⟩ := tree_ok (l := l) h0 (by omega) 1 8 _ (by omega) tH
        rw [cl] at ef
        -- or this one, written otherwise
        obtain ⟨tc, etc, kc2, wc2, dc2⟩ := child (f := g) (n := n) hs ⟨ka, kb, kc⟩ ⟨wa, wb, wc⟩ ⟨da, db, dc⟩
        obtain ⟨q, rfl⟩ := Int.eq_ofNat_of_zero_le g0
        have hq : q < ks.length := by have := hk.1; omega
        have c1 := cut_pre ks q (by omega)
        have c2 := cut_suf ks (q + 1) (by omega)
        have c3 := set_cut ks q (.int s) hq
        obtain ⟨tr, orr, hor, kr, wr, dr, er⟩ := ih tc lv _ (ks.set q (.int s)) (by omega) (by omega) kc2 wc2 (hk.set q hs) tH
        rw [cl] at er
        have b1 : min q ks.length + 1 ≤ big := by rw [bigv]; omega
        have b2 : min q ks.length + 1 + (ks.length - (q + 1)) ≤ big := by have := hk.1; rw [bigv]; omega
        simp only [Int.natCast_add, Int.natCast_one] at c2
        have c3' : ks.take q ++ D.int s :: ks.drop (q + 1) = ks.set q (.int s) := c3
        have goF := ihk [some (.loc l), some (.tup [.int q, a.enc, b.enc, c.enc]), some (.int fld), some (.lst ks), some (.int lv), x5, some (.int q), some (.loc h.length), some (.int s), x9] (h.set l of ++ [.lst ((bs ++ [tf]).map Tr.enc)]) ⟨bs ++ [tf], of, _, _, rfl, by simp [hi], by
          intro t ht
          rcases List.mem_append.mp ht with z | z
          · exact hbs t z
          · simp at z; subst z; exact ⟨kf, wf, by omega⟩, hof, rfl⟩
        have goR := ihk [some (.loc l), some (.tup [.int q, a.enc, b.enc, c.enc]), some (.int fld), some (.lst ks), some (.int lv), x5, some (.int q), some (.loc h.length), some (.int s), some (.lst (ks.set q (.int s)))] (h.set l orr ++ [.lst ((bs ++ [tr]).map Tr.enc)]) ⟨bs ++ [tr], orr, _, _, rfl, by simp [hi], by
          intro t ht
          rcases List.mem_append.mp ht with z | z
          · exact hbs t z
          · simp at z; subst z; exact ⟨kr, wr, by omega⟩, hor, rfl⟩
        simp at goF goR kg ef
        have lk : (ks.length : Int) = n := hk.1
        have lenK : ∀ h : AH, lenD (.lst ks) h = .ok (.int n) h := fun h => by rw [len_lst, lk]
        by_cases hc : (q : Int) = fld ∧ s = 0
        · simpa [-len_lst, eq_true hc.1, eq_true hc.2, isl, lenK, ef, app] using goF
        · have hc2 : ∀ r : R Bool, True := fun _ => trivial
          have first : ∀ (u : AB) (e : Env) (H : AH), (if (decide ((q : Int) = fld)) then (if decide (s = 0) then true else false) else false) = false := fun _ _ _ => by
            by_cases z : (q : Int) = fld
            · have : ¬ s = 0 := fun y => hc ⟨z, y⟩
              simp [z, this]
            · simp [z]
          rcases kg with kg | ⟨r, kg, hr⟩
          · by_cases z : (q : Int) = fld
            · have z2 : ¬ s = 0 := fun y => hc ⟨z, y⟩
              simpa [-len_lst, eq_true z, z2, kg, notNonD, sl_lstT, add_lstT, c1, c2, b1, b2, big1, c3', etc, er, isl, app] using goR
            · simpa [-len_lst, z, kg, notNonD, sl_lstT, add_lstT, c1, c2, b1, b2, big1, c3', etc, er, isl, app] using goR
          · by_cases y : r = s
            · by_cases z : (q : Int) = fld
              · have z2 : ¬ s = 0 := fun y => hc ⟨z, y⟩
                simpa [-len_lst, eq_true z, z2, kg, eq_true y, notNonD, sl_lstT, add_lstT, c1, c2, b1, b2, big1, c3', etc, er, isl, app] using goR
              · simpa [-len_lst, z, kg, eq_true y, notNonD, sl_lstT, add_lstT, c1, c2, b1, b2, big1, c3', etc, er, isl, app] using goR
            · by_cases z : (q : Int) = fld
              · have z2 : ¬ s = 0 := fun y => hc ⟨z, y⟩
                simpa [-len_lst, eq_true z, z2, kg, y, notNonD, isl, lenK, ef, app] using goF
              · simpa [-len_lst, z, kg, y, notNonD, isl, lenK, ef, app] using goF
      · rintro e h' ⟨bs, o, x8, x9, rfl, hi, hbs, ho, rfl⟩
        match bs, hi with
        | [p, q, r], _ =>
          have gl : getL (h.set l o ++ [.lst ([p, q, r].map Tr.enc)]) h.length = some [p.enc, q.enc, r.enc] := by rw [getL_new (by simp)]; simp
          have hp := hbs p (by simp)
          have hq := hbs q (by simp)
          have hr := hbs r (by simp)
          have := hZ (.node g p q r) o [.lst ([p, q, r].map Tr.enc)] ho ⟨g0, g1, hp.1, hq.1, hr.1⟩ ⟨hp.2.1, hq.2.1, hr.2.1⟩ (by simp only [Tr.dep]; omega)
          simp [Tr.enc] at this gl
          simpa [ixL _ gl, big4] using this
    -- the known sign
    simp only [restP, List.drop_succ_cons, List.drop_zero] at loop
    rcases kg with kg | ⟨r, kg, hr⟩
    · have := loop o1 ho1
      simp [Tr.enc] at this
      simpa [restP, Tr.enc, kg, notNonD] using this
    · obtain ⟨v, o2, v0, v1, ho2, ev⟩ := K01.take_ok (n := 2) (Tp.set ho1 hl) (by omega) (by omega)
      simp only [List.set_set] at ev
      by_cases hv : v = 0
      · subst hv
        obtain ⟨tc, etc, kc2, wc2, dc2⟩ := child (f := g) (n := n) hr ⟨ka, kb, kc⟩ ⟨wa, wb, wc⟩ ⟨da, db, dc⟩
        obtain ⟨t', o3, ho3, kt, wt, dt, et⟩ := ih tc lv _ ks (by omega) (by omega) kc2 wc2 hk (Tp.set ho2 hl)
        simp only [List.set_set] at et
        have := hZ t' o3 [] ho3 kt wt (by omega)
        simpa [restP, Tr.enc, kg, notNonD, e_take, ev, etc, et] using this
      · have := loop o2 ho2
        simp [Tr.enc] at this
        simpa [restP, Tr.enc, kg, notNonD, e_take, ev, hv] using this
end Sm.K25
end

section
set_option linter.all false
set_option maxRecDepth 10000
namespace Sm.K25
open Sm Sm.K01
theorem padded_ok {n fld : Int} (h0 : 0 < n) (h1 : n < 100) {l : Nat} : ∀ fuel, PadIH n fld l fuel := by
  intro fuel
  induction fuel with
  | zero => intro t lv h ks hf; omega
  | succ fuel ih =>
    intro t lv h ks hf h20 ht w hk tp
    have hl := tp.lt
    have key : ∀ Z : R Fl → Prop, (∀ (t' : Tr) (o : AO) (L : AH), IsTp o → t'.ok n → t'.W → t'.dep ≤ t.dep + lv + 1 → Z (.ok (.rt t'.enc) (h.set l o ++ L))) → Z (b_q_padded (F_q_padded fuel) (envOf 10 [.loc l, t.enc, .int fld, .lst ks, .int lv]) h) := by
      intro Z hZ
      have plain : ∀ (o : AO), IsTp o → Z (sB (restP (F_q_padded fuel)) [some (.loc l), some t.enc, some (.int fld), some (.lst ks), some (.int lv), none, none, none, none, none] (h.set l o)) := fun o ho => by
        cases t with
        | leaf s =>
          have := hZ (.leaf s) o [] ho trivial w (Nat.zero_le _)
          simpa [restP, Tr.enc] using this
        | node g a b c =>
          refine pad_rest h0 h1 ih hl ho _ ht w lv (Tr.dep (.node g a b c) + lv + 1) (by simp only [Tr.dep]; omega) (fun g' a' b' c' e => ?_) ks hk none Z hZ
          cases e
          simp only [Tr.dep] at hf h20 ⊢
          exact ⟨max a.dep (max b.dep c.dep), by omega, by omega, by omega, by omega, by omega, by omega⟩
      cases lv with
      | zero =>
        obtain ⟨o0, ho0, hs0⟩ := tp_self tp
        have := plain o0 ho0
        rw [hs0] at this
        simp [restP] at this
        simp [b_q_padded, envOf]
        exact this
      | succ lv =>
        have hg : (0 : Int) < (lv : Int) + 1 := by omega
        obtain ⟨q, o1, q0, q1, ho1, e1⟩ := K01.take_ok (n := 3) tp (by omega) (by omega)
        by_cases hq : q = 0
        · subst hq
          obtain ⟨x, o2, x0, x1, ho2, e2⟩ := K01.take_ok (n := n) (Tp.set ho1 hl) h0 (by omega)
          simp only [List.set_set] at e2
          have := pad_rest h0 h1 ih hl ho2 (.node x t t t) ⟨x0, x1, ht, ht, ht⟩ ⟨w, w, w⟩ lv (t.dep + (lv + 1) + 1) (by omega) (fun g' a' b' c' e => by
            cases e
            exact ⟨t.dep, by omega, by omega, by omega, by omega, by omega, by omega⟩) ks hk (some (.int x)) Z hZ
          have lk : ∀ h : AH, lenD (.lst ks) h = .ok (.int n) h := fun h => by rw [len_lst, hk.1]
          have hv : (lv : Int) + 1 - 1 = lv := by omega
          simp [restP, Tr.enc] at this
          simp [-len_lst, b_q_padded, envOf, hg, e_take, e1, lk, e2, hv, big4]
          exact this
        · have := plain o1 ho1
          simp [restP] at this
          simp [b_q_padded, envOf, hg, e_take, e1, hq]
          exact this
    refine key (fun r => ∃ (t' : Tr) (o : AO), IsTp o ∧ t'.ok n ∧ t'.W ∧ t'.dep ≤ t.dep + lv + 1 ∧ trim h (fnR r) = .ok t'.enc (h.set l o)) fun t' o L ho k w d => ⟨t', o, ho, k, w, d, ?_⟩
    exact trim_val (by simp) (pre_set (ho.clo _)) (Tr.enc_loc _) (Tr.clo_enc _ _)
end Sm.K25
end

section
set_option linter.all false
set_option maxRecDepth 10000
namespace Sm.K25
open Sm Sm.K01
def lawRest : List AS := [
  sSet 8 (eLC true [9] (iS (eA (F_q_rows) (eL [eV 2]))) (gV 9) (tB1 (e2 neD (e2 ixD (eV 9) (eV 3)) (eC (.int 0)))) (eV 9)),
  sSet 10 (eA (F_least_tree) (eL [eV 5, eV 3, eV 2])),
  sSet 11 (eA (F_least_tree) (eL [eV 6, eV 3, eV 2])),
  sIf (tOr (tNot (tV (eA (F_q_is_right) (eL [eV 10, eV 5, eV 3, eV 2, eV 8])))) (tNot (tV (eA (F_q_is_right) (eL [eV 11, eV 6, eV 3, eV 2, eV 8]))))) (sB [sRet (eC (.bl false))]) (sB []),
  sIf (tB1 (e2 neD (eA (F_q_same 12) (eL [eV 10, eV 11])) (eA (F_q_alike) (eL [eV 5, eV 6, eV 8])))) (sB [sRet (eC (.bl false))]) (sB []),
  sIf (tB1 (e2 ltD (eV 2) (eC (.int 5)))) (sB [sSet 12 (e2 modD (eA (on1 intD) (eL [e2 (addD true) (eV 3) (eC (.int 1))])) (eV 2)),
    sSet 8 (eLC true [9] (iS (eA (F_q_rows) (eL [eV 2]))) (gV 9) (tB1 (e2 neD (e2 ixD (eV 9) (eV 12)) (eC (.int 0)))) (eV 9)),
    sIf (tNot (tV (eA (F_q_is_right) (eL [eA (F_least_tree) (eL [eV 5, eV 12, eV 2]), eV 5, eV 12, eV 2, eV 8])))) (sB [sRet (eC (.bl false))]) (sB [])]) (sB []),
  sRet (eAnd (eA (F_q_same 12) (eL [eA (F_least_tree) (eL [eV 5, eV 3, eV 2]), eV 10])) (eA (F_q_same 12) (eL [eA (F_least_tree) (eL [eV 10, eV 3, eV 2]), eV 10])))]
@[simp] theorem ne_bl (a b : Bool) (h : AH) : neD (.bl a) (.bl b) h = .ok (.bl (!decide (a = b))) h := by
  have : decide (D.bl a = D.bl b) = decide (a = b) := decide_eq_decide.mpr ⟨fun e => D.bl.inj e, fun e => by rw [e]⟩
  show R.ok (D.bl (!decide (D.bl a = D.bl b))) h = _
  rw [this]
theorem ok_of_fields {n : Int} : ∀ t : Tr, (∀ x ∈ t.fields, 0 ≤ x ∧ x < n) → t.ok n
  | .leaf _, _ => trivial
  | .node f a b c, h => by
    simp only [Tr.fields, List.mem_cons, List.mem_append] at h
    exact ⟨(h f (.inl rfl)).1, (h f (.inl rfl)).2, ok_of_fields a fun x hx => h x (.inr (.inl hx)), ok_of_fields b fun x hx => h x (.inr (.inr (.inl hx))), ok_of_fields c fun x hx => h x (.inr (.inr (.inr hx)))⟩
theorem others_len1 {fld n : Int} (f0 : 0 ≤ fld) (f1 : fld < n) : (others fld n).length + 1 ≤ n.toNat := by
  have : (others fld n).length < ((List.range n.toNat).map fun (k : Nat) => (k : Int)).length := by
    unfold others
    rw [List.length_filter_lt_length_iff_exists]
    exact ⟨fld, List.mem_map.mpr ⟨fld.toNat, List.mem_range.mpr (by omega), by show ((fld.toNat : Nat) : Int) = fld; omega⟩, by simp⟩
  rw [List.length_map, List.length_range] at this
  omega
section
variable {n fld : Int} {t : Tr}
theorem leastT_isL (w : t.W) : IsL fld (fld :: others fld n) (leastT t fld n) := IsL.sub (List.filter_sublist) (least_isL w fld _ _)
theorem leastT_ok (f0 : 0 ≤ fld) (f1 : fld < n) (w : t.W) : (leastT t fld n).ok n := ok_of_fields _ fun x hx => (order_mem f0 f1).mp ((leastT_isL (n := n) w).mem x hx)
theorem leastT_dep (h1 : n < 7) (f0 : 0 ≤ fld) (f1 : fld < n) (w : t.W) : (leastT t fld n).dep ≤ 6 := by
  have a := (leastT_isL (fld := fld) (n := n) w).dep
  have b := others_len1 f0 f1
  rw [List.length_cons] at a
  omega
theorem leastT_foll (f0 : 0 ≤ fld) (f1 : fld < n) (ht : t.ok n) {rs : List Int} (hr : RowF n fld rs) : foll rs (leastT t fld n) = foll rs t :=
  least_foll ht hr (fun x hx => (order_mem f0 f1).mp (List.mem_filter.mp hx).1) (by have := hr.row.1; simp; omega) fun x hx => List.mem_filter.mpr ⟨(order_mem f0 f1).mpr (t.fields_ok ht x hx), decide_eq_true hx⟩
end
def rowsF (fld : Int) (rows : List (List Int)) : List (List Int) := rows.filter fun r => !decide (r[fld.toNat]? = some 0)
theorem rowsF_mem {n fld : Int} (h0 : 0 ≤ n) {rows : List (List Int)} (h : AllR n.toNat rows) (r : List Int) : r ∈ rowsF fld rows ↔ RowF n fld r := by
  unfold rowsF
  rw [List.mem_filter, h.1 r]
  constructor
  · rintro ⟨⟨a, b⟩, c⟩
    exact ⟨⟨by omega, b⟩, by simpa using c⟩
  · rintro ⟨⟨a, b⟩, c⟩
    exact ⟨⟨by omega, b⟩, by simpa using c⟩
theorem rowsF_lc {n fld : Int} (h0 : 0 < n) (h1 : n < 7) (f0 : 0 ≤ fld) (f1 : fld < n) {rows : List (List Int)} (ha : AllR n.toNat rows) (fs : Nat) (hne : 9 ≠ fs) (e0 : Env) (hf : e0[fs]? = some (some (.int fld))) (hl : 9 < e0.length) (h : AH) :
    lcN (gV 9) (tB1 (e2 neD (e2 ixD (eV 9) (eV fs)) (eC (.int 0)))) (eV 9) e0 (.lst (encR rows)) (Src.lst (encR rows)).fuel 0 [] h = .ok (encR (rowsF fld rows)) h := by
  have hlen : rows.length ≤ 729 := Nat.le_trans ha.2 (by
    have : ∀ j, j ≤ 6 → 3 ^ j ≤ 729 := by decide
    exact this _ (by omega))
  refine lc_inv (P := fun i acc h' => acc = encR (rowsF fld (rows.take i)) ∧ h' = h) (Z := fun r => r = .ok (encR (rowsF fld rows)) h) ?_ ?_ ⟨rfl, rfl⟩
  · rintro i x acc h' k hx2 ⟨rfl, rfl⟩ ih
    have hx2 : (rows.map fun r => D.tup (r.map .int))[i]? = some x := hx2
    rw [List.getElem?_map] at hx2
    cases hg : rows[i]? with
    | none => rw [hg] at hx2; cases hx2
    | some r =>
      rw [hg] at hx2
      simp at hx2
      subst hx2
      have hr := (ha.1 r).mp (List.mem_of_getElem? hg)
      have hk : fld.toNat < r.length := by omega
      have g0 : (e0.set 9 (some (.tup (r.map .int))))[fs]? = some (some (.int fld)) := by rw [List.getElem?_set_ne hne]; exact hf
      have g1 : (e0.set 9 (some (.tup (r.map .int))))[9]? = some (some (.tup (r.map .int))) := List.getElem?_set_self hl
      have eat : at? (r.map D.int) fld = some (.int r[fld.toNat]) := by rw [at_nn _ _ f0]; simp [hk]
      have hb : (encR (rowsF fld (rows.take i))).length < big := by
        rw [encR_len]
        have := List.length_filter_le (fun r : List Int => !decide (r[fld.toNat]? = some 0)) (rows.take i)
        rw [List.length_take] at this
        unfold rowsF
        rw [bigv]; omega
      have hz := ih (encR (rowsF fld (rows.take (i + 1)))) h' ⟨rfl, rfl⟩
      have hsplit : encR (rowsF fld (rows.take (i + 1))) = encR (rowsF fld (rows.take i)) ++ (if r[fld.toNat] = 0 then [] else [.tup (r.map .int)]) := by
        rw [List.take_add_one, hg]
        unfold rowsF encR
        rw [List.filter_append, List.map_append]
        congr 1
        by_cases e : r[fld.toNat] = 0 <;> simp [hk, e]
      rw [hsplit] at hz
      generalize encR (rowsF fld (rows.take i)) = acc at hz hb
      by_cases e : r[fld.toNat] = 0
      · simp [e] at hz
        simp [g0, g1, eat, e]
        exact hz
      · simp [e] at hz
        simp [g0, g1, eat, e, hb]
        exact hz
  · rintro acc h' ⟨rfl, rfl⟩
    rw [encR_len, List.take_length]
theorem rest_ok {n fld : Int} (h0 : 0 < n) (h1 : n < 7) (f0 : 0 ≤ fld) (f1 : fld < n) {t u : Tr} (ht : t.ok n) (wt : t.W) (dt : t.dep ≤ 6) (hu : u.ok n) (wu : u.W) (du : u.dep ≤ 6) (y0 y1 y4 y7 y8 y10 y11 y12 : Option D) {h : AH} (Z : R Fl → Prop) (hZ : Z (.ok (.rt (.bl true)) h)) :
    Z (sB lawRest [y0, y1, some (.int n), some (.int fld), y4, some t.enc, some u.enc, y7, y8, none, y10, y11, y12] h) := by
  obtain ⟨rows, ha, er⟩ := rows_ok h0 h1 (h := h)
  have hm := fun r => rowsF_mem (fld := fld) (by omega) ha r
  have lc := rowsF_lc h0 h1 f0 f1 ha 3 (by decide) [y0, y1, some (.int n), some (.int fld), y4, some t.enc, some u.enc, y7, y8, none, y10, y11, y12] rfl (by simp) h
  have l1 := least_tree_ok h0 h1 f0 f1 ht wt dt (h := h)
  have l2 := least_tree_ok h0 h1 f0 f1 hu wu du (h := h)
  have k1 := leastT_ok (t := t) f0 f1 wt
  have k2 := leastT_ok (t := u) f0 f1 wu
  have d1 := leastT_dep (t := t) h1 f0 f1 wt
  have d2 := leastT_dep (t := u) h1 f0 f1 wu
  have i1 := leastT_isL (fld := fld) (n := n) wt
  have i2 := leastT_isL (fld := fld) (n := n) wu
  have l3 := least_tree_ok h0 h1 f0 f1 k1 i1.W d1 (h := h)
  have r1 := is_right_ok h0 h1 f0 f1 i1 k1 ht (by omega) (rowsF fld rows) (fun r hr => (hm r).mp hr) (fun r hr => leastT_foll f0 f1 ht hr) h
  have r2 := is_right_ok h0 h1 f0 f1 i2 k2 hu (by omega) (rowsF fld rows) (fun r hr => (hm r).mp hr) (fun r hr => leastT_foll f0 f1 hu hr) h
  have s12 := same_ok (leastT u fld n) (leastT t fld n) 12 (by omega) (h := h)
  have s11 := same_ok (leastT t fld n) (leastT t fld n) 12 (by omega) (h := h)
  have al := alike_ok ht hu (by omega) (by omega) (rowsF fld rows) (fun r hr => ((hm r).mp hr).row) h
  have hl : ∀ x ∈ fld :: others fld n, 0 ≤ x ∧ x < n := fun x hx => (order_mem f0 f1).mp hx
  have e31 : leastT (leastT t fld n) fld n = leastT t fld n := canon h0 f0 f1 (order_nodup fld n) hl (leastT_isL i1.W) i1 fun r hr => leastT_foll f0 f1 k1 hr
  have eal : ((rowsF fld rows).all fun r => decide (foll r t = foll r u)) = decide (leastT t fld n = leastT u fld n) := by
    rw [Bool.eq_iff_iff, List.all_eq_true, decide_eq_true_eq]
    constructor
    · intro hh
      exact canon h0 f0 f1 (order_nodup fld n) hl i1 i2 fun r hr => by
        rw [leastT_foll f0 f1 ht hr, leastT_foll f0 f1 hu hr]
        exact of_decide_eq_true (hh r ((hm r).mpr hr))
    · intro e r hr
      have hr := (hm r).mp hr
      refine decide_eq_true ?_
      rw [← leastT_foll f0 f1 ht hr, ← leastT_foll f0 f1 hu hr, e]
  rw [eal] at al
  rw [e31] at l3
  rw [decide_eq_true rfl] at s11
  have enc1 : ∀ rs : List (List Int), (rs.map fun r => D.tup (r.map .int)) = encR rs := fun _ => rfl
  rw [enc1] at r1 r2 al
  by_cases h5 : n < 5
  · have p0 : 0 ≤ (fld + 1) % n := Int.emod_nonneg _ (by omega)
    have p1 : (fld + 1) % n < n := Int.emod_lt_of_pos _ h0
    have lp := least_tree_ok h0 h1 p0 p1 ht wt dt (h := h)
    have hm2 := fun r => rowsF_mem (fld := (fld + 1) % n) (by omega) ha r
    have rp := is_right_ok h0 h1 p0 p1 (leastT_isL (fld := (fld + 1) % n) (n := n) wt) (leastT_ok (t := t) p0 p1 wt) ht (by omega) (rowsF ((fld + 1) % n) rows) (fun r hr => (hm2 r).mp hr) (fun r hr => leastT_foll p0 p1 ht hr) h
    rw [enc1] at rp
    have lcp := rowsF_lc h0 h1 p0 p1 ha 12 (by decide) [y0, y1, some (.int n), some (.int fld), y4, some t.enc, some u.enc, y7, some (.lst (encR (rowsF fld rows))), none, some (leastT t fld n).enc, some (leastT u fld n).enc, some (.int ((fld + 1) % n))] rfl (by simp) h
    simp [lawRest, er, wipeE, lc, l1, l2, l3, r1, r2, s12, al, h5, h0, lcp, lp, rp, s11]
    exact hZ
  · simp [lawRest, er, wipeE, lc, l1, l2, l3, r1, r2, s12, al, h5, s11]
    exact hZ
end Sm.K25
end

section
set_option linter.all false
set_option maxRecDepth 10000
namespace Sm.K25
open Sm Sm.K01
theorem tp0 {o : AO} {L : AH} (ho : IsTp o) : Tp (o :: L) 0 := by
  obtain ⟨c, k, rfl, hc⟩ := ho
  exact ⟨c, k, rfl, hc⟩
theorem take0 {o : AO} {L : AH} (ho : IsTp o) {n : Int} (h0 : 0 < n) (h1 : n < 1073741824) : ∃ r o', 0 ≤ r ∧ r < n ∧ IsTp o' ∧ K01.F_q_take [.loc 0, .int n] (o :: L) = .ok (.int r) (o' :: L) := K01.take_ok (tp0 ho) h0 h1
theorem tpL {h : AH} {o : AO} (ho : IsTp o) : Tp (h ++ [o]) h.length := by
  obtain ⟨c, k, rfl, hc⟩ := ho
  exact ⟨c, k, by rw [get_new (Nat.le_refl _)]; simp, hc⟩
/-- a new tape, a tree drawn with it -/
theorem newtree {ns : List Int} {n : Int} (h0 : 0 < n) (h1 : n < 1000) (k : Nat) (h : AH) : ∃ (t : Tr) (o : AO) (o' : AO), t.ok n ∧ t.W ∧ t.dep ≤ 3 ∧ K01.F_q_tape [.scr (ns.map .int), .int k] h = .ok (.loc h.length) (h ++ [o]) ∧ F_q_tree 8 [.loc h.length, .int n, .int 3] (h ++ [o]) = .ok t.enc (h ++ [o']) := by
  obtain ⟨o, ho, e1⟩ := tape_new (xs := ns) (k := k) (h := h)
  obtain ⟨t, o', ho', kt, wt, dt, e2⟩ := tree_ok h0 (by omega) 3 8 _ (by omega) (tpL (h := h) ho)
  rw [set_new (Nat.le_refl _)] at e2
  exact ⟨t, o, o', kt, wt, dt, e1, by simpa using e2⟩
theorem newpad {ns : List Int} {n fld : Int} (h0 : 0 < n) (h1 : n < 100) (k : Nat) (h : AH) {t : Tr} (ht : t.ok n) (w : t.W) (hd : t.dep ≤ 3) : ∃ (t' : Tr) (o : AO) (o' : AO), t'.ok n ∧ t'.W ∧ t'.dep ≤ 6 ∧ K01.F_q_tape [.scr (ns.map .int), .int k] h = .ok (.loc h.length) (h ++ [o]) ∧ F_q_padded 8 [.loc h.length, t.enc, .int fld, .lst (List.replicate n.toNat .non), .int 2] (h ++ [o]) = .ok t'.enc (h ++ [o']) := by
  obtain ⟨o, ho, e1⟩ := tape_new (xs := ns) (k := k) (h := h)
  obtain ⟨t', o', ho', kt, wt, dt, e2⟩ := padded_ok (fld := fld) h0 h1 8 t 2 _ (List.replicate n.toNat .non) (by omega) (by omega) ht w ⟨by simp; omega, fun d hd => .inl (List.eq_of_mem_replicate hd)⟩ (tpL (h := h) ho)
  rw [set_new (Nat.le_refl _)] at e2
  exact ⟨t', o, o', kt, wt, by omega, e1, by simpa using e2⟩
theorem newturn {ns : List Int} {n : Int} (k : Nat) (h : AH) {t : Tr} (ht : t.ok n) (w : t.W) (hd : t.dep ≤ 6) : ∃ (t' : Tr) (o : AO) (o' : AO), t'.ok n ∧ t'.W ∧ t'.dep ≤ 6 ∧ K01.F_q_tape [.scr (ns.map .int), .int k] h = .ok (.loc h.length) (h ++ [o]) ∧ F_q_turn 12 [.loc h.length, t.enc] (h ++ [o]) = .ok t'.enc (h ++ [o']) := by
  obtain ⟨o, ho, e1⟩ := tape_new (xs := ns) (k := k) (h := h)
  obtain ⟨t', o', ho', kt, wt, dt, e2⟩ := turn_ok 12 t _ (by omega) (by omega) ht w (tpL (h := h) ho)
  rw [set_new (Nat.le_refl _)] at e2
  exact ⟨t', o, o', kt, wt, by omega, e1, by simpa using e2⟩
theorem nones {n : Int} (h0 : 0 ≤ n) (h1 : n < 1000) (e0 : Env) (h : AH) : lcN (gV 7) tYes (eC .non) e0 (.lst (rng 0 n.toNat)) (Src.lst (rng 0 n.toNat)).fuel 0 [] h = .ok (List.replicate n.toNat .non) h := by
  refine lc_inv (P := fun i acc h' => acc = List.replicate i .non ∧ h' = h) (Z := fun r => r = .ok (List.replicate n.toNat .non) h) ?_ ?_ ⟨rfl, rfl⟩
  · rintro i x acc h' k hx ⟨rfl, rfl⟩ ih
    obtain ⟨hin, rfl⟩ := rng_get hx
    have hb : i < big := by rw [bigv]; omega
    have := ih (List.replicate (i + 1) .non) h' ⟨rfl, rfl⟩
    rw [List.replicate_succ'] at this
    simpa [hb] using this
  · rintro acc h' ⟨rfl, rfl⟩
    rw [rng_len]
theorem law_true : ∀ ns : List Int, ns.length ≤ 63 → ∃ h', F_law [.scr (ns.map .int)] [] = .ok (.bl true) h' := by
  intro ns _
  have key : ∀ Z : R Fl → Prop, (∀ L, Z (.ok (.rt (.bl true)) L)) → Z (b_law (envOf 13 [.scr (ns.map .int)]) []) := by
    intro Z hZ
    obtain ⟨o0, h0, e0⟩ := tape_new (xs := ns) (k := 0) (h := [])
    obtain ⟨n1, o1, n10, n11, h1, e1⟩ := take0 (L := []) h0 (n := 4) (by omega) (by omega)
    obtain ⟨q, o2, q0, q1, h2, e2'⟩ := take0 (L := []) h1 (n := 8) (by omega) (by omega)
    have main : ∀ (n : Int) (o : AO), 0 < n → n < 7 → IsTp o → Z (sB (sSet 3 (eA (F_q_take) (eL [eV 1, eV 2])) :: sSet 4 (eA (F_q_take) (eL [eV 1, eC (.int 4)])) ::
        sSet 5 (eA (F_q_tree 8) (eL [eA (F_q_tape) (eL [eV 0, eC (.int 1)]), eV 2, eC (.int 3)])) ::
        sIf (tB1 (e2 eqD (eV 4) (eC (.int 0)))) (sB [sSet 6 (eA (F_q_tree 8) (eL [eA (F_q_tape) (eL [eV 0, eC (.int 2)]), eV 2, eC (.int 3)]))]) (sB [sSet 6 (eA (F_q_padded 8) (eL [eA (F_q_tape) (eL [eV 0, eC (.int 2)]), eV 5, eV 3, eLC true [7] (iR1 (eV 2)) (gV 7) (tYes) (eC .non), eC (.int 2)]))]) ::
        sIf (tB1 (e2 eqD (eV 4) (eC (.int 3)))) (sB [sSet 6 (eA (F_q_turn 12) (eL [eA (F_q_tape) (eL [eV 0, eC (.int 3)]), eV 6]))]) (sB []) :: lawRest)
        [some (.scr (ns.map .int)), some (.loc 0), some (.int n), none, none, none, none, none, none, none, none, none, none] [o]) := by
      intro n o n0 n7 ho
      obtain ⟨fld, o3, f0, f1, h3, e3⟩ := take0 (L := []) ho (n := n) (by omega) (by omega)
      obtain ⟨pk, o4, p0, p1, h4, e4⟩ := take0 (L := []) h3 (n := 4) (by omega) (by omega)
      obtain ⟨t, oa, ob, kt, wt, dt, e5, e6⟩ := newtree (ns := ns) (n := n) (by omega) (by omega) 1 [o4]
      have i1 := inI_of (show (0 : Int) ≤ n by omega) (show n < 1000000 by omega)
      have nn := fun e h => nones (n := n) (by omega) (by omega) e h
      have fin : ∀ (u : Tr) (h : AH), u.ok n → u.W → u.dep ≤ 6 → Z (sB lawRest [some (.scr (ns.map .int)), some (.loc 0), some (.int n), some (.int fld), some (.int pk), some t.enc, some u.enc, none, none, none, none, none, none] h) := fun u h ku wu du =>
        rest_ok n0 n7 f0 f1 kt wt (by omega) ku wu du _ _ _ _ _ _ _ _ Z (hZ _)
      by_cases c0 : pk = 0
      · subst c0
        obtain ⟨u, oc, od, ku, wu, du, e7, e8⟩ := newtree (ns := ns) (n := n) (by omega) (by omega) 2 ([o4] ++ [ob])
        have := fin u ([o4] ++ [ob] ++ [od]) ku wu (by omega)
        simp at e5 e6 e7 e8 this
        simp [e_take, e_tape, e3, e4, e5, e6, e7, e8]
        exact this
      · obtain ⟨u, oc, od, ku, wu, du, e7, e8⟩ := newpad (ns := ns) (n := n) (fld := fld) (by omega) (by omega) 2 ([o4] ++ [ob]) kt wt dt
        by_cases c3 : pk = 3
        · subst c3
          obtain ⟨v, oe, og, kv, wv, dv, e9, e10⟩ := newturn (ns := ns) (n := n) 3 ([o4] ++ [ob] ++ [od]) ku wu du
          have := fin v ([o4] ++ [ob] ++ [od] ++ [og]) kv wv (by omega)
          simp at e5 e6 e7 e8 e9 e10 this
          simp [e_take, e_tape, e3, e4, e5, e6, e7, e8, e9, e10, i1, wipeE, nn]
          exact this
        · have := fin u ([o4] ++ [ob] ++ [od]) ku wu (by omega)
          simp at e5 e6 e7 e8 this
          simp [e_take, e_tape, e3, e4, e5, e6, e7, e8, c0, c3, i1, wipeE, nn]
          exact this
    simp only [lawRest] at main
    by_cases hq : q = 0
    · subst hq
      obtain ⟨q2, o3, q20, q21, h3, e3⟩ := take0 (L := []) h2 (n := 8) (by omega) (by omega)
      have := main (5 + q2 / 7) o3 (by omega) (by omega) h3
      simp at e0 this
      simp [b_law, envOf, e_take, e_tape, e0, e1, e2', e3]
      exact this
    · have := main (1 + n1) o2 (by omega) (by omega) h2
      simp at e0 this
      simp [b_law, envOf, e_take, e_tape, e0, e1, e2', hq]
      exact this
  refine key (fun r => ∃ h', R.chk true (trim [] (fnR r)) = .ok (.bl true) h') fun L => ⟨[], ?_⟩
  exact trim_val (h := []) (h1 := []) (d := .bl true) rfl (pre_refl []) (by simp) (by simp)
end Sm.K25
end

section

end

section
set_option Elab.async false
set_option linter.all false
set_option maxRecDepth 100000
open PySem PySem.W PyProof.Rows
set_option maxHeartbeats 0 in
theorem PySem.Challenge.cw_fieldrides_k25_whole_least_trees_holds : PySem.Challenge.rw_fieldrides_k25_whole_least_trees.Holds := by
  w_on; o_law; k_head; (case hw => w_witness2)
  k_fill
  refine L2.walk_of (l := PySem.Challenge.rw_fieldrides_k25_whole_least_trees) (n := 63) (k := 29) (x := "_law_script") (CX := fun w => L2.CX PySem.Challenge.rw_fieldrides_k25_whole_least_trees.prog w) (sp := fun w => Sm.spLaw _) rfl (by decide) rfl ⟨rfl, by decide, by decide⟩ (fun w h Y => PySem.W.kIn_of Y) ?F (fun _ _ a ns hl _ hS => ⟨a, ns, rfl, hS, hl, fun _ => rfl⟩) (fun _ _ _ _ _ h => Sm.cx_no h)
  case F =>
    intro w mg fa h KX G hmg
    refine' Sm.K25.all_mk (Sm.K25.mk_Gd KX G ?a0 ?l0 ?c0 ?k0 ?a1 ?l1 ?c1 ?k1 ?a2 ?l2 ?c2 ?k2 ?a3 ?l3 ?c3 ?k3 ?a4 ?l4 ?c4 ?k4 ?a5 ?l5 ?c5 ?k5 ?a6 ?l6 ?c6 ?k6 ?a7 ?l7 ?c7 ?k7 ?a8 ?l8 ?c8 ?k8 ?a9 ?l9 ?c9 ?k9 ?a10 ?l10 ?c10 ?k10 ?a11 ?l11 ?c11 ?k11 ?a12 ?l12 ?c12 ?k12 ?a13 ?l13 ?c13 ?k13 ?a14 ?l14 ?c14 ?k14 ?a15 ?l15 ?c15 ?k15 ?a16 ?l16 ?c16 ?k16 ?a17 ?l17 ?c17 ?k17 ?a18 ?l18 ?c18 ?k18 ?z0 ?z1 ?z2 ?z3 ?z4 ?z5 ?z6 ?z7 ?z8 ?z9 ?z10) hmg Sm.K25.law_true
    (case a0 => k_is); (case l0 => k_is); (case c0 => k_is); (case k0 => k_is)
    (case a1 => k_is); (case l1 => k_is); (case c1 => k_is); (case k1 => k_is)
    (case a2 => k_is); (case l2 => k_is); (case c2 => k_is); (case k2 => k_is)
    (case a3 => k_is); (case l3 => k_is); (case c3 => k_is); (case k3 => k_is)
    (case a4 => k_is); (case l4 => k_is); (case c4 => k_is); (case k4 => k_is)
    (case a5 => k_is); (case l5 => k_is); (case c5 => k_is); (case k5 => k_is)
    (case a6 => k_is); (case l6 => k_is); (case c6 => k_is); (case k6 => k_is)
    (case a7 => k_is); (case l7 => k_is); (case c7 => k_is); (case k7 => k_is)
    (case a8 => k_is); (case l8 => k_is); (case c8 => k_is); (case k8 => k_is)
    (case a9 => k_is); (case l9 => k_is); (case c9 => k_is); (case k9 => k_is)
    (case a10 => k_is); (case l10 => k_is); (case c10 => k_is); (case k10 => k_is)
    (case a11 => k_is); (case l11 => k_is); (case c11 => k_is); (case k11 => k_is)
    (case a12 => k_is); (case l12 => k_is); (case c12 => k_is); (case k12 => k_is)
    (case a13 => k_is); (case l13 => k_is); (case c13 => k_is); (case k13 => k_is)
    (case a14 => k_is); (case l14 => k_is); (case c14 => k_is); (case k14 => k_is)
    (case a15 => k_is); (case l15 => k_is); (case c15 => k_is); (case k15 => k_is)
    (case a16 => k_is); (case l16 => k_is); (case c16 => k_is); (case k16 => k_is)
    (case a17 => k_is); (case l17 => k_is); (case c17 => k_is); (case k17 => k_is)
    (case a18 => k_is); (case l18 => k_is); (case c18 => k_is); (case k18 => k_is)
    (case z0 => k_is); (case z1 => k_is); (case z2 => k_is); (case z3 => k_is); (case z4 => k_is); (case z5 => k_is); (case z6 => k_is); (case z7 => k_is); (case z8 => k_is); (case z9 => k_is); (case z10 => k_is)
end
