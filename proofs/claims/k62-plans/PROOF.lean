import PyProof.Rows.All
import HandS.CallSlots
import HandS.Conv
import HandS.Deep
import HandS.Ends
import HandS.Exc
import HandS.ExcField
import HandS.ExcInit
import HandS.ExcIs
import HandS.ExcOwn
import HandS.ExcSuper
import HandS.ForMost
import HandS.IsInst
import HandS.Iter
import HandS.More
import HandS.Nested
import HandS.Property
import HandS.Remove
import HandS.Rev
import HandS.SetFor
import HandS.Small
import HandS.SortInts
import HandS.SortKw
import HandS.SortRule
import HandS.Star
import HandS.Strs
import HandS.Style
import HandS.TryMany
import HandS.TupAny
import HandS.TupMul
import HandS.Wide
import HandS.WordsExc
import KE.DataMinMax
import KE.KCallOwn
import KE.KExcSuper
import PyProof.FitsInt
import PyProof.ReprRoads
import PySem.Challenge.RW_fieldrides_k62_whole_change_plans
section
set_option linter.all false
/-! Abs: data, heaps and computations in plain Lean (no model in sight). -/
namespace Sm

inductive K1 where
  | i (k : Int) | s (x : List Nat)
  deriving DecidableEq, Repr

inductive D where
  | non | bl (b : Bool) | int (i : Int) | str (x : List Nat)
  | tup (xs : List D) | lst (xs : List D) | scr (xs : List D)
  | dic (ks : List K1) (ds : List D)
  | ins (c : String) (ns : List String) (ds : List D)
  | loc (l : Nat)
  | ty (n : String)
  deriving Repr, Inhabited

mutual
def D.beq : D → D → Bool
  | .non, .non => true
  | .bl a, .bl b => a == b
  | .int a, .int b => a == b
  | .str a, .str b => a == b
  | .tup a, .tup b => D.beqs a b
  | .lst a, .lst b => D.beqs a b
  | .scr a, .scr b => D.beqs a b
  | .dic k a, .dic l b => k == l && D.beqs a b
  | .ins c n a, .ins e m b => c == e && n == m && D.beqs a b
  | .loc a, .loc b => a == b
  | .ty a, .ty b => a == b
  | _, _ => false
def D.beqs : List D → List D → Bool
  | [], [] => true
  | a :: as, b :: bs => D.beq a b && D.beqs as bs
  | _, _ => false
end
mutual
theorem D.beq_refl : ∀ d : D, D.beq d d = true
  | .non => by rw [D.beq]
  | .bl a => by rw [D.beq]; simp
  | .int a => by rw [D.beq]; simp
  | .str a => by rw [D.beq]; simp
  | .tup a => by rw [D.beq]; exact D.beqs_refl a
  | .lst a => by rw [D.beq]; exact D.beqs_refl a
  | .scr a => by rw [D.beq]; exact D.beqs_refl a
  | .dic k a => by rw [D.beq, D.beqs_refl a]; simp
  | .ins c n a => by rw [D.beq, D.beqs_refl a]; simp
  | .loc a => by rw [D.beq]; simp
  | .ty a => by rw [D.beq]; simp
theorem D.beqs_refl : ∀ d : List D, D.beqs d d = true
  | [] => by rw [D.beqs]
  | a :: as => by rw [D.beqs, D.beq_refl a, D.beqs_refl as]; rfl
end
mutual
theorem D.eq_of_beq : ∀ {a b : D}, D.beq a b = true → a = b
  | .non, b, h => by cases b <;> simp [D.beq] at h ⊢
  | .bl a, b, h => by cases b <;> simp [D.beq] at h ⊢ <;> exact h
  | .int a, b, h => by cases b <;> simp [D.beq] at h ⊢ <;> exact h
  | .str a, b, h => by cases b <;> simp [D.beq] at h ⊢ <;> exact h
  | .tup a, b, h => by cases b <;> simp [D.beq] at h ⊢ <;> exact D.eqs_of_beq h
  | .lst a, b, h => by cases b <;> simp [D.beq] at h ⊢ <;> exact D.eqs_of_beq h
  | .scr a, b, h => by cases b <;> simp [D.beq] at h ⊢ <;> exact D.eqs_of_beq h
  | .dic k a, b, h => by cases b <;> simp [D.beq] at h ⊢ <;> exact ⟨h.1, D.eqs_of_beq h.2⟩
  | .ins c n a, b, h => by cases b <;> simp [D.beq] at h ⊢ <;> exact ⟨h.1.1, h.1.2, D.eqs_of_beq h.2⟩
  | .loc a, b, h => by cases b <;> simp [D.beq] at h ⊢ <;> exact h
  | .ty a, b, h => by cases b <;> simp [D.beq] at h ⊢ <;> exact h
theorem D.eqs_of_beq : ∀ {a b : List D}, D.beqs a b = true → a = b
  | [], b, h => by cases b <;> simp [D.beqs] at h ⊢
  | a :: as, b, h => by
    cases b with
    | nil => simp [D.beqs] at h
    | cons b bs =>
      simp [D.beqs] at h
      rw [D.eq_of_beq h.1, D.eqs_of_beq h.2]
end
instance : DecidableEq D := fun a b => if h : D.beq a b = true then .isTrue (D.eq_of_beq h) else .isFalse fun e => h (by rw [e]; exact D.beq_refl b)

/-- a mutable object -/
inductive AO where
  | lst (xs : List D) | dic (ks : List K1) (ds : List D) | dicT (ks : List (List K1)) (ds : List D)
  | ins (c : String) (ns : List String) (ds : List D)
  | set (xs : List Int)
  deriving DecidableEq, Repr

abbrev AH := List AO
structure Ex where
  cls : String
  ns : List String
  ds : List D
  deriving DecidableEq, Repr

inductive R (α : Type) where
  | ok (a : α) (h : AH) | exc (x : Ex) (h : AH) | no
  deriving Repr
def R.bind {α β : Type} (r : R α) (f : α → AH → R β) : R β := match r with
  | .ok a h => f a h
  | .exc x h => .exc x h
  | .no => .no
@[simp] theorem bind_ok {α β : Type} (a : α) (h : AH) (f : α → AH → R β) : (R.ok a h).bind f = f a h := rfl
@[simp] theorem bind_exc {α β : Type} (x : Ex) (h : AH) (f : α → AH → R β) : (R.exc x h : R α).bind f = .exc x h := rfl
@[simp] theorem bind_no {α β : Type} (f : α → AH → R β) : (R.no : R α).bind f = .no := rfl
theorem bind_assoc {α β γ : Type} (r : R α) (f : α → AH → R β) (g : β → AH → R γ) : (r.bind f).bind g = r.bind fun a h => (f a h).bind g := by cases r <;> rfl

abbrev Env := List (Option D)
abbrev AE := Env → AH → R D
abbrev AB := Env → AH → R Bool
abbrev AA := Env → AH → R (List D)
inductive Fl where
  | nx (e : Env) | rt (d : D) | bk (e : Env) | ct (e : Env) | ex (x : Ex) (e : Env)
  deriving Repr
abbrev AS := Env → AH → R Fl
/-- what a loop walks -/
inductive Src where
  | lst (xs : List D) | live (l : Nat)
abbrev AI := Env → AH → R Src
abbrev AG := D → Env → AH → R Env
abbrev AF := List D → AH → R D

def big : Nat := 16777216
/-- none: no answer -/
def R.of {α : Type} (o : Option α) (h : AH) : R α := match o with
  | some a => .ok a h
  | none => .no
@[simp] theorem of_some {α : Type} (a : α) (h : AH) : R.of (some a) h = .ok a h := rfl
@[simp] theorem of_none {α : Type} (h : AH) : (R.of none h : R α) = .no := rfl
def R.chk {α : Type} (c : Bool) (r : R α) : R α := if c then r else .no
@[simp] theorem chk_true {α : Type} (r : R α) : R.chk true r = r := rfl
@[simp] theorem chk_false {α : Type} (r : R α) : R.chk false r = .no := rfl

/-! ### data -/
def lstH (h : AH) : D → Option (List D)
  | .lst xs => some xs
  | .loc l => match h[l]? with
    | some (.lst xs) => some xs
    | _ => none
  | _ => none
def seqH (h : AH) : D → Option (List D)
  | .tup xs => some xs
  | .scr xs => some xs
  | d => lstH h d
/-- a new list: as a value, or as an object -/
def mkL (fz : Bool) (xs : List D) (h : AH) : R D := if fz then .ok (.lst xs) h else .ok (.loc h.length) (h ++ [.lst xs])
@[simp] theorem mkL_t (xs : List D) (h : AH) : mkL true xs h = .ok (.lst xs) h := rfl
@[simp] theorem mkL_f (xs : List D) (h : AH) : mkL false xs h = .ok (.loc h.length) (h ++ [.lst xs]) := rfl
def truth (h : AH) : D → Option Bool
  | .non => some false
  | .bl b => some b
  | .int i => some (i != 0)
  | .str x => if x.length ≤ big then some (!x.isEmpty) else none
  | .tup xs => some (!xs.isEmpty)
  | .lst xs => some (!xs.isEmpty)
  | .loc l => match h[l]? with
    | some (.lst xs) => some (!xs.isEmpty)
    | some (.dic ks _) => some (!ks.isEmpty)
    | _ => none
  | _ => none
/-- Python's place -/
def ixN (n : Nat) (i : Int) : Option Nat := if 0 ≤ i then (if i < n then some i.toNat else none) else if -(n : Int) ≤ i then some (i + n).toNat else none
def at? {α : Type} (xs : List α) (i : Int) : Option α := (ixN xs.length i).bind fun j => xs[j]?
def sIx (n d : Nat) : Option Int → Nat
  | none => d
  | some i => if i < 0 then (i + n).toNat else min i.toNat n
def cut {α : Type} (xs : List α) (lo hi : Option Int) : List α := (xs.drop (sIx xs.length 0 lo)).take (sIx xs.length xs.length hi - sIx xs.length 0 lo)

/-! ### expressions -/
def eV (i : Nat) : AE := fun e h => match e[i]? with
  | some (some d) => .ok d h
  | _ => .no
def eC (d : D) : AE := fun _ h => .ok d h
def e1 (f : D → AH → R D) (a : AE) : AE := fun e h => (a e h).bind f
def e2 (f : D → D → AH → R D) (a b : AE) : AE := fun e h => (a e h).bind fun x h1 => (b e h1).bind fun y h2 => f x y h2
def eL : List AE → AA
  | [] => fun _ h => .ok [] h
  | a :: as => fun e h => (a e h).bind fun x h1 => (eL as e h1).bind fun xs h2 => .ok (x :: xs) h2
def eA (f : List D → AH → R D) (as : AA) : AE := fun e h => (as e h).bind f
def eIf (t : AB) (a b : AE) : AE := fun e h => (t e h).bind fun c h1 => if c then a e h1 else b e h1
/-- and, or as values: the parts are bools -/
def eAnd (a b : AE) : AE := fun e h => (a e h).bind fun x h1 => match x with
  | .bl true => b e h1
  | .bl false => .ok (.bl false) h1
  | _ => .no
def eOr (a b : AE) : AE := fun e h => (a e h).bind fun x h1 => match x with
  | .bl true => .ok (.bl true) h1
  | .bl false => b e h1
  | _ => .no
def eNot (t : AB) : AE := fun e h => (t e h).bind fun c h1 => .ok (.bl (!c)) h1
/-- a op b op' c -/
def eChain (f g : D → D → AH → R D) (a b c : AE) : AE := fun e h => (a e h).bind fun x h1 => (b e h1).bind fun y h2 => (f x y h2).bind fun z h3 => match z with
  | .bl true => (c e h3).bind fun w h4 => g y w h4
  | .bl false => .ok (.bl false) h3
  | _ => .no
def notD (x : D) (h : AH) : R D := match x with
  | .bl b => .ok (.bl (!b)) h
  | _ => .no
/-! tests -/
def tB : D → Option Bool
  | .bl b => some b
  | _ => none
/-- an expression that gives True or False -/
def tB1 (a : AE) : AB := fun e h => (a e h).bind fun d h1 => R.of (tB d) h1
def tV (a : AE) : AB := fun e h => (a e h).bind fun d h1 => R.of (truth h1 d) h1
def tNot (t : AB) : AB := fun e h => (t e h).bind fun c h1 => .ok (!c) h1
def tAnd (t u : AB) : AB := fun e h => (t e h).bind fun c h1 => if c then u e h1 else .ok false h1
def tOr (t u : AB) : AB := fun e h => (t e h).bind fun c h1 => if c then .ok true h1 else u e h1
def tYes : AB := fun _ h => .ok true h

/-! ### operators by values -/
def cat (fz : Bool) (x y : D) (h : AH) : R D := match lstH h x with
  | some xs => match lstH h y with
    | some ys => R.chk (xs.length + ys.length ≤ big) (mkL fz (xs ++ ys) h)
    | none => .no
  | none => .no
def addD (fz : Bool) (x y : D) (h : AH) : R D := match x with
  | .int i => match y with
    | .int j => .ok (.int (i + j)) h
    | .bl b => .ok (.int (i + if b then 1 else 0)) h
    | _ => .no
  | .str a => match y with
    | .str b => R.chk (a.length + b.length ≤ big) (.ok (.str (a ++ b)) h)
    | _ => .no
  | .tup xs => match y with
    | .tup ys => R.chk (xs.length + ys.length ≤ big) (.ok (.tup (xs ++ ys)) h)
    | _ => .no
  | x => cat fz x y h
def iaddD (x y : D) (h : AH) : R D := match x with
  | .int i => match y with
    | .int j => .ok (.int (i + j)) h
    | _ => .no
  | .str a => match y with
    | .str b => R.chk (a.length + b.length ≤ big) (.ok (.str (a ++ b)) h)
    | _ => .no
  | _ => .no
def subD (x y : D) (h : AH) : R D := match x with
  | .int i => match y with
    | .int j => .ok (.int (i - j)) h
    | _ => .no
  | _ => .no
def small (i : Int) : Bool := match i with
  | .ofNat n => Nat.ble n 18446744073709551615
  | .negSucc n => Nat.ble n 18446744073709551614
theorem small_iff (i : Int) : small i = true ↔ -(2 ^ 64) < i ∧ i < 2 ^ 64 := by
  cases i with
  | ofNat n => show Nat.ble n _ = true ↔ _; rw [Nat.ble_eq]; simp only [Int.ofNat_eq_natCast]; omega
  | negSucc n => show Nat.ble n _ = true ↔ _; rw [Nat.ble_eq]; omega
def mulD (fz : Bool) (x y : D) (h : AH) : R D := match y with
  | .int j => match x with
    | .int i => R.chk (small i || small j) (.ok (.int (i * j)) h)
    | .tup xs => R.chk (decide (0 < xs.length ∧ xs.length ≤ 1000 ∧ 0 < j ∧ j ≤ 1000)) (.ok (.tup (List.replicate j.toNat xs).flatten) h)
    | x => match lstH h x with
      | some xs => R.chk (decide (-(2 ^ 63) ≤ j ∧ j < 2 ^ 63 ∧ xs.length * j.toNat ≤ big)) (mkL fz (List.replicate j.toNat xs).flatten h)
      | none => .no
  | _ => .no
/-- a divisor -/
def wideJ (j : Int) : Bool := match j with
  | .ofNat n => Nat.ble 1 n && Nat.ble n 10000000000000000000000000000000000000000000000000000000000000000000000000000000000000000000000000000
  | .negSucc _ => false
theorem wideJ_iff (j : Int) : wideJ j = true ↔ 0 < j ∧ j ≤ 10000000000000000000000000000000000000000000000000000000000000000000000000000000000000000000000000000 := by
  cases j with
  | ofNat n => show (Nat.ble 1 n && Nat.ble n _) = true ↔ _; rw [Bool.and_eq_true, Nat.ble_eq, Nat.ble_eq]; simp only [Int.ofNat_eq_natCast]; omega
  | negSucc n => show false = true ↔ _; simp
def fdivD (x y : D) (h : AH) : R D := match x with
  | .int i => match y with
    | .int j => R.chk (wideJ j) (.ok (.int (i / j)) h)
    | _ => .no
  | _ => .no
def modD (x y : D) (h : AH) : R D := match x with
  | .int i => match y with
    | .int j => R.chk (decide (0 < j)) (.ok (.int (i % j)) h)
    | _ => .no
  | _ => .no
def powD (x y : D) (h : AH) : R D := match x with
  | .int i => match y with
    | .int j => R.chk (decide (0 ≤ j ∧ j ≤ 1000000 ∧ i.natAbs < 2 ^ 64)) (.ok (.int (i ^ j.toNat)) h)
    | _ => .no
  | _ => .no
def negD (x : D) (h : AH) : R D := match x with
  | .int i => .ok (.int (-i)) h
  | _ => .no
def asInts : List D → Option (List Int)
  | [] => some []
  | .int i :: r => (asInts r).map (i :: ·)
  | _ :: _ => none
def lexLt : List Int → List Int → Bool
  | [], [] => false
  | [], _ :: _ => true
  | _ :: _, [] => false
  | x :: xs, y :: ys => if x = y then lexLt xs ys else decide (x < y)
def ltD (x y : D) (h : AH) : R D := match x with
  | .int i => match y with
    | .int j => .ok (.bl (decide (i < j))) h
    | _ => .no
  | .tup xs => match y with
    | .tup ys => match asInts xs with
      | some ns => match asInts ys with
        | some ms => .ok (.bl (lexLt ns ms)) h
        | none => .no
      | none => .no
    | _ => .no
  | _ => .no
def cmpI (p : Int → Int → Bool) (x y : D) (h : AH) : R D := match x with
  | .int i => match y with
    | .int j => .ok (.bl (p i j)) h
    | _ => .no
  | _ => .no
def leD : D → D → AH → R D := cmpI fun i j => decide (i ≤ j)
def gtD : D → D → AH → R D := cmpI fun i j => decide (j < i)
def geD : D → D → AH → R D := cmpI fun i j => decide (j ≤ i)
/-! ### == -/
def mapO {α β : Type} (f : α → Option β) : List α → Option (List β)
  | [] => some []
  | x :: xs => match f x with
    | some y => (mapO f xs).map (y :: ·)
    | none => none
def pd0 : D → Option D
  | .non => some .non
  | .bl b => some (.bl b)
  | .int i => some (.int i)
  | .str x => if x.all (fun c => decide (c < 1114112)) then some (.str x) else none
  | _ => none
/-- plain data, lists looked up in the heap; at most n deep -/
def pd (h : AH) : Nat → D → Option D
  | 0, d => pd0 d
  | n + 1, d => match d with
    | .tup xs => (mapO (pd h n) xs).map .tup
    | .lst xs => (mapO (pd h n) xs).map .lst
    | .loc l => match h[l]? with
      | some (.lst xs) => (mapO (pd h n) xs).map .lst
      | _ => none
    | d => pd0 d
mutual
def ev : D → D → Bool
  | .non, .non => true
  | .bl a, .bl b => a == b
  | .bl a, .int b => (if a then 1 else 0) == b
  | .int a, .bl b => a == (if b then 1 else 0)
  | .int a, .int b => a == b
  | .str a, .str b => a == b
  | .tup a, .tup b => evs a b
  | .lst a, .lst b => evs a b
  | _, _ => false
def evs : List D → List D → Bool
  | [], [] => true
  | x :: xs, y :: ys => ev x y && evs xs ys
  | _, _ => false
end
def scal : D → D → Bool
  | .non, .non => true | .non, .int _ => true | .int _, .non => true | .non, .bl _ => true | .bl _, .non => true | .non, .str _ => true | .str _, .non => true
  | .int _, .int _ => true | .bl _, .bl _ => true | .str _, .str _ => true
  | .int _, .str _ => true | .str _, .int _ => true | .bl _, .str _ => true | .str _, .bl _ => true
  | _, _ => false
def eqH (h : AH) (x y : D) : Option Bool := if scal x y then some (decide (x = y)) else match pd h 64 x with
  | some a => match pd h 64 y with
    | some b => some (ev a b)
    | none => none
  | none => none
def eqD (x y : D) (h : AH) : R D := (R.of (eqH h x y) h).bind fun b h => .ok (.bl b) h
def neD (x y : D) (h : AH) : R D := (R.of (eqH h x y) h).bind fun b h => .ok (.bl (!b)) h
def isNonD (x : D) (h : AH) : R D := .ok (.bl (decide (x = .non))) h
def notNonD (x : D) (h : AH) : R D := .ok (.bl (!decide (x = .non))) h
def flat : D → Bool
  | .non => true | .bl _ => true | .int _ => true | .str _ => true
  | _ => false
def inL (x : D) (ys : List D) : Bool := ys.any fun y => ev y x
/-- x in y: flat items -/
def inH (h : AH) (x y : D) : Option Bool := match seqH h y with
  | some ys => if flat x && ys.all flat then some (inL x ys) else none
  | none => none
def inD (x y : D) (h : AH) : R D := (R.of (inH h x y) h).bind fun b h => .ok (.bl b) h
def notInD (x y : D) (h : AH) : R D := (R.of (inH h x y) h).bind fun b h => .ok (.bl (!b)) h

/-! ### items, slices, lengths -/
def ixD (x i : D) (h : AH) : R D := match i with
  | .int i => match x with
    | .str s => R.chk (s.length ≤ big) ((R.of (at? s i) h).bind fun c h => .ok (.str [c]) h)
    | x => match seqH h x with
      | some xs => R.of (at? xs i) h
      | none => .no
  | _ => .no
/-- a slice's bound -/
abbrev AO1 := Env → AH → R (Option Int)
def oN : AO1 := fun _ h => .ok none h
def oS (a : AE) : AO1 := fun e h => (a e h).bind fun d h1 => match d with
  | .int i => .ok (some i) h1
  | _ => .no
def slD (fz : Bool) (x : D) (lo hi : Option Int) (h : AH) : R D := match x with
  | .str s => R.chk (s.length ≤ big) (.ok (.str (cut s lo hi)) h)
  | .tup xs => .ok (.tup (cut xs lo hi)) h
  | x => match lstH h x with
    | some xs => mkL fz (cut xs lo hi) h
    | none => .no
def eSl (fz : Bool) (a : AE) (lo hi : AO1) : AE := fun e h => (a e h).bind fun x h1 => (lo e h1).bind fun l h2 => (hi e h2).bind fun u h3 => slD fz x l u h3
def lenD (x : D) (h : AH) : R D := match x with
  | .str s => R.chk (s.length ≤ big) (.ok (.int s.length) h)
  | x => match seqH h x with
    | some xs => .ok (.int xs.length) h
    | none => .no
def absD (x : D) (h : AH) : R D := match x with
  | .int i => .ok (.int (if i < 0 then -i else i)) h
  | _ => .no
def intD (x : D) (h : AH) : R D := match x with
  | .int i => .ok (.int i) h
  | .bl b => .ok (.int (if b then 1 else 0)) h
  | _ => .no
def tupD (x : D) (h : AH) : R D := match seqH h x with
  | some xs => .ok (.tup xs) h
  | none => .no
def listD (fz : Bool) (x : D) (h : AH) : R D := match seqH h x with
  | some xs => mkL fz xs h
  | none => .no
/-- the name of a value's type, and which built-in types it has -/
def tyOf (h : AH) : D → Option String
  | .non => some "NoneType" | .bl _ => some "bool" | .int _ => some "int" | .str _ => some "str"
  | .tup _ => some "tuple" | .lst _ => some "list"
  | .loc l => match h[l]? with
    | some (.lst _) => some "list"
    | some (.dic _ _) => some "dict"
    | some (.dicT _ _) => some "dict"
    | _ => none
  | _ => none
def isTyB (t T : String) : Bool := t == T || (t == "bool" && T == "int")
def isTy (T : String) (x : D) (h : AH) : R D := (R.of (tyOf h x) h).bind fun t h => .ok (.bl (isTyB t T)) h
def insI (x : Int) : List Int → List Int
  | [] => [x]
  | y :: ys => if x ≤ y then x :: y :: ys else y :: insI x ys
def sortI : List Int → List Int
  | [] => []
  | x :: xs => insI x (sortI xs)
/-- sorted without what comes twice -/
def insU (x : Int) : List Int → List Int
  | [] => [x]
  | y :: ys => if x < y then x :: y :: ys else if x = y then y :: ys else y :: insU x ys
def sortU : List Int → List Int
  | [] => []
  | x :: xs => insU x (sortU xs)
/-- sorted(ints) -/
def sortedD (fz : Bool) (x : D) (h : AH) : R D := match lstH h x with
  | some xs => match asInts xs with
    | some ns => mkL fz ((sortI ns).map .int) h
    | none => .no
  | none => .no
/-- sorted(set(ints)) -/
def sortedSetD (fz : Bool) (x : D) (h : AH) : R D := match lstH h x with
  | some xs => match asInts xs with
    | some ns => R.chk (decide (ns.length < 4000 ∧ (sortU ns).length < 64)) (mkL fz ((sortU ns).map .int) h)
    | none => .no
  | none => .no

def on1 (f : D → AH → R D) : List D → AH → R D
  | [d] => f d
  | _ => fun _ => .no
def on2 (f : D → D → AH → R D) : List D → AH → R D
  | [d, e] => f d e
  | _ => fun _ => .no

/-! ### lists, tuples, dicts displayed -/
def eTup (as : AA) : AE := fun e h => (as e h).bind fun xs h1 => R.chk (decide (xs.length ≤ big)) (.ok (.tup xs) h1)
def eLst (fz : Bool) (as : AA) : AE := fun e h => (as e h).bind fun xs h1 => R.chk (decide (xs.length ≤ big)) (mkL fz xs h1)

/-! ### methods of lists -/
def isLst (h : AH) : D → Bool
  | .lst _ => true
  | .loc l => match h[l]? with
    | some (.lst _) => true
    | _ => false
  | _ => false
/-- o.m(..): the receiver is of the type that g asks -/
def eM (g : AH → D → Bool) (f : D → List D → AH → R D) (a : AE) (as : AA) : AE := fun e h => (a e h).bind fun d h1 => R.chk (g h1 d) ((as e h1).bind fun ds h2 => f d ds h2)
def mt0 (f : D → AH → R D) : D → List D → AH → R D
  | d, [] => f d
  | _, _ => fun _ => .no
def mt1 (f : D → D → AH → R D) : D → List D → AH → R D
  | d, [x] => f d x
  | _, _ => fun _ => .no
def mt2 (f : D → D → D → AH → R D) : D → List D → AH → R D
  | d, [x, y] => f d x y
  | _, _ => fun _ => .no
def onL (h : AH) (x : D) (f : Nat → List D → R D) : R D := match x with
  | .loc l => match h[l]? with
    | some (.lst xs) => f l xs
    | _ => .no
  | _ => .no
def appendD (x y : D) (h : AH) : R D := onL h x fun l xs => R.chk (decide (xs.length < big)) (.ok .non (h.set l (.lst (xs ++ [y]))))
def popD (x : D) (h : AH) : R D := onL h x fun l xs => (R.of xs[xs.length - 1]? h).bind fun y h => .ok y (h.set l (.lst xs.dropLast))
def popAtD (x i : D) (h : AH) : R D := match i with
  | .int i => onL h x fun l xs => R.chk (decide (-(2 ^ 63) ≤ i ∧ i < 2 ^ 63)) ((R.of (ixN xs.length i) h).bind fun k h => (R.of xs[k]? h).bind fun y h => .ok y (h.set l (.lst (xs.eraseIdx k))))
  | _ => .no
def extendD (x y : D) (h : AH) : R D := onL h x fun l xs => match y with
  | .loc l' => if l' = l then .no else match lstH h y with
    | some ys => R.chk (decide (xs.length + ys.length ≤ big)) (.ok .non (h.set l (.lst (xs ++ ys))))
    | none => .no
  | .lst ys => R.chk (decide (xs.length + ys.length ≤ big)) (.ok .non (h.set l (.lst (xs ++ ys))))
  | .tup ys => R.chk (decide (xs.length + ys.length ≤ big)) (.ok .non (h.set l (.lst (xs ++ ys))))
  | _ => .no
def setIxD (x i v : D) (h : AH) : R D := match i with
  | .int i => onL h x fun l xs => (R.of (ixN xs.length i) h).bind fun k h => .ok .non (h.set l (.lst (xs.set k v)))
  | _ => .no

/-! ### dicts, index -/
def kD : D → Option K1
  | .int i => some (.i i)
  | .str x => some (.s x)
  | _ => none
def indexD (x y : D) (h : AH) : R D := match lstH h x with
  | some ys => if flat y && ys.all flat then (R.of (ys.findIdx? fun z => ev z y) h).bind fun j h => .ok (.int j) h else .no
  | none => .no
def putA {κ : Type} [DecidableEq κ] (kvs : List (κ × D)) (k : κ) (v : D) : List (κ × D) :=
  if (kvs.any fun kv => decide (kv.1 = k)) = true then kvs.map (fun kv => if kv.1 = k then (kv.1, v) else kv) else kvs ++ [(k, v)]
def getA {κ : Type} [DecidableEq κ] (kvs : List (κ × D)) (k : κ) : Option D := (kvs.find? fun kv => decide (kv.1 = k)).map (·.2)
def mkDic (fz : Bool) (kvs : List (K1 × D)) (h : AH) : R D := if fz then .ok (.dic (kvs.map (·.1)) (kvs.map (·.2))) h else .ok (.loc h.length) (h ++ [.dic (kvs.map (·.1)) (kvs.map (·.2))])
def eKVs : List (AE × AE) → Env → AH → R (List (K1 × D))
  | [] => fun _ h => .ok [] h
  | (a, b) :: r => fun e h => (a e h).bind fun x h1 => (b e h1).bind fun y h2 => (R.of (kD x) h2).bind fun k h2 => (eKVs r e h2).bind fun kvs h3 => .ok ((k, y) :: kvs) h3
/-- {k: v, ..} -/
def eDisp (fz : Bool) (ps : List (AE × AE)) : AE := fun e h => (eKVs ps e h).bind fun kvs h1 => mkDic fz (kvs.foldl (fun acc kv => putA acc kv.1 kv.2) []) h1
def dicH (h : AH) : D → Option (List (K1 × D))
  | .dic ks ds => some (ks.zip ds)
  | .loc l => match h[l]? with
    | some (.dic ks ds) => some (ks.zip ds)
    | _ => none
  | _ => none
def isDic (h : AH) (d : D) : Bool := (dicH h d).isSome
def lookD (x y : D) (h : AH) : R (Option D) := match dicH h x with
  | some kvs => match kD y with
    | some k => .ok (getA kvs k) h
    | none => .no
  | none => .no
def eGet1 (a b : AE) : AE := fun e h => (a e h).bind fun x h1 => R.chk (isDic h1 x) ((b e h1).bind fun y h2 => (lookD x y h2).bind fun o h2 => .ok (o.getD .non) h2)
def eGet2 (a b c : AE) : AE := fun e h => (a e h).bind fun x h1 => R.chk (isDic h1 x) ((b e h1).bind fun y h2 => (c e h2).bind fun z h3 => (lookD x y h3).bind fun o h3 => .ok (o.getD z) h3)
def dixD (x y : D) (h : AH) : R D := (lookD x y h).bind fun o h => R.of o h
def dinD (y x : D) (h : AH) : R D := (lookD x y h).bind fun o h => .ok (.bl o.isSome) h
def dninD (y x : D) (h : AH) : R D := (lookD x y h).bind fun o h => .ok (.bl (!o.isSome)) h

/-! ### statements -/
def sB : List AS → AS
  | [] => fun e h => .ok (.nx e) h
  | s :: ss => fun e h => (s e h).bind fun f h1 => match f with
    | .nx e1 => sB ss e1 h1
    | f => .ok f h1
/-- an expression within a statement: an error leaves with the names as they stand -/
def up {α : Type} (e : Env) (r : R α) (k : α → AH → R Fl) : R Fl := match r with
  | .ok a h => k a h
  | .exc x h => .ok (.ex x e) h
  | .no => .no
@[simp] theorem up_ok {α : Type} (e : Env) (a : α) (h : AH) (k : α → AH → R Fl) : up e (.ok a h) k = k a h := rfl
@[simp] theorem up_exc {α : Type} (e : Env) (x : Ex) (h : AH) (k : α → AH → R Fl) : up e (.exc x h) k = .ok (.ex x e) h := rfl
@[simp] theorem up_no {α : Type} (e : Env) (k : α → AH → R Fl) : up e .no k = .no := rfl
def sE (a : AE) : AS := fun e h => up e (a e h) fun _ h1 => .ok (.nx e) h1
def sSet (i : Nat) (a : AE) : AS := fun e h => up e (a e h) fun d h1 => .ok (.nx (e.set i (some d))) h1
/-- o[i] = v -/
def sSub (f : D → D → D → AH → R D) (o i v : AE) : AS := fun e h => up e ((v e h).bind fun z h1 => (o e h1).bind fun x h2 => (i e h2).bind fun y h3 => f x y z h3) fun _ h4 => .ok (.nx e) h4
def sAug (i : Nat) (f : D → D → AH → R D) (a : AE) : AS := fun e h => match e[i]? with
  | some (some x) => up e ((a e h).bind fun y h1 => f x y h1) fun z h2 => .ok (.nx (e.set i (some z))) h2
  | _ => .no
def sIf (t : AB) (a b : AS) : AS := fun e h => up e (t e h) fun c h1 => if c then a e h1 else b e h1
def sRet (a : AE) : AS := fun e h => up e (a e h) fun d h1 => .ok (.rt d) h1
def sRetN : AS := fun _ h => .ok (.rt .non) h
def sBrk : AS := fun e h => .ok (.bk e) h
def sCt : AS := fun e h => .ok (.ct e) h
def sPass : AS := fun e h => .ok (.nx e) h
def sNo : AS := fun _ _ => .no
def gV (i : Nat) : AG := fun d e h => .ok (e.set i (some d)) h
def gTs : List AG → List D → Env → AH → R Env
  | [], [] => fun e h => .ok e h
  | g :: gs, d :: ds => fun e h => (g d e h).bind fun e1 h1 => gTs gs ds e1 h1
  | _, _ => fun _ _ => .no
/-- a, b = a tuple -/
def gT (gs : List AG) : AG := fun d e h => match d with
  | .tup ds => R.chk (decide (ds.length = gs.length)) (gTs gs ds e h)
  | _ => .no
def sAsg (g : AG) (a : AE) : AS := fun e h => up e (a e h) fun d h1 => (g d e h1).bind fun e1 h2 => .ok (.nx e1) h2

/-! ### loops -/
def iS (a : AE) : AI := fun e h => (a e h).bind fun d h1 => match d with
  | .loc l => match h1[l]? with
    | some (.lst _) => .ok (.live l) h1
    | _ => .no
  | d => match seqH h1 d with
    | some xs => .ok (.lst xs) h1
    | none => .no
def rng (lo : Int) (n : Nat) : List D := (List.range n).map fun (k : Nat) => .int (lo + k)
def inI (i : Int) : Bool := match i with
  | .ofNat n => Nat.ble n 4611686018427387903
  | .negSucc n => Nat.ble n 4611686018427387903
theorem inI_iff (i : Int) : inI i = true ↔ -(2 ^ 62) ≤ i ∧ i < 2 ^ 62 := by
  cases i with
  | ofNat n => show Nat.ble n _ = true ↔ _; rw [Nat.ble_eq]; simp only [Int.ofNat_eq_natCast]; omega
  | negSucc n => show Nat.ble n _ = true ↔ _; rw [Nat.ble_eq]; omega
def iR1 (a : AE) : AI := fun e h => (a e h).bind fun d h1 => match d with
  | .int j => R.chk (inI j) (.ok (.lst (rng 0 j.toNat)) h1)
  | _ => .no
def iR2 (a b : AE) : AI := fun e h => (a e h).bind fun x h1 => (b e h1).bind fun y h2 => match x with
  | .int i => match y with
    | .int j => R.chk (inI i && inI j) (.ok (.lst (rng i (j - i).toNat)) h2)
    | _ => .no
  | _ => .no
/-- one turn behind another: what a body's end does to a loop -/
def turn (f : Fl) (h : AH) (k : Env → AH → R Fl) : R Fl := match f with
  | .nx e => k e h
  | .ct e => k e h
  | .bk e => .ok (.nx e) h
  | .rt d => .ok (.rt d) h
  | .ex x e => .ok (.ex x e) h
/-- the i-th item (none: no list there; some none: the end) -/
def nxt (s : Src) (i : Nat) (h : AH) : Option (Option D) := match s with
  | .lst xs => some xs[i]?
  | .live l => match h[l]? with
    | some (.lst xs) => some xs[i]?
    | _ => none
def Src.fuel : Src → Nat
  | .lst xs => xs.length + 1
  | .live _ => big + 2
def forN (g : AG) (b : AS) (s : Src) : Nat → Nat → AS
  | 0, _, _, _ => .no
  | n + 1, i, e, h => match nxt s i h with
    | none => .no
    | some none => .ok (.nx e) h
    | some (some x) => (g x e h).bind fun e1 h1 => (b e1 h1).bind fun f h2 => turn f h2 (forN g b s n (i + 1))
def sFor (it : AI) (g : AG) (b : AS) : AS := fun e h => up e (it e h) fun s h1 => forN g b s s.fuel 0 e h1
def whileN (t : AB) (b : AS) : Nat → AS
  | 0, _, _ => .no
  | n + 1, e, h => up e (t e h) fun c h1 => if c then (b e h1).bind fun f h2 => turn f h2 (whileN t b n) else .ok (.nx e) h1
def sWhile (t : AB) (b : AS) : AS := whileN t b (2 ^ 40)
/-- no error within -/
def R.nox {α : Type} (r : R α) : R α := match r with
  | .ok a h => .ok a h
  | _ => .no
@[simp] theorem nox_ok {α : Type} (a : α) (h : AH) : (R.ok a h).nox = .ok a h := rfl
@[simp] theorem nox_exc {α : Type} (x : Ex) (h : AH) : (R.exc x h : R α).nox = .no := rfl
@[simp] theorem nox_no {α : Type} : (R.no : R α).nox = .no := rfl
/-- a comprehension's turns: what it has made is kept apart -/
def lcN (g : AG) (t : AB) (a : AE) (e0 : Env) (s : Src) : Nat → Nat → List D → AH → R (List D)
  | 0, _, _, _ => .no
  | n + 1, i, acc, h => match nxt s i h with
    | none => .no
    | some none => .ok acc h
    | some (some x) => (g x e0 h).nox.bind fun e1 h1 => (t e1 h1).nox.bind fun c h2 => if c then (a e1 h2).nox.bind fun y h3 => R.chk (decide (acc.length < big)) (lcN g t a e0 s n (i + 1) (acc ++ [y]) h3) else lcN g t a e0 s n (i + 1) acc h2
def wipeE (e : Env) : List Nat → Env
  | [] => e
  | v :: vs => (wipeE e vs).set v none
/-- [a for g in it if t] -/
def eLC (fz : Bool) (own : List Nat) (it : AI) (g : AG) (t : AB) (a : AE) : AE := fun e h => (it e h).bind fun s h1 => (lcN g t a (wipeE e own) s s.fuel 0 [] h1).bind fun ys h2 => mkL fz ys h2

/-! ### insert, reversed, max, min, sum, list(range(..)) -/
def insertD (x i y : D) (h : AH) : R D := match i with
  | .int i => onL h x fun l xs => R.chk (decide (xs.length < big ∧ 0 ≤ i ∧ i < 2 ^ 63)) (.ok .non (h.set l (.lst (xs.take i.toNat ++ [y] ++ xs.drop i.toNat))))
  | _ => .no
def revD (fz : Bool) (x : D) (h : AH) : R D := match lstH h x with
  | some xs => mkL fz xs.reverse h
  | none => .no
def max2D (x y : D) (h : AH) : R D := match x with
  | .int i => match y with
    | .int j => .ok (.int (if j > i then j else i)) h
    | _ => .no
  | _ => .no
def min2D (x y : D) (h : AH) : R D := match x with
  | .int i => match y with
    | .int j => .ok (.int (if j < i then j else i)) h
    | _ => .no
  | _ => .no
def maxI : List Int → Int
  | [] => 0
  | [x] => x
  | x :: xs => max x (maxI xs)
def minI : List Int → Int
  | [] => 0
  | [x] => x
  | x :: xs => min x (minI xs)
def intsD (f : List Int → Option Int) (x : D) (h : AH) : R D := match lstH h x with
  | some xs => match asInts xs with
    | some ns => (R.of (f ns) h).bind fun i h => .ok (.int i) h
    | none => .no
  | none => .no
def sumF (ns : List Int) : Option Int := some ns.sum
def maxF (ns : List Int) : Option Int := if ns.isEmpty then none else some (maxI ns)
def minF (ns : List Int) : Option Int := if ns.isEmpty then none else some (minI ns)
/-- list(range(..)), tuple(range(..)) -/
def eLR (tup : Bool) (fz : Bool) (a b : AE) : AE := fun e h => (a e h).bind fun x h1 => (b e h1).bind fun y h2 => match x with
  | .int i => match y with
    | .int j => R.chk (inI i && inI j && decide ((j - i).toNat ≤ big)) (if tup then .ok (.tup (rng i (j - i).toNat)) h2 else mkL fz (rng i (j - i).toNat) h2)
    | _ => .no
  | _ => .no

/-! ### defs -/
/-! no object from n on within -/
mutual
def clo (n : Nat) : D → Bool
  | .loc l => decide (l < n)
  | .tup xs => clos n xs
  | .lst xs => clos n xs
  | .scr xs => clos n xs
  | .dic _ ds => clos n ds
  | .ins _ _ ds => clos n ds
  | _ => true
def clos (n : Nat) : List D → Bool
  | [] => true
  | x :: xs => clo n x && clos n xs
end
def cloO (n : Nat) : AO → Bool
  | .lst xs => clos n xs
  | .dic _ ds => clos n ds
  | .dicT _ ds => clos n ds
  | .ins _ _ ds => clos n ds
  | .set _ => true
/-- what stood before holds nothing new -/
def pre (n : Nat) (h h1 : AH) : Bool := (List.range n).all fun i => decide (h1[i]? = h[i]?) || (match h1[i]? with
  | some o => cloO n o
  | none => true)
/-- the value of what is held, whole -/
def frzD (h : AH) (n : Nat) : Nat → D → Option D
  | 0, d => if clo n d then some d else none
  | k + 1, d => if clo n d then some d else match d with
    | .loc l => match h[l]? with
      | some (.lst xs) => (mapO (frzD h n k) xs).map D.lst
      | some (.ins c ns ds) => (mapO (frzD h n k) ds).map (D.ins c ns)
      | _ => none
    | .tup xs => (mapO (frzD h n k) xs).map D.tup
    | .lst xs => (mapO (frzD h n k) xs).map D.lst
    | _ => none
/-- the value of a list object -/
def frz (n : Nat) (h : AH) : D → Option D
  | .loc l => if l < n then some (.loc l) else match h[l]? with
    | some (.lst xs) => if clos n xs then some (.lst xs) else frzD h n 8 (.loc l)
    | some (.ins c ns ds) => if clos n ds then some (.ins c ns ds) else frzD h n 8 (.loc l)
    | _ => none
  | d => if clo n d then some d else frzD h n 8 d
/-- a def's end: the objects made meanwhile are let go -/
def trim (h : AH) (r : R D) : R D := match r with
  | .ok d h1 => match frz h.length h1 d with
    | some d' => R.chk (pre h.length h h1) (.ok d' (h1.take h.length))
    | none => .no
  | .exc x h1 => R.chk (clos h.length x.ds && pre h.length h h1) (.exc x (h1.take h.length))
  | .no => .no
def fnR (r : R Fl) : R D := r.nox.bind fun f h => match f with
  | .rt d => .ok d h
  | .nx _ => .ok .non h
  | .ex x _ => .exc x h
  | _ => .no
def envOf (n : Nat) (ds : List D) : Env := ds.map some ++ List.replicate (n - ds.length) none
/-- a def of p parameters and n names: its objects kept -/
def fnK (p n : Nat) (b : AS) : AF := fun ds h => R.chk (decide (ds.length = p)) (fnR (b (envOf n ds) h))
/-- .. let go -/
def fnT (p n : Nat) (b : AS) : AF := fun ds h => R.chk (decide (ds.length = p)) (trim h (fnR (b (envOf n ds) h)))
end Sm
end

section
set_option Elab.async false
set_option linter.all false
set_option maxRecDepth 100000
set_option maxHeartbeats 1000000
/-! Sim: the hand layer's judgements told by plain computations (Abs). -/
namespace Sm
open PySem PySem.Spec PyProof.Rows L2

/-! ### what stands for what -/
/-- an error that is being handled: its name's slot, its address, class, dict, and what it is -/
structure Gx where
  i : Nat
  a : Addr
  u : Value
  d : Option Addr
  x : Ex
abbrev Gh := Option Gx
structure Tb where
  K : PySem.W.Frag
  mg : Str → Option Value
  g : Gh
  w : World
abbrev tb (X : Cx) (G : Gh) : Tb := ⟨X.K, X.mg, G, X.w⟩
/-- m: the objects' addresses; ex: addresses that nothing may lean on -/
structure Mp where
  m : List Addr
  ex : List Addr
def ts (x : List Nat) : Str := ⟨x.toArray⟩
def kOf : K1 → Key
  | .i k => .inl k
  | .s x => .inr (ts x)
/-- a list of the text's own top -/
def KL (K : PySem.W.Frag) (a : Addr) (xs : List V) : Prop := ∃ (o : Obj) (its : Array Value) (n : Nat), K.lookup a = some o ∧ o.cls = .type "list" ∧ o.dict = none ∧ o.data = .seq its n ∧ its.size ≤ sizeLine ∧ Vals xs its.toList
def KT (K : PySem.W.Frag) (a : Addr) (xs : List V) : Prop := ∃ (o : Obj) (its : Array Value) (n : Nat), K.lookup a = some o ∧ o.cls = .type "tuple" ∧ o.data = .seq its n ∧ its.size ≤ sizeLine ∧ Vals xs its.toList
def Off (M : Mp) (a : Addr) : Prop := a ∉ M.m ∧ a ∉ M.ex
def FL (M : Mp) (H : Hp) (a : Addr) (xs : List V) : Prop := Off M a ∧ H a = some (.lst xs)
def FS (K : PySem.W.Frag) (M : Mp) (H : Hp) (a : Addr) (xs : List V) : Prop := (Off M a ∧ Rd H a (.lst xs)) ∨ KL K a xs
def FT (K : PySem.W.Frag) (M : Mp) (H : Hp) (a : Addr) (xs : List V) : Prop := Off M a ∧ H a = some (.tup xs)
theorem FL.sq {K : PySem.W.Frag} {M : Mp} {H : Hp} {a : Addr} {xs : List V} (h : FL M H a xs) : SqL K H a xs := .inl (.inl h.2)
theorem FS.sq {K : PySem.W.Frag} {M : Mp} {H : Hp} {a : Addr} {xs : List V} (h : FS K M H a xs) : SqL K H a xs := h.elim (fun h => .inl h.2) .inr
theorem FT.sq {K : PySem.W.Frag} {M : Mp} {H : Hp} {a : Addr} {xs : List V} (h : FT K M H a xs) : SqT K H a xs := .inl (.inl h.2)
/-- an instance's attributes -/
def flds (ns : List String) (vs : List V) : List (Str × V) := (ns.map Str.ofString).zip vs
mutual
def Rep (T : Tb) (M : Mp) (H : Hp) : D → V → Prop
  | .non, v => v = .non
  | .bl b, v => v = .bl b
  | .int i, v => v = .int i
  | .str x, v => v = .str (ts x)
  | .ty n, v => v = .ty n
  | .tup ds, v => ∃ a vs, v = .ref a ∧ FT T.K M H a vs ∧ Reps T M H ds vs
  | .lst ds, v => ∃ a vs, v = .ref a ∧ FL M H a vs ∧ Reps T M H ds vs
  | .scr ds, v => ∃ a vs, v = .ref a ∧ FS T.K M H a vs ∧ Reps T M H ds vs
  | .dic ks ds, v => ∃ a vs, v = .ref a ∧ Off M a ∧ H a = some (.dK ((ks.map kOf).zip vs)) ∧ ks.length = ds.length ∧ Reps T M H ds vs
  | .ins c ns ds, v => ∃ a C dx vs, v = .ref a ∧ Off M a ∧ T.mg (Str.ofString c) = some (.ref C) ∧ H a = some (.ins C dx (flds ns vs)) ∧ ns.length = ds.length ∧ Reps T M H ds vs
  | .loc l, v => ∃ a, v = .ref a ∧ M.m[l]? = some a
def Reps (T : Tb) (M : Mp) (H : Hp) : List D → List V → Prop
  | [], vs => vs = []
  | d :: ds, vs => ∃ x xs, vs = x :: xs ∧ Rep T M H d x ∧ Reps T M H ds xs
end
def RepO (T : Tb) (M : Mp) (H : Hp) (a : Addr) : AO → Prop
  | .lst ds => ∃ vs, H a = some (.lst vs) ∧ Reps T M H ds vs
  | .dic ks ds => ∃ vs, H a = some (.dK ((ks.map kOf).zip vs)) ∧ ks.length = ds.length ∧ Reps T M H ds vs
  | .dicT ks ds => ∃ vs, H a = some (.dT ((ks.map fun k => k.map kOf).zip vs)) ∧ ks.length = ds.length ∧ Reps T M H ds vs
  | .ins c ns ds => ∃ C dx vs, T.mg (Str.ofString c) = some (.ref C) ∧ H a = some (.ins C dx (flds ns vs)) ∧ ns.length = ds.length ∧ Reps T M H ds vs
  | .set xs => ∃ (S : Int → Bool) (n : Nat), H a = some (SetO T.w a S n) ∧ (∀ j, S j = decide (j ∈ xs)) ∧ xs.Nodup ∧ n = xs.length
structure RelH (T : Tb) (M : Mp) (ah : AH) (H : Hp) : Prop where
  len : M.m.length = ah.length
  nd : M.m.Nodup
  off : ∀ a ∈ M.m, a ∉ M.ex
  exs : ∀ a ∈ M.ex, H a ≠ none
  obj : ∀ (l : Nat) (a : Addr) (o : AO), M.m[l]? = some a → ah[l]? = some o → RepO T M H a o
/-- what a computation does to the heap -/
structure Step (M : Mp) (H : Hp) (M' : Mp) (H' : Hp) : Prop where
  pre : ∃ r, M'.m = M.m ++ r ∧ ∀ a ∈ r, H a = none
  ex : ∃ r, M'.ex = M.ex ++ r ∧ ∀ a ∈ r, H a = none
  keep : ∀ a o, H a = some o → a ∉ M.m → H' a = some o
  there : ∀ a, H a ≠ none → H' a ≠ none
theorem Step.refl (M : Mp) (H : Hp) : Step M H M H := ⟨⟨[], by simp, by simp⟩, ⟨[], by simp, by simp⟩, fun _ _ h _ => h, fun _ h => h⟩
theorem Step.trans {M M1 M2 : Mp} {H H1 H2 : Hp} (a : Step M H M1 H1) (b : Step M1 H1 M2 H2) : Step M H M2 H2 := by
  obtain ⟨r, e, f⟩ := a.pre
  obtain ⟨r2, e2, f2⟩ := b.pre
  obtain ⟨u, k, g⟩ := a.ex
  obtain ⟨u2, k2, g2⟩ := b.ex
  have back : ∀ x, H1 x = none → H x = none := fun x hx => by
    cases q : H x with
    | none => rfl
    | some o => exact absurd hx (a.there x (by rw [q]; simp))
  refine ⟨⟨r ++ r2, by rw [e2, e, List.append_assoc], fun x hx => ?_⟩, ⟨u ++ u2, by rw [k2, k, List.append_assoc], fun x hx => ?_⟩, fun x o h hm => ?_, fun x h => b.there x (a.there x h)⟩
  · rcases List.mem_append.mp hx with hx | hx
    · exact f x hx
    · exact back x (f2 x hx)
  · rcases List.mem_append.mp hx with hx | hx
    · exact g x hx
    · exact back x (g2 x hx)
  · refine b.keep x o (a.keep x o h hm) fun hx => ?_
    rw [e] at hx
    rcases List.mem_append.mp hx with hx | hx
    · exact hm hx
    · rw [f x hx] at h; cases h
theorem Step.get {M M' : Mp} {H H' : Hp} (s : Step M H M' H') {l : Nat} {a : Addr} (h : M.m[l]? = some a) : M'.m[l]? = some a := by
  obtain ⟨r, e, _⟩ := s.pre
  rw [e, List.getElem?_append_left (List.getElem?_eq_some_iff.mp h).1]
  exact h
theorem Step.offOf {M M' : Mp} {H H' : Hp} (s : Step M H M' H') {a : Addr} {o : HO} (h : H a = some o) (f : Off M a) : Off M' a := by
  obtain ⟨r, e, g⟩ := s.pre
  obtain ⟨u, k, g2⟩ := s.ex
  refine ⟨fun hm => ?_, fun hm => ?_⟩
  · rw [e] at hm
    rcases List.mem_append.mp hm with hm | hm
    · exact f.1 hm
    · rw [g a hm] at h; cases h
  · rw [k] at hm
    rcases List.mem_append.mp hm with hm | hm
    · exact f.2 hm
    · rw [g2 a hm] at h; cases h
theorem Step.rd {M M' : Mp} {H H' : Hp} (s : Step M H M' H') {a : Addr} {u : HO} (h : Rd H a u) (f : Off M a) : Rd H' a u ∧ Off M' a := by
  rcases h with h | ⟨o, h⟩
  · exact ⟨.inl (s.keep a _ h f.1), s.offOf h f⟩
  · exact ⟨.inr ⟨o, s.keep a _ h f.1⟩, s.offOf h f⟩
section
variable {T : Tb} {M M' : Mp} {H H' : Hp}
/-- the same value stands for the same datum -/
structure Mono (M M' : Mp) (H H' : Hp) : Prop where
  get : ∀ (l : Nat) (a : Addr), M.m[l]? = some a → M'.m[l]? = some a
  off : ∀ a o, Off M a → H a = some o → Off M' a
  keep : ∀ a o, Off M a → H a = some o → H' a = some o
theorem Step.mono (s : Step M H M' H') : Mono M M' H H' := ⟨fun _ _ h => s.get h, fun _ _ f h => s.offOf h f, fun _ _ f h => s.keep _ _ h f.1⟩
theorem Mono.rd (s : Mono M M' H H') {a : Addr} {u : HO} (h : Rd H a u) (f : Off M a) : Off M' a ∧ Rd H' a u := by
  rcases h with h | ⟨o, h⟩
  · exact ⟨s.off a _ f h, .inl (s.keep a _ f h)⟩
  · exact ⟨s.off a _ f h, .inr ⟨o, s.keep a _ f h⟩⟩
theorem FL.mono (s : Mono M M' H H') {a : Addr} {xs : List V} (h : FL M H a xs) : FL M' H' a xs := ⟨s.off a _ h.1 h.2, s.keep a _ h.1 h.2⟩
theorem FS.mono (s : Mono M M' H H') {a : Addr} {xs : List V} (h : FS T.K M H a xs) : FS T.K M' H' a xs := h.elim (fun h => .inl (s.rd h.2 h.1)) .inr
theorem FT.mono (s : Mono M M' H H') {a : Addr} {xs : List V} (h : FT T.K M H a xs) : FT T.K M' H' a xs := ⟨s.off a _ h.1 h.2, s.keep a _ h.1 h.2⟩
mutual
theorem Rep.mono (s : Mono M M' H H') : ∀ {d : D} {v : V}, Rep T M H d v → Rep T M' H' d v
  | .non, _, h => by simpa [Rep] using h
  | .bl _, _, h => by simpa [Rep] using h
  | .int _, _, h => by simpa [Rep] using h
  | .str _, _, h => by simpa [Rep] using h
  | .ty _, _, h => by simpa [Rep] using h
  | .tup ds, v, h => by
    rw [Rep] at h ⊢
    obtain ⟨a, vs, e, f, r⟩ := h
    exact ⟨a, vs, e, f.mono s, Reps.mono s r⟩
  | .lst ds, v, h => by
    rw [Rep] at h ⊢
    obtain ⟨a, vs, e, f, r⟩ := h
    exact ⟨a, vs, e, f.mono s, Reps.mono s r⟩
  | .scr ds, v, h => by
    rw [Rep] at h ⊢
    obtain ⟨a, vs, e, f, r⟩ := h
    exact ⟨a, vs, e, f.mono s, Reps.mono s r⟩
  | .dic ks ds, v, h => by
    rw [Rep] at h ⊢
    obtain ⟨a, vs, e, f, g, z, r⟩ := h
    exact ⟨a, vs, e, s.off a _ f g, s.keep a _ f g, z, Reps.mono s r⟩
  | .ins c ns ds, v, h => by
    rw [Rep] at h ⊢
    obtain ⟨a, C, dx, vs, e, f, g, k, z, r⟩ := h
    exact ⟨a, C, dx, vs, e, s.off a _ f k, g, s.keep a _ f k, z, Reps.mono s r⟩
  | .loc l, v, h => by
    rw [Rep] at h ⊢
    obtain ⟨a, e, f⟩ := h
    exact ⟨a, e, s.get l a f⟩
theorem Reps.mono (s : Mono M M' H H') : ∀ {ds : List D} {vs : List V}, Reps T M H ds vs → Reps T M' H' ds vs
  | [], _, h => by simpa [Reps] using h
  | d :: ds, vs, h => by
    rw [Reps] at h ⊢
    obtain ⟨x, xs, e, f, g⟩ := h
    exact ⟨x, xs, e, Rep.mono s f, Reps.mono s g⟩
end
theorem Rep.step (s : Step M H M' H') {d : D} {v : V} (h : Rep T M H d v) : Rep T M' H' d v := h.mono s.mono
theorem Reps.step (s : Step M H M' H') {ds : List D} {vs : List V} (h : Reps T M H ds vs) : Reps T M' H' ds vs := h.mono s.mono
theorem Reps.length : ∀ {ds : List D} {vs : List V}, Reps T M H ds vs → ds.length = vs.length
  | [], _, h => by rw [Reps] at h; subst h; rfl
  | d :: ds, vs, h => by
    rw [Reps] at h
    obtain ⟨x, xs, rfl, _, g⟩ := h
    simp [Reps.length g]
theorem Reps.get : ∀ {ds : List D} {vs : List V} {i : Nat} {d : D}, Reps T M H ds vs → ds[i]? = some d → ∃ v, vs[i]? = some v ∧ Rep T M H d v
  | [], _, _, _, _, e => by simp at e
  | x :: ds, vs, 0, d, h, e => by
    rw [Reps] at h
    obtain ⟨y, ys, rfl, f, g⟩ := h
    simp at e; subst e
    exact ⟨y, rfl, f⟩
  | x :: ds, vs, i + 1, d, h, e => by
    rw [Reps] at h
    obtain ⟨y, ys, rfl, f, g⟩ := h
    simp at e
    obtain ⟨v, e1, e2⟩ := Reps.get g e
    exact ⟨v, by simpa using e1, e2⟩
theorem Reps.nil : Reps T M H [] [] := by rw [Reps]
theorem Reps.cons {d : D} {ds : List D} {v : V} {vs : List V} (h : Rep T M H d v) (g : Reps T M H ds vs) : Reps T M H (d :: ds) (v :: vs) := by
  rw [Reps]; exact ⟨v, vs, rfl, h, g⟩
theorem Reps.app : ∀ {ds es : List D} {vs us : List V}, Reps T M H ds vs → Reps T M H es us → Reps T M H (ds ++ es) (vs ++ us)
  | [], _, _, _, h, g => by rw [Reps] at h; subst h; exact g
  | d :: ds, es, vs, us, h, g => by
    rw [Reps] at h
    obtain ⟨x, xs, rfl, f, k⟩ := h
    exact Reps.cons f (Reps.app k g)
theorem Reps.take : ∀ (n : Nat) {ds : List D} {vs : List V}, Reps T M H ds vs → Reps T M H (ds.take n) (vs.take n)
  | 0, _, _, _ => by simpa using Reps.nil
  | n + 1, [], _, h => by rw [Reps] at h; subst h; simpa using Reps.nil
  | n + 1, d :: ds, vs, h => by
    rw [Reps] at h
    obtain ⟨x, xs, rfl, f, k⟩ := h
    exact Reps.cons f (Reps.take n k)
theorem Reps.drop : ∀ (n : Nat) {ds : List D} {vs : List V}, Reps T M H ds vs → Reps T M H (ds.drop n) (vs.drop n)
  | 0, _, _, h => h
  | n + 1, [], _, h => by rw [Reps] at h; subst h; simpa using Reps.nil
  | n + 1, d :: ds, vs, h => by
    rw [Reps] at h
    obtain ⟨x, xs, rfl, f, k⟩ := h
    exact Reps.drop n k
theorem Reps.set {x : D} {v : V} (hx : Rep T M H x v) : ∀ (i : Nat) {ds : List D} {vs : List V}, Reps T M H ds vs → Reps T M H (ds.set i x) (vs.set i v)
  | _, [], _, h => by rw [Reps] at h; subst h; simpa using Reps.nil
  | 0, d :: ds, vs, h => by
    rw [Reps] at h
    obtain ⟨y, ys, rfl, f, k⟩ := h
    exact Reps.cons hx k
  | i + 1, d :: ds, vs, h => by
    rw [Reps] at h
    obtain ⟨y, ys, rfl, f, k⟩ := h
    exact Reps.cons f (Reps.set hx i k)
theorem Reps.erase : ∀ (i : Nat) {ds : List D} {vs : List V}, Reps T M H ds vs → Reps T M H (ds.eraseIdx i) (vs.eraseIdx i)
  | _, [], _, h => by rw [Reps] at h; subst h; simpa using Reps.nil
  | 0, d :: ds, vs, h => by
    rw [Reps] at h
    obtain ⟨y, ys, rfl, f, k⟩ := h
    exact k
  | i + 1, d :: ds, vs, h => by
    rw [Reps] at h
    obtain ⟨y, ys, rfl, f, k⟩ := h
    exact Reps.cons f (Reps.erase i k)
theorem Reps.dropLast : ∀ {ds : List D} {vs : List V}, Reps T M H ds vs → Reps T M H ds.dropLast vs.dropLast := fun {ds vs} h => by
  rw [List.dropLast_eq_take, List.dropLast_eq_take, h.length]
  exact h.take _
theorem Reps.rep {ds : List D} {vs : List V} (h : Reps T M H ds vs) : ∀ n : Nat, Reps T M H (List.replicate n ds).flatten (List.replicate n vs).flatten
  | 0 => by simpa using Reps.nil
  | n + 1 => by
    rw [List.replicate_succ, List.replicate_succ, List.flatten_cons, List.flatten_cons]
    exact h.app (Reps.rep h n)
theorem Reps.ints : ∀ {ds : List D} {vs : List V} {ns : List Int}, Reps T M H ds vs → asInts ds = some ns → ds = ns.map .int ∧ vs = ns.map .int
  | [], vs, ns, h, e => by rw [Reps] at h; simp [asInts] at e; subst h e; exact ⟨rfl, rfl⟩
  | d :: ds, vs, ns, h, e => by
    rw [Reps] at h
    obtain ⟨x, xs, rfl, f, k⟩ := h
    cases d with
    | int i =>
      simp only [asInts, Option.map_eq_some_iff] at e
      obtain ⟨ms, e1, rfl⟩ := e
      obtain ⟨h1, h2⟩ := Reps.ints k e1
      rw [Rep] at f
      subst f
      rw [h1, h2]
      exact ⟨rfl, rfl⟩
    | _ => simp [asInts] at e
theorem Reps.ofInts : ∀ ns : List Int, Reps T M H (ns.map .int) (ns.map .int)
  | [] => Reps.nil
  | n :: ns => Reps.cons (by rw [Rep]) (Reps.ofInts ns)
end
/-! ### the heap's steps -/
section
variable {T : Tb} {M M' : Mp} {ah : AH} {H H' : Hp}
theorem RepO.lives {a : Addr} {o : AO} (h : RepO T M H a o) : H a ≠ none := by
  cases o with
  | lst ds => obtain ⟨vs, e, _⟩ := h; rw [e]; simp
  | dic ks ds => obtain ⟨vs, e, _⟩ := h; rw [e]; simp
  | dicT ks ds => obtain ⟨vs, e, _⟩ := h; rw [e]; simp
  | ins c ns ds => obtain ⟨C, dx, vs, _, e, _⟩ := h; rw [e]; simp
  | set xs => obtain ⟨S, n, e, _⟩ := h; rw [e]; simp
theorem RepO.mono (s : Mono M M' H H') {a : Addr} {o : AO} (k : H' a = H a) (h : RepO T M H a o) : RepO T M' H' a o := by
  cases o with
  | lst ds => obtain ⟨vs, e, r⟩ := h; exact ⟨vs, k.trans e, r.mono s⟩
  | dic ks ds => obtain ⟨vs, e, z, r⟩ := h; exact ⟨vs, k.trans e, z, r.mono s⟩
  | dicT ks ds => obtain ⟨vs, e, z, r⟩ := h; exact ⟨vs, k.trans e, z, r.mono s⟩
  | ins c ns ds => obtain ⟨C, dx, vs, g, e, z, r⟩ := h; exact ⟨C, dx, vs, g, k.trans e, z, r.mono s⟩
  | set xs => obtain ⟨S, n, e, z⟩ := h; exact ⟨S, n, k.trans e, z⟩
theorem RepO.step (s : Step M H M' H') {a : Addr} {o : AO} (k : H' a = H a) (h : RepO T M H a o) : RepO T M' H' a o := h.mono s.mono k
theorem RelH.at_ (q : RelH T M ah H) {l : Nat} {a : Addr} (h : M.m[l]? = some a) : ∃ o, ah[l]? = some o ∧ RepO T M H a o := by
  have hl : l < ah.length := by rw [← q.len]; exact (List.getElem?_eq_some_iff.mp h).1
  exact ⟨ah[l], List.getElem?_eq_getElem hl, q.obj l a _ h (List.getElem?_eq_getElem hl)⟩
theorem RelH.lives (q : RelH T M ah H) {a : Addr} (h : a ∈ M.m) : H a ≠ none := by
  obtain ⟨l, e⟩ := List.mem_iff_getElem?.mp h
  obtain ⟨o, _, r⟩ := q.at_ e
  exact r.lives
theorem RelH.offNew (q : RelH T M ah H) {p : Addr} (h : H p = none) : Off M p := ⟨fun z => q.lives z h, fun z => q.exs p z h⟩
/-- the objects are as they were -/
theorem RelH.same (q : RelH T M ah H) (s : Step M H M H') (k : ∀ a ∈ M.m, H' a = H a) : RelH T M ah H' :=
  ⟨q.len, q.nd, q.off, fun a h => s.there a (q.exs a h), fun l a o h g => (q.obj l a o h g).step s (k a (List.mem_of_getElem? h))⟩
theorem step_new {p : Addr} (o : HO) (h : H p = none) : Step M H M (upd H p o) :=
  ⟨⟨[], by simp, by simp⟩, ⟨[], by simp, by simp⟩, fun a u e _ => by rw [upd_ne (ne_of_none e h)]; exact e, fun a e => by
    by_cases z : a = p
    · rw [z, upd_same]; simp
    · rw [upd_ne z]; exact e⟩
theorem RelH.new (q : RelH T M ah H) {p : Addr} (o : HO) (h : H p = none) : RelH T M ah (upd H p o) :=
  q.same (step_new o h) fun a z => upd_ne fun e => q.lives z (by rw [e]; exact h)
/-- a new object that is ours -/
theorem step_loc {p : Addr} (o : HO) (h : H p = none) : Step M H ⟨M.m ++ [p], M.ex⟩ (upd H p o) :=
  ⟨⟨[p], rfl, by simpa using h⟩, ⟨[], by simp, by simp⟩, (step_new (M := M) o h).keep, (step_new (M := M) o h).there⟩
theorem RelH.loc (q : RelH T M ah H) {p : Addr} {o : HO} {u : AO} (h : H p = none) (r : RepO T ⟨M.m ++ [p], M.ex⟩ (upd H p o) p u) : RelH T ⟨M.m ++ [p], M.ex⟩ (ah ++ [u]) (upd H p o) := by
  have f := q.offNew h
  refine ⟨by simp [q.len], ?_, fun a z => ?_, fun a z => (step_new (M := M) o h).there a (q.exs a z), fun l a x e g => ?_⟩
  · rw [List.nodup_append]
    exact ⟨q.nd, by simp, fun a ha b hb => by simp at hb; subst hb; exact fun z => f.1 (z ▸ ha)⟩
  · rcases List.mem_append.mp z with z | z
    · exact q.off a z
    · simp at z; subst z; exact f.2
  · by_cases hl : l < M.m.length
    · rw [List.getElem?_append_left hl] at e
      rw [List.getElem?_append_left (by rw [← q.len]; exact hl)] at g
      exact (q.obj l a x e g).step (step_loc o h) (upd_ne fun z => f.1 (z ▸ List.mem_of_getElem? e))
    · have : l < (M.m ++ [p]).length := (List.getElem?_eq_some_iff.mp e).1
      have hl2 : l = M.m.length := by simp at this; omega
      subst hl2
      rw [List.getElem?_append_right (Nat.le_refl _)] at e
      rw [List.getElem?_append_right (by rw [q.len]; exact Nat.le_refl _)] at g
      simp [q.len] at e g
      subst e g
      exact r
/-- an object of ours is changed -/
theorem RelH.put (q : RelH T M ah H) {l : Nat} {a : Addr} {o : HO} {u : AO} (h : M.m[l]? = some a) (r : Step M H M (upd H a o) → RepO T M (upd H a o) a u) : Step M H M (upd H a o) ∧ RelH T M (ah.set l u) (upd H a o) := by
  have hm := List.mem_of_getElem? h
  have s : Step M H M (upd H a o) := ⟨⟨[], by simp, by simp⟩, ⟨[], by simp, by simp⟩, fun b x e z => by rw [upd_ne (fun y => z (by rw [y]; exact hm))]; exact e, fun b e => by
    by_cases z : b = a
    · rw [z, upd_same]; simp
    · rw [upd_ne z]; exact e⟩
  refine ⟨s, by simp [q.len], q.nd, q.off, fun b z => s.there b (q.exs b z), fun l' b x e g => ?_⟩
  by_cases hl : l' = l
  · subst hl
    rw [h] at e; cases e
    have : l' < ah.length := by rw [← q.len]; exact (List.getElem?_eq_some_iff.mp h).1
    rw [List.getElem?_set_self this] at g
    cases g
    exact r s
  · rw [List.getElem?_set_ne (Ne.symm hl)] at g
    refine (q.obj l' b x e g).step s (upd_ne fun z => hl ?_)
    rw [z] at e
    exact nd_ix q.nd e h
end
/-! ### the judgements -/
/-- the class of an error -/
def ClsOf (T : Tb) (c : String) (u : Value) : Prop := (∃ C, T.mg (Str.ofString c) = some (.ref C) ∧ u = .ref C) ∨ (T.mg (Str.ofString c) = none ∧ u = .type c)
def ExRel (T : Tb) (M : Mp) (H : Hp) (x : Ex) (u : Value) (dx : Option Addr) : Prop := ClsOf T x.cls u ∧ x.ns.length = x.ds.length ∧ match dx with
  | none => x.ns = []
  | some d => ∃ vs, Off M d ∧ H d = some (.xd (flds x.ns vs)) ∧ Reps T M H x.ds vs
theorem ExRel.mono {T : Tb} {M M' : Mp} {H H' : Hp} (s : Mono M M' H H') {x : Ex} {u : Value} {dx : Option Addr} (h : ExRel T M H x u dx) : ExRel T M' H' x u dx := by
  refine ⟨h.1, h.2.1, ?_⟩
  have z := h.2.2
  cases dx with
  | none => exact z
  | some d =>
    obtain ⟨vs, f, e, r⟩ := z
    exact ⟨vs, s.off d _ f e, s.keep d _ f e, r.mono s⟩
structure Sta (T : Tb) (M : Mp) (e : Env) (ah : AH) (σ : L2.St) (H : Hp) : Prop where
  h : RelH T M ah H
  len : e.length = σ.length
  slot : ∀ (i : Nat) (d : D), e[i]? = some (some d) → ∃ v, σ[i]? = some (some v) ∧ Rep T M H d v
  gh : ∀ p, T.g = some p → σ[p.i]? = some (some (.ref p.a)) ∧ ExRel T M H p.x p.u p.d
theorem Sta.step {T : Tb} {M M' : Mp} {e : Env} {ah ah' : AH} {σ : L2.St} {H H' : Hp} (s : Sta T M e ah σ H) (t : Step M H M' H') (h : RelH T M' ah' H') : Sta T M' e ah' σ H' :=
  ⟨h, s.len, fun i d g => let ⟨v, a, b⟩ := s.slot i d g; ⟨v, a, b.step t⟩, fun p hp => ⟨(s.gh p hp).1, (s.gh p hp).2.mono t.mono⟩⟩
def Post {α : Type} (T : Tb) (W : XK) (M : Mp) (H : Hp) (P : α → Mp → AH → Hp → Prop) (r : R α) : Prop := match r with
  | .ok a ah => ∀ M' H', Step M H M' H' → RelH T M' ah H' → P a M' ah H'
  | .exc x ah => ∀ M' H' u dx, Step M H M' H' → RelH T M' ah H' → ExRel T M' H' x u dx → W u dx H'
  | .no => False
section
variable {α β : Type} {T : Tb} {W : XK} {M M' : Mp} {H H' : Hp}
theorem Post.step {P : α → Mp → AH → Hp → Prop} (s : Step M H M' H') : ∀ {r : R α}, Post T W M H P r → Post T W M' H' P r
  | .ok _ _, h => fun M2 H2 t q => h M2 H2 (s.trans t) q
  | .exc _ _, h => fun M2 H2 u dx t q x => h M2 H2 u dx (s.trans t) q x
  | .no, h => h
theorem Post.imp {P Q : α → Mp → AH → Hp → Prop} : ∀ {r : R α}, Post T W M H P r → (∀ a M' ah' H', Step M H M' H' → RelH T M' ah' H' → P a M' ah' H' → Q a M' ah' H') → Post T W M H Q r
  | .ok _ _, h, f => fun M2 H2 t q => f _ _ _ _ t q (h M2 H2 t q)
  | .exc _ _, h, _ => h
  | .no, h, _ => h
theorem Post.bind {P : β → Mp → AH → Hp → Prop} {f : α → AH → R β} : ∀ {r : R α}, Post T W M H P (r.bind f) → Post T W M H (fun a M1 ah1 H1 => Post T W M1 H1 P (f a ah1)) r
  | .ok _ _, h => fun _ _ t _ => Post.step t h
  | .exc _ _, h => h
  | .no, h => h
theorem Post.bindI {P : β → Mp → AH → Hp → Prop} {Q : α → Mp → AH → Hp → Prop} {f : α → AH → R β} {r : R α} (h : Post T W M H P (r.bind f))
    (k : ∀ a M' ah' H', Step M H M' H' → RelH T M' ah' H' → Post T W M' H' P (f a ah') → Q a M' ah' H') : Post T W M H Q r := h.bind.imp k
theorem Post.chk {P : α → Mp → AH → Hp → Prop} {c : Bool} {r : R α} (h : Post T W M H P (R.chk c r)) : c = true ∧ Post T W M H P r := by
  cases c with
  | true => exact ⟨rfl, h⟩
  | false => exact h.elim
theorem Post.of {P : α → Mp → AH → Hp → Prop} {o : Option α} {ah : AH} (h : Post T W M H P (R.of o ah)) : ∃ a, o = some a ∧ Post T W M H P (.ok a ah) := by
  cases o with
  | some a => exact ⟨a, rfl, h⟩
  | none => exact h.elim
/-- where nothing has happened -/
theorem Post.here {P : α → Mp → AH → Hp → Prop} {a : α} {ah : AH} (h : Post T W M H P (.ok a ah)) (q : RelH T M ah H) : P a M ah H := h M H (Step.refl M H) q
end
section
variable {T : Tb} {W : XK} {M : Mp} {ah : AH} {H : Hp} {Q : VK}
/-- what follows a value that is at hand -/
theorem Post.val {d : D} {v : V} (P : Post T W M H (fun d M' _ H' => ∀ v, Rep T M' H' d v → Q v H') (.ok d ah)) (q : RelH T M ah H) (r : Rep T M H d v) : Q v H := P M H (Step.refl M H) q v r
/-- a new list -/
theorem Post.mkL {fz : Bool} {ds : List D} {vs : List V} (P : Post T W M H (fun d M' _ H' => ∀ v, Rep T M' H' d v → Q v H') (Sm.mkL fz ds ah)) (q : RelH T M ah H) (r : Reps T M H ds vs) : ∀ p, H p = none → Q (.ref p) (upd H p (.lst vs)) := by
  intro p hp
  cases fz with
  | true =>
    have s := step_new (M := M) (.lst vs) hp
    refine P M _ s (q.new _ hp) _ ?_
    rw [Rep]
    exact ⟨p, vs, rfl, ⟨q.offNew hp, upd_same⟩, r.step s⟩
  | false =>
    have s := step_loc (M := M) (.lst vs) hp
    refine P _ _ s (q.loc hp ⟨vs, upd_same, r.step s⟩) _ ?_
    rw [Rep]
    refine ⟨p, rfl, ?_⟩
    show (M.m ++ [p])[ah.length]? = some p
    rw [← q.len]
    simp
/-- a new tuple -/
theorem Post.tup {ds : List D} {vs : List V} (P : Post T W M H (fun d M' _ H' => ∀ v, Rep T M' H' d v → Q v H') (.ok (.tup ds) ah)) (q : RelH T M ah H) (r : Reps T M H ds vs) : ∀ p, H p = none → Q (.ref p) (upd H p (.tup vs)) := by
  intro p hp
  have s := step_new (M := M) (.tup vs) hp
  refine P M _ s (q.new _ hp) _ ?_
  rw [Rep]
  exact ⟨p, vs, rfl, ⟨q.offNew hp, upd_same⟩, r.step s⟩
theorem rep_lst {x : D} {v : V} {ds : List D} (q : RelH T M ah H) (r : Rep T M H x v) (h : lstH ah x = some ds) : ∃ a vs, v = .ref a ∧ H a = some (.lst vs) ∧ Reps T M H ds vs := by
  cases x with
  | lst xs =>
    have e : xs = ds := Option.some.inj h
    subst e
    rw [Rep] at r
    obtain ⟨a, vs, e, f, g⟩ := r
    exact ⟨a, vs, e, f.2, g⟩
  | loc l =>
    rw [Rep] at r
    obtain ⟨a, e, f⟩ := r
    obtain ⟨o, g, k⟩ := q.at_ f
    simp only [lstH, g] at h
    cases o with
    | lst xs =>
      have e2 : xs = ds := Option.some.inj h
      subst e2
      obtain ⟨vs, k1, k2⟩ := k
      exact ⟨a, vs, e, k1, k2⟩
    | _ => cases h
  | _ => cases h
theorem rep_seq {x : D} {v : V} {ds : List D} (q : RelH T M ah H) (r : Rep T M H x v) (h : seqH ah x = some ds) : ∃ a vs, v = .ref a ∧ (SqL T.K H a vs ∨ SqT T.K H a vs) ∧ Reps T M H ds vs := by
  cases x with
  | tup xs =>
    have e : xs = ds := Option.some.inj h
    subst e
    rw [Rep] at r
    obtain ⟨a, vs, e, f, g⟩ := r
    exact ⟨a, vs, e, .inr f.sq, g⟩
  | scr xs =>
    have e : xs = ds := Option.some.inj h
    subst e
    rw [Rep] at r
    obtain ⟨a, vs, e, f, g⟩ := r
    exact ⟨a, vs, e, .inl f.sq, g⟩
  | lst xs =>
    obtain ⟨a, vs, e, f, g⟩ := rep_lst q r h
    exact ⟨a, vs, e, .inl (SqL.of f), g⟩
  | loc xs =>
    obtain ⟨a, vs, e, f, g⟩ := rep_lst q r h
    exact ⟨a, vs, e, .inl (SqL.of f), g⟩
  | _ => cases h
theorem big_eq : big = sizeLine := by rw [sizeLine_eq]; rfl
end

/-- an expression's reading, a test's, arguments' -/
def tE (W : WX) (T : Tb) (a : AE) : TE := fun σ H Q => ∃ M e ah, Sta T M e ah σ H ∧ Post T (WE W σ) M H (fun d M' _ H' => ∀ v, Rep T M' H' d v → Q v H') (a e ah)
def tT (W : WX) (T : Tb) (t : AB) : TT := fun σ H Q => ∃ M e ah, Sta T M e ah σ H ∧ Post T (WE W σ) M H (fun b _ _ H' => Q b H') (t e ah)
def tA (W : WX) (T : Tb) (a : AA) : TA := fun σ H Q => ∃ M e ah, Sta T M e ah σ H ∧ Post T (WE W σ) M H (fun ds M' _ H' => ∀ vs, Reps T M' H' ds vs → Q vs H') (a e ah)
/-- a statement's ends -/
def EndsAt (W : WX) (T : Tb) (D : Ends) : Fl → Mp → AH → Hp → Prop := fun f M' ah' H' => match f with
  | .nx e' => ∀ σ', Sta T M' e' ah' σ' H' → D.nx σ' H'
  | .rt d => ∀ v, Rep T M' H' d v → D.rt v H'
  | .bk e' => ∀ σ', Sta T M' e' ah' σ' H' → D.bk σ' H'
  | .ct e' => ∀ σ', Sta T M' e' ah' σ' H' → D.ct σ' H'
  | .ex x e' => ∀ σ' u dx, Sta T M' e' ah' σ' H' → ExRel T M' H' x u dx → W u dx σ' H'
abbrev W0 : XK := fun _ _ _ => False
def tS (W : WX) (T : Tb) (b : AS) : TS := fun D σ H => ∃ M e ah, Sta T M e ah σ H ∧ Post T W0 M H (EndsAt W T D) (b e ah)
abbrev SE (X : Cx) (G : Gh) (W : WX) (e : Expr) (a : AE) : Prop := PE X e (tE W (tb X G) a)
abbrev SB (X : Cx) (G : Gh) (W : WX) (e : Expr) (t : AB) : Prop := PT X e (tT W (tb X G) t)
abbrev SA (X : Cx) (G : Gh) (W : WX) (es : List Expr) (a : AA) : Prop := PA X es (tA W (tb X G) a)
abbrev SS (X : Cx) (G : Gh) (W : WX) (s : Stmt) (b : AS) : Prop := PS X s (tS W (tb X G) b)
abbrev SSs (X : Cx) (G : Gh) (W : WX) (s : List Stmt) (b : AS) : Prop := PSs X s (tS W (tb X G) b)
theorem PE.imp {X : Cx} {e : Expr} {t t' : TE} (h : PE X e t) (f : ∀ σ H Q, t' σ H Q → t σ H Q) : PE X e t' := ⟨fun pins s σ H Q I q => h.run pins s σ H Q I (f σ H Q q)⟩
theorem PT.imp {X : Cx} {e : Expr} {t t' : TT} (h : PT X e t) (f : ∀ σ H Q, t' σ H Q → t σ H Q) : PT X e t' := ⟨fun pins s σ H Q I q => h.run pins s σ H Q I (f σ H Q q)⟩
theorem PA.imp {X : Cx} {e : List Expr} {t t' : TA} (h : PA X e t) (f : ∀ σ H Q, t' σ H Q → t σ H Q) : PA X e t' := ⟨fun pos pins s σ H Q I q => h.run pos pins s σ H Q I (f σ H Q q)⟩
theorem PS.imp {X : Cx} {e : Stmt} {t t' : TS} (h : PS X e t) (f : ∀ D σ H, t' D σ H → t D σ H) : PS X e t' := ⟨fun pins s σ H D I q => h.run pins s σ H D I (f D σ H q)⟩
theorem PSs.imp {X : Cx} {e : List Stmt} {t t' : TS} (h : PSs X e t) (f : ∀ D σ H, t' D σ H → t D σ H) : PSs X e t' := ⟨fun pins s σ H D I q => h.run pins s σ H D I (f D σ H q)⟩

/-! ### names, constants, operators -/
section
variable {X : Cx} {G : Gh} {W : WX} {ea eb ec : Expr} {a b c : AE} {pos : Pos}
theorem s_var {i : Nat} {x : Str} (hN : X.N[i]? = some x) (hv : Vis X.env.scope x) (hd : (x == ("__debug__" : Str)) = false := by decide) (hcd : (x == ("__classdict__" : Str)) = false := by decide) : SE X G W (.Name x pos) (eV i) :=
  PE.imp (pe_var hN hv hd hcd) fun σ H Q h => by
    obtain ⟨M, e, ah, S, P⟩ := h
    unfold eV at P
    split at P
    · rename_i d he
      obtain ⟨v, e1, r⟩ := S.slot i d he
      exact ⟨v, e1, P.here S.h v r⟩
    · exact P.elim
theorem s_c {d : D} {v : V} {e : Expr} (h : PE X e (L2.tC v)) (r : ∀ (T : Tb) M H, Rep T M H d v) : SE X G W e (eC d) :=
  PE.imp h fun σ H Q h => by
    obtain ⟨M, e, ah, S, P⟩ := h
    exact P.here S.h v (r _ _ _)
theorem s_int {i : Int} {j} : SE X G W (.Constant (.int i) j pos) (eC (.int i)) := s_c pe_int fun _ _ _ => by rw [Rep]
theorem s_bl {i : Bool} {j} : SE X G W (.Constant (.bool i) j pos) (eC (.bl i)) := s_c pe_bl fun _ _ _ => by rw [Rep]
theorem s_non {j} : SE X G W (.Constant .none j pos) (eC .non) := s_c pe_non fun _ _ _ => by rw [Rep]
theorem s_str {x : Str} {y : List Nat} {j} (h : x = ts y) : SE X G W (.Constant (.str x) j pos) (eC (.str y)) := s_c pe_str fun _ _ _ => by rw [Rep, h]
/-- an operator by values -/
def Op2 (X : Cx) (G : Gh) (r : R2) (f : D → D → AH → R D) : Prop := ∀ (E : XK) M ah H dx dy x y Q, RelH (tb X G) M ah H → Rep (tb X G) M H dx x → Rep (tb X G) M H dy y → Post (tb X G) E M H (fun d M' _ H' => ∀ v, Rep (tb X G) M' H' d v → Q v H') (f dx dy ah) → r x y H Q
def Op1 (X : Cx) (G : Gh) (r : V → Hp → VK → Prop) (f : D → AH → R D) : Prop := ∀ (E : XK) M ah H dx x Q, RelH (tb X G) M ah H → Rep (tb X G) M H dx x → Post (tb X G) E M H (fun d M' _ H' => ∀ v, Rep (tb X G) M' H' d v → Q v H') (f dx ah) → r x H Q
theorem op2_read {r : R2} {f : D → D → AH → R D} (hf : Op2 X G r f) {σ : L2.St} {H : Hp} {Q : VK} (h : tE W (tb X G) (e2 f a b) σ H Q) : tOp r (tE W (tb X G) a) (tE W (tb X G) b) σ H Q := by
  obtain ⟨M, e, ah, S, P⟩ := h
  refine ⟨M, e, ah, S, P.bindI fun dx M1 ah1 H1 s1 q1 P1 v hv => ?_⟩
  refine ⟨M1, e, ah1, S.step s1 q1, P1.bindI fun dy M2 ah2 H2 s2 q2 P2 w hw => ?_⟩
  exact hf _ _ _ _ _ _ _ _ _ q2 (hv.step s2) hw P2
theorem s_bin {op : Operator} {r : R2} {f : D → D → AH → R D} (ho : OpR X (binaryOp op) r) (hf : Op2 X G r f) (ha : SE X G W ea a) (hb : SE X G W eb b) : SE X G W (.BinOp ea op eb pos) (e2 f a b) :=
  PE.imp (pe_op ho ha hb) fun σ H Q h => op2_read hf h
theorem s_cmp {op : CmpOp} {r : R2} {f : D → D → AH → R D} (ho : OpR X (compareOp op) r) (hf : Op2 X G r f) (ha : SE X G W ea a) (hb : SE X G W eb b) (hm : behindInMarks op eb = false) : SE X G W (.Compare ea [op] [eb] pos) (e2 f a b) :=
  PE.imp (pe_cmpR ho ha hb hm) fun σ H Q h => op2_read hf h
theorem s_un {op : UnaryOp} {r : V → Hp → VK → Prop} {f : D → AH → R D} (ho : UnR X (unaryOp op) r) (hf : Op1 X G r f) (ha : SE X G W ea a) : SE X G W (.UnaryOp op ea pos) (e1 f a) :=
  PE.imp (pe_un ho ha) fun σ H Q h => by
    obtain ⟨M, e, ah, S, P⟩ := h
    exact ⟨M, e, ah, S, P.bindI fun dx M1 ah1 H1 s1 q1 P1 v hv => hf _ _ _ _ _ _ _ q1 hv P1⟩
end

/-! ### the operators -/
section
variable {X : Cx} {G : Gh} {W : WX} {ea eb ec : Expr} {a b c : AE} {pos : Pos}
theorem rep_int {T : Tb} {M : Mp} {H : Hp} {i : Int} {v : V} (h : Rep T M H (.int i) v) : v = .int i := by rwa [Rep] at h
theorem rep_str {T : Tb} {M : Mp} {H : Hp} {i : List Nat} {v : V} (h : Rep T M H (.str i) v) : v = .str (ts i) := by rwa [Rep] at h
theorem rep_bl {T : Tb} {M : Mp} {H : Hp} {i : Bool} {v : V} (h : Rep T M H (.bl i) v) : v = .bl i := by rwa [Rep] at h
theorem rep_tup {T : Tb} {M : Mp} {H : Hp} {ds : List D} {v : V} (h : Rep T M H (.tup ds) v) : ∃ a vs, v = .ref a ∧ FT T.K M H a vs ∧ Reps T M H ds vs := by rwa [Rep] at h
theorem mk_int {T : Tb} {M : Mp} {H : Hp} {i : Int} : Rep T M H (.int i) (.int i) := by rw [Rep]
theorem mk_bl {T : Tb} {M : Mp} {H : Hp} {i : Bool} : Rep T M H (.bl i) (.bl i) := by rw [Rep]
theorem mk_str {T : Tb} {M : Mp} {H : Hp} {i : List Nat} : Rep T M H (.str i) (.str (ts i)) := by rw [Rep]
theorem mk_non {T : Tb} {M : Mp} {H : Hp} : Rep T M H .non .non := by rw [Rep]
theorem ts_len (x : List Nat) : (ts x).length = x.length := by simp [ts, Str.length]
theorem ts_app (x y : List Nat) : ts x ++ ts y = ts (x ++ y) := by
  show Str.mk _ = Str.mk _
  simp [ts]
theorem ts_inj {x y : List Nat} (h : ts x = ts y) : x = y := by
  have := congrArg (fun z : Str => z.cps.toList) h
  simpa [ts] using this
theorem ts_dec (x y : List Nat) : decide (V.str (ts x) = V.str (ts y)) = decide (D.str x = D.str y) := by
  by_cases h : x = y
  · subst h; simp
  · rw [decide_eq_false, decide_eq_false]
    · intro e; exact h (D.str.inj e)
    · intro e; exact h (ts_inj (V.str.inj e))

def rAddAll (X : Cx) : R2 := fun x y H Q => (∃ i j, x = .int i ∧ y = .int j ∧ Q (.int (i + j)) H) ∨ (∃ i k, x = .int i ∧ y = .bl k ∧ Q (.int (i + b2i k)) H) ∨
  (∃ i j, x = .str i ∧ y = .str j ∧ i.length + j.length ≤ sizeLine ∧ Q (.str (i ++ j)) H) ∨ rCatA X.K x y H Q ∨ rCat x y H Q
theorem op_addAll : OpR X (binaryOp .Add) (rAddAll X) := op_add.or (op_add_ib.or (op_add_str.or (op_catA.or op_cat)))
theorem o2_add {fz : Bool} : Op2 X G (rAddAll X) (addD fz) := by
  intro E M ah H dx dy x y Q q rx ry P
  have lists : ∀ {dx}, Rep (tb X G) M H dx x → Post (tb X G) E M H (fun d M' _ H' => ∀ v, Rep (tb X G) M' H' d v → Q v H') (cat fz dx dy ah) → rAddAll X x y H Q := fun {dx} rx P => by
    unfold cat at P
    split at P
    · rename_i xs hx
      split at P
      · rename_i ys hy
        obtain ⟨hz, P⟩ := P.chk
        obtain ⟨a, vs, e1, f1, g1⟩ := rep_lst q rx hx
        obtain ⟨b, us, e2, f2, g2⟩ := rep_lst q ry hy
        refine .inr (.inr (.inr (.inr ⟨a, b, vs, us, e1, e2, f1, f2, ?_, P.mkL q (g1.app g2)⟩)))
        have := of_decide_eq_true hz
        rw [big_eq] at this
        rw [← g1.length, ← g2.length]; exact this
      · exact P.elim
    · exact P.elim
  cases dx with
  | int i =>
    cases dy with
    | int j => exact .inl ⟨i, j, rep_int rx, rep_int ry, P.val q mk_int⟩
    | bl j =>
      refine .inr (.inl ⟨i, j, rep_int rx, rep_bl ry, ?_⟩)
      have := P.val q mk_int
      cases j <;> exact this
    | _ => exact P.elim
  | str i =>
    cases dy with
    | str j =>
      obtain ⟨hz, P⟩ := Post.chk P
      refine .inr (.inr (.inl ⟨ts i, ts j, rep_str rx, rep_str ry, ?_, ?_⟩))
      · have := of_decide_eq_true hz
        rw [ts_len, ts_len, ← big_eq]; exact this
      · rw [ts_app]; exact P.val q mk_str
    | _ => exact P.elim
  | tup ds =>
    cases dy with
    | tup es =>
      obtain ⟨hz, P⟩ := Post.chk P
      obtain ⟨a, vs, e1, f1, g1⟩ := rep_tup rx
      obtain ⟨b, us, e2, f2, g2⟩ := rep_tup ry
      have hz' : vs.length + us.length ≤ sizeLine := by
        have := of_decide_eq_true hz
        rw [big_eq] at this
        rw [← g1.length, ← g2.length]; exact this
      refine .inr (.inr (.inr (.inl ⟨a, b, vs, us, e1, e2, f1.sq, f2.sq, hz', fun e => ?_, fun _ e => ?_, fun _ _ => P.tup q (g1.app g2)⟩)))
      · have hd : ds = [] := List.length_eq_zero_iff.mp (by rw [g1.length, e]; rfl)
        subst hd
        exact P.val q (by rw [List.nil_append, Rep]; exact ⟨b, us, rfl, f2, g2⟩)
      · have hd : es = [] := List.length_eq_zero_iff.mp (by rw [g2.length, e]; rfl)
        subst hd
        exact P.val q (by rw [List.append_nil, Rep]; exact ⟨a, vs, rfl, f1, g1⟩)
    | _ => exact P.elim
  | lst ds => exact lists rx P
  | loc l => exact lists rx P
  | _ => exact lists rx P
theorem s_add {fz : Bool} (ha : SE X G W ea a) (hb : SE X G W eb b) : SE X G W (.BinOp ea .Add eb pos) (e2 (addD fz) a b) := s_bin op_addAll o2_add ha hb
/-- two ints -/
theorem o2_ints {C : Int → Int → Prop} {g : Int → Int → D} {gv : Int → Int → V} {f : D → D → AH → R D}
    (hg : ∀ (T : Tb) M H i j, Rep T M H (g i j) (gv i j))
    (hf : ∀ dx dy ah (E : XK) M H P, Post (tb X G) E M H P (f dx dy ah) → ∃ i j, dx = .int i ∧ dy = .int j ∧ C i j ∧ Post (tb X G) E M H P (.ok (g i j) ah)) : Op2 X G (rI C gv) f := by
  intro E M ah H dx dy x y Q q rx ry P
  obtain ⟨i, j, rfl, rfl, hc, P⟩ := hf _ _ _ _ _ _ _ P
  exact ⟨i, j, rep_int rx, rep_int ry, hc, P.val q (hg _ _ _ _ _)⟩
theorem ints_of {C : Int → Int → Prop} {g : Int → Int → D} {k : Int → Int → Bool} (hk : ∀ i j, k i j = true → C i j) {f : D → D → AH → R D}
    (h1 : ∀ i j ah, f (.int i) (.int j) ah = R.chk (k i j) (.ok (g i j) ah)) (h2 : ∀ dx dy ah, (∀ i j, dx = .int i → dy = .int j → False) → f dx dy ah = .no) (dx dy : D) (ah : AH) (E : XK) (M : Mp) (H : Hp) (P : D → Mp → AH → Hp → Prop)
    (h : Post (tb X G) E M H P (f dx dy ah)) : ∃ i j, dx = .int i ∧ dy = .int j ∧ C i j ∧ Post (tb X G) E M H P (.ok (g i j) ah) := by
  by_cases z : ∃ i j, dx = .int i ∧ dy = .int j
  · obtain ⟨i, j, rfl, rfl⟩ := z
    rw [h1] at h
    obtain ⟨hc, h⟩ := h.chk
    exact ⟨i, j, rfl, rfl, hk i j hc, h⟩
  · rw [h2 dx dy ah fun i j e1 e2 => z ⟨i, j, e1, e2⟩] at h
    exact h.elim
theorem no_ints {f : D → D → AH → R D} (h1 : ∀ dx dy ah, (∀ i, dx ≠ .int i) → f dx dy ah = .no) (h2 : ∀ i dy ah, (∀ j, dy ≠ .int j) → f (.int i) dy ah = .no) (dx dy : D) (ah : AH) (h : ∀ i j, dx = .int i → dy = .int j → False) : f dx dy ah = .no := by
  by_cases z : ∃ i, dx = .int i
  · obtain ⟨i, rfl⟩ := z
    exact h2 i dy ah fun j e => h i j rfl e
  · exact h1 dx dy ah fun i e => z ⟨i, e⟩
theorem rI0_rI {g : Int → Int → V} {f : Value → Value → Sem Value} (h : OpR X f (rI0 g)) : OpR X f (rI (fun _ _ => True) g) := fun pins s σ H x y v u Q I rx ry ⟨i, j, e1, e2, _, q⟩ => h pins s σ H x y v u Q I rx ry ⟨i, j, e1, e2, q⟩
theorem s_sub (ha : SE X G W ea a) (hb : SE X G W eb b) : SE X G W (.BinOp ea .Sub eb pos) (e2 subD a b) :=
  s_bin (rI0_rI op_sub) (o2_ints (g := fun i j => .int (i - j)) (fun _ _ _ _ _ => mk_int) (ints_of (k := fun _ _ => true) (fun _ _ _ => True.intro) (fun _ _ _ => rfl) (no_ints (fun dx _ _ h => by cases dx <;> first | rfl | exact absurd rfl (h _)) (fun i dy _ h => by cases dy <;> first | rfl | exact absurd rfl (h _))))) ha hb
theorem s_fdiv (ha : SE X G W ea a) (hb : SE X G W eb b) : SE X G W (.BinOp ea .FloorDiv eb pos) (e2 fdivD a b) :=
  s_bin op_fdivW (o2_ints (C := CDivW) (g := fun i j => .int (i / j)) (fun _ _ _ _ _ => mk_int) (ints_of (k := fun i j => wideJ j) (fun _ j h => wide_div (b := 400) ((wideJ_iff j).mp h).1 (by
    have h2 := ((wideJ_iff j).mp h).2
    have h1 := ((wideJ_iff j).mp h).1
    have h3 : (10000000000000000000000000000000000000000000000000000000000000000000000000000000000000000000000000000 : Nat) < 2 ^ 400 := by decide +kernel
    exact Nat.lt_of_le_of_lt (by omega) h3) (by decide) (by decide)) (fun _ _ _ => rfl) (no_ints (fun dx _ _ h => by cases dx <;> first | rfl | exact absurd rfl (h _)) (fun i dy _ h => by cases dy <;> first | rfl | exact absurd rfl (h _))))) ha hb
theorem s_mod (ha : SE X G W ea a) (hb : SE X G W eb b) : SE X G W (.BinOp ea .Mod eb pos) (e2 modD a b) :=
  s_bin op_mod (o2_ints (g := fun i j => .int (i % j)) (fun _ _ _ _ _ => mk_int) (ints_of (fun _ _ h => of_decide_eq_true h) (fun _ _ _ => rfl) (no_ints (fun dx _ _ h => by cases dx <;> first | rfl | exact absurd rfl (h _)) (fun i dy _ h => by cases dy <;> first | rfl | exact absurd rfl (h _))))) ha hb
theorem s_pow (ha : SE X G W ea a) (hb : SE X G W eb b) : SE X G W (.BinOp ea .Pow eb pos) (e2 powD a b) :=
  s_bin op_pow (o2_ints (g := fun i j => .int (i ^ j.toNat)) (fun _ _ _ _ _ => mk_int) (ints_of (k := fun i j => decide (0 ≤ j ∧ j ≤ 1000000 ∧ i.natAbs < 2 ^ 64)) (fun _ _ h => of_decide_eq_true h) (fun _ _ _ => rfl) (no_ints (fun dx _ _ h => by cases dx <;> first | rfl | exact absurd rfl (h _)) (fun i dy _ h => by cases dy <;> first | rfl | exact absurd rfl (h _))))) ha hb
theorem s_neg (ha : SE X G W ea a) : SE X G W (.UnaryOp .USub ea pos) (e1 negD a) := s_un un_neg (fun E M ah H dx x Q q rx P => by
  cases dx with
  | int i => exact ⟨i, rep_int rx, P.val q mk_int⟩
  | _ => exact P.elim) ha
/-- t * 1 is t -/
theorem tuple_mul1 (l : Addr) (items : Array Value) (n : Nat) (dd : Option Addr) (sl : Array (Option Value)) (u : Tok) :
    Meets (Builtin.«tuple.__mul__» ⟨[.ref l, .int 1 u], []⟩) (fun _ R s => s.heap.get? l = some { cls := .type "tuple", dict := dd, data := .seq items n, slots := sl } ∧ R (.ok (.ret (Value.ref l))) s) :=
  .of_wp fun prog w A R s h => by
    obtain ⟨hp, g, d, tk, os⟩ := s
    obtain ⟨hl, h⟩ := h
    have f1 := AutoSeq1.idx_int
    have c0 : (decide ((1 : Int) < -(2 ^ 63)) || decide ((1 : Int) ≥ 2 ^ 63)) = false := by decide
    have c1 : (items.isEmpty || ((1 : Int) == 1)) = true := by simp
    wp_walk using PySem.AutoSeq1.wpAny_loadPart' hl
    repeat (first
      | (refine wpAny_ite_false (decide_eq_false (by rw [c0]; exact Bool.false_ne_true)) ?_; wp_walk using PySem.AutoSeq1.wpAny_loadPart' hl)
      | (refine wpAny_ite_true (decide_eq_true (by rw [c1])) ?_; wp_walk using PySem.AutoSeq1.wpAny_loadPart' hl))
    exact ⟨_, rfl, h⟩
def rRepT1 (K : PySem.W.Frag) : R2 := fun x y H Q => ∃ l xs, x = .ref l ∧ y = .int 1 ∧ SqT K H l xs ∧ Q (.ref l) H
theorem op_repT1 : OpR X (binaryOp .Mult) (rRepT1 X.K) := by
  intro pins s σ H x y v u Q I rx ry h
  obtain ⟨l, xs, rfl, rfl, hT, q⟩ := h
  cases rx
  obtain ⟨t, rfl⟩ := ry
  obtain ⟨its, r, ⟨⟨cls, dd, data, sl⟩, ho, hc, n, hd⟩, hs⟩ := I.tuple hT
  simp only at hc hd
  subst hc hd
  exact wpAny_binaryOp_repeat_ref (T := "tuple") (U := "int") (by decide) ⟨_, ho, rfl⟩ (fun s' => typeIs_int s' 1 t) noFill_tuple_mul F.fills_int_mul F.slot_int_rmul repeat_tuple F.slot_int_index.lookup
    (call_meets F.slot_int_rmul (typeIs_int s 1 t) F.entry_int_rmul (F.args_int_rmul_2 _ _) (int_rmul_tuple 1 t l its.toArray n dd sl)
      ⟨ho, rfl, ⟨_, ho, rfl⟩, call_meets F.slot_tuple_mul ⟨_, ho, rfl⟩ F.entry_tuple_mul (F.args_tuple_mul_2 _ _) (tuple_mul1 l its.toArray n dd sl t) ⟨ho, .ref l, H, I, rfl, q⟩⟩)
/-- a product -/
def rMulAll (X : Cx) : R2 := fun x y H Q => rI CMul (fun i j => .int (i * j)) x y H Q ∨ rRep x y H Q ∨ rRepT X.K x y H Q ∨ rRepT1 X.K x y H Q
theorem op_mulAll : OpR X (binaryOp .Mult) (rMulAll X) := op_mul.or (op_rep.or (op_repT.or op_repT1))
theorem o2_mul {fz : Bool} : Op2 X G (rMulAll X) (mulD fz) := by
  intro E M ah H dx dy x y Q q rx ry P
  cases dy with
  | int j =>
    have lists : ∀ {dx}, Rep (tb X G) M H dx x → Post (tb X G) E M H (fun d M' _ H' => ∀ v, Rep (tb X G) M' H' d v → Q v H') (match lstH ah dx with
      | some xs => R.chk (decide (-(2 ^ 63) ≤ j ∧ j < 2 ^ 63 ∧ xs.length * j.toNat ≤ big)) (mkL fz (List.replicate j.toNat xs).flatten ah)
      | none => .no) → rMulAll X x y H Q := fun {dx} rx P => by
      split at P
      · rename_i xs hx
        obtain ⟨hz, P⟩ := P.chk
        obtain ⟨h1, h2, h3⟩ := of_decide_eq_true hz
        obtain ⟨a, vs, e1, f1, g1⟩ := rep_lst q rx hx
        exact .inr (.inl ⟨a, j, vs, e1, rep_int ry, f1, h1, h2, by rw [← g1.length, ← big_eq]; exact h3, P.mkL q (g1.rep _)⟩)
      · exact P.elim
    cases dx with
    | int i =>
      obtain ⟨hz, P⟩ := Post.chk P
      refine .inl ⟨i, j, rep_int rx, rep_int ry, ?_, P.val q mk_int⟩
      rcases Bool.or_eq_true_iff.mp hz with h | h
      · exact .inl ((small_iff _).mp h)
      · exact .inr ((small_iff _).mp h)
    | tup ds =>
      obtain ⟨hz, P⟩ := Post.chk P
      obtain ⟨h0, h1, h2, h3⟩ := of_decide_eq_true hz
      obtain ⟨a, vs, e1, f1, g1⟩ := rep_tup rx
      by_cases hj : j = 1
      · subst hj
        refine .inr (.inr (.inr ⟨a, vs, e1, rep_int ry, f1.sq, P.val q ?_⟩))
        rw [Rep]
        exact ⟨a, vs, rfl, f1, by simpa using g1⟩
      · by_cases hd : ds.length = 0
        · exact absurd hd (by omega)
        · refine .inr (.inr (.inl ⟨a, j, vs, e1, rep_int ry, f1.sq, fun e => hd (by rw [g1.length, e]; rfl), by omega, by omega, by rw [← g1.length]; omega, P.tup q (g1.rep _)⟩))
    | _ => exact lists rx P
  | _ => exact P.elim
theorem s_mul {fz : Bool} (ha : SE X G W ea a) (hb : SE X G W eb b) : SE X G W (.BinOp ea .Mult eb pos) (e2 (mulD fz) a b) := s_bin op_mulAll o2_mul ha hb
end
end Sm
end

section
set_option Elab.async false
set_option linter.all false
set_option maxRecDepth 100000
set_option maxHeartbeats 1000000
namespace Sm
open PySem PySem.Spec PyProof.Rows L2

/-! ### comparisons -/
section
variable {X : Cx} {G : Gh} {W : WX} {ea eb ec : Expr} {a b c : AE} {pos : Pos}
theorem o2_cmpI {p : Int → Int → Bool} : Op2 X G (rI0 fun i j => .bl (p i j)) (cmpI p) := by
  intro E M ah H dx dy x y Q q rx ry P
  cases dx with
  | int i =>
    cases dy with
    | int j => exact ⟨i, j, rep_int rx, rep_int ry, P.val q mk_bl⟩
    | _ => exact P.elim
  | _ => exact P.elim
theorem lex_eq : ∀ ns ms : List Int, HT.lexLt ns ms = lexLt ns ms
  | [], [] => rfl
  | [], _ :: _ => rfl
  | _ :: _, [] => rfl
  | x :: xs, y :: ys => by rw [HT.lexLt_cons, lexLt, lex_eq xs ys]
def rLtAll (X : Cx) : R2 := fun x y H Q => rI0 (fun i j => .bl (decide (i < j))) x y H Q ∨ rLtT X.K x y H Q
theorem o2_lt : Op2 X G (rLtAll X) ltD := by
  intro E M ah H dx dy x y Q q rx ry P
  cases dx with
  | int i =>
    cases dy with
    | int j => exact .inl ⟨i, j, rep_int rx, rep_int ry, P.val q mk_bl⟩
    | _ => exact P.elim
  | tup xs =>
    cases dy with
    | tup ys =>
      unfold ltD at P
      dsimp only at P
      split at P
      · rename_i ns h1
        split at P
        · rename_i ms h2
          obtain ⟨l, vs, e1, f1, g1⟩ := rep_tup rx
          obtain ⟨l2, us, e2, f2, g2⟩ := rep_tup ry
          obtain ⟨_, z1⟩ := g1.ints h1
          obtain ⟨_, z2⟩ := g2.ints h2
          subst z1 z2
          exact .inr ⟨l, l2, ns, ms, e1, e2, f1.sq, f2.sq, by rw [lex_eq]; exact P.val q mk_bl⟩
        · exact P.elim
      · exact P.elim
    | _ => exact P.elim
  | _ => exact P.elim
/-! == of plain data -/
mutual
def pdP : D → PyData
  | .non => .none
  | .bl b => .bool b
  | .int i => .int i
  | .str x => .str (ts x)
  | .tup xs => .tuple (pdPs xs)
  | .lst xs => .list (pdPs xs)
  | _ => .none
def pdPs : List D → List PyData
  | [] => []
  | x :: xs => pdP x :: pdPs xs
end
theorem mapO_cons {α β : Type} {f : α → Option β} {x : α} {xs : List α} {ys : List β} (h : mapO f (x :: xs) = some ys) : ∃ z zs, f x = some z ∧ mapO f xs = some zs ∧ ys = z :: zs := by
  rw [mapO] at h
  split at h
  · rename_i z hz
    obtain ⟨zs, h1, h2⟩ := Option.map_eq_some_iff.mp h
    exact ⟨z, zs, hz, h1, h2.symm⟩
  · cases h
section
variable {T : Tb} {M : Mp} {ah : AH} {H : Hp}
/-- what a datum looks like to == -/
def PdOk (n : Nat) (K : PySem.W.Frag) (H : Hp) (v : V) (d : D) : Prop := Dp K H v (pdP d) ∧ (pdP d).canLay0 = true ∧ (pdP d).depth ≤ n
theorem pds_ok {n : Nat} (ih : ∀ {x : D} {v : V} {d : D}, Rep T M H x v → pd ah n x = some d → PdOk n T.K H v d) : ∀ {xs : List D} {vs : List V} {ds : List D}, Reps T M H xs vs → mapO (pd ah n) xs = some ds →
    DpAll T.K H vs (pdPs ds) ∧ PyData.canLayAll0 (pdPs ds) = true ∧ PyData.depthAll (pdPs ds) ≤ n
  | [], vs, ds, r, h => by
    rw [Reps] at r
    subst r
    cases h
    exact ⟨.nil, rfl, Nat.zero_le _⟩
  | x :: xs, vs, ds, r, h => by
    rw [Reps] at r
    obtain ⟨y, ys, rfl, f, g⟩ := r
    obtain ⟨z, zs, h1, h2, rfl⟩ := mapO_cons h
    obtain ⟨a1, a2, a3⟩ := ih f h1
    obtain ⟨b1, b2, b3⟩ := pds_ok ih g h2
    refine ⟨?_, ?_, ?_⟩
    · rw [pdPs]; exact .cons a1 b1
    · rw [pdPs, PyData.canLayAll0, a2, b2]; rfl
    · rw [pdPs, PyData.depthAll]; exact Nat.max_le.mpr ⟨a3, b3⟩
theorem pd0_ok (n : Nat) {x : D} {v : V} {d : D} (r : Rep T M H x v) (h : pd0 x = some d) : PdOk n T.K H v d := by
  cases x with
  | non => cases h; rw [Rep] at r; subst r; exact ⟨by rw [pdP]; exact .non, by rw [pdP]; rfl, by rw [pdP]; exact Nat.zero_le _⟩
  | bl b => cases h; rw [Rep] at r; subst r; exact ⟨by rw [pdP]; exact .bl b, by rw [pdP]; rfl, by rw [pdP]; exact Nat.zero_le _⟩
  | int b => cases h; rw [Rep] at r; subst r; exact ⟨by rw [pdP]; exact .int b, by rw [pdP]; rfl, by rw [pdP]; exact Nat.zero_le _⟩
  | str b =>
    rw [Rep] at r; subst r
    have h' : (if b.all (fun c => decide (c < 1114112)) then some (D.str b) else none) = some d := h
    split at h'
    · rename_i hs
      cases h'
      refine ⟨by rw [pdP]; exact .str _, ?_, by rw [pdP]; exact Nat.zero_le _⟩
      rw [pdP, PyData.canLay0]
      unfold PyData.strOk ts
      simpa using hs
    · cases h'
  | _ => cases h
theorem pd_ok (q : RelH T M ah H) : ∀ (n : Nat) {x : D} {v : V} {d : D}, Rep T M H x v → pd ah n x = some d → PdOk n T.K H v d := by
  intro n
  induction n with
  | zero => exact fun r h => pd0_ok 0 r h
  | succ n ih =>
    intro x v d r h
    have lists : ∀ {xs : List D} {ds : List D}, mapO (pd ah n) xs = some ds → (∀ {a vs}, H a = some (.lst vs) → Reps T M H xs vs → PdOk (n + 1) T.K H (.ref a) (.lst ds)) := fun {xs ds} h2 {a vs} e g => by
      obtain ⟨b1, b2, b3⟩ := pds_ok ih g h2
      refine ⟨by rw [pdP]; exact .lst (SqL.of e) b1, by rw [pdP, PyData.canLay0]; exact b2, ?_⟩
      rw [pdP, PyData.depth]
      exact Nat.succ_le_succ b3
    cases x with
    | tup xs =>
      obtain ⟨ds, h1, h2⟩ := Option.map_eq_some_iff.mp h
      subst h2
      obtain ⟨a, vs, rfl, f, g⟩ := rep_tup r
      obtain ⟨b1, b2, b3⟩ := pds_ok ih g h1
      refine ⟨by rw [pdP]; exact .tup f.sq b1, by rw [pdP, PyData.canLay0]; exact b2, ?_⟩
      rw [pdP, PyData.depth]
      exact Nat.succ_le_succ b3
    | lst xs =>
      obtain ⟨ds, h1, h2⟩ := Option.map_eq_some_iff.mp h
      subst h2
      obtain ⟨a, vs, rfl, f, g⟩ := rep_lst q r rfl
      exact lists h1 f g
    | loc l =>
      have h' : (match ah[l]? with
        | some (.lst xs) => (mapO (pd ah n) xs).map D.lst
        | _ => none) = some d := h
      split at h'
      · rename_i xs hl
        obtain ⟨ds, h1, h2⟩ := Option.map_eq_some_iff.mp h'
        subst h2
        obtain ⟨a, vs, rfl, f, g⟩ := rep_lst (x := .loc l) (ds := xs) q r (by rw [lstH, hl])
        exact lists h1 f g
      · cases h'
    | _ => exact pd0_ok _ r h
/-- what pd hands out: nothing but data -/
inductive Pl : D → Prop where
  | non : Pl .non
  | bl b : Pl (.bl b)
  | int i : Pl (.int i)
  | str x : Pl (.str x)
  | tup {xs : List D} (h : ∀ x ∈ xs, Pl x) : Pl (.tup xs)
  | lst {xs : List D} (h : ∀ x ∈ xs, Pl x) : Pl (.lst xs)
theorem pl_mapO {n : Nat} (ih : ∀ {x d : D}, pd ah n x = some d → Pl d) : ∀ {xs ds : List D}, mapO (pd ah n) xs = some ds → ∀ d ∈ ds, Pl d
  | [], ds, h, d, hd => by cases h; simp at hd
  | x :: xs, ds, h, d, hd => by
    obtain ⟨z, zs, h1, h2, rfl⟩ := mapO_cons h
    rcases List.mem_cons.mp hd with rfl | hd
    · exact ih h1
    · exact pl_mapO ih h2 d hd
theorem pl_pd0 {x d : D} (h : pd0 x = some d) : Pl d := by
  cases x with
  | non => cases h; exact .non
  | bl b => cases h; exact .bl b
  | int b => cases h; exact .int b
  | str b =>
    have h' : (if b.all (fun c => decide (c < 1114112)) then some (D.str b) else none) = some d := h
    split at h'
    · cases h'; exact .str b
    · cases h'
  | _ => cases h
theorem pl_pd : ∀ (n : Nat) {x d : D}, pd ah n x = some d → Pl d := by
  intro n
  induction n with
  | zero => exact fun h => pl_pd0 h
  | succ n ih =>
    intro x d h
    cases x with
    | tup xs =>
      obtain ⟨ds, h1, h2⟩ := Option.map_eq_some_iff.mp h
      subst h2
      exact .tup (pl_mapO ih h1)
    | lst xs =>
      obtain ⟨ds, h1, h2⟩ := Option.map_eq_some_iff.mp h
      subst h2
      exact .lst (pl_mapO ih h1)
    | loc l =>
      have h' : (match ah[l]? with
        | some (.lst xs) => (mapO (pd ah n) xs).map D.lst
        | _ => none) = some d := h
      split at h'
      · obtain ⟨ds, h1, h2⟩ := Option.map_eq_some_iff.mp h'
        subst h2
        exact .lst (pl_mapO ih h1)
      · cases h'
    | non => exact pl_pd0 (x := .non) h
    | bl b => exact pl_pd0 (x := .bl b) h
    | int b => exact pl_pd0 (x := .int b) h
    | str b => exact pl_pd0 (x := .str b) h
    | scr b => cases h
    | dic _ _ => cases h
    | ins _ _ _ => cases h
    | ty _ => cases h
end
mutual
theorem ev_eq : ∀ x y : D, Pl x → Pl y → ev x y = PyData.eqv (pdP x) (pdP y)
  | .non, y, hx, hy => by cases hy <;> simp [ev, pdP, PyData.eqv]
  | .bl b, y, hx, hy => by cases hy <;> simp [ev, pdP, PyData.eqv]
  | .int b, y, hx, hy => by cases hy <;> simp [ev, pdP, PyData.eqv]
  | .str b, y, hx, hy => by
    cases hy with
    | str z =>
      rw [ev, pdP, pdP, PyData.eqv, Bool.eq_iff_iff]
      simp only [beq_iff_eq]
      exact ⟨fun h => by rw [h], ts_inj⟩
    | _ => simp [ev, pdP, PyData.eqv]
  | .tup xs, y, hx, hy => by
    cases hy with
    | @tup ys h =>
      rw [ev, pdP, pdP, PyData.eqv]
      cases hx with
      | tup h2 => exact evs_eq xs ys h2 h
    | _ => simp [ev, pdP, PyData.eqv]
  | .lst xs, y, hx, hy => by
    cases hy with
    | @lst ys h =>
      rw [ev, pdP, pdP, PyData.eqv]
      cases hx with
      | lst h2 => exact evs_eq xs ys h2 h
    | _ => simp [ev, pdP, PyData.eqv]
  | .scr _, _, hx, _ => nomatch hx
  | .dic _ _, _, hx, _ => nomatch hx
  | .ins _ _ _, _, hx, _ => nomatch hx
  | .loc _, _, hx, _ => nomatch hx
  | .ty _, _, hx, _ => nomatch hx
theorem evs_eq : ∀ xs ys : List D, (∀ x ∈ xs, Pl x) → (∀ y ∈ ys, Pl y) → evs xs ys = PyData.eqvAll (pdPs xs) (pdPs ys)
  | [], [], _, _ => by rw [evs, pdPs, PyData.eqvAll]
  | [], y :: ys, _, _ => by rw [evs, pdPs, pdPs, PyData.eqvAll] <;> simp
  | x :: xs, [], _, _ => by rw [evs, pdPs, pdPs, PyData.eqvAll] <;> simp
  | x :: xs, y :: ys, h1, h2 => by
    rw [evs, pdPs, pdPs, PyData.eqvAll, ev_eq x y (h1 x (by simp)) (h2 y (by simp)), evs_eq xs ys (fun z hz => h1 z (by simp [hz])) (fun z hz => h2 z (by simp [hz]))]
end
end
end Sm
end

section
set_option Elab.async false
set_option linter.all false
set_option maxRecDepth 100000
set_option maxHeartbeats 1000000
namespace Sm
open PySem PySem.Spec PyProof.Rows L2
section
variable {X : Cx} {G : Gh} {W : WX} {ea eb ec : Expr} {a b c : AE} {pos : Pos}
/-! ### ==, is None, in -/
def rEqAll (X : Cx) : R2 := fun x y H Q => rEq x y H Q ∨ rEqD X.K x y H Q
def rNeAll (X : Cx) : R2 := fun x y H Q => rNe x y H Q ∨ rNeD X.K x y H Q
theorem eqH_ok {M : Mp} {ah : AH} {H : Hp} {dx dy : D} {x y : V} {k : Bool} (q : RelH (tb X G) M ah H) (rx : Rep (tb X G) M H dx x) (ry : Rep (tb X G) M H dy y) (h : eqH ah dx dy = some k) :
    (L2.scal x y = true ∧ decide (x = y) = k) ∨ ∃ d e, Dp X.K H x d ∧ Dp X.K H y e ∧ SeqAt.shaped d = true ∧ SeqAt.shaped e = true ∧ PyData.eqv d e = k := by
  unfold eqH at h
  split at h
  · rename_i hs
    left
    have hk := Option.some.inj h
    cases dx <;> cases dy <;> first
      | (exact absurd hs Bool.false_ne_true)
      | (simp only [Rep] at rx ry; subst rx ry; refine ⟨rfl, ?_⟩; rw [← hk]; first | rfl | exact ts_dec _ _ | simp)
  · split at h
    · rename_i a1 h1
      split at h
      · rename_i b1 h2
        right
        obtain ⟨p1, p2, p3⟩ := pd_ok q 64 rx h1
        obtain ⟨p4, p5, p6⟩ := pd_ok q 64 ry h2
        refine ⟨_, _, p1, p4, ?_, ?_, ?_⟩
        · unfold SeqAt.shaped; rw [p2, decide_eq_true p3]; rfl
        · unfold SeqAt.shaped; rw [p5, decide_eq_true p6]; rfl
        · rw [← ev_eq _ _ (pl_pd 64 h1) (pl_pd 64 h2)]; exact Option.some.inj h
      · cases h
    · cases h
theorem o2_eq : Op2 X G (rEqAll X) eqD := by
  intro E M ah H dx dy x y Q q rx ry P
  obtain ⟨k, h, P⟩ := (Post.bind P).of
  have P := P.here q
  rcases eqH_ok q rx ry h with ⟨h1, h2⟩ | ⟨d, e, h1, h2, h3, h4, h5⟩
  · exact .inl ⟨h1, by rw [h2]; exact P.val q mk_bl⟩
  · exact .inr ⟨d, e, h1, h2, h3, h4, by rw [h5]; exact P.val q mk_bl⟩
theorem o2_ne : Op2 X G (rNeAll X) neD := by
  intro E M ah H dx dy x y Q q rx ry P
  obtain ⟨k, h, P⟩ := (Post.bind P).of
  have P := P.here q
  rcases eqH_ok q rx ry h with ⟨h1, h2⟩ | ⟨d, e, h1, h2, h3, h4, h5⟩
  · exact .inl ⟨h1, by rw [h2]; exact P.val q mk_bl⟩
  · exact .inr ⟨d, e, h1, h2, h3, h4, by rw [h5]; exact P.val q mk_bl⟩
theorem rep_non_iff {T : Tb} {M : Mp} {H : Hp} {d : D} {v : V} (r : Rep T M H d v) : decide (v = .non) = decide (d = .non) := by
  cases d with
  | non => rw [Rep] at r; subst r; rfl
  | bl _ => rw [Rep] at r; subst r; rfl
  | int _ => rw [Rep] at r; subst r; rfl
  | str _ => rw [Rep] at r; subst r; rfl
  | ty _ => rw [Rep] at r; subst r; rfl
  | tup _ => rw [Rep] at r; obtain ⟨a, vs, rfl, _⟩ := r; rfl
  | lst _ => rw [Rep] at r; obtain ⟨a, vs, rfl, _⟩ := r; rfl
  | scr _ => rw [Rep] at r; obtain ⟨a, vs, rfl, _⟩ := r; rfl
  | dic _ _ => rw [Rep] at r; obtain ⟨a, vs, rfl, _⟩ := r; rfl
  | ins _ _ _ => rw [Rep] at r; obtain ⟨a, C, dx, vs, rfl, _⟩ := r; rfl
  | loc _ => rw [Rep] at r; obtain ⟨a, rfl, _⟩ := r; rfl
theorem s_isN {j p2} (ha : SE X G W ea a) : SE X G W (.Compare ea [.Is] [.Constant .none j p2] pos) (e1 isNonD a) :=
  PE.imp (pe_cmpR op_isN ha pe_non (nomark _)) fun σ H Q h => by
    obtain ⟨M, e, ah, S, P⟩ := h
    exact ⟨M, e, ah, S, P.bindI fun dx M1 ah1 H1 s1 q1 P1 v hv => ⟨rfl, by rw [rep_non_iff hv]; exact Post.val P1 q1 mk_bl⟩⟩
theorem s_notN {j p2} (ha : SE X G W ea a) : SE X G W (.Compare ea [.IsNot] [.Constant .none j p2] pos) (e1 notNonD a) :=
  PE.imp (pe_cmpR op_notN ha pe_non (nomark _)) fun σ H Q h => by
    obtain ⟨M, e, ah, S, P⟩ := h
    exact ⟨M, e, ah, S, P.bindI fun dx M1 ah1 H1 s1 q1 P1 v hv => ⟨rfl, by rw [rep_non_iff hv]; exact Post.val P1 q1 mk_bl⟩⟩
/-! in: flat items -/
theorem flat_rep {T : Tb} {M : Mp} {H : Hp} {d : D} {v : V} (r : Rep T M H d v) (f : flat d = true) : flatV v = true := by
  cases d <;> first
    | (exact absurd f Bool.false_ne_true)
    | (simp only [Rep] at r; subst r; rfl)
theorem ev_flat {T : Tb} {M : Mp} {H : Hp} {d e : D} {v u : V} (r : Rep T M H d v) (s : Rep T M H e u) (f : flat d = true) (g : flat e = true) : eqV v u = ev d e := by
  cases d <;> cases e <;> first
    | (exact absurd f Bool.false_ne_true)
    | (exact absurd g Bool.false_ne_true)
    | (simp only [Rep] at r s; subst r s; first | (simp [eqV, ev]; done) | (rw [ev]; show (ts _ == ts _) = _; rw [Bool.eq_iff_iff]; simp only [beq_iff_eq]; exact ⟨ts_inj, fun h => by rw [h]⟩))
theorem flats_rep {T : Tb} {M : Mp} {H : Hp} : ∀ {ds : List D} {vs : List V}, Reps T M H ds vs → ds.all flat = true → vs.all flatV = true
  | [], vs, r, _ => by rw [Reps] at r; subst r; rfl
  | d :: ds, vs, r, f => by
    rw [Reps] at r
    obtain ⟨y, ys, rfl, g, k⟩ := r
    rw [List.all_cons, Bool.and_eq_true] at f ⊢
    exact ⟨flat_rep g f.1, flats_rep k f.2⟩
theorem inV_rep {T : Tb} {M : Mp} {H : Hp} {d : D} {v : V} (r : Rep T M H d v) (f : flat d = true) : ∀ {ds : List D} {vs : List V}, Reps T M H ds vs → ds.all flat = true → inV v vs = inL d ds
  | [], vs, r, _ => by rw [Reps] at r; subst r; rfl
  | e :: ds, vs, h, g => by
    rw [Reps] at h
    obtain ⟨y, ys, rfl, g1, k⟩ := h
    rw [List.all_cons, Bool.and_eq_true] at g
    show (eqV y v || inV v ys) = (ev e d || inL d ds)
    rw [ev_flat g1 r g.1 f, inV_rep r f k g.2]
theorem inH_ok {M : Mp} {ah : AH} {H : Hp} {dx dy : D} {x y : V} {k : Bool} (q : RelH (tb X G) M ah H) (rx : Rep (tb X G) M H dx x) (ry : Rep (tb X G) M H dy y) (h : inH ah dx dy = some k) :
    ∃ p xs, y = .ref p ∧ (SqL X.K H p xs ∨ SqT X.K H p xs) ∧ flatV x = true ∧ xs.all flatV = true ∧ inV x xs = k := by
  unfold inH at h
  split at h
  · rename_i ys hy
    split at h
    · rename_i hf
      rw [Bool.and_eq_true] at hf
      obtain ⟨a, vs, e, f, g⟩ := rep_seq q ry hy
      exact ⟨a, vs, e, f, flat_rep rx hf.1, flats_rep g hf.2, by rw [inV_rep rx hf.1 g hf.2]; exact Option.some.inj h⟩
    · cases h
  · cases h
theorem o2_in : Op2 X G (rIn X.K false) inD := by
  intro E M ah H dx dy x y Q q rx ry P
  obtain ⟨k, h, P⟩ := (Post.bind P).of
  have P := P.here q
  obtain ⟨p, xs, h1, h2, h3, h4, h5⟩ := inH_ok q rx ry h
  exact ⟨p, xs, h1, h2, h3, h4, by rw [if_neg (by decide), h5]; exact P.val q mk_bl⟩
/-! ### chains, and, or, not, if -/
theorem s_and {rest : List Expr} (ha : SE X G W ea a) (hb : SE X G W (.BoolOp .And (eb :: rest) pos) b) : SE X G W (.BoolOp .And (ea :: eb :: rest) pos) (eAnd a b) :=
  PE.imp (pe_and ha hb) fun σ H Q h => by
    obtain ⟨M, e, ah, S, P⟩ := h
    refine ⟨M, e, ah, S, P.bindI fun dx M1 ah1 H1 s1 q1 P1 v hv => ?_⟩
    cases dx with
    | bl k =>
      rw [Rep] at hv; subst hv
      refine ⟨k, rfl, ?_⟩
      cases k with
      | true => rw [if_pos rfl]; exact ⟨M1, e, ah1, S.step s1 q1, P1⟩
      | false => rw [if_neg Bool.false_ne_true]; exact Post.val P1 q1 mk_bl
    | _ => exact P1.elim
theorem s_one {op} (ha : SE X G W ea a) : SE X G W (.BoolOp op [ea] pos) a := pe_one ha
theorem s_not (ha : SE X G W ea a) : SE X G W (.UnaryOp .Not ea pos) (e1 notD a) :=
  PE.imp (pe_not ha) fun σ H Q h => by
    obtain ⟨M, e, ah, S, P⟩ := h
    refine ⟨M, e, ah, S, P.bindI fun dx M1 ah1 H1 s1 q1 P1 v hv => ?_⟩
    cases dx with
    | bl k => rw [Rep] at hv; subst hv; exact ⟨k, rfl, Post.val P1 q1 mk_bl⟩
    | _ => exact P1.elim
/-! ### tests -/
theorem truth_ok {M : Mp} {ah : AH} {H : Hp} {d : D} {v : V} {k : Bool} (q : RelH (tb X G) M ah H) (r : Rep (tb X G) M H d v) (h : truth ah d = some k) : TruV X.K v H k := by
  cases d with
  | non => rw [Rep] at r; subst r; exact (Option.some.inj h).symm
  | bl b => rw [Rep] at r; subst r; exact (Option.some.inj h).symm
  | int i => rw [Rep] at r; subst r; exact (Option.some.inj h).symm
  | str x =>
    rw [Rep] at r; subst r
    have h' : (if x.length ≤ big then some (!x.isEmpty) else none) = some k := h
    split at h'
    · rename_i hz
      refine ⟨by rw [ts_len, ← big_eq]; exact hz, ?_⟩
      rw [← Option.some.inj h', ts_len]
      cases x with
      | nil => rfl
      | cons c r =>
        show true = _
        symm
        rw [bne_iff_ne]
        simp only [List.length_cons]
        omega
    · cases h'
  | tup xs =>
    obtain ⟨p, vs, e, f, g⟩ := rep_tup r
    subst e
    refine .inr (.inl ⟨vs, f.sq, ?_⟩)
    rw [← Option.some.inj h]
    have := g.length
    cases xs <;> cases vs <;> simp_all
  | lst xs =>
    obtain ⟨p, vs, e, f, g⟩ := rep_lst (x := .lst xs) q r rfl
    subst e
    refine .inl ⟨vs, SqL.of f, ?_⟩
    rw [← Option.some.inj h]
    have := g.length
    cases xs <;> cases vs <;> simp_all
  | loc l =>
    have h' : (match ah[l]? with
      | some (.lst xs) => some (!xs.isEmpty)
      | some (.dic ks _) => some (!ks.isEmpty)
      | _ => none) = some k := h
    split at h'
    · rename_i xs hl
      obtain ⟨p, vs, e, f, g⟩ := rep_lst (x := .loc l) (ds := xs) q r (by rw [lstH, hl])
      subst e
      refine .inl ⟨vs, SqL.of f, ?_⟩
      rw [← Option.some.inj h']
      have := g.length
      cases xs <;> cases vs <;> simp_all
    · rename_i ks ds hl
      rw [Rep] at r
      obtain ⟨a, rfl, ha⟩ := r
      obtain ⟨vs, f, z, g⟩ := q.obj l a _ ha hl
      refine .inr (.inr ⟨_, f, ?_⟩)
      rw [← Option.some.inj h']
      have := g.length
      cases ks <;> cases vs <;> simp_all
    · cases h'
  | _ => cases h
theorem t_val (ha : SE X G W ea a) (he : ∀ whole, isTrue ea X.env whole = (do let v ← whole; standAt ea.pos; holding [v] (truthy v)) := by intro _; rfl) : SB X G W ea (tV a) :=
  PT.imp (pt_truth ha he) fun σ H Q h => by
    obtain ⟨M, e, ah, S, P⟩ := h
    refine ⟨M, e, ah, S, P.bindI fun dx M1 ah1 H1 s1 q1 P1 v hv => ?_⟩
    obtain ⟨k, hk, P1⟩ := P1.of
    exact ⟨k, truth_ok q1 hv hk, P1.here q1⟩
theorem bl_of {M : Mp} {ah : AH} {H : Hp} {E : XK} {Q : Bool → Hp → Prop} {d : D} {v : V} (q : RelH (tb X G) M ah H) (r : Rep (tb X G) M H d v) (P : Post (tb X G) E M H (fun b _ _ H' => Q b H') (R.of (tB d) ah)) : ∃ k, v = .bl k ∧ Q k H := by
  obtain ⟨k, hk, P⟩ := P.of
  cases d with
  | bl b =>
    rw [Rep] at r; subst r
    have e : b = k := Option.some.inj hk
    subst e
    exact ⟨b, rfl, P.here q⟩
  | _ => cases hk
/-- a comparison as a test -/
theorem t_cmp {op : CmpOp} {r : R2} {f : D → D → AH → R D} (ho : OpR X (compareOp op) r) (hf : Op2 X G r f) (ha : SE X G W ea a) (hb : SE X G W eb b) (hm : behindInMarks op eb = false) : SB X G W (.Compare ea [op] [eb] pos) (tB1 (e2 f a b)) :=
  PT.imp (pt_cmpR ho ha hb hm) fun σ H Q h => by
    obtain ⟨M, e, ah, S, P⟩ := h
    have P := (Post.bind P)
    exact op2_read hf ⟨M, e, ah, S, P.imp fun d M1 ah1 H1 s1 q1 P1 v hv => bl_of q1 hv P1⟩
theorem t_isN {j p2} (ha : SE X G W ea a) : SB X G W (.Compare ea [.Is] [.Constant .none j p2] pos) (tB1 (e1 isNonD a)) :=
  PT.imp (pt_cmpR op_isN ha pe_non (nomark _)) fun σ H Q h => by
    obtain ⟨M, e, ah, S, P⟩ := h
    refine ⟨M, e, ah, S, Post.bindI (Post.bind P) fun dx M1 ah1 H1 s1 q1 P1 v hv => ⟨rfl, ?_⟩⟩
    rw [rep_non_iff hv]
    exact ⟨_, rfl, (Post.here P1 q1).here q1⟩
theorem t_notN {j p2} (ha : SE X G W ea a) : SB X G W (.Compare ea [.IsNot] [.Constant .none j p2] pos) (tB1 (e1 notNonD a)) :=
  PT.imp (pt_cmpR op_notN ha pe_non (nomark _)) fun σ H Q h => by
    obtain ⟨M, e, ah, S, P⟩ := h
    refine ⟨M, e, ah, S, Post.bindI (Post.bind P) fun dx M1 ah1 H1 s1 q1 P1 v hv => ⟨rfl, ?_⟩⟩
    rw [rep_non_iff hv]
    exact ⟨_, rfl, (Post.here P1 q1).here q1⟩
theorem t_chain {op op' : CmpOp} {r r' : R2} {f g : D → D → AH → R D} (ho : OpR X (compareOp op) r) (hf : Op2 X G r f) (ho' : OpR X (compareOp op') r') (hg : Op2 X G r' g) (ha : SE X G W ea a) (hb : SE X G W eb b) (hc : SE X G W ec c)
    (h1 : lastMarks [op, op'] [eb, ec] = false := by with_unfolding_all rfl) : SB X G W (.Compare ea [op, op'] [eb, ec] pos) (tB1 (eChain f g a b c)) :=
  PT.imp (pt_chain ho ho' ha hb hc h1) fun σ H Q h => by
    obtain ⟨M, e, ah, S, P⟩ := h
    refine ⟨M, e, ah, S, Post.bindI (Post.bind P) fun dx M1 ah1 H1 s1 q1 P1 v hv => ?_⟩
    refine ⟨M1, e, ah1, S.step s1 q1, Post.bindI P1 fun dy M2 ah2 H2 s2 q2 P2 w hw => ?_⟩
    refine hf _ _ _ _ _ _ _ _ _ q2 (hv.step s2) hw (Post.bindI P2 fun dz M3 ah3 H3 s3 q3 P3 z hz => ?_)
    cases dz with
    | bl k =>
      rw [Rep] at hz; subst hz
      refine ⟨k, rfl, ?_⟩
      cases k with
      | true =>
        rw [if_pos rfl]
        have s13 := (s1.trans s2).trans s3
        refine ⟨M3, e, ah3, S.step s13 q3, Post.bindI P3 fun dc M4 ah4 H4 s4 q4 P4 u hu => ?_⟩
        exact hg _ _ _ _ _ _ _ _ _ q4 ((hw.step s3).step s4) hu (P4.imp fun d M5 ah5 H5 s5 q5 P5 v5 hv5 => bl_of q5 hv5 P5)
      | false =>
        rw [if_neg Bool.false_ne_true]
        exact ⟨false, rfl, (Post.here P3 q3).here q3⟩
    | _ => exact P3.elim
theorem t_not {t : AB} (ht : SB X G W ea t) : SB X G W (.UnaryOp .Not ea pos) (tNot t) :=
  PT.imp (pt_not ht) fun σ H Q h => by
    obtain ⟨M, e, ah, S, P⟩ := h
    exact ⟨M, e, ah, S, P.bindI fun k M1 ah1 H1 s1 q1 P1 => P1.here q1⟩
/-- and, or: whatever the whole is -/
abbrev SW (X : Cx) (G : Gh) (W : WX) (e : Expr) (t : AB) : Prop := PW X e (tT W (tb X G) t)
theorem PW.imp {e : Expr} {t t' : TT} (h : PW X e t) (f : ∀ σ H Q, t' σ H Q → t σ H Q) : PW X e t' := ⟨fun wh pins s σ H Q I q => h.run wh pins s σ H Q I (f σ H Q q)⟩
theorem w_and1 {t : AB} (h : SB X G W ea t) : SW X G W (.BoolOp .And [ea] pos) t := pw_and1 h
theorem w_or1 {t : AB} (h : SB X G W ea t) : SW X G W (.BoolOp .Or [ea] pos) t := pw_or1 h
theorem w_and {t u : AB} {rest : List Expr} (h : SB X G W ea t) (g : SW X G W (.BoolOp .And (eb :: rest) pos) u) : SW X G W (.BoolOp .And (ea :: eb :: rest) pos) (tAnd t u) :=
  PW.imp (pw_and h g) fun σ H Q h => by
    obtain ⟨M, e, ah, S, P⟩ := h
    refine ⟨M, e, ah, S, P.bindI fun k M1 ah1 H1 s1 q1 P1 => ?_⟩
    cases k with
    | true => rw [if_pos rfl]; exact ⟨M1, e, ah1, S.step s1 q1, P1⟩
    | false => rw [if_neg Bool.false_ne_true]; exact Post.here P1 q1
theorem w_or {t u : AB} {rest : List Expr} (h : SB X G W ea t) (g : SW X G W (.BoolOp .Or (eb :: rest) pos) u) : SW X G W (.BoolOp .Or (ea :: eb :: rest) pos) (tOr t u) :=
  PW.imp (pw_or h g) fun σ H Q h => by
    obtain ⟨M, e, ah, S, P⟩ := h
    refine ⟨M, e, ah, S, P.bindI fun k M1 ah1 H1 s1 q1 P1 => ?_⟩
    cases k with
    | false => rw [if_neg Bool.false_ne_true]; exact ⟨M1, e, ah1, S.step s1 q1, P1⟩
    | true => rw [if_pos rfl]; exact Post.here P1 q1
theorem t_of {t : AB} (h : SW X G W ea t) : SB X G W ea t := h.pt
end
end Sm
end

section
set_option Elab.async false
set_option linter.all false
set_option maxRecDepth 100000
set_option maxHeartbeats 1000000
namespace Sm
open PySem PySem.Spec PyProof.Rows L2
section
variable {X : Cx} {G : Gh} {W : WX} {ea eb ec : Expr} {a b c : AE} {pos : Pos}
/-! ### items, slices -/
theorem ixN_eq (n : Nat) (i : Int) : L2.ixN n i = Sm.ixN n i := rfl
theorem at_rep {T : Tb} {M : Mp} {H : Hp} {ds : List D} {vs : List V} {i : Int} {d : D} (r : Reps T M H ds vs) (h : at? ds i = some d) : ∃ v, atI vs i = some v ∧ Rep T M H d v := by
  unfold at? at h
  cases e : Sm.ixN ds.length i with
  | none => rw [e] at h; cases h
  | some j =>
    rw [e] at h
    obtain ⟨v, h1, h2⟩ := r.get h
    refine ⟨v, ?_, h2⟩
    unfold atI
    rw [← r.length, ixN_eq, e]
    exact h1
theorem at_str {s : List Nat} {i : Int} {c : Nat} (h : at? s i = some c) : atI (ts s).cps.toList i = some c := by
  unfold at? at h
  unfold atI
  have : (ts s).cps.toList = s := by simp [ts]
  rw [this, ixN_eq]
  exact h
theorem o2_ix : Op2 X G (rIx X.K) ixD := by
  intro E M ah H dx dy x y Q q rx ry P
  cases dy with
  | int i =>
    have seqs : ∀ {dx}, Rep (tb X G) M H dx x → Post (tb X G) E M H (fun d M' _ H' => ∀ v, Rep (tb X G) M' H' d v → Q v H') (match seqH ah dx with
      | some xs => R.of (at? xs i) ah
      | none => .no) → rIx X.K x y H Q := fun {dx} rx P => by
      split at P
      · rename_i xs hx
        obtain ⟨d, hd, P⟩ := P.of
        obtain ⟨p, vs, e1, f1, g1⟩ := rep_seq q rx hx
        obtain ⟨v, h1, h2⟩ := at_rep g1 hd
        rcases f1 with f1 | f1
        · exact .inl ⟨p, vs, i, v, e1, rep_int ry, f1, h1, P.val q h2⟩
        · exact .inr (.inl ⟨p, vs, i, v, e1, rep_int ry, f1, h1, P.val q h2⟩)
      · exact P.elim
    cases dx with
    | str s =>
      obtain ⟨hz, P⟩ := Post.chk P
      obtain ⟨c, hc, P⟩ := (Post.bind P).of
      have P := P.here q
      refine .inr (.inr ⟨ts s, i, c, rep_str rx, rep_int ry, ?_, at_str hc, P.val q ?_⟩)
      · rw [ts_len, ← big_eq]; exact of_decide_eq_true hz
      · exact mk_str
    | _ => exact seqs rx P
  | _ => exact P.elim
theorem s_ix (ha : SE X G W ea a) (hb : SE X G W eb b) (hs : PlainIx eb) : SE X G W (.Subscript ea eb pos) (e2 ixD a b) :=
  PE.imp (pe_ix ix_seq ha hb hs) fun σ H Q h => op2_read o2_ix h
/-- a slice's bound -/
def tO1 (W : WX) (T : Tb) (o : AO1) : TO := fun σ H Q => ∃ M e ah, Sta T M e ah σ H ∧ Post T (WE W σ) M H (fun d _ _ H' => Q d H') (o e ah)
abbrev SO (X : Cx) (G : Gh) (W : WX) (e : Option Expr) (o : AO1) : Prop := PO X e (tO1 W (tb X G) o)
theorem PO.imp {e : Option Expr} {t t' : TO} (h : PO X e t) (f : ∀ σ H Q, t' σ H Q → t σ H Q) : PO X e t' := ⟨fun pins s σ H Q I q => h.run pins s σ H Q I (f σ H Q q)⟩
def rSlAll (X : Cx) : V → Option Int → Option Int → Hp → VK → Prop := fun x lo hi H Q => (rSlL X.K x lo hi H Q ∨ rSlA X.K x lo hi H Q) ∨ rSlS x lo hi H Q
/-! ### built-ins by their name -/
def CallF (X : Cx) (G : Gh) (r : List V → Hp → VK → Prop) (f : List D → AH → R D) : Prop := ∀ (E : XK) M ah H ds xs Q, RelH (tb X G) M ah H → Reps (tb X G) M H ds xs → Post (tb X G) E M H (fun d M' _ H' => ∀ v, Rep (tb X G) M' H' d v → Q v H') (f ds ah) → r xs H Q
theorem callf_read {r : List V → Hp → VK → Prop} {f : List D → AH → R D} {as : AA} (hf : CallF X G r f) {σ : L2.St} {H : Hp} {Q : VK} (h : tE W (tb X G) (eA f as) σ H Q) : tCB r (tA W (tb X G) as) σ H Q := by
  obtain ⟨M, e, ah, S, P⟩ := h
  exact ⟨M, e, ah, S, P.bindI fun ds M1 ah1 H1 s1 q1 P1 vs hv => hf _ _ _ _ _ _ _ q1 hv P1⟩
theorem s_callB {id : String} {r : List V → Hp → VK → Prop} {f : List D → AH → R D} {x : Str} {p : Pos} {e : Expr} {es : List Expr} {as : AA} (hc : CallR X (.builtin id) r) (hf : CallF X G r f) (hg : Gl X x) (hm : X.mg x = none) (hv : bootBuiltins x = some (.builtin id)) (ha : SA X G W (e :: es) as)
    (hn : x ≠ "__name__" := by decide) (hdb : (x == ("__debug__" : Str)) = false := by decide) (he : starEach (e :: es) X.env = (false, eval e X.env) :: starEach es X.env := by rfl) (hpl : (backTo pos (starEach es X.env)).any (·.1) = false := by rfl) :
    SE X G W (.Call (.Name x p) (e :: es) [] pos) (eA f as) := PE.imp (pe_callB hc hg hm hv ha hn hdb he hpl) fun σ H Q h => callf_read hf h
theorem s_callTy {id : String} {r : List V → Hp → VK → Prop} {f : List D → AH → R D} {x : Str} {p : Pos} {e : Expr} {es : List Expr} {as : AA} (hc : CallR X (.type id) r) (hf : CallF X G r f) (hg : Gl X x) (hm : X.mg x = none) (hv : bootBuiltins x = some (.type id)) (ha : SA X G W (e :: es) as)
    (hn : x ≠ "__name__" := by decide) (hdb : (x == ("__debug__" : Str)) = false := by decide) (he : starEach (e :: es) X.env = (false, eval e X.env) :: starEach es X.env := by rfl) (hpl : (backTo pos (starEach es X.env)).any (·.1) = false := by rfl) :
    SE X G W (.Call (.Name x p) (e :: es) [] pos) (eA f as) := PE.imp (pe_callTy hc hg hm hv ha hn hdb he hpl) fun σ H Q h => callf_read hf h
theorem a_nil : SA X G W [] (eL []) := PA.imp pa_nil fun σ H Q h => by
  obtain ⟨M, e, ah, S, P⟩ := h
  exact Post.here P S.h [] Reps.nil
theorem a_cons {es : List Expr} {as : List AE} (ha : SE X G W ea a) (hr : SA X G W es (eL as)) (hs : starEach (ea :: es) X.env = (false, eval ea X.env) :: starEach es X.env := by rfl) : SA X G W (ea :: es) (eL (a :: as)) :=
  PA.imp (pa_cons ha hr hs) fun σ H Q h => by
    obtain ⟨M, e, ah, S, P⟩ := h
    refine ⟨M, e, ah, S, Post.bindI P fun dx M1 ah1 H1 s1 q1 P1 v hv => ?_⟩
    exact ⟨M1, e, ah1, S.step s1 q1, Post.bindI P1 fun ds M2 ah2 H2 s2 q2 P2 vs hvs => Post.here P2 q2 _ (Reps.cons (hv.step s2) hvs)⟩
theorem one_rep {T : Tb} {M : Mp} {H : Hp} {d : D} {xs : List V} (h : Reps T M H [d] xs) : ∃ x, xs = [x] ∧ Rep T M H d x := by
  rw [Reps] at h
  obtain ⟨x, r, rfl, f, g⟩ := h
  rw [Reps] at g; subst g
  exact ⟨x, rfl, f⟩
/-- one argument -/
theorem f_one {r : List V → Hp → VK → Prop} {f : D → AH → R D} (h : ∀ (E : XK) M ah H d x Q, RelH (tb X G) M ah H → Rep (tb X G) M H d x → Post (tb X G) E M H (fun d M' _ H' => ∀ v, Rep (tb X G) M' H' d v → Q v H') (f d ah) → r [x] H Q) : CallF X G r (on1 f) := by
  intro E M ah H ds xs Q q rs P
  match ds, rs, P with
  | [d], rs, P =>
    obtain ⟨x, rfl, f⟩ := one_rep rs
    exact h _ _ _ _ _ _ _ q f P
  | [], rs, P => exact P.elim
  | _ :: _ :: _, rs, P => exact P.elim
theorem f_len : CallF X G (fun xs H Q => ∃ x n, xs = [x] ∧ LenV X.K x H n ∧ Q (.int n) H) (on1 lenD) := f_one fun E M ah H d x Q q r P => by
  have seqs : ∀ {d}, Rep (tb X G) M H d x → Post (tb X G) E M H (fun d M' _ H' => ∀ v, Rep (tb X G) M' H' d v → Q v H') (match seqH ah d with
    | some xs => .ok (.int xs.length) ah
    | none => .no) → ∃ z n, [x] = [z] ∧ LenV X.K z H n ∧ Q (.int n) H := fun {d} r P => by
    split at P
    · rename_i xs hx
      obtain ⟨p, vs, e1, f1, g1⟩ := rep_seq q r hx
      subst e1
      refine ⟨_, xs.length, rfl, ?_, P.val q mk_int⟩
      rcases f1 with f1 | f1
      · exact .inl ⟨vs, f1, g1.length⟩
      · exact .inr ⟨vs, f1, g1.length⟩
    · exact P.elim
  cases d with
  | str s =>
    obtain ⟨hz, P⟩ := Post.chk P
    have e := rep_str r
    subst e
    refine ⟨_, s.length, rfl, ⟨by rw [ts_len, ← big_eq]; exact of_decide_eq_true hz, by rw [ts_len]⟩, P.val q mk_int⟩
  | _ => exact seqs r P
theorem f_abs : CallF X G (fun xs H Q => ∃ i, xs = [.int i] ∧ Q (.int (if i < 0 then -i else i)) H) (on1 absD) := f_one fun E M ah H d x Q q r P => by
  cases d with
  | int i => exact ⟨i, by rw [rep_int r], P.val q mk_int⟩
  | _ => exact P.elim
theorem f_int : CallF X G (fun xs H Q => (∃ i, xs = [.int i] ∧ Q (.int i) H) ∨ ∃ k, xs = [.bl k] ∧ Q (.int (if k then 1 else 0)) H) (on1 intD) := f_one fun E M ah H d x Q q r P => by
  cases d with
  | int i => exact .inl ⟨i, by rw [rep_int r], P.val q mk_int⟩
  | bl i => exact .inr ⟨i, by rw [rep_bl r], P.val q mk_int⟩
  | _ => exact P.elim
theorem f_tuple : CallF X G (fun xs H Q => ∃ p ys, xs = [.ref p] ∧ ((SqL X.K H p ys ∧ ∀ l, H l = none → Q (.ref l) (upd H l (.tup ys))) ∨ (SqT X.K H p ys ∧ Q (.ref p) H))) (on1 tupD) := f_one fun E M ah H d x Q q r P => by
  unfold tupD at P
  split at P
  · rename_i xs hx
    cases d with
    | tup zs =>
      have e : zs = xs := Option.some.inj hx
      subst e
      obtain ⟨p, vs, e1, f1, g1⟩ := rep_tup r
      exact ⟨p, vs, by rw [e1], .inr ⟨f1.sq, P.val q (by rw [Rep]; exact ⟨p, vs, rfl, f1, g1⟩)⟩⟩
    | scr zs =>
      have e : zs = xs := Option.some.inj hx
      subst e
      rw [Rep] at r
      obtain ⟨p, vs, e1, f1, g1⟩ := r
      exact ⟨p, vs, by rw [e1], .inl ⟨f1.sq, P.tup q g1⟩⟩
    | lst zs =>
      obtain ⟨p, vs, e1, f1, g1⟩ := rep_lst q r hx
      exact ⟨p, vs, by rw [e1], .inl ⟨SqL.of f1, P.tup q g1⟩⟩
    | loc zs =>
      obtain ⟨p, vs, e1, f1, g1⟩ := rep_lst q r hx
      exact ⟨p, vs, by rw [e1], .inl ⟨SqL.of f1, P.tup q g1⟩⟩
    | _ => cases hx
  · exact P.elim
theorem f_list {fz : Bool} : CallF X G (fun xs H Q => ∃ p ys, xs = [.ref p] ∧ (SqL X.K H p ys ∨ SqT X.K H p ys) ∧ ∀ l, H l = none → Q (.ref l) (upd H l (.lst ys))) (on1 (listD fz)) := f_one fun E M ah H d x Q q r P => by
  unfold listD at P
  split at P
  · rename_i xs hx
    obtain ⟨p, vs, e1, f1, g1⟩ := rep_seq q r hx
    exact ⟨p, vs, by rw [e1], f1, P.mkL q g1⟩
  · exact P.elim
end
end Sm
end

section
set_option Elab.async false
set_option linter.all false
set_option maxRecDepth 100000
set_option maxHeartbeats 1000000
namespace Sm
open PySem PySem.Spec PyProof.Rows L2
section
variable {X : Cx} {G : Gh} {W : WX} {ea eb ec : Expr} {a b c : AE} {pos : Pos}
/-! ### isinstance(x, T), T a built-in type -/
def tyNames : List String := ["NoneType", "bool", "int", "str", "tuple", "list", "dict"]
theorem kit_all : (tyNames.all fun t => ["bool", "int", "str", "tuple", "list", "dict"].all fun T => decide (kitB t T = some (isTyB t T))) = true := by decide +kernel
theorem ty_rep {M : Mp} {ah : AH} {H : Hp} {d : D} {v : V} {t : String} (q : RelH (tb X G) M ah H) (r : Rep (tb X G) M H d v) (h : tyOf ah d = some t) : TyX X.K H v (.type t) ∧ t ∈ tyNames := by
  cases d with
  | non => cases h; rw [Rep] at r; subst r; exact ⟨.base .non, by decide⟩
  | bl b => cases h; rw [Rep] at r; subst r; exact ⟨.base (.bl b), by decide⟩
  | int b => cases h; rw [Rep] at r; subst r; exact ⟨.base (.int b), by decide⟩
  | str b => cases h; rw [Rep] at r; subst r; exact ⟨.base (.str _), by decide⟩
  | tup xs =>
    cases h
    obtain ⟨p, vs, rfl, f, g⟩ := rep_tup r
    exact ⟨.base (.tup f.2), by decide⟩
  | lst xs =>
    cases h
    obtain ⟨p, vs, rfl, f, g⟩ := rep_lst (x := .lst xs) q r rfl
    exact ⟨.base (.lst f), by decide⟩
  | loc l =>
    have h' : (match ah[l]? with
      | some (.lst _) => some "list"
      | some (.dic _ _) => some "dict"
      | some (.dicT _ _) => some "dict"
      | _ => none) = some t := h
    rw [Rep] at r
    obtain ⟨p, rfl, hp⟩ := r
    split at h'
    · rename_i xs hl
      cases h'
      obtain ⟨vs, f, _⟩ := q.obj l p _ hp hl
      exact ⟨.base (.lst f), by decide⟩
    · rename_i ks ds hl
      cases h'
      obtain ⟨vs, f, _⟩ := q.obj l p _ hp hl
      exact ⟨.base (.dK f), by decide⟩
    · rename_i ks ds hl
      cases h'
      obtain ⟨vs, f, _⟩ := q.obj l p _ hp hl
      exact ⟨.base (.dT f), by decide⟩
    · cases h'
  | _ => cases h
theorem s_isTy {T : String} {x y : Str} {p p' : Pos} (hT : T ∈ ["bool", "int", "str", "tuple", "list", "dict"]) (hx : x = "isinstance") (hy : bootBuiltins y = some (.type T)) (hny : y ≠ "__name__") (hdy : (y == ("__debug__" : Str)) = false) (hg : Gl X x) (hm : X.mg x = none) (hg' : Gl X y) (hm' : X.mg y = none) (ha : SE X G W ea a)
    (hs : starEach [ea, (.Name y p' : Expr)] X.env = [(false, eval ea X.env), (false, eval (.Name y p') X.env)] := by rfl) (hs2 : starEach [(.Name y p' : Expr)] X.env = [(false, eval (.Name y p') X.env)] := by rfl)
    (hs3 : (backTo pos (starEach [(.Name y p' : Expr)] X.env)).any (·.1) = false := by rfl) : SE X G W (.Call (.Name x p) [ea, .Name y p'] [] pos) (e1 (isTy T) a) := by
  subst hx
  have h1 : PE X (.Name y p') (L2.tC (.ty T)) := pe_bltn hg' hm' hy rfl hny hdy
  have h2 := pe_callB (pos := pos) (p := p) call_isi hg hm (by decide +kernel) (pa_cons ha (pa_cons h1 pa_nil (by rw [hs2]; rfl)) (by rw [hs, hs2])) (he := by rw [hs, hs2]) (hpl := hs3)
  refine PE.imp h2 fun σ H Q h => ?_
  obtain ⟨M, e, ah, S, P⟩ := h
  refine ⟨M, e, ah, S, P.bindI fun dx M1 ah1 H1 s1 q1 P1 v hv => ?_⟩
  obtain ⟨t, ht, P1⟩ := (Post.bind P1).of
  have P1 := P1.here q1
  obtain ⟨h3, h4⟩ := ty_rep q1 hv ht
  refine ⟨v, .ty T, .type t, .type T, isTyB t T, rfl, .ty T, h3, kit_ty ?_, P1.val q1 mk_bl⟩
  exact of_decide_eq_true (List.all_eq_true.mp (List.all_eq_true.mp kit_all t h4) T hT)
/-! ### displays -/
theorem s_tup {es : List Expr} {as : AA} {x1} (ha : SA X G W es as) : SE X G W (.Tuple es x1 pos) (eTup as) :=
  PE.imp (pe_tup ha) fun σ H Q h => by
    obtain ⟨M, e, ah, S, P⟩ := h
    refine ⟨M, e, ah, S, P.bindI fun ds M1 ah1 H1 s1 q1 P1 vs hv => ?_⟩
    obtain ⟨hz, P1⟩ := Post.chk P1
    exact ⟨by rw [← hv.length, ← big_eq]; exact of_decide_eq_true hz, P1.tup q1 hv⟩
theorem s_lst {fz : Bool} {es : List Expr} {as : AA} (ha : SA X G W es as) : SE X G W (.List es pos) (eLst fz as) :=
  PE.imp (pe_lst ha) fun σ H Q h => by
    obtain ⟨M, e, ah, S, P⟩ := h
    refine ⟨M, e, ah, S, P.bindI fun ds M1 ah1 H1 s1 q1 P1 vs hv => ?_⟩
    obtain ⟨hz, P1⟩ := Post.chk P1
    exact ⟨by rw [← hv.length, ← big_eq]; exact of_decide_eq_true hz, P1.mkL q1 hv⟩
/-! ### methods of lists -/
def MetF (X : Cx) (G : Gh) (T : String) (r : V → List V → Hp → VK → Prop) (f : D → List D → AH → R D) : Prop := ∀ (E : XK) M ah H d ds x xs Q, RelH (tb X G) M ah H → Rep (tb X G) M H d x → Reps (tb X G) M H ds xs → Post (tb X G) E M H (fun d M' _ H' => ∀ v, Rep (tb X G) M' H' d v → Q v H') (f d ds ah) → r x xs H Q
/-- the receiver's type, read at the receiver -/
def TyF (X : Cx) (G : Gh) (T : String) (g : AH → D → Bool) : Prop := ∀ M ah H d x, RelH (tb X G) M ah H → Rep (tb X G) M H d x → g ah d = true → tyV X.K T x H
theorem s_bm {T id : String} {r : V → List V → Hp → VK → Prop} {f : D → List D → AH → R D} {g : AH → D → Bool} {name : Str} {apos cpos : Pos} {es : List Expr} {as : AA} (pa : PlainAttrs T) (slot : Slot T name id) (hty : typeOf (.builtin id) = pure (.type "method_descriptor")) (hm : MtR X id r) (hf : MetF X G T r f) (hg : TyF X G T g)
    (ho : SE X G W ea a) (ha : SA X G W (eb :: es) as)
    (hbase : attributeBase ea name X.env (eval ea X.env) = eval ea X.env := by rfl)
    (hfew : ((backTo cpos (starEach (eb :: es) X.env)).all (fun x => !x.1) && (backToKw cpos (keywordEach [] X.env)).all (fun x => x.1.isSome) && decide ((eb :: es).length + ([] : List Keyword).length + (if ([] : List Keyword).isEmpty then 0 else 1) < 30)) = true := by rfl)
    (hline : (apos.endLine == cpos.line) = true := by rfl) (hs : starEach (eb :: es) X.env = (false, eval eb X.env) :: starEach es X.env := by rfl) (hplain : (backTo cpos (starEach es X.env)).any (·.1) = false := by rfl) :
    SE X G W (.Call (.Attribute ea name apos) (eb :: es) [] cpos) (eM g f a as) :=
  PE.imp (pe_bm pa slot hty hm ho ha hbase hfew hline hs hplain) fun σ H Q h => by
    obtain ⟨M, e, ah, S, P⟩ := h
    refine ⟨M, e, ah, S, P.bindI fun d M1 ah1 H1 s1 q1 P1 v hv => ?_⟩
    obtain ⟨hc, P1⟩ := P1.chk
    refine ⟨hg _ _ _ _ _ q1 hv hc, M1, e, ah1, S.step s1 q1, P1.bindI fun ds M2 ah2 H2 s2 q2 P2 vs hvs => ?_⟩
    exact hf _ _ _ _ _ _ _ _ _ q2 (hv.step s2) hvs P2
theorem ty_list : TyF X G "list" isLst := by
  intro M ah H d x q r h
  have : ∃ xs, lstH ah d = some xs ∨ seqH ah d = some xs ∧ ∃ ys, d = .scr ys := by
    cases d with
    | lst xs => exact ⟨xs, .inl rfl⟩
    | loc l =>
      have h' : (match ah[l]? with | some (.lst _) => true | _ => false) = true := h
      split at h'
      · rename_i xs hl; exact ⟨xs, .inl (by rw [lstH, hl])⟩
      · cases h'
    | _ => cases h
  obtain ⟨xs, hx | ⟨_, ys, rfl⟩⟩ := this
  · obtain ⟨p, vs, rfl, f, g⟩ := rep_lst q r hx
    exact .inl ⟨rfl, vs, SqL.of f⟩
  · cases h
theorem rep_loc {T : Tb} {M : Mp} {ah : AH} {H : Hp} {l : Nat} {v : V} {xs : List D} (q : RelH T M ah H) (r : Rep T M H (.loc l) v) (h : ah[l]? = some (.lst xs)) : ∃ p vs, v = .ref p ∧ M.m[l]? = some p ∧ H p = some (.lst vs) ∧ Reps T M H xs vs := by
  rw [Rep] at r
  obtain ⟨p, rfl, hp⟩ := r
  obtain ⟨vs, f, g⟩ := q.obj l p _ hp h
  exact ⟨p, vs, rfl, hp, f, g⟩
theorem onL_ok {T : Tb} {E : XK} {M : Mp} {ah : AH} {H : Hp} {d : D} {v : V} {f : Nat → List D → R D} {P : D → Mp → AH → Hp → Prop} (q : RelH T M ah H) (r : Rep T M H d v) (h : Post T E M H P (onL ah d f)) :
    ∃ l p xs vs, d = .loc l ∧ v = .ref p ∧ M.m[l]? = some p ∧ ah[l]? = some (.lst xs) ∧ H p = some (.lst vs) ∧ Reps T M H xs vs ∧ Post T E M H P (f l xs) := by
  cases d with
  | loc l =>
    have h' : Post T E M H P (match ah[l]? with | some (.lst xs) => f l xs | _ => .no) := h
    split at h'
    · rename_i xs hl
      obtain ⟨p, vs, e, hp, g, k⟩ := rep_loc q r hl
      exact ⟨l, p, xs, vs, rfl, e, hp, hl, g, k, h'⟩
    · exact h'.elim
  | _ => exact h.elim
/-- a list of ours gets other items -/
theorem put_lst {T : Tb} {E : XK} {M : Mp} {ah : AH} {H : Hp} {l : Nat} {p : Addr} {ds : List D} {vs : List V} {d : D} {v : V} {Q : VK} (q : RelH T M ah H) (hp : M.m[l]? = some p) (r : Reps T M H ds vs) (rd : Rep T M H d v)
    (P : Post T E M H (fun d M' _ H' => ∀ v, Rep T M' H' d v → Q v H') (.ok d (ah.set l (.lst ds)))) : Q v (upd H p (.lst vs)) := by
  obtain ⟨s, q2⟩ := q.put (o := .lst vs) (u := .lst ds) hp fun s => ⟨vs, upd_same, r.step s⟩
  exact P M _ s q2 v (rd.step s)
theorem m_append : MetF X G "list" rAppend (mt1 appendD) := by
  intro E M ah H d ds x xs Q q r rs P
  match ds, rs, P with
  | [y], rs, P =>
    obtain ⟨u, rfl, ru⟩ := one_rep rs
    obtain ⟨l, p, zs, vs, rfl, rfl, hp, hl, f, g, P⟩ := onL_ok q r P
    obtain ⟨hz, P⟩ := P.chk
    exact ⟨p, vs, u, rfl, rfl, f, by rw [← g.length, ← big_eq]; exact of_decide_eq_true hz, put_lst q hp (g.app (Reps.cons ru Reps.nil)) mk_non P⟩
  | [], _, P => exact P.elim
  | _ :: _ :: _, _, P => exact P.elim
theorem m_popAt : MetF X G "list" rPopAt (mt1 popAtD) := by
  intro E M ah H d ds x xs Q q r rs P
  match ds, rs, P with
  | [y], rs, P =>
    obtain ⟨u, rfl, ru⟩ := one_rep rs
    cases y with
    | int i =>
      obtain ⟨l, p, zs, vs, rfl, rfl, hp, hl, f, g, P⟩ := onL_ok q r P
      obtain ⟨hz, P⟩ := P.chk
      obtain ⟨h1, h2⟩ := of_decide_eq_true hz
      obtain ⟨k, hk, P⟩ := (Post.bind P).of
      have P := P.here q
      obtain ⟨y, hy, P⟩ := (Post.bind P).of
      have P := P.here q
      obtain ⟨w, hw, rw'⟩ := g.get hy
      refine ⟨p, vs, i, k, w, rfl, by rw [rep_int ru], f, h1, h2, ?_, hw, put_lst q hp (g.erase k) rw' P⟩
      rw [← g.length]
      exact (ixN_seq (by rw [ixN_eq]; exact hk)).1
    | _ => exact P.elim
  | [], _, P => exact P.elim
  | _ :: _ :: _, _, P => exact P.elim
end
end Sm
end

section
set_option Elab.async false
set_option linter.all false
set_option maxRecDepth 100000
set_option maxHeartbeats 1000000
namespace Sm
open PySem PySem.Spec PyProof.Rows L2
section
variable {X : Cx} {G : Gh} {W : WX} {ea eb ec : Expr} {a b c : AE} {pos : Pos}
/-! ### extend -/
def rExtT (K : PySem.W.Frag) : V → List V → Hp → VK → Prop := fun x vs H Q => ∃ l t xs zs, x = .ref l ∧ vs = [.ref t] ∧ H l = some (.lst xs) ∧ SqT K H t zs ∧ xs.length + zs.length ≤ sizeLine ∧ Q .non (upd H l (.lst (xs ++ zs)))
def rExtAll (K : PySem.W.Frag) : V → List V → Hp → VK → Prop := fun x vs H Q => rExtend x vs H Q ∨ rExtT K x vs H Q
/-! ### statements -/
section
variable {st : Stmt} {rest : List Stmt} {s t : AS}
theorem up_post {α : Type} {T : Tb} {M : Mp} {H : Hp} {σ : L2.St} {e : Env} {ah0 : AH} {r : R α} {k : α → AH → R Fl} {D : Ends} (S : Sta T M e ah0 σ H) (P : Post T W0 M H (EndsAt W T D) (up e r k)) :
    Post T (WE W σ) M H (fun a M1 ah1 H1 => Post T W0 M1 H1 (EndsAt W T D) (k a ah1)) r := by
  cases r with
  | ok a ah => exact fun M1 H1 t _ => Post.step t P
  | exc x ah =>
    intro M1 H1 u dx t q x1
    exact P M1 H1 t q σ u dx (S.step t q) x1
  | no => exact P
theorem upI {α : Type} {T : Tb} {M : Mp} {H : Hp} {σ : L2.St} {e : Env} {ah0 : AH} {r : R α} {k : α → AH → R Fl} {D : Ends} {Q : α → Mp → AH → Hp → Prop} (S : Sta T M e ah0 σ H) (P : Post T W0 M H (EndsAt W T D) (up e r k))
    (f : ∀ a M' ah' H', Step M H M' H' → RelH T M' ah' H' → Post T W0 M' H' (EndsAt W T D) (k a ah') → Q a M' ah' H') : Post T (WE W σ) M H Q r := (up_post S P).imp f
theorem z_nil : SSs X G W [] (sB []) := PSs.imp pss_nil fun D σ H h => by
  obtain ⟨M, e, ah, S, P⟩ := h
  exact Post.here P S.h σ S
theorem z_cons {ss : List AS} (h1 : SS X G W st s) (h2 : SSs X G W rest (sB ss)) : SSs X G W (st :: rest) (sB (s :: ss)) :=
  PSs.imp (pss_cons h1 h2) fun D σ H h => by
    obtain ⟨M, e, ah, S, P⟩ := h
    refine ⟨M, e, ah, S, Post.bindI P fun f M1 ah1 H1 s1 q1 P1 => ?_⟩
    cases f with
    | nx e1 => exact fun σ' S' => ⟨M1, e1, ah1, S', P1⟩
    | rt d => exact Post.here (W := W0) P1 q1
    | bk e1 => exact Post.here (W := W0) P1 q1
    | ct e1 => exact Post.here (W := W0) P1 q1
    | ex x e1 => exact Post.here (W := W0) P1 q1
theorem z_expr (ha : SE X G W ea a) (hs : swapsWith ea none pos.line X.env = pure false := by rfl) : SS X G W (.Expr ea pos) (sE a) :=
  PS.imp (ps_expr ha hs) fun D σ H h => by
    obtain ⟨M, e, ah, S, P⟩ := h
    exact ⟨M, e, ah, S, upI S P fun d M1 ah1 H1 s1 q1 P1 v hv => Post.here P1 q1 σ (S.step s1 q1)⟩
/-- the slot is not that of a handled error's name -/
def NG (G : Gh) (i : Nat) : Prop := ∀ p, G = some p → p.i ≠ i
theorem ng_none {i : Nat} : NG none i := fun _ h => by cases h
theorem ng_some {p : Gx} {i : Nat} (h : p.i ≠ i) : NG (some p) i := fun _ e => by cases e; exact h
theorem Sta.set {T : Tb} {M : Mp} {e : Env} {ah : AH} {σ : L2.St} {H : Hp} (S : Sta T M e ah σ H) {d : D} {v : V} (r : Rep T M H d v) (i : Nat) (hj : NG T.g i) : Sta T M (e.set i (some d)) ah (σ.set i (some v)) H := by
  refine ⟨S.h, by simp [S.len], fun j z hz => ?_, fun p hp => ⟨by rw [List.getElem?_set_ne (Ne.symm (hj p hp))]; exact (S.gh p hp).1, (S.gh p hp).2⟩⟩
  by_cases hj : j = i
  · subst hj
    have hl : j < e.length := by
      have := (List.getElem?_eq_some_iff.mp hz).1
      simpa using this
    rw [List.getElem?_set_self hl] at hz
    cases hz
    exact ⟨v, List.getElem?_set_self (by rw [← S.len]; exact hl), r⟩
  · rw [List.getElem?_set_ne (Ne.symm hj)] at hz ⊢
    exact S.slot j z hz
theorem z_set {i : Nat} {x : Str} {p : Pos} (hN : X.N.Nodup) (hi : X.N[i]? = some x) (hx : Loc X.env.scope x) (ha : SE X G W ea a) (hs : swapsWith ea (some (.Name x p)) pos.line X.env = pure false := by rfl) (hf : X.fn x = true ∨ X.env.scope.names.lookup x = some .local := by first | exact .inl rfl | exact .inr rfl) (hj : NG G i := by first | exact ng_none | exact ng_some (by decide) | exact ng_some (by simp)) : SS X G W (.Assign [.Name x p] ea pos) (sSet i a) :=
  PS.imp (ps_set hN hi hx ha hs hf) fun D σ H h => by
    obtain ⟨M, e, ah, S, P⟩ := h
    exact ⟨M, e, ah, S, upI S P fun d M1 ah1 H1 s1 q1 P1 v hv => Post.here P1 q1 _ ((S.step s1 q1).set hv i hj)⟩
theorem z_if {et : Expr} {u : AB} {as bs : List Stmt} (ht : SB X G W et u) (ha : SSs X G W as s) (hb : SSs X G W bs t) : SS X G W (.If et as bs pos) (sIf u s t) :=
  PS.imp (ps_if ht ha hb) fun D σ H h => by
    obtain ⟨M, e, ah, S, P⟩ := h
    refine ⟨M, e, ah, S, upI S P fun k M1 ah1 H1 s1 q1 P1 => ?_⟩
    cases k with
    | true => rw [if_pos rfl]; exact ⟨M1, e, ah1, S.step s1 q1, P1⟩
    | false => rw [if_neg Bool.false_ne_true]; exact ⟨M1, e, ah1, S.step s1 q1, P1⟩
theorem z_ret (ha : SE X G W ea a) : SS X G W (.Return (some ea) pos) (sRet a) :=
  PS.imp (ps_ret ha) fun D σ H h => by
    obtain ⟨M, e, ah, S, P⟩ := h
    exact ⟨M, e, ah, S, upI S P fun d M1 ah1 H1 s1 q1 P1 v hv => Post.here P1 q1 v hv⟩
theorem z_cont : SS X G W (.Continue pos) sCt := PS.imp ps_continue fun D σ H h => by
  obtain ⟨M, e, ah, S, P⟩ := h
  exact Post.here P S.h _ S
end
end
end Sm
end

section
set_option Elab.async false
set_option linter.all false
set_option maxRecDepth 100000
set_option maxHeartbeats 1000000
namespace Sm
open PySem PySem.Spec PyProof.Rows L2
/-! ### targets -/
def tG (T : Tb) (vs : List Nat) (g : AG) : TG := fun v σ H Q => ∃ M e ah d, Sta T M e ah σ H ∧ Rep T M H d v ∧ Post T W0 M H (fun e1 M1 ah1 H1 => ∀ σ1, Sta T M1 e1 ah1 σ1 H1 → wipe σ1 vs = wipe σ vs → Q σ1 H1) (g d e ah)
abbrev SG (X : Cx) (G : Gh) (vs : List Nat) (t : Expr) (g : AG) : Prop := PG X t (tG (tb X G) vs g)
theorem PG.imp {X : Cx} {t : Expr} {g g' : TG} (h : PG X t g) (f : ∀ v σ H Q, g' v σ H Q → g v σ H Q) : PG X t g' := ⟨fun pins s σ H v u Q I r q => h.run pins s σ H v u Q I r (f v σ H Q q)⟩
theorem wipe_set {σ : L2.St} {i : Nat} {x : Option V} : ∀ {vs : List Nat}, i ∈ vs → wipe (σ.set i x) vs = wipe σ vs
  | [], h => by simp at h
  | v :: vs, h => by
    show (wipe (σ.set i x) vs).set v none = (wipe σ vs).set v none
    by_cases hi : i ∈ vs
    · rw [wipe_set hi]
    · have e : i = v := by
        rcases List.mem_cons.mp h with e | e
        · exact e
        · exact absurd e hi
      subst e
      have key : ∀ (ws : List Nat), i ∉ ws → wipe (σ.set i x) ws = (wipe σ ws).set i x := by
        intro ws
        induction ws with
        | nil => intro _; rfl
        | cons w ws ih =>
          intro hw
          show (wipe (σ.set i x) ws).set w none = ((wipe σ ws).set w none).set i x
          rw [ih fun z => hw (List.mem_cons_of_mem _ z), List.set_comm _ _ fun z => hw (by rw [z]; exact List.mem_cons_self)]
      rw [key vs hi, List.set_set]
section
variable {X : Cx} {G : Gh} {W : WX} {ea eb ec : Expr} {a b c : AE} {pos : Pos}
theorem g_name {i : Nat} {x : Str} {vs : List Nat} (hN : X.N.Nodup) (hi : X.N[i]? = some x) (hx : Loc X.env.scope x) (hv : i ∈ vs) (hf : X.fn x = true ∨ X.env.scope.names.lookup x = some .local := by first | exact .inl rfl | exact .inr rfl) (hj : NG G i := by first | exact ng_none | exact ng_some (by decide) | exact ng_some (by simp)) : SG X G vs (.Name x pos) (gV i) :=
  PG.imp (pg_name hN hi hx hf) fun v σ H Q h => by
    obtain ⟨M, e, ah, d, S, r, P⟩ := h
    exact Post.here P S.h _ (S.set r i hj) (wipe_set hv)
def tGs (T : Tb) (vs : List Nat) (gs : List AG) : TGs := fun us σ H Q => ∃ M e ah ds, Sta T M e ah σ H ∧ Reps T M H ds us ∧ Post T W0 M H (fun e1 M1 ah1 H1 => ∀ σ1, Sta T M1 e1 ah1 σ1 H1 → wipe σ1 vs = wipe σ vs → Q σ1 H1) (gTs gs ds e ah)
abbrev SGs (X : Cx) (G : Gh) (vs : List Nat) (t : List Expr) (g : List AG) : Prop := PGs X t (tGs (tb X G) vs g)
theorem PGs.imp {X : Cx} {t : List Expr} {g g' : TGs} (h : PGs X t g) (f : ∀ v σ H Q, g' v σ H Q → g v σ H Q) : PGs X t g' := ⟨fun pins s σ H v u Q I r q => h.run pins s σ H v u Q I r (f v σ H Q q)⟩
/-- o[i] = v by values -/
def Set3 (X : Cx) (G : Gh) (r : TSet) (f : D → D → D → AH → R D) : Prop := ∀ (E : XK) M ah H do_ di dv o i v Q, RelH (tb X G) M ah H → Rep (tb X G) M H do_ o → Rep (tb X G) M H di i → Rep (tb X G) M H dv v → Post (tb X G) E M H (fun _ M' ah' H' => Q H') (f do_ di dv ah) → r o i v H Q
theorem z_sub {r : TSet} {f : D → D → D → AH → R D} {p : Pos} (hr : PSet X r) (hf : Set3 X G r f) (ho : SE X G W ea a) (hi : SE X G W eb b) (hv : SE X G W ec c)
    (hs : swapsWithSole [.Subscript ea eb p] ec pos.line X.env = pure false := by rfl) (hw : swappedStores [.Subscript ea eb p] ec X.env = pure none := by rfl) (h1 : (assignEach [.Subscript ea eb p] X.env).map (·.2) = [assign (.Subscript ea eb p) X.env] := by rfl)
    (ha : ∀ v, assign (.Subscript ea eb p) X.env v = (do
      let ov ← holding [v] (eval ea X.env)
      let iv ← holding [v, ov] (eval eb X.env)
      standAt p
      holding [v, ov, iv] (setItem ov iv v)
      release [v, ov, iv] []) := by intro _; rfl) : SS X G W (.Assign [.Subscript ea eb p] ec pos) (sSub f a b c) :=
  PS.imp (ps_asg hv (pg_sub ho hi hr ha) hs hw h1) fun D σ H h => by
    obtain ⟨M, e, ah, S, P⟩ := h
    have P := (up_post S P).bind
    refine ⟨M, e, ah, S, P.imp fun dv M1 ah1 H1 s1 q1 P1 v rv => ?_⟩
    refine ⟨M1, e, ah1, S.step s1 q1, P1.bindI fun do_ M2 ah2 H2 s2 q2 P2 o ro => ?_⟩
    refine ⟨M2, e, ah2, (S.step s1 q1).step s2 q2, P2.bindI fun di M3 ah3 H3 s3 q3 P3 i ri => ?_⟩
    refine hf _ _ _ _ _ _ _ _ _ _ _ q3 (ro.step s3) ri (rv.step (s2.trans s3)) (P3.imp fun z M4 ah4 H4 s4 q4 P4 => ?_)
    exact Post.here P4 q4 σ (S.step (((s1.trans s2).trans s3).trans s4) q4)
theorem set3_list : Set3 X G rSetL setIxD := by
  intro E M ah H do_ di dv o i v Q q ro ri rv P
  cases di with
  | int k =>
    obtain ⟨l, p, xs, vs, rfl, rfl, hp, hl, f, g, P⟩ := onL_ok q ro P
    obtain ⟨j, hj, P⟩ := (Post.bind P).of
    have P := P.here q
    refine ⟨p, vs, k, j, rfl, rep_int ri, f, by rw [← g.length]; exact hj, ?_⟩
    obtain ⟨s, q2⟩ := q.put (o := .lst (vs.set j v)) (u := .lst (xs.set j dv)) hp fun s => ⟨_, upd_same, (g.set rv j).step s⟩
    exact P M _ s q2
  | _ => exact P.elim
/-! ### what a loop walks -/
def SrcJ (T : Tb) (M0 : Mp) (H0 : Hp) (s : Src) (J : It) : Prop := ∀ M H ah, Step M0 H0 M H → RelH T M ah H → ∀ i : Nat,
  (∀ d, nxt s i ah = some (some d) → J.go i H ∧ ∀ x H', J.yld i H x H' → ∃ M', Step M H M' H' ∧ RelH T M' ah H' ∧ Rep T M' H' d x) ∧ (nxt s i ah = some none → J.stop i H)
def tI (W : WX) (T : Tb) (it : AI) : TI := fun σ H R => ∃ M e ah, Sta T M e ah σ H ∧ Post T (WE W σ) M H (fun s M1 ah1 H1 => ∀ J, SrcJ T M1 H1 s J → R J H1) (it e ah)
abbrev SI (X : Cx) (G : Gh) (W : WX) (tg iter : Expr) (it : AI) : Prop := PI X tg iter (tI W (tb X G) it)
theorem PI.imp {tg iter : Expr} {w w' : TI} (h : PI X tg iter w) (f : ∀ σ H R, w' σ H R → w σ H R) : PI X tg iter w' := ⟨fun pins s σ H R I q => h.run pins s σ H R I (f σ H R q)⟩
def iSeq (K : PySem.W.Frag) (tl : TE) : TI := fun σ H R => tl σ H fun x H1 => ∃ a, x = .ref a ∧ (((∃ xs, SqL K H1 a xs) ∧ R (Itl K a) H1) ∨ ((∃ xs, SqT K H1 a xs) ∧ R (Itt K a) H1))
theorem pi_seq {tg l : Expr} {tl : TE} (hl : PE X l tl) : PI X tg l (iSeq X.K tl) := by
  refine ⟨fun pins s σ H R I h => ?_⟩
  refine thn (hl.run pins s σ H _ I h) fun v s1 ⟨x, H1, I1, r1, a, e, q⟩ => ?_
  subst e
  cases r1
  have mine : ∀ b ∈ [s1.heap.objs.size], FpOk X pins H1 b := fun b hb => by
    have e : b = s1.heap.objs.size := by simpa using hb
    subst e
    exact I1.fpOk (Nat.le_refl _) (I1.hok.fresh (Nat.le_refl _))
  rcases q with ⟨⟨xs, hq⟩, q⟩ | ⟨⟨xs, hq⟩, q⟩
  · obtain ⟨its, rv, p, hz⟩ := I1.list hq
    refine wpAny_pyIter_list p.isList ?_
    exact ⟨s1.heap.objs.size, [s1.heap.objs.size], _, _, H1, rfl, I1.kept (t' := s1.toks) fun b o e => Heap.get?_push_of_some _ e, turn_list a _, ⟨_, Heap.get?_push_size _ rfl, rfl, rfl⟩, mine, q⟩
  · obtain ⟨its, rv, p, hz⟩ := I1.tuple hq
    refine wpAny_pyIter_tuple (show s1.heap.IsTuple a its.toArray from p) ?_
    exact ⟨s1.heap.objs.size, [s1.heap.objs.size], _, _, H1, rfl, I1.kept (t' := s1.toks) fun b o e => Heap.get?_push_of_some _ e, turn_tuple a _, ⟨_, Heap.get?_push_size _ rfl, rfl, rfl⟩, mine, q⟩
theorem nxt_lst {xs : List D} {i : Nat} {ah : AH} {o : Option D} (h : nxt (.lst xs) i ah = some o) : xs[i]? = o := Option.some.inj h
/-- a sequence that stands still -/
theorem srcJ_still {T : Tb} {M0 : Mp} {H0 : Hp} {xs : List D} {J : It} (vs : List V) (r : Reps T M0 H0 xs vs) (h : ∀ M H, Step M0 H0 M H → ∀ i : Nat, (∀ v, vs[i]? = some v → J.go i H ∧ ∀ x H', J.yld i H x H' → H' = H ∧ x = v) ∧ (vs.length ≤ i → J.stop i H)) : SrcJ T M0 H0 (.lst xs) J := by
  intro M H ah s q i
  obtain ⟨h1, h2⟩ := h M H s i
  refine ⟨fun d hd => ?_, fun hn => h2 ?_⟩
  · obtain ⟨v, e, rv⟩ := r.get (nxt_lst hd)
    obtain ⟨g, y⟩ := h1 v e
    refine ⟨g, fun x H' hy => ?_⟩
    obtain ⟨rfl, rfl⟩ := y x H' hy
    exact ⟨M, Step.refl _ _, q, rv.step s⟩
  · rw [← r.length]
    exact List.getElem?_eq_none_iff.mp (nxt_lst hn)
theorem itt_still {K : PySem.W.Frag} {H : Hp} {a : Addr} {vs : List V} (h : SqT K H a vs) (i : Nat) : (∀ v, vs[i]? = some v → (Itt K a).go i H ∧ ∀ x H', (Itt K a).yld i H x H' → H' = H ∧ x = v) ∧ (vs.length ≤ i → (Itt K a).stop i H) :=
  ⟨fun v e => ⟨⟨vs, v, h, e⟩, fun x H' y => ⟨y.1, Option.some.inj ((y.2 vs h).symm.trans e)⟩⟩, fun l => ⟨vs, h, l⟩⟩
theorem i_seq {tg : Expr} (ha : SE X G W ea a) : SI X G W tg ea (iS a) :=
  PI.imp (pi_seq ha) fun σ H R h => by
    obtain ⟨M, e, ah, S, P⟩ := h
    refine ⟨M, e, ah, S, P.bindI fun d M1 ah1 H1 s1 q1 P1 v hv => ?_⟩
    cases d with
    | loc l =>
      have P1' : Post (tb X G) (WE W σ) M1 H1 (fun s M1 ah1 H1 => ∀ J, SrcJ (tb X G) M1 H1 s J → R J H1) (match ah1[l]? with
        | some (.lst _) => .ok (.live l) ah1
        | _ => .no) := P1
      split at P1'
      · rename_i xs hl
        have P1 := Post.here P1' q1
        obtain ⟨p, vs, rfl, hp, f, g⟩ := rep_loc q1 hv hl
        refine ⟨p, rfl, .inl ⟨⟨vs, SqL.of f⟩, P1 _ fun M2 H2 ah2 s2 q2 i => ?_⟩⟩
        have hp2 := s2.get hp
        have key : ∀ {ys : List D}, ah2[l]? = some (.lst ys) → ∃ us, H2 p = some (.lst us) ∧ Reps (tb X G) M2 H2 ys us := fun {ys} e => q2.obj l p _ hp2 e
        constructor
        · intro d hd
          unfold nxt at hd
          dsimp only at hd
          split at hd
          · rename_i ys e
            obtain ⟨us, f2, g2⟩ := key e
            obtain ⟨u, hu, ru⟩ := g2.get (Option.some.inj hd)
            refine ⟨⟨us, u, SqL.of f2, hu⟩, fun x H' y => ?_⟩
            obtain ⟨rfl, y⟩ := y
            have := (y us (SqL.of f2)).symm.trans hu
            cases this
            exact ⟨M2, Step.refl _ _, q2, ru⟩
          · cases hd
        · intro hn
          unfold nxt at hn
          dsimp only at hn
          split at hn
          · rename_i ys e
            obtain ⟨us, f2, g2⟩ := key e
            exact ⟨us, SqL.of f2, by rw [← g2.length]; exact List.getElem?_eq_none_iff.mp (Option.some.inj hn)⟩
          · cases hn
      · exact P1'.elim
    | tup xs =>
      have P1 := Post.here P1 q1
      obtain ⟨p, vs, rfl, f, g⟩ := rep_tup hv
      exact ⟨p, rfl, .inr ⟨⟨vs, f.sq⟩, P1 _ (srcJ_still vs g fun M2 H2 s2 i => itt_still (f.mono s2.mono).sq i)⟩⟩
    | lst xs =>
      have P1 := Post.here P1 q1
      obtain ⟨p, vs, rfl, f, g⟩ := (show ∃ p vs, v = .ref p ∧ FL M1 H1 p vs ∧ Reps (tb X G) M1 H1 xs vs by rwa [Rep] at hv)
      exact ⟨p, rfl, .inl ⟨⟨vs, f.sq⟩, P1 _ (srcJ_still vs g fun M2 H2 s2 i => ⟨fun w e => ⟨⟨vs, w, (f.mono s2.mono).sq, e⟩, fun x H' y => ⟨y.1, Option.some.inj ((y.2 vs (f.mono s2.mono).sq).symm.trans e)⟩⟩, fun l => ⟨vs, (f.mono s2.mono).sq, l⟩⟩)⟩⟩
    | scr xs =>
      have P1 := Post.here P1 q1
      obtain ⟨p, vs, rfl, f, g⟩ := (show ∃ p vs, v = .ref p ∧ FS X.K M1 H1 p vs ∧ Reps (tb X G) M1 H1 xs vs by rwa [Rep] at hv)
      exact ⟨p, rfl, .inl ⟨⟨vs, f.sq⟩, P1 _ (srcJ_still vs g fun M2 H2 s2 i => ⟨fun w e => ⟨⟨vs, w, (f.mono (T := tb X G) s2.mono).sq, e⟩, fun x H' y => ⟨y.1, Option.some.inj ((y.2 vs (f.mono (T := tb X G) s2.mono).sq).symm.trans e)⟩⟩, fun l => ⟨vs, (f.mono (T := tb X G) s2.mono).sq, l⟩⟩)⟩⟩
    | _ => exact P1.elim
theorem srcJ_rng {T : Tb} {M0 : Mp} {H0 : Hp} {lo : Int} {n : Nat} : SrcJ T M0 H0 (.lst (rng lo n)) (Itr lo n) := by
  intro M H ah s q i
  have len : (rng lo n).length = n := by simp [rng]
  refine ⟨fun d hd => ?_, fun hn => ?_⟩
  · have hd := nxt_lst hd
    have hi : i < n := by have := (List.getElem?_eq_some_iff.mp hd).1; rwa [len] at this
    refine ⟨hi, fun x H' y => ?_⟩
    obtain ⟨rfl, rfl⟩ := y
    refine ⟨M, Step.refl _ _, q, ?_⟩
    have e : d = .int (lo + i) := by
      unfold rng at hd
      rw [List.getElem?_map, List.getElem?_range hi] at hd
      exact (Option.some.inj hd).symm
    rw [e, Rep]
  · have := List.getElem?_eq_none_iff.mp (nxt_lst hn)
    rw [len] at this
    exact this
theorem i_rng1 {tg : Expr} {x : Str} {p : Pos} (hx : x = "range") (hg : Gl X x) (hm : X.mg x = none) (ha : SE X G W ea a) (hs : starEach [ea] X.env = [(false, eval ea X.env)] := by rfl) (hs' : starEach [ea] X.env = (false, eval ea X.env) :: starEach [] X.env := by rfl) : SI X G W tg (.Call (.Name x p) [ea] [] pos) (iR1 a) := by
  subst hx
  refine PI.imp (pi_range1 hg hm (pa_cons ha pa_nil hs') hs) fun σ H R h => ?_
  obtain ⟨M, e, ah, S, P⟩ := h
  refine ⟨M, e, ah, S, P.bindI fun d M1 ah1 H1 s1 q1 P1 v hv => ?_⟩
  cases d with
  | int j =>
    obtain ⟨hz, P1⟩ := Post.chk P1
    obtain ⟨z1, z2⟩ := (inI_iff _).mp hz
    exact ⟨j, by rw [rep_int hv], z1, z2, Post.here P1 q1 _ srcJ_rng⟩
  | _ => exact P1.elim
theorem i_rng2 {tg : Expr} {x : Str} {p : Pos} (hx : x = "range") (hg : Gl X x) (hm : X.mg x = none) (ha : SE X G W ea a) (hb : SE X G W eb b) (hs : starEach [ea, eb] X.env = [(false, eval ea X.env), (false, eval eb X.env)] := by rfl) (hs2 : starEach [eb] X.env = [(false, eval eb X.env)] := by rfl)
    (hs' : starEach [ea, eb] X.env = (false, eval ea X.env) :: starEach [eb] X.env := by rfl) (hs2' : starEach [eb] X.env = (false, eval eb X.env) :: starEach [] X.env := by rfl) : SI X G W tg (.Call (.Name x p) [ea, eb] [] pos) (iR2 a b) := by
  subst hx
  refine PI.imp (pi_range2 hg hm (pa_cons ha (pa_cons hb pa_nil hs2') hs') hs hs2) fun σ H R h => ?_
  obtain ⟨M, e, ah, S, P⟩ := h
  refine ⟨M, e, ah, S, P.bindI fun d M1 ah1 H1 s1 q1 P1 v hv => ?_⟩
  refine ⟨M1, e, ah1, S.step s1 q1, P1.bindI fun d2 M2 ah2 H2 s2 q2 P2 v2 hv2 => ?_⟩
  cases d with
  | int i =>
    cases d2 with
    | int j =>
      obtain ⟨hz, P2⟩ := Post.chk P2
      rw [Bool.and_eq_true] at hz
      obtain ⟨z1, z2⟩ := (inI_iff _).mp hz.1
      obtain ⟨z3, z4⟩ := (inI_iff _).mp hz.2
      exact ⟨i, j, by rw [rep_int hv, rep_int hv2], ⟨z1, z2, z3, z4⟩, Post.here P2 q2 _ srcJ_rng⟩
    | _ => exact P2.elim
  | _ => exact P2.elim
/-! ### for, while -/
theorem z_for {iter tg : Expr} {body : List Stmt} {it : AI} {g : AG} {s : AS} {vs : List Nat} (hp : PassesOwn (model X.prog X.w) X.A X.env X.xe) (hc : X.calm = true) (hi : SI X G W tg iter it) (hg : SG X G vs tg g) (hb : SSs X G W body s)
    (hs : ∀ x, foldedSetIterable iter X.env x = pure x := by intro _; rfl) : SS X G W (.For tg iter body [] pos) (sFor it g s) :=
  PS.imp (ps_for hp hc hi hg hb hs) fun D σ H h => by
    obtain ⟨M, e, ah, S, P⟩ := h
    refine ⟨M, e, ah, S, upI S P fun sr M1 ah1 H1 s1 q1 P1 J hJ => ?_⟩
    refine ⟨fun i m σ' H' => ∃ M' e' ah', Sta (tb X G) M' e' ah' σ' H' ∧ Step M1 H1 M' H' ∧ Post (tb X G) W0 M' H' (EndsAt W (tb X G) D) (forN g s sr m i e' ah'), ⟨sr.fuel, M1, e, ah1, S.step s1 q1, Step.refl _ _, P1⟩, ?_⟩
    rintro i m σ' H' ⟨M', e', ah', S', st', P'⟩
    obtain ⟨go, stop⟩ := hJ M' H' ah' st' S'.h i
    cases m with
    | zero => exact P'.elim
    | succ m =>
      unfold forN at P'
      cases hn : nxt sr i ah' with
      | none => rw [hn] at P'; exact P'.elim
      | some o =>
        rw [hn] at P'
        cases o with
        | none => exact .inl ⟨stop hn, Post.here P' S'.h σ' S'⟩
        | some d =>
          obtain ⟨g0, yl⟩ := go d hn
          refine .inr ⟨g0, fun σ2 H2 => ∃ M2 e2 ah2, Sta (tb X G) M2 e2 ah2 σ2 H2 ∧ Step M1 H1 M2 H2 ∧ Post (tb X G) W0 M2 H2 (EndsAt W (tb X G) D) (forN g s sr m (i + 1) e2 ah2), fun σ2 H2 h2 => ⟨m, Nat.lt_succ_self m, h2⟩, fun x H3 hy => ?_⟩
          obtain ⟨M3, s3, q3, r3⟩ := yl x H3 hy
          have P' : Post (tb X G) W0 M' H' (EndsAt W (tb X G) D) ((g d e' ah').bind fun e1 h1 => (s e1 h1).bind fun f h2 => turn f h2 (forN g s sr m (i + 1))) := P'
          refine ⟨M3, e', ah', d, S'.step s3 q3, r3, Post.bindI (P'.step s3) fun e4 M4 ah4 H4 s4 q4 P4 σ4 S4 _ => ?_⟩
          refine ⟨M4, e4, ah4, S4, Post.bindI P4 fun f M5 ah5 H5 s5 q5 P5 => ?_⟩
          have tot := ((st'.trans s3).trans s4).trans s5
          cases f with
          | nx e5 => exact fun σ5 S5 => ⟨M5, e5, ah5, S5, tot, P5⟩
          | ct e5 => exact fun σ5 S5 => ⟨M5, e5, ah5, S5, tot, P5⟩
          | bk e5 => exact fun σ5 S5 => Post.here (W := W0) P5 q5 σ5 S5
          | rt d5 => exact Post.here (W := W0) P5 q5
          | ex x5 e5 => exact Post.here (W := W0) P5 q5
theorem z_while {et : Expr} {body : List Stmt} {t : AB} {s : AS} (hp : PassesOwn (model X.prog X.w) X.A X.env X.xe) (ht : SB X G W et t) (hb : SSs X G W body s) : SS X G W (.While et body [] pos) (sWhile t s) :=
  PS.imp (ps_while hp ht hb) fun D σ H h => by
    obtain ⟨M, e, ah, S, P⟩ := h
    refine ⟨fun m σ' H' => ∃ M' e' ah', Sta (tb X G) M' e' ah' σ' H' ∧ Post (tb X G) W0 M' H' (EndsAt W (tb X G) D) (whileN t s m e' ah'), ⟨_, M, e, ah, S, P⟩, ?_⟩
    rintro m σ' H' ⟨M', e', ah', S', P'⟩
    cases m with
    | zero => exact ⟨M', e', ah', S', P'.elim⟩
    | succ m =>
      unfold whileN at P'
      refine ⟨M', e', ah', S', upI S' P' fun k M1 ah1 H1 s1 q1 P1 => ?_⟩
      cases k with
      | false =>
        rw [if_neg Bool.false_ne_true]
        exact Post.here (W := W0) P1 q1 σ' (S'.step s1 q1)
      | true =>
        rw [if_pos rfl]
        refine ⟨fun σ2 H2 => ∃ M2 e2 ah2, Sta (tb X G) M2 e2 ah2 σ2 H2 ∧ Post (tb X G) W0 M2 H2 (EndsAt W (tb X G) D) (whileN t s m e2 ah2), fun σ2 H2 h2 => ⟨m, Nat.lt_succ_self m, h2⟩, ?_⟩
        have P1 : Post (tb X G) W0 M1 H1 (EndsAt W (tb X G) D) ((s e' ah1).bind fun f h2 => turn f h2 (whileN t s m)) := P1
        refine ⟨M1, e', ah1, S'.step s1 q1, Post.bindI P1 fun f M5 ah5 H5 s5 q5 P5 => ?_⟩
        cases f with
        | nx e5 => exact fun σ5 S5 => ⟨M5, e5, ah5, S5, P5⟩
        | ct e5 => exact fun σ5 S5 => ⟨M5, e5, ah5, S5, P5⟩
        | bk e5 => exact fun σ5 S5 => Post.here (W := W0) P5 q5 σ5 S5
        | rt d5 => exact Post.here (W := W0) P5 q5
        | ex x5 e5 => exact Post.here (W := W0) P5 q5
end
end Sm
end

section
set_option Elab.async false
set_option linter.all false
set_option maxRecDepth 100000
set_option maxHeartbeats 1000000
namespace Sm
open PySem PySem.Spec PyProof.Rows L2
/-! ### comprehensions -/
abbrev WF : WX := fun _ _ _ _ => False
section
variable {α β : Type} {T : Tb} {W : XK} {M M' : Mp} {H H' : Hp}
theorem Post.nox {P : β → Mp → AH → Hp → Prop} {f : α → AH → R β} : ∀ {r : R α}, Post T W M H P (r.nox.bind f) → ∃ a ah, r = .ok a ah ∧ Post T W M H P (f a ah)
  | .ok a ah, h => ⟨a, ah, rfl, h⟩
  | .exc _ _, h => h.elim
  | .no, h => h.elim
theorem Post.ofOk {P : α → Mp → AH → Hp → Prop} {r : R α} {a : α} {ah : AH} (e : r = .ok a ah) (h : ∀ M' H', Step M H M' H' → RelH T M' ah H' → P a M' ah H') : Post T W M H P r := by
  rw [e]; exact h
theorem Sta.mono {e : Env} {ah : AH} {σ : L2.St} (S : Sta T M e ah σ H) (s : Mono M M' H H') (q : RelH T M' ah H') : Sta T M' e ah σ H' :=
  ⟨q, S.len, fun i d g => let ⟨v, a, b⟩ := S.slot i d g; ⟨v, a, b.mono s⟩, fun p hp => ⟨(S.gh p hp).1, (S.gh p hp).2.mono s⟩⟩
theorem wipeE_len (e : Env) : ∀ vs : List Nat, (wipeE e vs).length = e.length
  | [] => rfl
  | v :: vs => by rw [wipeE, List.length_set, wipeE_len e vs]
theorem Sta.wipe {e : Env} {ah : AH} {σ : L2.St} (hg : T.g = none) (S : Sta T M e ah σ H) : ∀ vs : List Nat, Sta T M (wipeE e vs) ah (L2.wipe σ vs) H
  | [] => S
  | v :: vs => by
    have S' := Sta.wipe hg S vs
    refine ⟨S'.h, by rw [wipeE_len, wipe_length, S.len], fun i d hd => ?_, fun p hp => by rw [hg] at hp; cases hp⟩
    rw [wipeE] at hd
    show ∃ x, ((L2.wipe σ vs).set v none)[i]? = some (some x) ∧ _
    by_cases hi : i = v
    · subst hi
      by_cases hl : i < (wipeE e vs).length
      · rw [List.getElem?_set_self hl] at hd; cases hd
      · rw [List.getElem?_eq_none (by simpa using hl)] at hd; cases hd
    · rw [List.getElem?_set_ne (Ne.symm hi)] at hd
      rw [List.getElem?_set_ne (Ne.symm hi)]
      exact S'.slot i d hd
end
theorem wipe_get (σ : L2.St) (i : Nat) : ∀ vs : List Nat, (L2.wipe σ vs)[i]? = if i ∈ vs ∧ i < σ.length then some none else σ[i]?
  | [] => by simp [L2.wipe]
  | v :: vs => by
    show ((L2.wipe σ vs).set v none)[i]? = _
    rw [List.getElem?_set, wipe_get σ i vs, wipe_length]
    by_cases h : v = i
    · subst h
      by_cases hl : v < σ.length
      · simp [hl]
      · simp [hl]
    · rw [if_neg h]
      by_cases hl : i ∈ vs
      · simp [hl]
      · simp [hl, Ne.symm h]
theorem wipe_wipe (σ : L2.St) (vs : List Nat) : L2.wipe (L2.wipe σ vs) vs = L2.wipe σ vs := by
  refine List.ext_getElem? fun i => ?_
  rw [wipe_get, wipe_get σ, wipe_length]
  by_cases h : i ∈ vs ∧ i < σ.length
  · rw [if_pos h, if_pos h]
  · rw [if_neg h]
theorem lc_read {T : Tb} (hg : T.g = none) {W : WX} {fz : Bool} {vs : List Nat} {it : AI} {g : AG} {t : AB} {a : AE} {σ : L2.St} {H : Hp} {Q : VK} (h : tE W T (eLC fz vs it g t a) σ H Q) :
    tLc (tI W T it) (tG T vs g) (tT WF T t) (tE WF T a) vs σ H Q := by
  obtain ⟨M, e, ah, S, P⟩ := h
  refine ⟨M, e, ah, S, P.bindI fun sr M1 ah1 H1 s1 q1 P1 J hJ p hp => ?_⟩
  have f1 := q1.offNew hp
  -- the new list: nothing leans on it
  let N1 : Mp := ⟨M1.m, M1.ex ++ [p]⟩
  have sN : Step M1 H1 N1 (upd H1 p (.lst [])) := ⟨⟨[], by simp [N1], by simp⟩, ⟨[p], rfl, by simpa using hp⟩, fun b o e _ => by rw [upd_ne (ne_of_none e hp)]; exact e, (step_new (M := M1) (.lst []) hp).there⟩
  have qN : RelH T N1 ah1 (upd H1 p (.lst [])) := by
    refine ⟨q1.len, q1.nd, fun b hb z => ?_, fun b hb => ?_, fun l b o e1 e2 => ?_⟩
    · rcases List.mem_append.mp z with z | z
      · exact q1.off b hb z
      · simp at z; exact f1.1 (z ▸ hb)
    · rcases List.mem_append.mp hb with z | z
      · exact sN.there b (q1.exs b z)
      · simp at z; subst z; rw [upd_same]; simp
    · exact (q1.obj l b o e1 e2).step sN (upd_ne fun z => f1.1 (by rw [← z]; exact List.mem_of_getElem? e1))
  refine ⟨fun i m H' => ∃ M' ah' acc us, H' p = some (.lst us) ∧ Sta T M' (wipeE e vs) ah' (wipe σ vs) H' ∧ Step M1 H1 M' H' ∧ p ∈ M'.ex ∧ Reps T M' H' acc us ∧
    Post T (WE W σ) M1 H1 (fun d M' _ H' => ∀ v, Rep T M' H' d v → Q v H') ((lcN g t a (wipeE e vs) sr m i acc ah').bind fun ys h2 => mkL fz ys h2), ⟨sr.fuel, N1, ah1, [], [], upd_same, ((Sta.wipe hg (S.step s1 q1) vs).step sN qN), sN, (by simp [N1]), Reps.nil, P1⟩, ?_⟩
  rintro i m H' ⟨M', ah', acc, us, hD, S', st', pex, ra, P'⟩
  obtain ⟨go, stop⟩ := hJ M' H' ah' st' S'.h i
  cases m with
  | zero => exact P'.elim
  | succ m =>
    unfold lcN at P'
    cases hn : nxt sr i ah' with
    | none => rw [hn] at P'; exact P'.elim
    | some o =>
      rw [hn] at P'
      cases o with
      | none =>
        -- the end: the list is handed out
        refine .inl ⟨stop hn, ?_⟩
        have P' : Post T (WE W σ) M1 H1 (fun d M' _ H' => ∀ v, Rep T M' H' d v → Q v H') (mkL fz acc ah') := P'
        obtain ⟨r1, e1, k1⟩ := st'.pre
        obtain ⟨r2, e2, k2⟩ := st'.ex
        have pm : p ∉ M'.m := fun z => S'.h.off p z pex
        let r3 := r2.filter fun b => b ≠ p
        have r3r : ∀ b ∈ r3, b ∈ r2 := fun b hb => (List.mem_filter.mp hb).1
        have r3p : p ∉ r3 := fun z => by have := (List.mem_filter.mp z).2; simp at this
        have sub : ∀ b ∈ M1.ex ++ r3, b ∈ M'.ex := fun b hb => by
          rw [e2]
          rcases List.mem_append.mp hb with z | z
          · exact List.mem_append_left _ z
          · exact List.mem_append_right _ (r3r b z)
        have pno : p ∉ M1.ex ++ r3 := fun z => by
          rcases List.mem_append.mp z with z | z
          · exact f1.2 z
          · exact r3p z
        cases fz with
        | true =>
          let M2 : Mp := ⟨M'.m, M1.ex ++ r3⟩
          have mo : Mono M' M2 H' H' := ⟨fun _ _ h => h, fun b _ f _ => ⟨f.1, fun z => f.2 (sub b z)⟩, fun _ _ _ h => h⟩
          have s2 : Step M1 H1 M2 H' := ⟨⟨r1, e1, k1⟩, ⟨r3, rfl, fun b hb => k2 b (r3r b hb)⟩, st'.keep, st'.there⟩
          have q2 : RelH T M2 ah' H' := ⟨S'.h.len, S'.h.nd, fun b hb z => S'.h.off b hb (sub b z), fun b hb => S'.h.exs b (sub b hb), fun l b o h1 h2 => (S'.h.obj l b o h1 h2).mono mo rfl⟩
          refine P' M2 H' s2 q2 _ ?_
          rw [Rep]
          exact ⟨p, us, rfl, ⟨⟨pm, pno⟩, hD⟩, ra.mono mo⟩
        | false =>
          let M2 : Mp := ⟨M'.m ++ [p], M1.ex ++ r3⟩
          have mo : Mono M' M2 H' H' := ⟨fun l b h => by
            show (M'.m ++ [p])[l]? = some b
            rw [List.getElem?_append_left (List.getElem?_eq_some_iff.mp h).1]; exact h, fun b _ f _ => ⟨fun z => by
              rcases List.mem_append.mp z with z | z
              · exact f.1 z
              · simp at z; exact f.2 (z ▸ pex), fun z => f.2 (sub b z)⟩, fun _ _ _ h => h⟩
          have s2 : Step M1 H1 M2 H' := ⟨⟨r1 ++ [p], by show M'.m ++ [p] = _; rw [e1, List.append_assoc], fun b hb => by
            rcases List.mem_append.mp hb with z | z
            · exact k1 b z
            · simp at z; subst z; exact hp⟩, ⟨r3, rfl, fun b hb => k2 b (r3r b hb)⟩, st'.keep, st'.there⟩
          have q2 : RelH T M2 (ah' ++ [.lst acc]) H' := by
            refine ⟨by simp [M2, S'.h.len], ?_, fun b hb z => ?_, fun b hb => S'.h.exs b (sub b hb), fun l b o h1 h2 => ?_⟩
            · rw [List.nodup_append]
              exact ⟨S'.h.nd, by simp, fun x hx y hy => by simp at hy; subst hy; exact fun z => pm (z ▸ hx)⟩
            · rcases List.mem_append.mp hb with w | w
              · exact S'.h.off b w (sub b z)
              · simp at w; subst w
                exact pno z
            · by_cases hl : l < M'.m.length
              · rw [List.getElem?_append_left hl] at h1
                rw [List.getElem?_append_left (by rw [← S'.h.len]; exact hl)] at h2
                exact (S'.h.obj l b o h1 h2).mono mo rfl
              · have : l < (M'.m ++ [p]).length := (List.getElem?_eq_some_iff.mp h1).1
                have hl2 : l = M'.m.length := by simp at this; omega
                subst hl2
                rw [List.getElem?_append_right (Nat.le_refl _)] at h1
                rw [List.getElem?_append_right (by rw [S'.h.len]; exact Nat.le_refl _)] at h2
                simp [S'.h.len] at h1 h2
                subst h1 h2
                exact ⟨us, hD, ra.mono mo⟩
          refine P' M2 H' s2 q2 _ ?_
          rw [Rep]
          refine ⟨p, rfl, ?_⟩
          show (M'.m ++ [p])[ah'.length]? = some p
          rw [← S'.h.len]; simp
      | some d =>
        obtain ⟨g0, yl⟩ := go d hn
        refine .inr ⟨g0, fun H2 => ∃ M2 ah2 acc2 us2, H2 p = some (.lst us2) ∧ Sta T M2 (wipeE e vs) ah2 (wipe σ vs) H2 ∧ Step M1 H1 M2 H2 ∧ p ∈ M2.ex ∧ Reps T M2 H2 acc2 us2 ∧
          Post T (WE W σ) M1 H1 (fun d M' _ H' => ∀ v, Rep T M' H' d v → Q v H') ((lcN g t a (wipeE e vs) sr m (i + 1) acc2 ah2).bind fun ys h2 => mkL fz ys h2), fun H2 h2 => ⟨m, Nat.lt_succ_self m, h2⟩, fun x H3 hy => ?_⟩
        obtain ⟨M3, s3, q3, r3⟩ := yl x H3 hy
        have P' : Post T (WE W σ) M1 H1 (fun d M' _ H' => ∀ v, Rep T M' H' d v → Q v H') ((((g d (wipeE e vs) ah').nox.bind fun e1 h1 => (t e1 h1).nox.bind fun c h2 => if c then (a e1 h2).nox.bind fun y h3 => R.chk (decide (acc.length < big)) (lcN g t a (wipeE e vs) sr m (i + 1) (acc ++ [y]) h3) else lcN g t a (wipeE e vs) sr m (i + 1) acc h2)).bind fun ys h2 => mkL fz ys h2) := P'
        rw [bind_assoc] at P'
        obtain ⟨e4, ah4, eg, P'⟩ := P'.nox
        refine ⟨M3, _, ah', d, S'.step s3 q3, r3, Post.ofOk eg fun M4 H4 s4 q4 σ4 S4 w4 => ⟨w4.trans (wipe_wipe σ vs), ?_⟩⟩
        rw [bind_assoc] at P'
        obtain ⟨k, ah5, et, P'⟩ := P'.nox
        refine ⟨M4, e4, ah4, S4, Post.ofOk et fun M5 H5 s5 q5 => ?_⟩
        have pin := pex
        have keepD : ∀ {Ma Mb : Mp} {Ha Hb : Hp}, Step Ma Ha Mb Hb → p ∉ Ma.m → Ha p = some (.lst us) → Hb p = some (.lst us) := fun s z e => s.keep p _ e z
        have grow : ∀ {Ma Mb : Mp} {Ha Hb : Hp}, Step Ma Ha Mb Hb → p ∈ Ma.ex → p ∈ Mb.ex := fun s z => by
          obtain ⟨r, e, _⟩ := s.ex
          rw [e]; exact List.mem_append_left _ z
        have s345 := (s3.trans s4).trans s5
        have hD5 : H5 p = some (.lst us) := keepD s345 (fun z => S'.h.off p z pin) hD
        have S5 := S'.step s345 q5
        cases k with
        | false =>
          rw [if_neg Bool.false_ne_true] at P'
          exact iteF ⟨M5, ah5, acc, us, hD5, S5, st'.trans s345, grow s345 pin, ra.step s345, P'⟩
        | true =>
          rw [if_pos rfl] at P'
          rw [bind_assoc] at P'
          refine iteT ?_
          obtain ⟨y, ah6, ea, P'⟩ := P'.nox
          refine ⟨M5, e4, ah5, S4.step s5 q5, Post.ofOk ea fun M6 H6 s6 q6 v6 hv6 => ?_⟩
          have s3456 := s345.trans s6
          have hD6 : H6 p = some (.lst us) := keepD s3456 (fun z => S'.h.off p z pin) hD
          have pin6 : p ∈ M6.ex := grow s3456 pin
          have pm6 : p ∉ M6.m := fun z => q6.off p z pin6
          have P' : Post T (WE W σ) M1 H1 (fun d M' _ H' => ∀ v, Rep T M' H' d v → Q v H') ((R.chk (decide (acc.length < big)) (lcN g t a (wipeE e vs) sr m (i + 1) (acc ++ [y]) ah6)).bind fun ys h2 => mkL fz ys h2) := P'
          have hz : decide (acc.length < big) = true := by
            cases z : decide (acc.length < big) with
            | true => rfl
            | false => rw [z] at P'; exact P'.elim
          rw [hz] at P'
          refine ⟨us, hD6, by rw [← (ra.step s3456).length, ← big_eq]; exact of_decide_eq_true hz, M6, ah6, acc ++ [y], us ++ [v6], upd_same, ?_⟩
          have mo : Mono M6 M6 H6 (upd H6 p (.lst (us ++ [v6]))) := ⟨fun _ _ h => h, fun _ _ f _ => f, fun b o f h => by rw [upd_ne fun z => f.2 (by rw [z]; exact pin6)]; exact h⟩
          have q7 : RelH T M6 ah6 (upd H6 p (.lst (us ++ [v6]))) := ⟨q6.len, q6.nd, q6.off, fun b hb => by
            by_cases z : b = p
            · rw [z, upd_same]; simp
            · rw [upd_ne z]; exact q6.exs b hb, fun l b o h1 h2 => (q6.obj l b o h1 h2).mono mo (upd_ne fun z => pm6 (by rw [← z]; exact List.mem_of_getElem? h1))⟩
          have s7 : Step M1 H1 M6 (upd H6 p (.lst (us ++ [v6]))) := by
            have s := st'.trans s3456
            refine ⟨s.pre, s.ex, fun b o h1 h2 => ?_, fun b hb => ?_⟩
            · rw [upd_ne (ne_of_none h1 hp)]; exact s.keep b o h1 h2
            · rw [upd_ne (fun z => hb (by rw [z]; exact hp))]; exact s.there b hb
          exact ⟨(S'.step s3456 q6).mono mo q7, s7, pin6, (ra.step s3456).app (Reps.cons hv6 Reps.nil) |>.mono mo, P'⟩
end Sm
end

section
set_option Elab.async false
set_option linter.all false
set_option maxRecDepth 100000
set_option maxHeartbeats 1000000
/-! SimG: promises of defs below which no repr is at work (a room that knows its guards). -/
namespace Sm
open PySem PySem.Spec PyProof.Rows L2
structure RoomG (k : Nat) (A : Around) : Prop where
  room : Room k A
  gd : A.guards = some []
section
variable {j k : Nat} {A : Around}
theorem RoomG.mono (r : RoomG k A) (h : j ≤ k) : RoomG j A := ⟨r.room.mono h, r.gd⟩
theorem RoomG.deeper (r : RoomG (k + 1) A) (v : PySem.Env) : RoomG k (A.deeper v) := ⟨r.room.deeper v, r.gd⟩
theorem RoomG.in1 (r : RoomG (k + 1) A) : RoomG k A.in1 := ⟨r.room.in1, r.gd⟩
theorem RoomG.units (r : RoomG k A) : A.units + 64 < cLine := r.room.units
theorem RoomG.units0 (r : RoomG k A) : A.units < cLine := r.room.units0
theorem RoomG.hd (r : RoomG k A) : A.handled = none := r.room.hd
theorem make_gd {C : Addr} {us : List Value} {kw : List (Str × Value)} : (A.under (.builtin "type.__call__" ⟨.ref C :: us, kw⟩)).guards = A.guards := by
  have h : (Code.builtin "type.__call__" ⟨.ref C :: us, kw⟩).guards = [] := by
    unfold Code.guards
    have : (Code.builtin "type.__call__" ⟨.ref C :: us, kw⟩).isGuard = false := by
      first | rfl | simp [Code.isGuard, guardIds] | decide
    rw [this]; rfl
  unfold Around.under
  dsimp only
  rw [h]
  cases A.guards <;> rfl
theorem RoomG.make (r : RoomG (k + 1) A) (C : Addr) (us : List Value) (kw : List (Str × Value)) : RoomG k (A.under (.builtin "type.__call__" ⟨.ref C :: us, kw⟩)) := ⟨r.room.make C us kw, make_gd.trans r.gd⟩
end
/-- as FnOk, where no repr is at work -/
structure FnG (P : Program) (w : World) (K : PySem.W.Frag) (mg : Str → Option Value) (base : Heap) (CX : CXT) (k : Nat) (f : Addr) (fd : FuncData) (ps : List Str) (sp : Sp) : Prop where
  len : ∀ vs H Q E, sp vs H Q E → vs.length = ps.length
  run : ∀ (B : Around) (out : List PySem.Env) (s : Shared) (H : Hp) (ar : Args) (us : List Value) (vs : List V) (Q : VK) (E : XK), RoomG k B → Env0 P w K mg base B out s H → BindsTo s fd ar (ps.zip us) → Vals vs us → sp vs H Q E →
    codeAny (model P w) B (.call (.ref f) ar) (CR CX out P w H s Q E) s
section
variable {P : Program} {w : World} {K : PySem.W.Frag} {mg : Str → Option Value} {base : Heap} {CX : CXT} {j k : Nat} {f : Addr} {fd : FuncData} {ps : List Str} {sp sp2 : Sp}
theorem FnG.of (F : FnOk P w K mg base CX k f fd ps sp) : FnG P w K mg base CX k f fd ps sp := ⟨F.len, fun B out s H ar us vs Q E r => F.run B out s H ar us vs Q E r.room⟩
theorem FnG.mono (F : FnG P w K mg base CX j f fd ps sp) (h : j ≤ k) : FnG P w K mg base CX k f fd ps sp := ⟨F.len, fun B out s H ar us vs Q E r => F.run B out s H ar us vs Q E (r.mono h)⟩
theorem FnG.imp (F : FnG P w K mg base CX k f fd ps sp) (h : ∀ vs H Q E, sp2 vs H Q E → sp vs H Q E) : FnG P w K mg base CX k f fd ps sp2 :=
  ⟨fun vs H Q E z => F.len vs H Q E (h _ _ _ _ z), fun B out s H ar us vs Q E r e b v z => F.run B out s H ar us vs Q E r e b v (h _ _ _ _ z)⟩
/-- a def by its body -/
theorem fng_of {nm ql : Str} {pr : Arguments} {bd : List Stmt} {sc : Scope} {dV kV doc pm cdv ct oc : Value} {an od : Option Addr} {osl : Array (Option Value)} {N : List Str}
    (lk : K.lookup f = some ⟨oc, od, .func (PySem.W.fnOf nm ql pr bd sc dV kV doc pm an cdv ct), osl⟩) (hcd : PySem.W.codeIn K cdv ql = true) (S : FnScope N ps sc) (len : ∀ vs H Q E, sp vs H Q E → vs.length = ps.length)
    (hb : ∀ (B : Around) (out : List PySem.Env) (s : Shared) (H : Hp) (vs : List V) (Q : VK) (E : XK), RoomG k (B.deeper (envOfC ql sc s.heap.objs.size f cdv)) → sp vs H Q E →
      ∃ t, PSs (cxOf CX P w K mg base N ql sc f cdv B out s H E) bd t ∧ t { nx := fun _ H2 => Q .non H2, rt := Q } (start N vs) H) :
    FnG P w K mg base CX (k + 1) f (PySem.W.fnOf nm ql pr bd sc dV kV doc pm an cdv ct) ps sp := by
  refine ⟨len, fun B out s H ar us vs Q E r e0 bt rv z => ?_⟩
  have hlen := len _ _ _ _ z
  have inK : K.In s.heap := e0.mod.kin.keeps fun b o e => (e0.bs b o e).1
  have nolim : s.heap.NoLimit := e0.mod.nolimit.keeps fun b o e => (e0.bs b o e).1
  have kinds : ∀ y ∈ ps.zip us, sc.names.lookup y.1 = some .local ∨ (sc.names.lookup y.1 = some .cell ∧ ((cellsFrom (s.heap.objs.size + 1) sc.names []).lookup y.1).isSome = true) := by
    rintro ⟨n, v⟩ hy
    exact (S.par n (List.of_mem_zip hy).1).imp id fun q => ⟨q, PySem.W.cellsFrom_some _ _ _ (.inl q)⟩
  refine codeAny_call_function r.room.depth (inK _ _ lk) rfl S.co S.gen rfl (PySem.W.codeRec_of inK hcd) (bt _ _ _ _ ?_)
  refine wpAny_newFunctionEnv_cells S.kind kinds fun en hen s1 x => ?_
  subst hen
  refine ⟨nolim.keeps x.toInCall.keep, codeAny_func ?_⟩
  obtain ⟨t, tb, tq⟩ := hb B out s H vs Q E (r.deeper _) z
  have I := inv_start (CX := CX) (P := P) (w := w) (E := E) S r.room.hd e0 hlen rv x
  have ends : ∀ {σ2 : L2.St} {H2 : Hp} {v : V} {u : Value} {s2 : Shared}, Inv (cxOf CX P w K mg base N ql sc f cdv B out s H E) [] σ2 H2 s2 → RelV v u → Q v H2 → CE out P w H s Q u s2 :=
    fun J a b => ⟨_, _, J.os, J.bare, J.base, J.hok, a, b⟩
  refine wpAny_mono (tb.run [] s1 (start N vs) H _ I tq) (fun fl s2 h2 => ?_) fun _ _ h2 => h2
  cases fl with
  | brk => exact h2.elim fun _ h3 => h3.elim fun _ h4 => h4.2.elim
  | cont => exact h2.elim fun _ h3 => h3.elim fun _ h4 => h4.2.elim
  | next => exact h2.elim fun _ h3 => h3.elim fun _ h4 => ends (v := V.non) (u := Value.none) h4.1 rfl h4.2
  | ret u => exact h2.elim fun _ h3 => h3.elim fun _ h4 => h4.elim fun _ h5 => ends h5.1 h5.2.1 h5.2.2
theorem okG {x ql : Str} {st : Stmt} {N : List Str} (F : Fun K x ql st f fd) (S : FnScope N ps (defScope st)) (len : ∀ vs H Q E, sp vs H Q E → vs.length = ps.length)
    (hb : ∀ (cdv : Value) (B : Around) (out : List PySem.Env) (s : Shared) (H : Hp) (vs : List V) (Q : VK) (E : XK), RoomG k (B.deeper (envOfC ql (defScope st) s.heap.objs.size f cdv)) → sp vs H Q E →
      ∃ t, PSs (cxOf CX P w K mg base N ql (defScope st) f cdv B out s H E) (defBody st) t ∧ t { nx := fun _ H2 => Q .non H2, rt := Q } (start N vs) H) : FnG P w K mg base CX (k + 1) f fd ps sp := by
  obtain ⟨oc, od, kV, doc, pm, an, cdv, ct, osl, rfl, lk, hcd⟩ := F.ex
  exact fng_of lk hcd S len fun B out s H vs Q E r z => hb cdv B out s H vs Q E r z
end
section
variable {X : Cx} {CX : CXT} {k : Nat} {f C : Addr} {fd : FuncData} {ps : List Str} {sp : Sp} {E : L2.St → XK} {x m : Str} {p pos : Pos} {e : Expr} {es : List Expr} {t : TA}
theorem run_fnG {pins : List (Addr × Obj)} {σ : L2.St} {H : Hp} {s : Shared} {Q : VK} {us : List Value} {vs : List V} (F : FnG X.prog X.w X.K X.mg X.base CX k f fd ps sp) (hr : RoomG k X.A) (hb : Binds X.K fd ps []) (hx : PassesAt CX X σ (E σ))
    (I : Inv X pins σ H s) (rv : Vals vs us) (z : sp vs H Q (E σ)) : wpAny (model X.prog X.w) X.A (call (.ref f) us) (EP X pins σ Q) X.xe s := by
  have hl : us.length = ps.length := rv.length.symm.trans (F.len _ _ _ _ z)
  have bb := hb s us I.kIn (by simpa using hl)
  rw [List.append_nil] at bb
  refine wpAny_call (codeAny_mono (F.run X.A X.stack s H ⟨us, []⟩ us vs Q (E σ) hr I.env0 bb rv z) fun r s2 h2 => ?_)
  match r, h2 with
  | .error e, h2 => exact hx pins H s e s2 I h2
  | .ok (.ret u), h2 => exact I.after h2
theorem pe_callG (F : FnG X.prog X.w X.K X.mg X.base CX k f fd ps sp) (hr : RoomG k X.A) (hg : Gl X x) (hm : X.mg x = some (.ref f)) (hk : PySem.W.keepIn X.K (.ref f) = true) (hb : Binds X.K fd ps []) (hx : ∀ σ, PassesAt CX X σ (E σ)) (ha : PA X (e :: es) t)
    (hdb : (x == ("__debug__" : Str)) = false := by decide) (he : starEach (e :: es) X.env = (false, eval e X.env) :: starEach es X.env := by rfl) (hpl : (backTo pos (starEach es X.env)).any (·.1) = false := by rfl) : PE X (.Call (.Name x p) (e :: es) [] pos) (tCallS sp E t) :=
  ⟨fun pins s σ H Q I z => wpAny_Call_Name_kw (ld_glob I hg hm (PySem.W.callWith_K (h₀ := X.base) I.ok.mod.kin hk (thn (ha.run pos pins s σ H _ I z) fun us s1 ⟨vs, H1, I1, r1, q1⟩ => ⟨I1.kIn, run_fnG F hr hb (hx σ) I1 r1 q1⟩) he hpl) hdb)⟩
end
end Sm
end

section
set_option Elab.async false
set_option linter.all false
set_option maxRecDepth 100000
set_option maxHeartbeats 1000000
/-! SimH: the law's own call. -/
namespace Sm
open PySem PySem.Spec PyProof.Rows L2
/-- only the script may be tracked -/
structure ScrH (K : PySem.W.Frag) (h : Heap) (a : Addr) (T : Hp) : Prop where
  one : ∀ b, T b ≠ none → b = a
  off : T a ≠ none → K.lookup a = none
section
variable {K : PySem.W.Frag} {h : Heap} {a : Addr} {T : Hp} {ar : Array Value} {n : Nat}
theorem ScrH.dict (s : ScrH K h a T) (ha : h.get? a = some { cls := .type "list", data := .seq ar n }) {b : Addr} {o : Obj} {es : Array DictEntry} {ep : Nat} (e : h.get? b = some o) (d : o.data = .dict es ep) : T b = none := by
  by_cases c : T b = none
  · exact c
  · have := s.one b c
    subst this
    rw [ha] at e
    cases e
    cases (show Data.seq ar n = Data.dict es ep from d)
theorem ScrH.ns (s : ScrH K h a T) (ha : h.get? a = some { cls := .type "list", data := .seq ar n }) {b : Addr} {m : Str → Option Value} : h.Ns b m → (hidT h T).Ns b m := by
  rintro ⟨o, es, ep, e, d, r⟩
  exact ⟨o, es, ep, hidT_get e (s.dict ha e d), d, r⟩
theorem ScrH.inK (s : ScrH K h a T) (ha : h.get? a = some { cls := .type "list", data := .seq ar n }) (KX : K.In h) : K.In (hidT h T) := by
  intro b o e
  refine hidT_get (KX b o e) ?_
  by_cases c : T b = none
  · exact c
  · have := s.one b c
    subst this
    rw [s.off c] at e
    cases e
end
section
variable {P : Program} {w : World} {K : PySem.W.Frag} {mg mb : Str → Option Value} {CX : CXT} {k : Nat} {fa a : Addr} {fd : FuncData} {x : Str} {sp : Sp} {s₁ : Shared} {vs : List Value} {ns : List Int}
theorem scr_run {T : Hp} (sc : ScrH K s₁.heap a T) (hO : Only T) (hS : SqL K T a (ns.map V.int)) (hT : HOk P w T s₁.heap) (KX : K.In s₁.heap) (hns : s₁.heap.Ns mainGlobals mg) (hb : s₁.heap.Ns builtinsNs mb) (hbb : ∀ y : Str, y ≠ "__name__" → mb y = bootBuiltins y) (hlim : s₁.heap.NoLimit) (hg : s₁.gens = #[])
    (ha : s₁.heap.get? a = some { cls := .type "list", data := .seq vs.toArray }) (hr : RoomG k callerA) (F : ∀ b : Heap, K.In b → b.Ns mainGlobals mg → FnG P w K mg b CX k fa fd [x] sp) (hbind : ∀ (s : Shared) (u : Value), BindsTo s fd ⟨[u], []⟩ [(x, u)])
    (hsp : sp [.ref a] T (fun v _ => v = .bl true) fun _ _ _ => False) (hCX : ∀ e s', CX [] T s₁ (fun _ _ _ => False) e s' → False) :
    codeAny (model P w) callerA (.call (.ref fa) ⟨[.ref a], []⟩) (fun r s' => r = .ok (.ret (.bool true)) ∧ OldK s₁.heap s'.heap ∧ s'.os = s₁.os ∧ AllBare s'.gens) s₁ := by
  have inK := sc.inK ha KX
  have nsK := sc.ns (m := mg) ha hns
  have nolim : (hidT s₁.heap T).NoLimit := hlim.elim fun mc q => ⟨mc, sc.ns ha q.1, q.2⟩
  have e0 : Env0 P w K mg (hidT s₁.heap T) callerA [] s₁ T := ⟨rfl, ⟨inK, nsK, ⟨mb, sc.ns ha hb, hbb⟩, nolim⟩, fun _ _ q => of_hidT q, Nat.le_of_eq (hidT_size _ _), trivial, fun _ q => absurd q List.not_mem_nil, hT, .of_eq hg⟩
  refine codeAny_mono ((F _ inK nsK).run callerA [] s₁ T ⟨[.ref a], []⟩ [.ref a] [.ref a] _ _ hr e0 (hbind s₁ (.ref a)) (.cons rfl .nil) hsp) fun r s' z => ?_
  match r, z with
  | .error e, z => exact (hCX e s' z).elim
  | .ok (.ret u), z =>
    obtain ⟨v, T2, os, bare, un, ok2, rv, q⟩ := z
    have q : v = .bl true := q
    subst q
    obtain rfl : u = Value.bool true := rv
    refine ⟨rfl, OldK.of_keep fun b o e => ?_, os, bare⟩
    rcases hO b with n0 | ⟨ob, xs, n0⟩
    · exact un.keep b o e n0 (fun q => absurd q List.not_mem_nil) (by simp)
    · have e1 := (hT b _ n0).1
      rw [e] at e1
      cases e1
      exact (ok2 b _ (un.frzs b _ _ n0)).1
theorem law_callG (KX : K.In s₁.heap) (hns : s₁.heap.Ns mainGlobals mg) (hb : s₁.heap.Ns builtinsNs mb) (hbb : ∀ y : Str, y ≠ "__name__" → mb y = bootBuiltins y) (hlim : s₁.heap.NoLimit) (hg : s₁.gens = #[])
    (ha : s₁.heap.get? a = some { cls := .type "list", data := .seq vs.toArray }) (hi : IntsAre vs ns) (hl : ns.length ≤ sizeLine) (hr : RoomG k callerA) (F : ∀ b : Heap, K.In b → b.Ns mainGlobals mg → FnG P w K mg b CX k fa fd [x] sp) (hbind : ∀ (s : Shared) (u : Value), BindsTo s fd ⟨[u], []⟩ [(x, u)])
    (hsp : ∀ T : Hp, Only T → SqL K T a (ns.map V.int) → sp [.ref a] T (fun v _ => v = .bl true) fun _ _ _ => False) (hCX : ∀ T e s', CX [] T s₁ (fun _ _ _ => False) e s' → False) :
    codeAny (model P w) callerA (.call (.ref fa) ⟨[.ref a], []⟩) (fun r s' => r = .ok (.ret (.bool true)) ∧ OldK s₁.heap s'.heap ∧ s'.os = s₁.os ∧ AllBare s'.gens) s₁ := by
  have rv := vals_ints hi
  cases hk : K.lookup a with
  | some o =>
    have e := KX a o hk
    rw [ha] at e
    cases e
    have hS : SqL K (fun _ => none) a (ns.map V.int) := .inr ⟨_, vs.toArray, _, hk, rfl, rfl, rfl, by rw [List.size_toArray, hi.length]; exact hl, by simpa using rv⟩
    have hO : Only fun _ => none := fun _ => .inl rfl
    exact scr_run ⟨fun b z => absurd rfl z, fun z => absurd rfl z⟩ hO hS (fun b u z => nomatch (show (none : Option HO) = some u from z)) KX hns hb hbb hlim hg ha hr F hbind (hsp _ hO hS) (hCX _)
  | none =>
    let T : Hp := fun b => if b = a then some (.frz { cls := .type "list", data := .seq vs.toArray } (.lst (ns.map V.int))) else none
    have t1 : T a = some (.frz { cls := .type "list", data := .seq vs.toArray } (.lst (ns.map V.int))) := if_pos rfl
    have t2 : ∀ b, b ≠ a → T b = none := fun b h => if_neg h
    have hS : SqL K T a (ns.map V.int) := .inl (.inr ⟨_, t1⟩)
    have hO : Only T := fun b => by
      by_cases c : b = a
      · subst c; exact .inr ⟨_, _, t1⟩
      · exact .inl (t2 b c)
    have one : ∀ b, T b ≠ none → b = a := fun b z => Classical.byContradiction fun c => z (t2 b c)
    refine scr_run ⟨one, fun _ => hk⟩ hO hS (fun b u z => ?_) KX hns hb hbb hlim hg ha hr F hbind (hsp _ hO hS) (hCX _)
    have := one b (by rw [z]; simp)
    subst this
    rw [t1] at z
    cases z
    exact ⟨ha, by rw [List.length_map]; exact hl, vs, _, rv, ha⟩
end
/-- the head's goal, from the law's promise -/
theorem walkG {l : PySem.W.OpenLaw} {n k : Nat} {q : Program} {loose : List Str} {XP : (Str → Option Value) → Heap → Prop} {YP : World → Heap → Prop} {d : DefRec} {K : Params → PySem.W.Frag} {CX : World → CXT} {sp : World → Sp} {x : Str} (hn : l.most = some n) (hn2 : n ≤ sizeLine) (hdf : d.params.defaults = [])
    (hr : RoomG k callerA) (hY : ∀ (w : World) (h : Heap), YP w h → (K w.params).In h)
    (F : ∀ (w : World) (mg : Str → Option Value) (fa : Addr) (h : Heap), (K w.params).In h → h.Ns mainGlobals mg → mg d.name = some (.ref fa) → ∃ fd : FuncData, (∀ (s : Shared) (u : Value), BindsTo s fd ⟨[u], []⟩ [(x, u)]) ∧ ∀ b : Heap, (K w.params).In b → b.Ns mainGlobals mg → FnG l.prog w (K w.params) mg b (CX w) k fa fd [x] (sp w))
    (hsp : ∀ (w : World) (T : Hp) (a : Addr) (ns : List Int), ns.length ≤ n → Only T → SqL (K w.params) T a (ns.map V.int) → sp w [.ref a] T (fun v _ => v = .bl true) fun _ _ _ => False) (hCX : ∀ (w : World) (T : Hp) (s : Shared) (e : Value) (s' : Shared), CX w [] T s (fun _ _ _ => False) e s' → False) :
    PySem.W.WalkO q loose XP YP l.row.toRowW d [] (fun f vs => PySem.call f vs) := by
  refine Att.attach_call hn hdf fun w s0 s1 mg mb fa o pm cd doc a vs ns G Y ho hd hcd hmg hobj hints hlen hg => ?_
  obtain ⟨fd, bd, hF⟩ := F w mg fa _ (hY w _ Y) G.T.g hmg
  exact law_callG (hY w _ Y) G.T.g G.T.b G.T.builtins G.T.nolimit hg hobj hints (Nat.le_trans hlen hn2) hr hF bd (fun T a1 a2 => hsp w T a ns hlen a1 a2) fun T e s' => hCX w T s1 e s'
end Sm
end

section
set_option Elab.async false
set_option linter.all false
set_option maxRecDepth 100000
set_option maxHeartbeats 1000000
namespace Sm
open PySem PySem.Spec PyProof.Rows L2
/-! ### defs -/
section
variable {T : Tb} {M M1 : Mp} {H H1 : Hp}
mutual
theorem rep_clo : ∀ {d : D} {v : V}, Rep T M H d v → clo M.m.length d = true
  | .non, _, _ => rfl
  | .bl _, _, _ => rfl
  | .int _, _, _ => rfl
  | .str _, _, _ => rfl
  | .ty _, _, _ => rfl
  | .tup ds, v, h => by rw [Rep] at h; obtain ⟨a, vs, e, f, r⟩ := h; rw [clo]; exact reps_clo r
  | .lst ds, v, h => by rw [Rep] at h; obtain ⟨a, vs, e, f, r⟩ := h; rw [clo]; exact reps_clo r
  | .scr ds, v, h => by rw [Rep] at h; obtain ⟨a, vs, e, f, r⟩ := h; rw [clo]; exact reps_clo r
  | .dic _ ds, v, h => by rw [Rep] at h; obtain ⟨a, vs, e, f, g, g2, r⟩ := h; rw [clo]; exact reps_clo r
  | .ins _ _ ds, v, h => by rw [Rep] at h; obtain ⟨a, C, dx, vs, e, f, g, g2, g3, r⟩ := h; rw [clo]; exact reps_clo r
  | .loc l, v, h => by rw [Rep] at h; obtain ⟨a, e, f⟩ := h; rw [clo]; exact decide_eq_true (List.getElem?_eq_some_iff.mp f).1
theorem reps_clo : ∀ {ds : List D} {vs : List V}, Reps T M H ds vs → clos M.m.length ds = true
  | [], _, _ => rfl
  | d :: ds, vs, h => by rw [Reps] at h; obtain ⟨x, xs, e, r, rs⟩ := h; rw [clos, rep_clo r, reps_clo rs]; rfl
end
theorem repO_clo {a : Addr} {o : AO} (h : RepO T M H a o) : cloO M.m.length o = true := by
  cases o with
  | lst ds => obtain ⟨vs, _, r⟩ := h; exact reps_clo r
  | dic ks ds => obtain ⟨vs, _, _, r⟩ := h; exact reps_clo r
  | dicT ks ds => obtain ⟨vs, _, _, r⟩ := h; exact reps_clo r
  | ins c ns ds => obtain ⟨_, _, vs, _, _, _, r⟩ := h; exact reps_clo r
  | set xs => rfl
/-- fewer objects are tracked -/
structure Less (N M : Mp) : Prop where
  m : ∃ r, M.m = N.m ++ r
  ex : N.ex = M.ex
theorem Less.off {N M : Mp} (s : Less N M) {a : Addr} (h : Off M a) : Off N a := by
  obtain ⟨r, e⟩ := s.m
  exact ⟨fun z => h.1 (by rw [e]; exact List.mem_append_left _ z), by rw [s.ex]; exact h.2⟩
theorem Less.fs {N : Mp} (s : Less N M) {K : PySem.W.Frag} {a : Addr} {xs : List V} (h : FS K M H a xs) : FS K N H a xs := h.elim (fun h => .inl ⟨s.off h.1, h.2⟩) .inr
theorem Less.ft {N : Mp} (s : Less N M) {K : PySem.W.Frag} {a : Addr} {xs : List V} (h : FT K M H a xs) : FT K N H a xs := ⟨s.off h.1, h.2⟩
mutual
theorem rep_less {N : Mp} (s : Less N M) : ∀ {d : D} {v : V}, clo N.m.length d = true → Rep T M H d v → Rep T N H d v
  | .non, _, _, h => by rw [Rep] at h ⊢; exact h
  | .bl _, _, _, h => by rw [Rep] at h ⊢; exact h
  | .int _, _, _, h => by rw [Rep] at h ⊢; exact h
  | .str _, _, _, h => by rw [Rep] at h ⊢; exact h
  | .ty _, _, _, h => by rw [Rep] at h ⊢; exact h
  | .tup ds, v, c, h => by
    rw [Rep] at h ⊢; rw [clo] at c
    obtain ⟨a, vs, e, f, r⟩ := h; exact ⟨a, vs, e, s.ft f, reps_less s c r⟩
  | .lst ds, v, c, h => by
    rw [Rep] at h ⊢; rw [clo] at c
    obtain ⟨a, vs, e, f, r⟩ := h; exact ⟨a, vs, e, ⟨s.off f.1, f.2⟩, reps_less s c r⟩
  | .scr ds, v, c, h => by
    rw [Rep] at h ⊢; rw [clo] at c
    obtain ⟨a, vs, e, f, r⟩ := h; exact ⟨a, vs, e, s.fs f, reps_less s c r⟩
  | .dic _ ds, v, c, h => by
    rw [Rep] at h ⊢; rw [clo] at c
    obtain ⟨a, vs, e, f, g, g2, r⟩ := h; exact ⟨a, vs, e, s.off f, g, g2, reps_less s c r⟩
  | .ins _ _ ds, v, c, h => by
    rw [Rep] at h ⊢; rw [clo] at c
    obtain ⟨a, C, dx, vs, e, f, g, g2, g3, r⟩ := h; exact ⟨a, C, dx, vs, e, s.off f, g, g2, g3, reps_less s c r⟩
  | .loc l, v, c, h => by
    rw [Rep] at h ⊢; rw [clo] at c
    obtain ⟨a, e, f⟩ := h
    obtain ⟨r, e2⟩ := s.m
    rw [e2, List.getElem?_append_left (of_decide_eq_true c)] at f
    exact ⟨a, e, f⟩
theorem reps_less {N : Mp} (s : Less N M) : ∀ {ds : List D} {vs : List V}, clos N.m.length ds = true → Reps T M H ds vs → Reps T N H ds vs
  | [], _, _, h => by rw [Reps] at h ⊢; exact h
  | d :: ds, vs, c, h => by
    rw [Reps] at h ⊢; rw [clos, Bool.and_eq_true] at c
    obtain ⟨x, xs, e, r, rs⟩ := h; exact ⟨x, xs, e, rep_less s c.1 r, reps_less s c.2 rs⟩
end
theorem repO_less {N : Mp} (s : Less N M) {a : Addr} {o : AO} (c : cloO N.m.length o = true) (h : RepO T M H a o) : RepO T N H a o := by
  cases o with
  | lst ds => obtain ⟨vs, e, r⟩ := h; exact ⟨vs, e, reps_less s c r⟩
  | dic ks ds => obtain ⟨vs, e, e2, r⟩ := h; exact ⟨vs, e, e2, reps_less s c r⟩
  | dicT ks ds => obtain ⟨vs, e, e2, r⟩ := h; exact ⟨vs, e, e2, reps_less s c r⟩
  | ins c ns ds => obtain ⟨C, dx, vs, e, e1, e2, r⟩ := h; exact ⟨C, dx, vs, e, e1, e2, reps_less s c r⟩
  | set xs => exact h
/-- a def's end: what was made meanwhile is no longer tracked -/
theorem trim_less {ah ah1 : AH} (q : RelH T M ah H) (s : Step M H M1 H1) (q1 : RelH T M1 ah1 H1) (hp : pre ah.length ah ah1 = true) :
    ∃ N, Less N M1 ∧ N.m = M.m ∧ Step M H N H1 ∧ RelH T N (ah1.take ah.length) H1 := by
  obtain ⟨r, e, f⟩ := s.pre
  have L : Less ⟨M.m, M1.ex⟩ M1 := ⟨⟨r, e⟩, rfl⟩
  have hl : ah.length ≤ ah1.length := by rw [← q.len, ← q1.len, e, List.length_append]; exact Nat.le_add_right _ _
  refine ⟨_, L, rfl, ⟨⟨[], by simp, by simp⟩, s.ex, s.keep, s.there⟩, ?_, ?_, ?_, q1.exs, ?_⟩
  · show M.m.length = _
    rw [List.length_take, q.len]; exact (Nat.min_eq_left hl).symm
  · exact q.nd
  · exact fun a ha => q1.off a (by rw [e]; exact List.mem_append_left _ ha)
  · intro l a o h1 h2
    have hlt : l < M.m.length := (List.getElem?_eq_some_iff.mp h1).1
    have hlt2 : l < ah.length := by rw [← q.len]; exact hlt
    rw [List.getElem?_take, if_pos hlt2] at h2
    have g : RepO T M1 H1 a o := q1.obj l a o (by rw [e, List.getElem?_append_left hlt]; exact h1) h2
    refine repO_less L ?_ g
    show cloO M.m.length o = true
    have z := List.all_eq_true.mp hp l (List.mem_range.mpr hlt2)
    rw [Bool.or_eq_true] at z
    rcases z with z | z
    · exact repO_clo (q.obj l a o h1 ((of_decide_eq_true z).symm.trans h2))
    · rw [h2] at z; rw [q.len]; exact z
theorem reps_mapO {N : Mp} {f : D → Option D} (ih : ∀ {d d' : D} {v : V}, Rep T M1 H1 d v → f d = some d' → Rep T N H1 d' v) : ∀ {ds ds' : List D} {vs : List V}, Reps T M1 H1 ds vs → mapO f ds = some ds' → Reps T N H1 ds' vs
  | [], ds', vs, r, h => by cases h; rw [Reps] at r ⊢; exact r
  | d :: ds, ds', vs, r, h => by
    unfold mapO at h
    cases hd : f d with
    | none => rw [hd] at h; cases h
    | some e =>
      rw [hd] at h
      cases hs : mapO f ds with
      | none => rw [hs] at h; cases h
      | some es =>
        rw [hs] at h
        cases h
        rw [Reps] at r ⊢
        obtain ⟨x, xs, e1, r1, r2⟩ := r
        exact ⟨x, xs, e1, ih r1 hd, reps_mapO ih r2 hs⟩
theorem mapO_len {f : D → Option D} : ∀ {ds es : List D}, mapO f ds = some es → es.length = ds.length
  | [], es, h => by cases h; rfl
  | d :: ds, es, h => by
    unfold mapO at h
    cases hd : f d with
    | none => rw [hd] at h; cases h
    | some e =>
      rw [hd] at h
      cases hs : mapO f ds with
      | none => rw [hs] at h; cases h
      | some gs => rw [hs] at h; cases h; simp [mapO_len hs]
theorem loc_off {N : Mp} {ah1 : AH} {l : Nat} {a : Addr} (L : Less N M1) (q1 : RelH T M1 ah1 H1) (g : M1.m[l]? = some a) (c : ¬ l < N.m.length) : Off N a := by
  obtain ⟨r2, e2⟩ := L.m
  have nin : a ∉ N.m := fun z => by
    obtain ⟨j, hj⟩ := List.mem_iff_getElem?.mp z
    have hjl := (List.getElem?_eq_some_iff.mp hj).1
    have hj2 : M1.m[j]? = some a := by rw [e2, List.getElem?_append_left hjl]; exact hj
    have hl1 := (List.getElem?_eq_some_iff.mp g).1
    have hlj := (List.getElem?_eq_some_iff.mp hj2).1
    have : l = j := (List.getElem?_inj hl1 q1.nd).mp (g.trans hj2.symm)
    omega
  exact ⟨nin, by rw [L.ex]; exact q1.off a (List.mem_of_getElem? g)⟩
theorem frzD_rep {N : Mp} {ah1 : AH} (L : Less N M1) (q1 : RelH T M1 ah1 H1) : ∀ (k : Nat) {d d' : D} {v : V}, Rep T M1 H1 d v → frzD ah1 N.m.length k d = some d' → Rep T N H1 d' v := by
  intro k
  induction k with
  | zero =>
    intro d d' v r h
    have h : (if clo N.m.length d then some d else none) = some d' := h
    by_cases c : clo N.m.length d = true
    · rw [if_pos c] at h; cases h; exact rep_less L c r
    · rw [if_neg c] at h; cases h
  | succ k ih =>
    intro d d' v r h
    unfold frzD at h
    by_cases c : clo N.m.length d = true
    · rw [if_pos c] at h; cases h; exact rep_less L c r
    · rw [if_neg c] at h
      cases d with
      | loc l =>
        have c2 : ¬ l < N.m.length := fun z => c (by rw [clo]; exact decide_eq_true z)
        rw [Rep] at r
        obtain ⟨a, e, g⟩ := r
        have off := loc_off L q1 g c2
        dsimp only at h
        cases ho : ah1[l]? with
        | none => rw [ho] at h; cases h
        | some o =>
          rw [ho] at h
          have R := q1.obj l a o g ho
          cases o with
          | lst xs =>
            dsimp only at h
            cases hm : mapO (frzD ah1 N.m.length k) xs with
            | none => rw [hm] at h; cases h
            | some ys =>
              rw [hm] at h; cases h
              obtain ⟨vs, e3, rs⟩ := R
              rw [Rep]
              exact ⟨a, vs, e, ⟨off, e3⟩, reps_mapO (fun r h => ih r h) rs hm⟩
          | ins c ns ds =>
            dsimp only at h
            cases hm : mapO (frzD ah1 N.m.length k) ds with
            | none => rw [hm] at h; cases h
            | some ys =>
              rw [hm] at h; cases h
              obtain ⟨C, dx, vs, e3, e4, e5, rs⟩ := R
              rw [Rep]
              exact ⟨a, C, dx, vs, e, off, e3, e4, e5.trans (mapO_len hm).symm, reps_mapO (fun r h => ih r h) rs hm⟩
          | dic ks ds => cases h
          | dicT ks ds => cases h
          | set xs => cases h
      | tup xs =>
        dsimp only at h
        cases hm : mapO (frzD ah1 N.m.length k) xs with
        | none => rw [hm] at h; cases h
        | some ys =>
          rw [hm] at h; cases h
          rw [Rep] at r ⊢
          obtain ⟨a, vs, e, f, rs⟩ := r
          exact ⟨a, vs, e, L.ft f, reps_mapO (fun r h => ih r h) rs hm⟩
      | lst xs =>
        dsimp only at h
        cases hm : mapO (frzD ah1 N.m.length k) xs with
        | none => rw [hm] at h; cases h
        | some ys =>
          rw [hm] at h; cases h
          rw [Rep] at r ⊢
          obtain ⟨a, vs, e, f, rs⟩ := r
          exact ⟨a, vs, e, ⟨L.off f.1, f.2⟩, reps_mapO (fun r h => ih r h) rs hm⟩
      | _ => cases h
theorem frz_rep {N : Mp} {ah1 : AH} {d d' : D} {v : V} (L : Less N M1) (q1 : RelH T M1 ah1 H1) (r : Rep T M1 H1 d v) (h : frz N.m.length ah1 d = some d') : Rep T N H1 d' v := by
  have old : ∀ {d : D}, (if clo N.m.length d then some d else frzD ah1 N.m.length 8 d) = some d' → Rep T M1 H1 d v → Rep T N H1 d' v := fun {d} h r => by
    by_cases c : clo N.m.length d = true
    · rw [if_pos c] at h; cases h; exact rep_less L c r
    · rw [if_neg c] at h; exact frzD_rep L q1 8 r h
  cases d with
  | loc l =>
    have h : (if l < N.m.length then some (D.loc l) else match ah1[l]? with
      | some (AO.lst xs) => if clos N.m.length xs then some (D.lst xs) else frzD ah1 N.m.length 8 (.loc l)
      | some (AO.ins c ns ds) => if clos N.m.length ds then some (D.ins c ns ds) else frzD ah1 N.m.length 8 (.loc l)
      | _ => none) = some d' := h
    by_cases c : l < N.m.length
    · rw [if_pos c] at h; cases h
      exact rep_less L (by rw [clo]; exact decide_eq_true c) r
    · rw [if_neg c] at h
      have r0 := r
      rw [Rep] at r
      obtain ⟨a, e, g⟩ := r
      obtain ⟨r2, e2⟩ := L.m
      have nin : a ∉ N.m := fun z => by
        obtain ⟨j, hj⟩ := List.mem_iff_getElem?.mp z
        have hjl := (List.getElem?_eq_some_iff.mp hj).1
        have hj2 : M1.m[j]? = some a := by rw [e2, List.getElem?_append_left hjl]; exact hj
        have hl1 := (List.getElem?_eq_some_iff.mp g).1
        have hlj := (List.getElem?_eq_some_iff.mp hj2).1
        have : l = j := (List.getElem?_inj hl1 q1.nd).mp (g.trans hj2.symm)
        omega
      have off : Off N a := ⟨nin, by rw [L.ex]; exact q1.off a (List.mem_of_getElem? g)⟩
      cases ho : ah1[l]? with
      | none => rw [ho] at h; cases h
      | some o =>
        rw [ho] at h
        have R := q1.obj l a o g ho
        cases o with
        | lst xs =>
          have h : (if clos N.m.length xs then some (D.lst xs) else frzD ah1 N.m.length 8 (.loc l)) = some d' := h
          by_cases c2 : clos N.m.length xs = true
          · rw [if_pos c2] at h; cases h
            obtain ⟨vs, e3, rs⟩ := R
            rw [Rep]
            exact ⟨a, vs, e, ⟨off, e3⟩, reps_less L c2 rs⟩
          · rw [if_neg c2] at h; exact frzD_rep L q1 8 r0 h
        | ins c ns ds =>
          have h : (if clos N.m.length ds then some (D.ins c ns ds) else frzD ah1 N.m.length 8 (.loc l)) = some d' := h
          by_cases c2 : clos N.m.length ds = true
          · rw [if_pos c2] at h; cases h
            obtain ⟨C, dx, vs, e3, e4, e5, rs⟩ := R
            rw [Rep]
            exact ⟨a, C, dx, vs, e, off, e3, e4, e5, reps_less L c2 rs⟩
          · rw [if_neg c2] at h; exact frzD_rep L q1 8 r0 h
        | dic ks ds => cases h
        | dicT ks ds => cases h
        | set xs => cases h
  | non => exact old (d := D.non) h r
  | bl x => exact old (d := D.bl x) h r
  | int x => exact old (d := D.int x) h r
  | str x => exact old (d := D.str x) h r
  | tup x => exact old (d := D.tup x) h r
  | lst x => exact old (d := D.lst x) h r
  | scr x => exact old (d := D.scr x) h r
  | dic x y => exact old (d := D.dic x y) h r
  | ins x y z => exact old (d := D.ins x y z) h r
  | ty x => exact old (d := D.ty x) h r
abbrev VP (T : Tb) (Q : VK) : D → Mp → AH → Hp → Prop := fun d M' _ H' => ∀ v, Rep T M' H' d v → Q v H'
theorem trim_post {E : XK} {Q : VK} {ah : AH} {r : R D} (q : RelH T M ah H) (P : Post T E M H (VP T Q) (trim ah r)) : Post T E M H (VP T Q) r := by
  cases r with
  | no => exact P
  | ok d ah1 =>
    intro M1 H1 s q1 v hv
    unfold trim at P
    dsimp only at P
    cases hf : frz ah.length ah1 d with
    | none => rw [hf] at P; exact P.elim
    | some d' =>
      rw [hf] at P
      obtain ⟨hp, P⟩ := Post.chk P
      obtain ⟨N, L, e, s2, q2⟩ := trim_less q s q1 hp
      exact P N H1 s2 q2 v (frz_rep L q1 hv (by rw [e, q.len]; exact hf))
  | exc x ah1 =>
    intro M1 H1 u dx s q1 hx
    unfold trim at P
    dsimp only at P
    obtain ⟨hp, P⟩ := Post.chk P
    rw [Bool.and_eq_true] at hp
    obtain ⟨N, L, e, s2, q2⟩ := trim_less q s q1 hp.2
    refine P N H1 u dx s2 q2 ⟨hx.1, hx.2.1, ?_⟩
    have z := hx.2.2
    cases dx with
    | none => exact z
    | some d =>
      obtain ⟨vs, g1, g2, g3⟩ := z
      exact ⟨vs, L.off g1, g2, reps_less L (by rw [e, q.len]; exact hp.1) g3⟩
/-- what a def promises -/
def spF (T : Tb) (n : Nat) (F : AF) : Sp := fun vs H Q E => vs.length = n ∧ ∃ M ah ds, RelH T M ah H ∧ Reps T M H ds vs ∧ Post T E M H (VP T Q) (F ds ah)
theorem sta_start {ah : AH} {N : List Str} {ds : List D} {vs : List V} (hg : T.g = none) (q : RelH T M ah H) (r : Reps T M H ds vs) : Sta T M (envOf N.length ds) ah (L2.start N vs) H := by
  refine ⟨q, by simp [envOf, L2.start, r.length], fun i d h => ?_, fun p hp => by rw [hg] at hp; cases hp⟩
  unfold envOf at h
  by_cases hi : i < ds.length
  · rw [List.getElem?_append_left (by simpa using hi), List.getElem?_map] at h
    cases z : ds[i]? with
    | none => rw [z] at h; cases h
    | some x =>
      rw [z] at h; simp at h; subst h
      obtain ⟨v, e, rv⟩ := r.get z
      refine ⟨v, ?_, rv⟩
      unfold L2.start
      rw [List.getElem?_append_left (by rw [List.length_map, ← r.length]; exact hi), List.getElem?_map, e]; rfl
  · rw [List.getElem?_append_right (by simpa using hi)] at h
    obtain ⟨z1, z2⟩ := List.getElem?_eq_some_iff.mp h
    rw [List.getElem_replicate] at z2; cases z2
theorem ends_of {E : XK} {Q : VK} {r : R Fl} (P : Post T E M H (VP T Q) (fnR r)) : Post T W0 M H (EndsAt (fun c d _ H => E c d H) T { nx := fun _ H' => Q .non H', rt := Q }) r := by
  cases r with
  | no => exact P
  | exc x h => exact P.elim
  | ok f h =>
    intro M' H' s q
    cases f with
    | nx e => exact fun σ' S' => P M' H' s q _ mk_non
    | rt d => exact fun v hv => P M' H' s q v hv
    | bk e => exact P.elim
    | ct e => exact P.elim
    | ex x e => exact fun σ' u dx S' hx => P M' H' u dx s q hx
end
section
variable {P : Program} {w : World} {K : PySem.W.Frag} {mg : Str → Option Value} {base : Heap}
abbrev bodyX (P : Program) (w : World) (K : PySem.W.Frag) (mg : Str → Option Value) (base : Heap) (N : List Str) (qual : Str) (st : Stmt) (f : Addr) (cdv : Value) (A : Around) (outer : List PySem.Env) (s : Shared) (H : Hp) (E : XK) : Cx := cxOf (L2.CX P w) P w K mg base N qual (defScope st) f cdv A outer s H E
abbrev WB (E : XK) : WX := fun c d _ H => E c d H
theorem takesB {N : List Str} {qual : Str} {st : Stmt} {f : Addr} {cdv : Value} {A : Around} {outer : List PySem.Env} {s : Shared} {H : Hp} {E : XK} : Takes (bodyX P w K mg base N qual st f cdv A outer s H E) (WB E) := takes_of rfl rfl rfl rfl
theorem passB {N : List Str} {qual : Str} {st : Stmt} {f : Addr} {cdv : Value} {A : Around} {outer : List PySem.Env} {s : Shared} {H : Hp} {E : XK} : PassesOwn (model P w) (bodyX P w K mg base N qual st f cdv A outer s H E).A (bodyX P w K mg base N qual st f cdv A outer s H E).env (bodyX P w K mg base N qual st f cdv A outer s H E).xe := passes_of (X := bodyX P w K mg base N qual st f cdv A outer s H E) rfl
/-- a def, the objects it makes kept -/
theorem fn_okK {x qual : Str} {st : Stmt} {f : Addr} {fd : FuncData} {N ps : List Str} {k : Nat} {b : AS} (F : Fun K x qual st f fd) (S : FnScope N ps (defScope st))
    (hb : ∀ cdv A outer s H E, RoomG k (bodyX P w K mg base N qual st f cdv A outer s H E).A → SSs (bodyX P w K mg base N qual st f cdv A outer s H E) none (WB E) (defBody st) b) :
    FnG P w K mg base (L2.CX P w) (k + 1) f fd ps (spF ⟨K, mg, none, w⟩ ps.length (fnK ps.length N.length b)) :=
  okG F S (fun vs H Q E h => h.1) fun cdv A outer s H vs Q E hr ⟨hl, M, ah, ds, q, r, P⟩ => ⟨_, hb cdv A outer s H E hr, M, _, ah, sta_start rfl q r, ends_of (Post.chk P).2⟩
theorem fn_okT {x qual : Str} {st : Stmt} {f : Addr} {fd : FuncData} {N ps : List Str} {k : Nat} {b : AS} (F : Fun K x qual st f fd) (S : FnScope N ps (defScope st))
    (hb : ∀ cdv A outer s H E, RoomG k (bodyX P w K mg base N qual st f cdv A outer s H E).A → SSs (bodyX P w K mg base N qual st f cdv A outer s H E) none (WB E) (defBody st) b) :
    FnG P w K mg base (L2.CX P w) (k + 1) f fd ps (spF ⟨K, mg, none, w⟩ ps.length (fnT ps.length N.length b)) :=
  okG F S (fun vs H Q E h => h.1) fun cdv A outer s H vs Q E hr ⟨hl, M, ah, ds, q, r, P⟩ => ⟨_, hb cdv A outer s H E hr, M, _, ah, sta_start rfl q r, ends_of (trim_post q (Post.chk P).2)⟩
/-- a def no call of which is answered -/
theorem fn_no {f : Addr} {fd : FuncData} {ps : List Str} {k n : Nat} {G : AF} {CX : CXT} {T : Tb} (h : ∀ ds h, G ds h = .no) : FnG P w K mg base CX k f fd ps (spF T n G) :=
  ⟨fun vs H Q E ⟨_, M, ah, ds, _, _, P⟩ => by rw [h] at P; exact P.elim, fun _ _ _ _ _ _ _ _ _ _ _ _ _ ⟨_, M, ah, ds, _, _, P⟩ => by rw [h] at P; exact P.elim⟩
end
theorem fnK_len {p n : Nat} {b : AS} : ∀ ds h, ds.length ≠ p → fnK p n b ds h = .no := fun ds h e => by unfold fnK; rw [decide_eq_false e]; rfl
theorem fnT_len {p n : Nat} {b : AS} : ∀ ds h, ds.length ≠ p → fnT p n b ds h = .no := fun ds h e => by unfold fnT; rw [decide_eq_false e]; rfl
section
variable {X : Cx} {G : Gh} {W : WX} {pos : Pos} {ea eb ec : Expr} {a b c : AE}
/-- f(..) by position, every parameter given -/
theorem s_call {k n : Nat} {f : Addr} {fd : FuncData} {ps : List Str} {G : AF} {x : Str} {p : Pos} {e : Expr} {es : List Expr} {as : AA} (F : FnG X.prog X.w X.K X.mg X.base (L2.CX X.prog X.w) k f fd ps (spF (tb X none) n G)) (hG : ∀ ds h, ds.length ≠ n → G ds h = .no)
    (hr : RoomG k X.A) (hg : Gl X x) (hm : X.mg x = some (.ref f)) (hk : PySem.W.keepIn X.K (.ref f) = true) (hb : Binds X.K fd ps []) (tk : Takes X W) (ha : SA X none W (e :: es) as)
    (hdb : (x == ("__debug__" : Str)) = false := by decide) (he : starEach (e :: es) X.env = (false, eval e X.env) :: starEach es X.env := by rfl) (hpl : (backTo pos (starEach es X.env)).any (·.1) = false := by rfl) : SE X none W (.Call (.Name x p) (e :: es) [] pos) (eA G as) :=
  PE.imp (pe_callG F hr hg hm hk hb (passAt tk) ha hdb he hpl) fun σ H Q h => by
    obtain ⟨M, e, ah, S, P⟩ := h
    refine ⟨M, e, ah, S, P.bindI fun ds M1 ah1 H1 s1 q1 P1 vs hv => ?_⟩
    refine ⟨?_, M1, ah1, ds, q1, hv, P1⟩
    by_cases z : ds.length = n
    · rw [← hv.length]; exact z
    · rw [hG ds ah1 z] at P1; exact P1.elim
/-- [a for g in it if t] -/
theorem s_lc {fz : Bool} {elt tg iter : Expr} {ifs : List Expr} {scope : Scope} {own : List (Str × Nat)} {it : AI} {g : AG} {t : AB} (hc : X.calm = true) (hN : X.N.Nodup) (hi : SI X none W tg iter it) (ok : blkC X.N X.env.scope scope own = true)
    (hg : ∀ (s : Shared) (H : Hp) (C : Addr) (cl : List (Str × Addr)) (fp : List Addr), SG (X.blk s H scope (compEnvC scope cl C X.env) fp) none (own.map (·.2)) tg g) (ht : ∀ (s : Shared) (H : Hp) (C : Addr) (cl : List (Str × Addr)) (fp : List Addr), PTs (X.blk s H scope (compEnvC scope cl C X.env) fp) ifs (tT WF (tb X none) t))
    (he : ∀ (s : Shared) (H : Hp) (C : Addr) (cl : List (Str × Addr)) (fp : List Addr), SE (X.blk s H scope (compEnvC scope cl C X.env) fp) none WF elt a) (hs : ∀ x, foldedSetIterable iter X.env x = pure x := by intro _; rfl) :
    SE X none W (.ListComp elt [⟨tg, iter, ifs, 0⟩] scope pos) (eLC fz (own.map (·.2)) it g t a) :=
  PE.imp (pe_lc hc hN hi (blkOk_by ok) hg ht he hs) fun σ H Q h => lc_read rfl h
/-- name = [..] -/
theorem z_setLc {fz : Bool} {i : Nat} {y : Str} {py spos : Pos} {elt tg iter : Expr} {ifs : List Expr} {scope : Scope} {own : List (Str × Nat)} {it : AI} {g : AG} {t : AB} (hc : X.calm = true) (hN : X.N.Nodup) (hy : X.N[i]? = some y) (hyl : X.env.scope.names.lookup y = some .local)
    (hk : X.env.scope.kind = .function) (hl : (py.line == pos.line) = true) (hn : (scope.names.any fun (n, k) => n == y && (k == .local || k == .cell)) = false) (hi : SI X none W tg iter it) (ok : blkC X.N X.env.scope scope own = true)
    (hg : ∀ (s : Shared) (H : Hp) (C : Addr) (cl : List (Str × Addr)) (fp : List Addr), SG (X.blk s H scope (compEnvC scope cl C X.env) fp) none (own.map (·.2)) tg g) (ht : ∀ (s : Shared) (H : Hp) (C : Addr) (cl : List (Str × Addr)) (fp : List Addr), PTs (X.blk s H scope (compEnvC scope cl C X.env) fp) ifs (tT WF (tb X none) t))
    (he : ∀ (s : Shared) (H : Hp) (C : Addr) (cl : List (Str × Addr)) (fp : List Addr), SE (X.blk s H scope (compEnvC scope cl C X.env) fp) none WF elt a) (hs : ∀ x, foldedSetIterable iter X.env x = pure x := by intro _; rfl) :
    SS X none W (.Assign [.Name y py] (.ListComp elt [⟨tg, iter, ifs, 0⟩] scope pos) spos) (sSet i (eLC fz (own.map (·.2)) it g t a)) :=
  PS.imp (ps_setLc hc hN hy hyl (sw_true hk hyl hl hn) hi (blkOk_by ok) hg ht he hs) fun D σ H h => by
    obtain ⟨M, e, ah, S, P⟩ := h
    refine lc_read rfl (fz := fz) ⟨M, e, ah, S, upI S P fun d M1 ah1 H1 s1 q1 P1 v hv => ?_⟩
    exact Post.here P1 q1 _ ((S.step s1 q1).set hv i ng_none)
theorem ts_nil {T : Tb} : PTs X [] (tT WF T tYes) := ⟨fun pins s σ H Q I h => pts_nil.run pins s σ H Q I (by obtain ⟨M, e, ah, S, P⟩ := h; exact Post.here P S.h)⟩
theorem ts_one {t : AB} (h : SB X G WF ea t) : PTs X [ea] (tT WF (tb X G) t) := pts_one h
end
end Sm
end

section
set_option Elab.async false
set_option linter.all false
set_option maxRecDepth 100000
set_option maxHeartbeats 1000000
/-! Sim11: list.index; dicts with ints and texts as keys. -/
namespace Sm
open PySem PySem.Spec PyProof.Rows L2
section
variable {T : Tb} {M M1 M' : Mp} {ah ah1 ah' : AH} {H H1 H' : Hp} {p : Addr}
/-! ### pairs -/
/-- a dict's pairs, the keys told by kf -/
inductive KVG {κ κ' : Type} (kf : κ → κ') (T : Tb) (M : Mp) (H : Hp) : List (κ × D) → List (κ' × V) → Prop
  | nil : KVG kf T M H [] []
  | cons {k : κ} {d : D} {v : V} {r : List (κ × D)} {s : List (κ' × V)} (h : Rep T M H d v) (t : KVG kf T M H r s) : KVG kf T M H ((k, d) :: r) ((kf k, v) :: s)
abbrev KVR (T : Tb) (M : Mp) (H : Hp) : List (K1 × D) → List (Key × V) → Prop := KVG kOf T M H
section
variable {κ κ' : Type} {kf : κ → κ'}
theorem KVG.mono (s : Mono M M' H H') {r : List (κ × D)} {u : List (κ' × V)} (h : KVG kf T M H r u) : KVG kf T M' H' r u := by
  induction h with
  | nil => exact .nil
  | cons h t ih => exact .cons (h.mono s) ih
theorem KVG.app {r r2 : List (κ × D)} {u u2 : List (κ' × V)} (h : KVG kf T M H r u) (h2 : KVG kf T M H r2 u2) : KVG kf T M H (r ++ r2) (u ++ u2) := by
  induction h with
  | nil => exact h2
  | cons h t ih => exact .cons h ih
theorem KVG.len {r : List (κ × D)} {u : List (κ' × V)} (h : KVG kf T M H r u) : u.length = r.length := by
  induction h with
  | nil => rfl
  | cons h t ih => simp [ih]
theorem KVG.zip {ks : List κ} : ∀ {ds : List D} {vs : List V}, ks.length = ds.length → Reps T M H ds vs → KVG kf T M H (ks.zip ds) ((ks.map kf).zip vs) := by
  induction ks with
  | nil => exact fun _ _ => .nil
  | cons k ks ih =>
    intro ds vs hl r
    cases ds with
    | nil => cases hl
    | cons d ds =>
      rw [Reps] at r
      obtain ⟨v, vs, rfl, r1, r2⟩ := r
      exact .cons r1 (ih (by simpa using hl) r2)
theorem KVG.back {r : List (κ × D)} {u : List (κ' × V)} (h : KVG kf T M H r u) : ∃ vs, u = ((r.map (·.1)).map kf).zip vs ∧ Reps T M H (r.map (·.2)) vs := by
  induction h with
  | nil => exact ⟨[], rfl, Reps.nil⟩
  | cons h t ih =>
    obtain ⟨vs, e, r⟩ := ih
    exact ⟨_ :: vs, by rw [e]; rfl, Reps.cons h r⟩
variable [DecidableEq κ] [DecidableEq κ'] (inj : ∀ {a b : κ}, kf a = kf b → a = b)
include inj
theorem KVG.any {k : κ} {r : List (κ × D)} {u : List (κ' × V)} (h : KVG kf T M H r u) : (u.any fun kv => decide (kv.1 = kf k)) = r.any fun kv => decide (kv.1 = k) := by
  induction h with
  | nil => rfl
  | @cons k' d v r s h t ih =>
    rw [List.any_cons, List.any_cons, ih]
    congr 1
    exact decide_eq_decide.mpr ⟨inj, fun e => congrArg kf e⟩
theorem KVG.put {k : κ} {d : D} {v : V} {r : List (κ × D)} {u : List (κ' × V)} (h : KVG kf T M H r u) (hd : Rep T M H d v) : KVG kf T M H (putA r k d) (putK u (kf k) v) := by
  unfold putA putK
  rw [h.any inj]
  by_cases c : (r.any fun kv => decide (kv.1 = k)) = true
  · rw [if_pos c, if_pos c]
    clear c
    induction h with
    | nil => exact .nil
    | @cons k' d' v' r s h t ih =>
      rw [List.map_cons, List.map_cons]
      by_cases e : k' = k
      · subst e
        simp only [if_true]
        exact .cons hd ih
      · have e2 : ¬ kf k' = kf k := fun z => e (inj z)
        simp only [if_neg e, if_neg e2]
        exact .cons h ih
  · rw [if_neg c, if_neg c]
    exact h.app (.cons hd .nil)
theorem KVG.get {k : κ} {r : List (κ × D)} {u : List (κ' × V)} (h : KVG kf T M H r u) : match getA r k with
    | some d => ∃ v, valV u (kf k) = some v ∧ Rep T M H d v
    | none => valV u (kf k) = none := by
  induction h with
  | nil => rfl
  | @cons k' d v r s h t ih =>
    by_cases e : k' = k
    · subst e
      have : getA ((k', d) :: r) k' = some d := by simp [getA, List.find?_cons]
      rw [this]
      exact ⟨v, valV_pos rfl, h⟩
    · have e2 : ¬ kf k' = kf k := fun z => e (inj z)
      have e3 : getA ((k', d) :: r) k = getA r k := by simp [getA, List.find?_cons, e]
      have e4 : valV ((kf k', v) :: s) (kf k) = valV s (kf k) := valV_neg e2
      rw [e3, e4]; exact ih
end
end
section
variable {X : Cx} {G : Gh} {W : WX} {pos : Pos} {ea eb ec : Expr} {a b c : AE}
theorem Post.mkDic {T : Tb} {E : XK} {M : Mp} {ah : AH} {H : Hp} {Q : VK} : True := trivial
/-- the pairs of a display -/
def trsOf (W : WX) (T : Tb) (ps : List (AE × AE)) : List (TE × TE) := ps.map fun p => (tE W T p.1, tE W T p.2)
end
end Sm
end

section
set_option Elab.async false
set_option linter.all false
set_option maxRecDepth 100000
set_option maxHeartbeats 1000000
/-! Sim12: insert, reversed lists, max, min, sum, list(range(..)). -/
namespace Sm
open PySem PySem.Spec PyProof.Rows L2
theorem Reps.reverse {T : Tb} {M : Mp} {H : Hp} : ∀ {ds : List D} {vs : List V}, Reps T M H ds vs → Reps T M H ds.reverse vs.reverse
  | [], _, h => by rw [Reps] at h; subst h; exact Reps.nil
  | d :: ds, vs, h => by
    rw [Reps] at h
    obtain ⟨x, xs, rfl, f, k⟩ := h
    rw [List.reverse_cons, List.reverse_cons]
    exact (Reps.reverse k).app (Reps.cons f Reps.nil)
section
variable {X : Cx} {G : Gh} {W : WX} {pos : Pos} {ea eb ec : Expr} {a b c : AE}
theorem m_insert : MetF X G "list" (fun x vs H Q => ∃ (l : Addr) (xs : List V) (i : Int) (y : V), x = .ref l ∧ vs = [.int i, y] ∧ H l = some (.lst xs) ∧ xs.length < sizeLine ∧ 0 ≤ i ∧ i < 2 ^ 63 ∧ Q .non (upd H l (.lst (xs.take i.toNat ++ [y] ++ xs.drop i.toNat)))) (mt2 insertD) := by
  intro E M ah H d ds x xs Q q r rs P
  match ds, rs, P with
  | [di, dy], rs, P =>
    rw [Reps] at rs
    obtain ⟨v, vs, rfl, r1, rs⟩ := rs
    rw [Reps] at rs
    obtain ⟨w, ws, rfl, r2, rs⟩ := rs
    rw [Reps] at rs; subst rs
    cases di with
    | int i =>
      have P : Post (tb X G) E M H _ (onL ah d fun l xs => R.chk (decide (xs.length < big ∧ 0 ≤ i ∧ i < 2 ^ 63)) (.ok .non (ah.set l (.lst (xs.take i.toNat ++ [dy] ++ xs.drop i.toNat))))) := P
      obtain ⟨l, p, zs, us, rfl, rfl, hp, hl, e, g, P⟩ := onL_ok q r P
      obtain ⟨hz, P⟩ := Post.chk P
      obtain ⟨z1, z2, z3⟩ := of_decide_eq_true hz
      refine ⟨p, us, i, w, rfl, by rw [rep_int r1], e, by rw [← g.length, ← big_eq]; exact z1, z2, z3, ?_⟩
      exact put_lst q hp (((g.take _).app (Reps.cons r2 Reps.nil)).app (g.drop _)) mk_non P
    | _ => exact P.elim
  | [], rs, P => exact P.elim
  | [_], rs, P => exact P.elim
  | _ :: _ :: _ :: _, rs, P => exact P.elim
/-- xs[::-1] of a list -/
theorem s_rev {fz : Bool} {k} {p1 p2 p3 : Pos} (ha : SE X G W ea a) : SE X G W (.Subscript ea (.Slice none none (some (.UnaryOp .USub (.Constant (.int 1) k p1) p2)) p3) pos) (e1 (revD fz) a) :=
  PE.imp (pe_revL ha) fun σ H Q h => by
    obtain ⟨M, e, ah, S, P⟩ := h
    refine ⟨M, e, ah, S, P.bindI fun d M1 ah1 H1 s1 q1 P1 v hv => ?_⟩
    have P1 : Post (tb X G) (WE W σ) M1 H1 _ (match lstH ah1 d with
      | some xs => mkL fz xs.reverse ah1
      | none => .no) := P1
    split at P1
    · rename_i xs hx
      obtain ⟨p, vs, rfl, f, g⟩ := rep_lst q1 hv hx
      exact ⟨p, vs, rfl, SqL.of f, P1.mkL q1 g.reverse⟩
    · exact P1.elim
theorem rgV_rep {T : Tb} {M : Mp} {H : Hp} (i j : Int) : Reps T M H (rng i (j - i).toNat) (rgV i j) := by
  unfold rng rgV
  generalize List.range (j - i).toNat = l
  induction l with
  | nil => exact Reps.nil
  | cons k l ih => exact Reps.cons mk_int ih
theorem rg_ok {i j : Int} (h : (inI i && inI j && decide ((j - i).toNat ≤ big)) = true) : RgOk i j := by
  rw [Bool.and_eq_true, Bool.and_eq_true] at h
  obtain ⟨⟨h1, h2⟩, h3⟩ := h
  obtain ⟨a, b⟩ := (inI_iff _).mp h1
  obtain ⟨c, d⟩ := (inI_iff _).mp h2
  exact ⟨a, b, c, d, of_decide_eq_true h3⟩
section
variable {x y : Str} {p p' pos' : Pos}
theorem lr_fin {fz tup : Bool} {M1 M2 : Mp} {H1 H2 : Hp} {T : Tb} {E : XK} {ah2 : AH} {dx dy : D} {v w : V} {Q : VK} (q2 : RelH T M2 ah2 H2)
    (P : Post T E M2 H2 (fun d M' _ H' => ∀ v, Rep T M' H' d v → Q v H') (match dx with
      | .int i => match dy with
        | .int j => R.chk (inI i && inI j && decide ((j - i).toNat ≤ big)) (if tup then .ok (.tup (rng i (j - i).toNat)) ah2 else mkL fz (rng i (j - i).toNat) ah2)
        | _ => .no
      | _ => .no)) (hv : Rep T M2 H2 dx v) (hw : Rep T M2 H2 dy w) : ∃ i j, v = .int i ∧ w = .int j ∧ RgOk i j ∧ (tup = true → ∀ p, H2 p = none → Q (.ref p) (upd H2 p (.tup (rgV i j)))) ∧ (tup = false → ∀ p, H2 p = none → Q (.ref p) (upd H2 p (.lst (rgV i j)))) := by
  cases dx with
  | int i =>
    cases dy with
    | int j =>
      obtain ⟨hz, P⟩ := Post.chk P
      refine ⟨i, j, rep_int hv, rep_int hw, rg_ok hz, fun ht => ?_, fun ht => ?_⟩
      · subst ht; exact P.tup q2 (rgV_rep i j)
      · subst ht; exact Post.mkL P q2 (rgV_rep i j)
    | _ => exact P.elim
  | _ => exact P.elim
/-- list(range(a)) -/
theorem s_listRg1 {fz : Bool} (hx : x = "list") (hy : y = "range") (hc : X.calm = true) (hg : Gl X x) (hm : X.mg x = none) (hg' : Gl X y) (hm' : X.mg y = none) (ha : SE X G W ea a) (hs : starEach [ea] X.env = [(false, eval ea X.env)] := by rfl)
    (hs2 : starEach [(.Call (.Name y p') [ea] [] pos' : Expr)] X.env = [(false, eval (.Call (.Name y p') [ea] [] pos') X.env)] := by rfl) : SE X G W (.Call (.Name x p) [.Call (.Name y p') [ea] [] pos'] [] pos) (eLR false fz (eC (.int 0)) a) := by
  subst hx hy
  refine PE.imp (pe_listRg hc hg hm (prg_1 hg' hm' ha (by rw [hs]; rfl)) (by rw [hs2]; rfl)) fun σ H Q h => ?_
  obtain ⟨M, e, ah, S, P⟩ := h
  have P : Post (tb X G) (WE W σ) M H _ ((a e ah).bind fun y h2 => match (D.int 0) with
      | .int i => match y with
        | .int j => R.chk (inI i && inI j && decide ((j - i).toNat ≤ big)) (if false then .ok (.tup (rng i (j - i).toNat)) h2 else mkL fz (rng i (j - i).toNat) h2)
        | _ => .no
      | _ => .no) := P
  refine ⟨M, e, ah, S, P.bindI fun d M1 ah1 H1 s1 q1 P1 v hv => ?_⟩
  obtain ⟨i, j, e1, e2, ok, _, l⟩ := lr_fin (tup := false) (fz := fz) (M1 := M1) (H1 := H1) (v := .int 0) q1 P1 mk_int hv
  cases e1
  exact ⟨j, e2, ok, l rfl⟩
end
end
end Sm
end

section
set_option Elab.async false
set_option linter.all false
set_option maxRecDepth 100000
set_option maxHeartbeats 3200000
namespace Sm
open PySem PySem.Spec PyProof.Rows L2
/-! ### set(xs) of a list of ints -/
section
variable {pr : Program} {wo : World} {Ar : Around} {Er : Value → Shared → Prop} {st : Shared}
/-- the set object as it is first laid -/
abbrev set0 (wo : World) : Obj := { cls := .type "set", dict := none, data := .set #[] 0 (.fresh 0 0 (!wo.params.followText "set-order")) }
end
section
variable {X : Cx} {G : Gh} {W : WX} {ea eb ec : Expr} {a b c : AE} {pos : Pos}
def rSetI (K : PySem.W.Frag) (w : World) : List V → Hp → VK → Prop := fun xs H Q => ∃ (a : Addr) (ns : List Int), xs = [.ref a] ∧ SqL K H a (ns.map V.int) ∧ ns.length + 1 < scanBound ∧ ∀ p, H p = none → Q (.ref p) (upd H p (SetO w p (fun j => decide (j ∈ ns)) (sortU ns).length))
end
end Sm
end

section
set_option Elab.async false
set_option linter.all false
set_option maxRecDepth 100000
set_option maxHeartbeats 1000000
/-! SimZ: the rules as the printed derivations name them. -/
namespace Sm
open PySem PySem.Spec PyProof.Rows L2
section
variable {X : Cx} {G : Gh} {W : WX} {pos : Pos} {ea eb ec : Expr} {a b c : AE}
theorem sv (i : Nat) {x : Str} (hN : X.N[i]? = some x := by rfl) (hv : Vis X.env.scope x := by first | exact Or.inl rfl | exact Or.inr (Or.inl rfl) | exact Or.inr (Or.inr rfl)) (hd : (x == ("__debug__" : Str)) = false := by decide)
    (hcd : (x == ("__classdict__" : Str)) = false := by decide) : SE X G W (.Name x pos) (eV i) := s_var hN hv hd hcd
theorem gn (i : Nat) {x : Str} {vs : List Nat} (hN : X.N.Nodup) (hi : X.N[i]? = some x := by rfl) (hx : Loc X.env.scope x := by first | exact Or.inl rfl | exact Or.inr rfl) (hv : i ∈ vs := by decide) (hf : X.fn x = true ∨ X.env.scope.names.lookup x = some .local := by first | exact .inl rfl | exact .inr rfl)  (hj : NG G i := by first | exact ng_none | exact ng_some (by decide) | exact ng_some (by simp)) : SG X G vs (.Name x pos) (gV i) := g_name hN hi hx hv hf hj
theorem zs (i : Nat) {x : Str} {p : Pos} (hN : X.N.Nodup) (ha : SE X G W ea a) (hi : X.N[i]? = some x := by rfl) (hx : Loc X.env.scope x := by first | exact Or.inl rfl | exact Or.inr rfl) (hs : swapsWith ea (some (.Name x p)) pos.line X.env = pure false := by rfl) (hf : X.fn x = true ∨ X.env.scope.names.lookup x = some .local := by first | exact .inl rfl | exact .inr rfl)  (hj : NG G i := by first | exact ng_none | exact ng_some (by decide) | exact ng_some (by simp)) : SS X G W (.Assign [.Name x p] ea pos) (sSet i a) := z_set hN hi hx ha hs hf hj
section
variable {x : Str} {p : Pos} {e : Expr} {es : List Expr} {as : AA}
theorem c_len (hm : X.mg "len" = none) (ha : SA X G W [ea] as) (hg : Gl X "len" := by rfl) (he : starEach [ea] X.env = (false, eval ea X.env) :: starEach [] X.env := by rfl) : SE X G W (.Call (.Name "len" p) [ea] [] pos) (eA (on1 lenD) as) := s_callB call_len f_len hg hm PySem.boot_len ha (by decide) (by decide) he (by rfl)
theorem c_abs (hm : X.mg "abs" = none) (ha : SA X G W [ea] as) (hg : Gl X "abs" := by rfl) (he : starEach [ea] X.env = (false, eval ea X.env) :: starEach [] X.env := by rfl) : SE X G W (.Call (.Name "abs" p) [ea] [] pos) (eA (on1 absD) as) := s_callB call_abs f_abs hg hm (by decide +kernel) ha (by decide) (by decide) he (by rfl)
theorem c_int (hm : X.mg "int" = none) (ha : SA X G W [ea] as) (hg : Gl X "int" := by rfl) (he : starEach [ea] X.env = (false, eval ea X.env) :: starEach [] X.env := by rfl) : SE X G W (.Call (.Name "int" p) [ea] [] pos) (eA (on1 intD) as) := s_callTy call_int1 f_int hg hm (by decide +kernel) ha (by decide) (by decide) he (by rfl)
theorem c_tuple (hm : X.mg "tuple" = none) (ha : SA X G W [ea] as) (hg : Gl X "tuple" := by rfl) (he : starEach [ea] X.env = (false, eval ea X.env) :: starEach [] X.env := by rfl) : SE X G W (.Call (.Name "tuple" p) [ea] [] pos) (eA (on1 tupD) as) := s_callTy call_tuple_of f_tuple hg hm (by decide +kernel) ha (by decide) (by decide) he (by rfl)
theorem c_list {fz : Bool} (hm : X.mg "list" = none) (ha : SA X G W [ea] as) (hg : Gl X "list" := by rfl) (he : starEach [ea] X.env = (false, eval ea X.env) :: starEach [] X.env := by rfl) : SE X G W (.Call (.Name "list" p) [ea] [] pos) (eA (on1 (listD fz)) as) := s_callTy call_list_of f_list hg hm (by decide +kernel) ha (by decide) (by decide) he (by rfl)
end
section
variable {x : Str} {p : Pos} {e : Expr} {es : List Expr} {as : AA}
end
section
variable {apos cpos : Pos} {as : AA} {es : List Expr}
theorem mm_append (ho : SE X G W ea a) (ha : SA X G W [eb] as) (hbase : attributeBase ea "append" X.env (eval ea X.env) = eval ea X.env := by rfl) (hs : starEach [eb] X.env = [(false, eval eb X.env)] := by rfl) (hline : (apos.endLine == cpos.line) = true := by rfl) :
    SE X G W (.Call (.Attribute ea "append" apos) [eb] [] cpos) (eM isLst (mt1 appendD) a as) := s_bm PySem.F.plainAttrs_list PySem.F.slot_list_append PySem.F.type_list_append mt_append m_append ty_list ho ha hbase (by rw [hs]; rfl) hline (by rw [hs]; rfl) (by rfl)
theorem mm_insert {e1x e2x : Expr} (ho : SE X G W ea a) (ha : SA X G W [e1x, e2x] as) (hbase : attributeBase ea "insert" X.env (eval ea X.env) = eval ea X.env := by rfl) (hs : starEach [e1x, e2x] X.env = [(false, eval e1x X.env), (false, eval e2x X.env)] := by rfl) (hs2 : starEach [e2x] X.env = [(false, eval e2x X.env)] := by rfl) (hline : (apos.endLine == cpos.line) = true := by rfl) :
    SE X G W (.Call (.Attribute ea "insert" apos) [e1x, e2x] [] cpos) (eM isLst (mt2 insertD) a as) := s_bm PySem.F.plainAttrs_list PySem.F.slot_list_insert PySem.F.type_list_insert mt_insert m_insert ty_list ho ha hbase (by rw [hs]; rfl) hline (by rw [hs, hs2]) (by rw [hs2]; rfl)
theorem mm_popAt (ho : SE X G W ea a) (ha : SA X G W [eb] as) (hbase : attributeBase ea "pop" X.env (eval ea X.env) = eval ea X.env := by rfl) (hs : starEach [eb] X.env = [(false, eval eb X.env)] := by rfl) (hline : (apos.endLine == cpos.line) = true := by rfl) :
    SE X G W (.Call (.Attribute ea "pop" apos) [eb] [] cpos) (eM isLst (mt1 popAtD) a as) := s_bm PySem.F.plainAttrs_list PySem.F.slot_list_pop PySem.F.type_list_pop mt_popAt m_popAt ty_list ho ha hbase (by rw [hs]; rfl) hline (by rw [hs]; rfl) (by rfl)
end
end
/-! ### the law's own end -/
def spLaw (K : PySem.W.Frag) : Sp := fun vs H Q _ => ∃ (a : Addr) (ns : List Int), vs = [.ref a] ∧ SqL K H a (ns.map V.int) ∧ ns.length ≤ 63 ∧ ∀ H', Q (.bl true) H'
theorem law_imp {P : Program} {w : World} {K : PySem.W.Frag} {mg : Str → Option Value} {base : Heap} {k : Nat} {f : Addr} {fd : FuncData} {ps : List Str} {F : AF} (h : FnG P w K mg base (L2.CX P w) k f fd ps (spF ⟨K, mg, none, w⟩ 1 F))
    (hl : ∀ ns : List Int, ns.length ≤ 63 → ∃ h', F [.scr (ns.map .int)] [] = .ok (.bl true) h') : FnG P w K mg base (L2.CX P w) k f fd ps (spLaw K) :=
  h.imp fun vs H Q E ⟨a, ns, e, hS, hn, q⟩ => by
    subst e
    obtain ⟨h', el⟩ := hl ns hn
    refine ⟨rfl, ⟨[], []⟩, [], [.scr (ns.map .int)], ⟨rfl, List.nodup_nil, by simp, by simp, by simp⟩, Reps.cons ?_ Reps.nil, ?_⟩
    · rw [Rep]
      exact ⟨a, _, rfl, hS.elim (fun r => .inl ⟨⟨by simp, by simp⟩, r⟩) .inr, Reps.ofInts ns⟩
    · rw [el]
      intro M' H' _ _ v hv
      rw [rep_bl hv]; exact q _
theorem cx_no {P : Program} {w : World} {outer : List PySem.Env} {H : Hp} {s s' : Shared} {e : Value} (h : L2.CX P w outer H s (fun _ _ _ => False) e s') : False := by
  obtain ⟨_, _, _, _, _, _, _, _, _, _, _, _, z⟩ := h
  exact z
end Sm
end

section
set_option linter.all false
/-! Abs2: dicts whose keys are tuples. -/
namespace Sm
def kDs : List D → Option (List K1)
  | [] => some []
  | d :: ds => match kD d with
    | some k => (kDs ds).map (k :: ·)
    | none => none
def kT : D → Option (List K1)
  | .tup ds => kDs ds
  | _ => none
def dicTH (h : AH) : D → Option (Nat × List (List K1 × D))
  | .loc l => match h[l]? with
    | some (.dicT ks ds) => some (l, ks.zip ds)
    | _ => none
  | _ => none
/-- {}, its keys tuples -/
def eNewT : AE := fun _ h => .ok (.loc h.length) (h ++ [.dicT [] []])
def setTD (x y v : D) (h : AH) : R D := match dicTH h x with
  | some (l, kvs) => match kT y with
    | some k => R.chk (decide (kvs.length < big)) (.ok .non (h.set l (.dicT ((putA kvs k v).map (·.1)) ((putA kvs k v).map (·.2)))))
    | none => .no
  | none => .no
def ixTD (x y : D) (h : AH) : R D := match dicTH h x with
  | some (_, kvs) => match kT y with
    | some k => R.of (getA kvs k) h
    | none => .no
  | none => .no
end Sm
end

section
set_option Elab.async false
set_option linter.all false
set_option maxRecDepth 100000
set_option maxHeartbeats 1000000
/-! Sim13: dicts whose keys are tuples. -/
namespace Sm
open PySem PySem.Spec PyProof.Rows L2
abbrev kOfs (k : List K1) : List Key := k.map kOf
section
variable {T : Tb} {M : Mp} {ah : AH} {H : Hp}
end
section
variable {X : Cx} {G : Gh} {W : WX} {pos : Pos} {ea eb ec : Expr} {a b c : AE}
end
end Sm
end

section
set_option linter.all false
/-! Abs3: instances of own classes; errors. -/
namespace Sm
def insH (h : AH) : D → Option (String × List String × List D)
  | .ins c ns ds => some (c, ns, ds)
  | .loc l => match h[l]? with
    | some (.ins c ns ds) => some (c, ns, ds)
    | _ => none
  | _ => none
def look1 (n : String) : List String → List D → Option D
  | m :: ns, d :: ds => if m = n then some d else look1 n ns ds
  | _, _ => none
/-- o.n of an instance of one of the classes -/
def fldD (cs : List String) (n : String) (x : D) (h : AH) : R D := match insH h x with
  | some (c, ns, ds) => R.chk (cs.contains c) (R.of (look1 n ns ds) h)
  | none => .no
def putN (n : String) : List String → List String
  | [] => [n]
  | m :: ns => if m = n then m :: ns else m :: putN n ns
def putV (n : String) (v : D) : List String → List D → List D
  | m :: ns, d :: ds => if m = n then v :: ds else d :: putV n v ns ds
  | _, _ => [v]
def setFldD (cs : List String) (n : String) (x v : D) (h : AH) : R D := match x with
  | .loc l => match h[l]? with
    | some (.ins c ns ds) => R.chk (cs.contains c && decide (ns.length < 1000)) (.ok .non (h.set l (.ins c (putN n ns) (putV n v ns ds))))
    | _ => .no
  | _ => .no
/-- o.n = v -/
def sFldS (f : D → D → AH → R D) (o v : AE) : AS := fun e h => up e ((v e h).bind fun y h1 => (o e h1).bind fun x h2 => f x y h2) fun _ h3 => .ok (.nx e) h3
/-- C(..) -/
def mkIR (c : String) (F : AF) (ds : List D) (h : AH) : R D := (F (.loc h.length :: ds) (h ++ [.ins c [] []])).bind fun v h1 => match v with
  | .non => .ok (.loc h.length) h1
  | _ => .no
def mkI (c : String) (fz : Bool) (F : AF) : List D → AH → R D := fun ds h => if fz then trim h (mkIR c F ds h) else mkIR c F ds h
def findF (c : String) : List (String × AF) → Option AF
  | [] => none
  | (m, F) :: r => if m = c then some F else findF c r
/-- o.m(..); o.m where m is a property -/
def mthR (tbl : List (String × AF)) (m : String) (as : Env → AH → R (List D)) (e : Env) (d : D) (h1 : AH) : R D := match insH h1 d with
  | some (c, ns, ds) => match findF c tbl with
    | some F => R.chk (look1 m ns ds).isNone ((as e h1).bind fun xs h2 => F (d :: xs) h2)
    | none => .no
  | none => .no
def eMth (tbl : List (String × AF)) (m : String) (a : AE) (as : AA) : AE := fun e h => (a e h).bind fun d h1 => mthR tbl m as e d h1
def prR (tbl : List (String × AF)) (d : D) (h1 : AH) : R D := match insH h1 d with
  | some (c, _, _) => match findF c tbl with
    | some F => (F [d] h1).nox
    | none => .no
  | none => .no
def ePrp (tbl : List (String × AF)) (a : AE) : AE := e1 (prR tbl) a
/-- o(..) -/
def clR (tbl : List (String × AF)) (as : Env → AH → R (List D)) (e : Env) (d : D) (h1 : AH) : R D := R.chk (insH h1 d).isSome ((as e h1).bind fun xs h2 => match insH h2 d with
  | some (c, _, _) => match findF c tbl with
    | some F => F (d :: xs) h2
    | none => .no
  | none => .no)
def eCal (tbl : List (String × AF)) (a : AE) (as : AA) : AE := fun e h => (a e h).bind fun d h1 => clR tbl as e d h1
end Sm
end

section
set_option Elab.async false
set_option linter.all false
set_option maxRecDepth 100000
set_option maxHeartbeats 1000000
/-! Sim14: instances of own classes. -/
namespace Sm
open PySem PySem.Spec PyProof.Rows L2
theorem ofString_inj {a b : String} (h : Str.ofString a = Str.ofString b) : a = b := by
  rw [Str.ofString_eq_toList, Str.ofString_eq_toList] at h
  have h2 := congrArg (fun z : Str => z.cps.toList) h
  simp only [List.toList_toArray] at h2
  have key : ∀ {l l2 : List Char}, l.map Char.toNat = l2.map Char.toNat → l = l2 := by
    intro l
    induction l with
    | nil => intro l2 h; cases l2 with
      | nil => rfl
      | cons _ _ => cases h
    | cons x l ih => intro l2 h; cases l2 with
      | nil => cases h
      | cons y l2 =>
        rw [List.map_cons, List.map_cons] at h
        injection h with h1 h2
        rw [Char.ext (UInt32.toNat_inj.mp h1), ih h2]
  have h3 : a.toList = b.toList := key h2
  exact String.ext h3
section
variable {T : Tb} {M M1 M' : Mp} {ah ah1 ah' : AH} {H H1 H' : Hp}
theorem flds_cons (n : String) (ns : List String) (v : V) (vs : List V) : flds (n :: ns) (v :: vs) = (Str.ofString n, v) :: flds ns vs := rfl
theorem look1_rep (n : String) : ∀ {ns : List String} {ds : List D} {vs : List V}, ns.length = ds.length → Reps T M H ds vs → match look1 n ns ds with
    | some d => ∃ v, (flds ns vs).lookup (Str.ofString n) = some v ∧ Rep T M H d v
    | none => (flds ns vs).lookup (Str.ofString n) = none
  | [], ds, vs, _, _ => by simp [look1, flds]
  | m :: ns, [], vs, h, _ => by cases h
  | m :: ns, d :: ds, vs, h, r => by
    rw [Reps] at r
    obtain ⟨v, vs, rfl, r1, r2⟩ := r
    rw [flds_cons]
    by_cases e : m = n
    · subst e
      simp only [look1, if_true]
      exact ⟨v, by simp [List.lookup], r1⟩
    · have e2 : ¬ Str.ofString n = Str.ofString m := fun z => e (ofString_inj z).symm
      have e3 : ((Str.ofString m, v) :: flds ns vs).lookup (Str.ofString n) = (flds ns vs).lookup (Str.ofString n) := by
        have : (Str.ofString n == Str.ofString m) = false := by simpa using e2
        simp [List.lookup, this]
      simp only [look1, if_neg e, e3]
      exact look1_rep n (by simpa using h) r2
theorem putF_rep (n : String) {d : D} {v : V} (r : Rep T M H d v) : ∀ {ns : List String} {ds : List D} {vs : List V}, ns.length = ds.length → Reps T M H ds vs → ∃ us, putF (Str.ofString n) v (flds ns vs) = flds (putN n ns) us ∧ (putN n ns).length = (putV n d ns ds).length ∧ Reps T M H (putV n d ns ds) us
  | [], ds, vs, h, rs => by
    have : ds = [] := List.length_eq_zero_iff.mp h.symm
    subst this
    exact ⟨[v], rfl, rfl, Reps.cons r Reps.nil⟩
  | m :: ns, [], vs, h, _ => by cases h
  | m :: ns, d2 :: ds, vs, h, rs => by
    rw [Reps] at rs
    obtain ⟨w, vs, rfl, r1, r2⟩ := rs
    rw [flds_cons]
    by_cases e : m = n
    · subst e
      simp only [putN, putV, putF, if_true]
      exact ⟨v :: vs, rfl, by simpa using h, Reps.cons r r2⟩
    · have e2 : ¬ Str.ofString m = Str.ofString n := fun z => e (ofString_inj z)
      simp only [putN, putV, putF, if_neg e, if_neg e2]
      obtain ⟨us, a, b, c⟩ := putF_rep n r (ns := ns) (by simpa using h) r2
      exact ⟨w :: us, by rw [a]; rfl, by simp [b], Reps.cons r1 c⟩
theorem flds_len {ns : List String} {ds : List D} {vs : List V} (h : ns.length = ds.length) (r : Reps T M H ds vs) : (flds ns vs).length = ns.length := by
  unfold flds; rw [List.length_zip, List.length_map, ← r.length, h]; simp
theorem rep_ins {x : D} {v : V} {c : String} {ns : List String} {ds : List D} (q : RelH T M ah H) (r : Rep T M H x v) (h : insH ah x = some (c, ns, ds)) :
    ∃ a C dx vs, v = .ref a ∧ T.mg (Str.ofString c) = some (.ref C) ∧ H a = some (.ins C dx (flds ns vs)) ∧ ns.length = ds.length ∧ Reps T M H ds vs := by
  cases x with
  | ins c2 ns2 ds2 =>
    cases h
    rw [Rep] at r
    obtain ⟨a, C, dx, vs, e, f, g, k, z, r⟩ := r
    exact ⟨a, C, dx, vs, e, g, k, z, r⟩
  | loc l =>
    have h' : (match ah[l]? with
      | some (.ins c ns ds) => some (c, ns, ds)
      | _ => none) = some (c, ns, ds) := h
    rw [Rep] at r
    obtain ⟨a, rfl, hp⟩ := r
    split at h'
    · rename_i c2 ns2 ds2 hl
      cases h'
      obtain ⟨C, dx, vs, g, e, z, rs⟩ := q.obj l a _ hp hl
      exact ⟨a, C, dx, vs, rfl, g, e, z, rs⟩
    · cases h'
  | _ => cases h
end
/-- what is asked of the classes of which an attribute is read -/
def ClsN (X : Cx) (n : Str) (cs : List String) : Prop := ∀ c ∈ cs, ∃ C, X.mg (Str.ofString c) = some (.ref C) ∧ Cls X.K C ∧ NoAttr X.K C n
theorem cn_nil {X : Cx} {n : Str} : ClsN X n [] := fun _ h => by simp at h
theorem cn_cons {X : Cx} {n : Str} {c : String} {cs : List String} {C : Addr} (h1 : X.mg (Str.ofString c) = some (.ref C)) (h2 : Cls X.K C) (h3 : NoAttr X.K C n) (h : ClsN X n cs) : ClsN X n (c :: cs) := fun x hx => by
  rcases List.mem_cons.mp hx with rfl | hx
  · exact ⟨C, h1, h2, h3⟩
  · exact h x hx
theorem mg_same {mg : Str → Option Value} {c : Str} {C C2 : Addr} (h1 : mg c = some (.ref C)) (h2 : mg c = some (.ref C2)) : C2 = C := by
  rw [h1] at h2; exact (Value.ref.inj (Option.some.inj h2)).symm
section
variable {X : Cx} {G : Gh} {W : WX} {pos : Pos} {ea eb ec : Expr} {a b c : AE}
theorem s_fld {cs : List String} (n : String) (hc : ClsN X (Str.ofString n) cs) (ha : SE X G W ea a) (hb : attributeBase ea (Str.ofString n) X.env (eval ea X.env) = eval ea X.env := by rfl) : SE X G W (.Attribute ea (Str.ofString n) pos) (e1 (fldD cs n) a) :=
  PE.imp (pe_fld ha hb) fun σ H Q h => by
    obtain ⟨M, e, ah, S, P⟩ := h
    refine ⟨M, e, ah, S, P.bindI fun d M1 ah1 H1 s1 q1 P1 v hv => ?_⟩
    unfold fldD at P1
    cases hi : insH ah1 d with
    | none => rw [hi] at P1; exact P1.elim
    | some z =>
      obtain ⟨c, ns, ds⟩ := z
      rw [hi] at P1
      obtain ⟨hm, P1⟩ := Post.chk P1
      obtain ⟨d2, hd, P1⟩ := Post.of P1
      obtain ⟨p, C, dx, vs, e1, e2, e3, e4, r⟩ := rep_ins q1 hv hi
      obtain ⟨C2, k1, k2, k3⟩ := hc c (by simpa using hm)
      have := mg_same e2 k1; subst this
      have l := look1_rep n e4 r
      rw [hd] at l
      obtain ⟨w, l1, l2⟩ := l
      exact ⟨p, C2, dx, _, w, e1, e3, k2, k3, l1, P1.val q1 l2⟩
theorem z_fld {cs : List String} (n : String) {p : Pos} (hc : ClsN X (Str.ofString n) cs) (ho : SE X G W ea a) (hv : SE X G W eb b) (hs : swapsWith eb (some (.Attribute ea (Str.ofString n) p)) pos.line X.env = pure false := by rfl) : SS X G W (.Assign [.Attribute ea (Str.ofString n) p] eb pos) (sFldS (setFldD cs n) a b) :=
  PS.imp (ps_fld ho hv hs) fun D σ H h => by
    obtain ⟨M, e, ah, S, P⟩ := h
    have P := (up_post S P).bind
    refine ⟨M, e, ah, S, P.imp fun dv M1 ah1 H1 s1 q1 P1 v rv => ?_⟩
    refine ⟨M1, e, ah1, S.step s1 q1, P1.bindI fun do_ M2 ah2 H2 s2 q2 P2 o ro => ?_⟩
    cases do_ with
    | loc l =>
      unfold setFldD at P2
      dsimp only at P2
      split at P2
      · rename_i c ns ds hl
        obtain ⟨hz, P2⟩ := Post.chk P2
        rw [Bool.and_eq_true] at hz
        rw [Rep] at ro
        obtain ⟨p, rfl, hp⟩ := ro
        obtain ⟨C, dx, vs, g, e1, z, rs⟩ := q2.obj l p _ hp hl
        obtain ⟨C2, k1, k2, k3⟩ := hc c (by simpa using hz.1)
        have := mg_same g k1; subst this
        obtain ⟨us, u1, u2, u3⟩ := putF_rep n (rv.step s2) z rs
        refine ⟨p, C2, dx, _, rfl, e1, k2, k3, by rw [flds_len z rs]; exact of_decide_eq_true hz.2, ?_⟩
        obtain ⟨s, q3⟩ := q2.put (o := .ins C2 dx (putF (Str.ofString n) v (flds ns vs))) (u := .ins c (putN n ns) (putV n dv ns ds)) hp fun s => ⟨C2, dx, us, g, by rw [upd_same, u1], u2, u3.step s⟩
        exact Post.here (P2 M2 _ s q3) q3 σ (S.step ((s1.trans s2).trans s) q3)
      · exact P2.elim
    | _ => exact P2.elim
/-! ### C(..) -/
theorem run_makeS {CX : CXT} {k : Nat} {C f : Addr} {fd : FuncData} {ps : List Str} {sp : Sp} {E : L2.St → XK} {pins : List (Addr × Obj)} {σ : L2.St} {H : Hp} {s : Shared} {Q : VK} {us : List Value} {vs : List V} (Mc : Mk X.K C f) (F : FnG X.prog X.w X.K X.mg X.base CX k f fd ps sp) (hr : RoomG (k + 1) X.A) (hb : Binds X.K fd ps [])
    (hx : PassesAt CX X σ (E σ)) (I : Inv X pins σ H s) (r : Vals vs us)
    (h : ∀ x dx, H x = none → H dx = none → dx ≠ x → sp (.ref x :: vs) (upd (upd H dx (.own x)) x (.ins C dx [])) (fun v H2 => v = .non ∧ Q (.ref x) H2) (E σ)) :
    wpAny (model X.prog X.w) X.A (call (.ref C) us) (EP X pins σ Q) X.xe s := by
  have hq := h (s.heap.objs.size + 1) s.heap.objs.size (I.hok.fresh (Nat.le_succ _)) (I.hok.fresh (Nat.le_refl _)) (Nat.ne_of_lt (Nat.lt_succ_self _))
  have I2 := Inv.made (C := C) I
  have r2 : Vals (V.ref (s.heap.objs.size + 1) :: vs) (Value.ref (s.heap.objs.size + 1) :: us) := .cons rfl r
  have hl : (Value.ref (s.heap.objs.size + 1) :: us ++ []).length = ps.length := by
    have e := r2.length
    rw [F.len _ _ _ _ hq] at e
    rw [List.append_nil]
    exact e.symm
  have b := hb ⟨_, s.gens, s.drawn, s.toks, s.os⟩ (Value.ref (s.heap.objs.size + 1) :: us) I2.kIn hl
  rw [List.append_nil] at b
  refine wpAny_call (make_map (f := f) I.kIn Mc.makes Mc.init (beq_iff_eq.mp Mc.fn) (codeAny_mono (F.run _ X.stack _ _ ⟨Value.ref (s.heap.objs.size + 1) :: us, []⟩ (Value.ref (s.heap.objs.size + 1) :: us) _ _ (E σ) (hr.make C us [])
    (I2.env0.make C us []) b r2 hq) fun r s' hq' => ?_))
  cases r with
  | error e => exact hx pins _ _ e s' I2 hq'
  | ok fl =>
    cases fl with
    | ret u =>
      obtain ⟨v, H', I3, rv, ev, q3⟩ := I2.after hq'
      subst ev
      exact ⟨rv, ⟨V.ref (s.heap.objs.size + 1), H', I3, rfl, q3⟩⟩
    | next => exact False.elim hq'
    | brk => exact False.elim hq'
    | cont => exact False.elim hq'
def tMakeS (C : Addr) (sp : Sp) (E : L2.St → XK) (t : TA) : TE := fun σ H Q => t σ H fun vs H1 => ∀ x dx, H1 x = none → H1 dx = none → dx ≠ x →
  sp (.ref x :: vs) (upd (upd H1 dx (.own x)) x (.ins C dx [])) (fun v H2 => v = .non ∧ Q (.ref x) H2) (E σ)
theorem pe_makeS {CX : CXT} {k : Nat} {C f : Addr} {fd : FuncData} {ps : List Str} {sp : Sp} {E : L2.St → XK} {x : Str} {p : Pos} {e : Expr} {es : List Expr} {t : TA} (Mc : Mk X.K C f) (F : FnG X.prog X.w X.K X.mg X.base CX k f fd ps sp) (hr : RoomG (k + 1) X.A) (hg : Gl X x) (hm : X.mg x = some (.ref C)) (hb : Binds X.K fd ps []) (hx : ∀ σ, PassesAt CX X σ (E σ))
    (ha : PA X (e :: es) t) (hdb : (x == ("__debug__" : Str)) = false := by decide) (he : starEach (e :: es) X.env = (false, eval e X.env) :: starEach es X.env := by rfl) (hpl : (backTo pos (starEach es X.env)).any (·.1) = false := by rfl) :
    PE X (.Call (.Name x p) (e :: es) [] pos) (tMakeS C sp E t) := by
  refine ⟨fun pins s σ H Q I h => ?_⟩
  refine wpAny_Call_Name_kw (ld_glob I hg hm ?_ hdb)
  refine PySem.W.callWith_K (h₀ := X.base) I.ok.mod.kin Mc.kp (thn (ha.run pos pins s σ H _ I h) fun us s1 ⟨vs, H1, I1, r, q⟩ => ⟨I1.kIn, ?_⟩) he hpl
  exact run_makeS Mc F hr hb (hx σ) I1 r q
theorem make_post {T : Tb} {M : Mp} {ah : AH} {H : Hp} {c : String} {C : Addr} {fz : Bool} {F : AF} {ds : List D} {vs : List V} {E : XK} {Q : VK} {n : Nat} (hm : T.mg (Str.ofString c) = some (.ref C)) (hn : vs.length + 1 = n) (q : RelH T M ah H) (r : Reps T M H ds vs) (P : Post T E M H (VP T Q) (mkI c fz F ds ah)) (x dx : Addr) (nx : H x = none) (nd : H dx = none) (ne : dx ≠ x) :
    spF T n F (.ref x :: vs) (upd (upd H dx (.own x)) x (.ins C dx [])) (fun v H2 => v = .non ∧ Q (.ref x) H2) E := by
  have s1 := step_new (M := M) (.own x) nd
  have q1 := q.new (.own x) nd
  have nx1 : upd H dx (.own x) x = none := by rw [upd_ne (Ne.symm ne)]; exact nx
  have s2 := step_loc (M := M) (.ins C dx []) nx1
  have q2 : RelH T ⟨M.m ++ [x], M.ex⟩ (ah ++ [.ins c [] []]) (upd (upd H dx (.own x)) x (.ins C dx [])) := q1.loc nx1 ⟨C, dx, [], hm, upd_same, rfl, Reps.nil⟩
  have P2 : Post T E M H (VP T Q) (mkIR c F ds ah) := by
    unfold mkI at P
    cases fz with
    | true => exact trim_post q P
    | false => exact P
  refine ⟨by simp [hn], _, _, .loc ah.length :: ds, q2, Reps.cons ?_ (r.step (s1.trans s2)), (Post.bind P2).step (s1.trans s2) |>.imp fun v M3 ah3 H3 s3 q3 P3 u hu => ?_⟩
  · rw [Rep]
    refine ⟨x, rfl, ?_⟩
    show (M.m ++ [x])[ah.length]? = some x
    rw [← q.len]; simp
  · cases v with
    | non =>
      have hu : u = .non := by rwa [Rep] at hu
      refine ⟨hu, P3.val q3 ?_⟩
      rw [Rep]
      refine ⟨x, rfl, s3.get ?_⟩
      show (M.m ++ [x])[ah.length]? = some x
      rw [← q.len]; simp
    | _ => exact P3.elim
theorem s_make {k n : Nat} {C f : Addr} {fd : FuncData} {ps : List Str} {F : AF} {cn : String} {p : Pos} {e : Expr} {es : List Expr} {as : AA} {fz : Bool} (Mc : Mk X.K C f) (Fo : FnG X.prog X.w X.K X.mg X.base (L2.CX X.prog X.w) k f fd ps (spF (tb X none) n F)) (hF : ∀ ds h, ds.length ≠ n → F ds h = .no)
    (hr : RoomG (k + 1) X.A) (hg : Gl X (Str.ofString cn)) (hm : X.mg (Str.ofString cn) = some (.ref C)) (hb : Binds X.K fd ps []) (tk : Takes X W) (ha : SA X none W (e :: es) as)
    (hdb : (Str.ofString cn == ("__debug__" : Str)) = false := by decide) (he : starEach (e :: es) X.env = (false, eval e X.env) :: starEach es X.env := by rfl) (hpl : (backTo pos (starEach es X.env)).any (·.1) = false := by rfl) : SE X none W (.Call (.Name (Str.ofString cn) p) (e :: es) [] pos) (eA (mkI cn fz F) as) :=
  PE.imp (pe_makeS Mc Fo hr hg hm hb (passAt tk) ha hdb he hpl) fun σ H Q h => by
    obtain ⟨M, e, ah, S, P⟩ := h
    refine ⟨M, e, ah, S, P.bindI fun ds M1 ah1 H1 s1 q1 P1 vs hv x dx nx nd ne => ?_⟩
    refine make_post hm ?_ q1 hv P1 x dx nx nd ne
    by_cases z : (D.loc ah1.length :: ds).length = n
    · rw [← z, List.length_cons, hv.length]
    · have z2 : mkIR cn F ds ah1 = .no := by unfold mkIR; rw [hF _ _ z]; rfl
      have P1 : Post _ _ M1 H1 _ (mkI cn fz F ds ah1) := P1
      have z3 : mkI cn fz F ds ah1 = .no := by
        unfold mkI; rw [z2]; cases fz <;> rfl
      rw [z3] at P1; exact P1.elim
/-! ### methods, calls of instances, properties -/
structure MF (X : Cx) (m : Str) (F : AF) (C : Addr) : Prop where
  cl : Cls X.K C
  ex : ∃ f fd ps k n, Meth X.K C m f ∧ FnG X.prog X.w X.K X.mg X.base (L2.CX X.prog X.w) k f fd ps (spF (tb X none) n F) ∧ (∀ ds h, ds.length ≠ n → F ds h = .no) ∧ RoomG k X.A ∧ Binds X.K fd ps []
def MFs (X : Cx) (m : Str) (tbl : List (String × AF)) : Prop := ∀ c F, findF c tbl = some F → ∃ C, X.mg (Str.ofString c) = some (.ref C) ∧ MF X m F C
theorem mf_nil {X : Cx} {m : Str} : MFs X m [] := fun _ _ h => by cases h
theorem mf_cons {X : Cx} {m : Str} {c : String} {F : AF} {r : List (String × AF)} {C f : Addr} {fd : FuncData} {ps : List Str} {k n : Nat} (h1 : X.mg (Str.ofString c) = some (.ref C)) (cl : Cls X.K C) (hm : Meth X.K C m f) (Fo : FnG X.prog X.w X.K X.mg X.base (L2.CX X.prog X.w) k f fd ps (spF (tb X none) n F)) (hF : ∀ ds h, ds.length ≠ n → F ds h = .no)
    (hr : RoomG k X.A) (hb : Binds X.K fd ps []) (h : MFs X m r) : MFs X m ((c, F) :: r) := fun d D hd => by
  unfold findF at hd
  by_cases e : c = d
  · subst e
    rw [if_pos rfl] at hd
    cases hd
    exact ⟨C, h1, cl, f, fd, ps, k, n, hm, Fo, hF, hr, hb⟩
  · rw [if_neg e] at hd
    exact h d D hd
def tMthD (X : Cx) (m : Str) (E : L2.St → XK) (ta : TE) (t : TA) : TE := fun σ H Q => ta σ H fun x H1 => ∃ a C dx fs f fd ps k sp, x = .ref a ∧ H1 a = some (.ins C dx fs) ∧ fs.lookup m = none ∧ Cls X.K C ∧ Meth X.K C m f ∧ FnG X.prog X.w X.K X.mg X.base (L2.CX X.prog X.w) k f fd ps sp ∧ RoomG k X.A ∧ Binds X.K fd ps [] ∧
  t σ H1 fun vs H2 => sp (x :: vs) H2 Q (E σ)
theorem pe_mthD {m : Str} {E : L2.St → XK} {ta : TE} {t : TA} {pl : Sem Bool} {o e : Expr} {es : List Expr} {apos : Pos} (he : PE X o ta) (hx : ∀ σ, PassesAt (L2.CX X.prog X.w) X σ (E σ)) (ha : PA X (e :: es) t)
    (hst : starEach (e :: es) X.env = (false, eval e X.env) :: starEach es X.env := by rfl) (hpl : (backTo pos (starEach es X.env)).any (·.1) = false := by rfl)
    (ht : eval (.Call (.Attribute o m apos) (e :: es) [] pos) X.env = (do
      let ov ← eval o X.env
      standAt apos.atName
      let (f, first) ← holding [ov] (getMethod ov m pl)
      callWith pos f first (backTo pos (starEach (e :: es) X.env)) (backToKw pos (keywordEach [] X.env))) := by rfl) :
    PE X (.Call (.Attribute o m apos) (e :: es) [] pos) (tMthD X m E ta t) := by
  refine ⟨fun pins s σ H Q I h => ?_⟩
  refine PySem.W.methodCall_KW (pl := pl) (thn (he.run pins s σ H _ I h) fun u s1 ⟨x, H1, I1, rx, a, C, dx, fs, f, fd, ps, k, sp, ex, ea, l, c, hm, F, hr, hb, q⟩ => ?_) ht
  subst ex
  obtain rfl : u = Value.ref a := rx
  refine getmeth_ok I1 ea c hm l ?_
  refine PySem.W.callWith_K (first := [.ref a]) (h₀ := X.base) I.ok.mod.kin hm.kp (thn (ha.run pos pins s1 σ H1 _ I1 q) fun us s2 ⟨vs, H2, I2, r, q2⟩ => ⟨I2.kIn, ?_⟩) hst hpl
  exact run_fnG (us := .ref a :: us) (vs := .ref a :: vs) F hr hb (hx σ) I2 (.cons rfl r) q2
theorem mth_post {T : Tb} {M : Mp} {ah : AH} {H : Hp} {F : AF} {n : Nat} {E : XK} {Q : VK} {ds : List D} {vs : List V} (hF : ∀ ds h, ds.length ≠ n → F ds h = .no) (q : RelH T M ah H) (r : Reps T M H ds vs) (P : Post T E M H (VP T Q) (F ds ah)) : spF T n F vs H Q E := by
  refine ⟨?_, M, ah, ds, q, r, P⟩
  by_cases z : ds.length = n
  · rw [← r.length]; exact z
  · rw [hF ds ah z] at P; exact P.elim
theorem s_mth {m : String} {tbl : List (String × AF)} {e : Expr} {es : List Expr} {as : AA} {apos : Pos} {pl : Sem Bool} (hf : MFs X (Str.ofString m) tbl) (tk : Takes X W) (ho : SE X none W ea a) (ha : SA X none W (e :: es) as)
    (hst : starEach (e :: es) X.env = (false, eval e X.env) :: starEach es X.env := by rfl) (hpl : (backTo pos (starEach es X.env)).any (·.1) = false := by rfl)
    (ht : eval (.Call (.Attribute ea (Str.ofString m) apos) (e :: es) [] pos) X.env = (do
      let ov ← eval ea X.env
      standAt apos.atName
      let (f, first) ← holding [ov] (getMethod ov (Str.ofString m) pl)
      callWith pos f first (backTo pos (starEach (e :: es) X.env)) (backToKw pos (keywordEach [] X.env))) := by rfl) :
    SE X none W (.Call (.Attribute ea (Str.ofString m) apos) (e :: es) [] pos) (eMth tbl m a as) :=
  PE.imp (pe_mthD (pl := pl) ho (passAt tk) ha hst hpl ht) fun σ H Q h => by
    obtain ⟨M, e, ah, S, P⟩ := h
    refine ⟨M, e, ah, S, P.bindI fun d M1 ah1 H1 s1 q1 P1 v hv => ?_⟩
    unfold mthR at P1
    cases hi : insH ah1 d with
    | none => rw [hi] at P1; exact P1.elim
    | some z =>
      obtain ⟨c, ns, ds⟩ := z
      rw [hi] at P1
      dsimp only at P1
      cases hF : findF c tbl with
      | none => rw [hF] at P1; exact P1.elim
      | some F =>
        rw [hF] at P1
        obtain ⟨hl, P1⟩ := Post.chk P1
        obtain ⟨p, C, dx, vs, e1, e2, e3, e4, r⟩ := rep_ins q1 hv hi
        obtain ⟨C2, k1, cl, f, fd, ps, k, n, hm, Fo, hn, hr, hb⟩ := hf c F hF
        have := mg_same e2 k1; subst this
        have l := look1_rep m e4 r
        cases hk : look1 m ns ds with
        | some _ => rw [hk] at hl; cases hl
        | none =>
          rw [hk] at l
          refine ⟨p, C2, dx, _, f, fd, ps, k, _, e1, e3, l, cl, hm, Fo, hr, hb, M1, e, ah1, S.step s1 q1, P1.bindI fun ds2 M2 ah2 H2 s2 q2 P2 vs2 hv2 => ?_⟩
          exact mth_post hn q2 (Reps.cons (hv.step s2) hv2) P2
end
end Sm
end

section
set_option Elab.async false
set_option linter.all false
set_option maxRecDepth 100000
set_option maxHeartbeats 1000000
/-! Sim15: calls of instances, properties, constants of the module. -/
namespace Sm
open PySem PySem.Spec PyProof.Rows L2
section
variable {X : Cx} {G : Gh} {W : WX} {pos : Pos} {ea eb ec : Expr} {a b c : AE}
structure CF (X : Cx) (F : AF) (C : Addr) : Prop where
  ex : ∃ f fd ps k n, StX.CallO X.K C f ∧ FnG X.prog X.w X.K X.mg X.base (L2.CX X.prog X.w) k f fd ps (spF (tb X none) n F) ∧ (∀ ds h, ds.length ≠ n → F ds h = .no) ∧ RoomG k X.A ∧ Binds X.K fd ps []
def CFs (X : Cx) (tbl : List (String × AF)) : Prop := ∀ c F, findF c tbl = some F → ∃ C, X.mg (Str.ofString c) = some (.ref C) ∧ CF X F C
def tCalD (X : Cx) (E : L2.St → XK) (ta : TE) (t : TA) : TE := fun σ H Q => ta σ H fun x H1 => ∃ a, x = V.ref a ∧ t σ H1 fun vs H2 => ∃ C f fd ps k sp, StX.InsC X H2 a C ∧ StX.CallO X.K C f ∧ FnG X.prog X.w X.K X.mg X.base (L2.CX X.prog X.w) k f fd ps sp ∧ RoomG k X.A ∧ Binds X.K fd ps [] ∧ sp (V.ref a :: vs) H2 Q (E σ)
/-! ### properties -/
structure RF (X : Cx) (n : Str) (F : AF) (C : Addr) : Prop where
  cl : Cls X.K C
  ex : ∃ p g fd ps k m, PropOf X.K C n p g ∧ FnG X.prog X.w X.K X.mg X.base (L2.CX X.prog X.w) k g fd ps (spF (tb X none) m F) ∧ (∀ ds h, ds.length ≠ m → F ds h = .no) ∧ RoomG (k + 1) X.A ∧ Binds X.K fd ps []
def RFs (X : Cx) (n : Str) (tbl : List (String × AF)) : Prop := ∀ c F, findF c tbl = some F → ∃ C, X.mg (Str.ofString c) = some (.ref C) ∧ RF X n F C
def tPrD (X : Cx) (n : Str) (ta : TE) : TE := fun σ H Q => ta σ H fun x H1 => ∃ a C dx fs p g fd ps k sp, x = V.ref a ∧ H1 a = some (.ins C dx fs) ∧ Cls X.K C ∧ PropOf X.K C n p g ∧ FnG X.prog X.w X.K X.mg X.base (L2.CX X.prog X.w) k g fd ps sp ∧ RoomG (k + 1) X.A ∧ Binds X.K fd ps [] ∧ sp [V.ref a] H1 Q (fun _ _ _ => False)
/-! ### constants of the module -/
theorem s_glob {x : Str} {d : D} {u : Value} (hg : Gl X x) (hm : X.mg x = some u) (v : V) (hv : RelV v u) (r : ∀ (T : Tb) M H, Rep T M H d v) (hdb : (x == ("__debug__" : Str)) = false := by decide) : SE X G W (.Name x pos) (eC d) := s_c (pe_glob hg hm hv hdb) r
end
end Sm
end

section
set_option Elab.async false
set_option linter.all false
set_option maxRecDepth 100000
set_option maxHeartbeats 2000000
/-! Sim16: error classes whose __init__ says super().__init__(text) and keeps its arguments. -/
namespace Sm
open PySem PySem.Spec PyProof.Rows L2 NdefX PySem.W
section
variable {prog : Program} {w : World} {A : Around} {E : Value → Shared → Prop} {h : Heap} {g : Array GenState} {d : Drawn} {t : Nat} {os : OsState}
variable {nm q : Str} {C N : Addr} {bs bm : List Value} {hdct : Bool} {sn : List Str} {sub : List Value} {ab : Bool} {col : Option Bool} {dd : Option Addr} {k0 k1 k2 k3 k5 : Option Value}
theorem call_mw {u e t0 : Addr} {rest : List Value} {Q : Value → Shared → Prop}
    (hC : h.get? C = some (excClassObj nm q C N bs bm hdct sn sub ab col dd k0 k1 k2 k3 k5 "ValueError.__new__")) (he : h.get? e = some (HandSPX.excO C t0)) (hu : h.get? u = some (kxs_mw "ValueError.__init__" e)) (hrest : rest.length ≤ sizeLine)
    (hq : ∀ h' t1, (∀ b o, b ≠ e → h.get? b = some o → h'.get? b = some o) → h'.get? e = some (HandSPX.excO C t1) → Q .none ⟨h', g, d, t, os⟩) :
    wpAny (model prog w) A (call (.ref u) rest) Q E ⟨h, g, d, t, os⟩ := by
  refine wpAny_call (codeAny_of_tree ?_)
  show wpAny _ A.in1 (callAny (.ref u) ⟨rest, []⟩) _ _ _
  simp only [callAny]
  refine wpAny_bind (wpAny_load hu ?_)
  simp only [kxs_mw, show (Value.type "method-wrapper" == Value.type "method" || Value.type "method-wrapper" == Value.type "builtin_function_or_method" || Value.type "method-wrapper" == Value.type "method-wrapper") = true by decide, if_true]
  refine W.KFB.if_so (by decide) ?_
  refine wpAny_bind (ESX.check_bound F.excBase_ValueError hC he rfl ?_)
  refine wpAny_bind (wpAny_pure (wpAny_pure ?_))
  refine ⟨Code.quiet_builtin _ (by decide +kernel), codeAny_builtin F.excBase_ValueError.initEntry ?_⟩
  rw [Around.under_plainId F.excBase_ValueError.init.plain _]
  wp_walk
  refine hq _ h.objs.size (fun b o hb ho => ?_) ?_
  · rw [Heap.get?_update_other _ _ (Ne.symm hb)]
    exact Heap.get?_push_of_some _ ho
  · rw [Heap.get?_update_self _ (Heap.get?_push_of_some _ he) rfl]
    rfl
end
/-- what the written part says of an error class and the class that has its __init__ -/
structure SupC (P : Program) (K : PySem.W.Frag) (C D : Addr) (cc cda : Addr) : Prop where
  oex : OexC K C
  cell : ∃ cl cld csl, K.lookup cc = some ⟨cl, cld, .cell (some (.ref D)), csl⟩
  cls : ∃ cd, clsIn K C = some cd ∧ alongIn K "__init__" ((cd.mro.dropWhile (· != .ref D)).drop 1) = some (some (.builtin "ValueError.__init__"))
  cD : ∃ cd, clsIn K D = some cd
  sub : mroIn K C (.ref D) = some true
  ve : subIn K (.ref C) (.type "ValueError") = some true
  op : nsIn K cStatics "thirdparty.any" = some none
  code : ∃ ccl cdd vs ccs file tf, K.lookup cda = some ⟨ccl, cdd, .fields vs, ccs⟩ ∧ vs[2]? = some (.str file tf) ∧ ((P.main.file : Str) == file) = true
  top : (P.main.scope.names.lookup ("super" : Str)).isSome = false
theorem clsIn_at {K : PySem.W.Frag} {h : Heap} {D : Addr} {cd : ClassData} (X : K.In h) (hD : clsIn K D = some cd) : ∃ oD, h.get? D = some oD ∧ oD.data = .cls cd := by
  unfold clsIn at hD
  split at hD
  · rename_i c d cd' sl ho
    cases hD
    exact ⟨_, X _ _ ho, rfl⟩
  · cases hD
section
variable {CX : CXT} {P : Program} {w : World} {K : PySem.W.Frag} {mg : Str → Option Value} {base : Heap} {N ps : List Str} {f : Addr} {k : Nat} {sp : Sp}
theorem fn_sup {C D cc cda : Addr} {name qual : Str} {params : Arguments} {rest : List Stmt} {scope : Scope} {dV kV doc pm ct oc : Value} {an od : Option Addr} {osl : Array (Option Value)} {p0 p1 p2 p3 p4 pc : Pos} {txt : Str} {kd : Nat} {ar : Arg}
    (lk : K.lookup f = some ⟨oc, od, .func (PySem.W.fnX name qual params (.Expr (.Call (.Attribute (.Call (.Name "super" p0) [] [] p1) "__init__" p2) [.Constant (.str txt) kd pc] [] p3) p4 :: rest) scope [("__class__", cc)] dV kV doc pm an (.ref cda) ct), osl⟩) (hcd : codeIn K (.ref cda) qual = true)
    (S : NScope N ps ["__class__"] scope) (T : SupC P K C D cc cda) (hms : mg "super" = none) (hp : (params.posonlyargs ++ params.args).head? = some ar) (h0 : ps[0]? = some ar.arg) (hks : scope.names.lookup ("super" : Str) = some .globalImplicit)
    (hev : ∀ L, ∃ pl : Sem Bool, eval (.Call (.Attribute (.Call (.Name "super" p0) [] [] p1) "__init__" p2) [.Constant (.str txt) kd pc] [] p3) (PySem.W.envX qual scope L f (.ref cda) [("__class__", cc)]) = (do
      let ov ← attributeBase (.Call (.Name "super" p0) [] [] p1) "__init__" (PySem.W.envX qual scope L f (.ref cda) [("__class__", cc)]) (eval (.Call (.Name "super" p0) [] [] p1) (PySem.W.envX qual scope L f (.ref cda) [("__class__", cc)]))
      standAt p2.atName
      let (fx, first) ← holding [ov] (getMethod ov "__init__" pl)
      callWith p3 fx first (backTo p3 (starEach [.Constant (.str txt) kd pc] (PySem.W.envX qual scope L f (.ref cda) [("__class__", cc)]))) []))
    (hi : ∀ L, interactive (PySem.W.envX qual scope L f (.ref cda) [("__class__", cc)]) = false) (hsw : ∀ L, swapsWith (.Call (.Attribute (.Call (.Name "super" p0) [] [] p1) "__init__" p2) [.Constant (.str txt) kd pc] [] p3) none p4.line (PySem.W.envX qual scope L f (.ref cda) [("__class__", cc)]) = pure false)
    (len : ∀ vs H Q E, sp vs H Q E → vs.length = ps.length)
    (he : ∀ vs H Q E, sp vs H Q E → ∃ a xs, vs = .ref a :: xs ∧ H a = some (exo a C none))
    (hbody : ∀ (F : NF) (A : Around) (outer : List PySem.Env) (s : Shared) (H : Hp) (vs : List V) (Q : VK) (E : XK), F.scope = scope → sp vs H Q E →
      ∃ t, PSs (ncx CX P w K mg base N F f A outer s H E) rest t ∧ t { nx := fun _ H' => Q .non H', rt := Q } (startF N vs [none]) H) :
    FnOk P w K mg base CX (k + 1) f (PySem.W.fnX name qual params (.Expr (.Call (.Attribute (.Call (.Name "super" p0) [] [] p1) "__init__" p2) [.Constant (.str txt) kd pc] [] p3) p4 :: rest) scope [("__class__", cc)] dV kV doc pm an (.ref cda) ct) ps sp := by
  refine ⟨len, fun A outer s H args us vs Q E hr e0 hb r hsp => ?_⟩
  have hl := len _ _ _ _ hsp
  have KX : K.In s.heap := e0.mod.kin.keeps fun b o e => (e0.bs b o e).1
  have lim : s.heap.NoLimit := e0.mod.nolimit.keeps fun b o e => (e0.bs b o e).1
  refine codeAny_call_function hr.depth (KX _ _ lk) rfl S.co S.gen rfl (PySem.W.codeRec_of KX hcd) (hb _ _ _ _ ?_)
  refine wpAny_newFunctionEnv S.nocell (fun ⟨n, _⟩ hy => S.par n (List.of_mem_zip hy).1) (fun h₁ hns hsb => ⟨lim.fresh _ hsb, ?_⟩) S.kind
  let F : NF := ⟨name, qual, params, .Expr (.Call (.Attribute (.Call (.Name "super" p0) [] [] p1) "__init__" p2) [.Constant (.str txt) kd pc] [] p3) p4 :: rest, scope, [("__class__", cc)], cda⟩
  show codeAny _ _ (.func F.body (envF F f s.heap.objs.size)) _ _
  refine ks_codeAny_funcAt ?_
  have kp : ∀ b o, s.heap.get? b = some o → h₁.get? b = some o := fun b o e => hsb.extBut b o (Nat.ne_of_lt (Heap.lt_size e)) (Heap.get?_push_of_some _ e)
  obtain ⟨cl, cld, csl, hcell⟩ := T.cell
  have Cl : CellsAt F.cl ["__class__"] [none] s.heap H := by
    have one : ∀ y c, F.cl.lookup y = some c → y = "__class__" ∧ c = cc := fun y c h => by
      have h : List.lookup y [(("__class__" : Str), cc)] = some c := h
      by_cases z : y = "__class__"
      · subst z; simp [List.lookup] at h; exact ⟨rfl, h.symm⟩
      · have : (y == ("__class__" : Str)) = false := by simpa using z
        simp [List.lookup, this] at h
    refine ⟨rfl, fun y c h => ?_, fun x y c h1 h2 => by rw [(one x c h1).1, (one y c h2).1], fun i y h => ?_⟩
    · obtain ⟨_, rfl⟩ := one y c h
      obtain ⟨o, ho⟩ : ∃ o, K.lookup c = some o := ⟨_, hcell⟩
      exact ⟨(e0.bs c _ (e0.mod.kin _ _ hcell)).2, _, _, KX _ _ hcell, rfl⟩
    · have : i = 0 ∧ y = "__class__" := by
        cases i with
        | zero => simp at h; exact ⟨rfl, h.symm⟩
        | succ i => simp at h
      obtain ⟨rfl, rfl⟩ := this
      exact ⟨cc, by show List.lookup _ [(("__class__" : Str), cc)] = _; simp [List.lookup], fun v h => by simp at h⟩
  have I : Inv (ncx CX P w K mg base N F f A outer s H E) [] (startF N vs [none]) H { s with heap := h₁, toks := s.toks + (ps.zip us).length } := inv_startN S hr.hd e0 hl r Cl hns kp
  generalize hs1 : ({ s with heap := h₁, toks := s.toks + (ps.zip us).length } : Shared) = s1 at I ⊢
  obtain ⟨a, xs, rfl, ha⟩ := he _ _ _ _ hsp
  show _root_.PySem.wpAt _ _ _ (execs (.Expr _ p4 :: rest) _) _ _ _
  obtain ⟨pl, hev⟩ := hev s.heap.objs.size
  refine ks_wpAt_execs_cons (ks_wpAt_Expr_any (ks_wpAt_MethodCall (pl := pl) ?_ hev) (hi _) (hsw _))
  obtain ⟨ccl, cdd, cvs, ccs, file, tf, hcode, hvs, hfile⟩ := T.code
  have hkc : scope.names.lookup ("__class__" : Str) = some .free := S.frk _ (by simp)
  have hka : scope.names.lookup ar.arg = some .local := S.par _ (List.mem_of_getElem? h0)
  refine ks_wpAt_super_base (env := envF F f s.heap.objs.size) hks hkc (by decide) rfl (I.kIn _ _ lk) rfl hp rfl (I.kIn _ _ hcode) rfl hvs hfile T.top ?_
  obtain ⟨mb, hb1, hb2⟩ := I.mod.blt
  refine ks_loadName_global S.kind hks (Calls.loadGlobal_builtin (I.mod.glob.keeps I.bk) hms (hb1.keeps I.bk) ((hb2 "super" (by decide)).trans (by decide +kernel)) ⟨rfl, ?_⟩)
  refine wpAny_loadName_free S.kind hkc (by show List.lookup _ [(("__class__" : Str), cc)] = _; simp [List.lookup]) ⟨_, I.kIn _ _ hcell, rfl⟩ ?_
  obtain ⟨m, hm1, hm2⟩ := I.loc
  have h00 : N[0]? = some ar.arg := by
    have q := congrArg (fun l : List Str => l[0]?) S.pre
    rw [List.getElem?_take_of_lt (show 0 < ps.length + [("__class__" : Str)].length by show 0 < ps.length + 1; omega), List.getElem?_append_left (List.getElem?_eq_some_iff.mp h0).1] at q
    exact q.trans h0
  obtain ⟨u, ru, lu⟩ := hm2 0 ar.arg (.ref a) h00 rfl (.inl hka)
  obtain rfl : u = Value.ref a := ru
  have hv : m ar.arg = some (.ref a) := by
    rcases lu with ⟨_, z⟩ | ⟨z, _⟩
    · exact z
    · exfalso
      have z : scope.names.lookup ar.arg = some .cell ∨ scope.names.lookup ar.arg = some .free := z
      rw [hka] at z
      rcases z with z | z <;> cases z
  refine wpAny_loadName_local S.kind hka hm1 hv ?_
  obtain ⟨cdD, hcD⟩ := T.cD
  obtain ⟨t1, ho⟩ := exo_at I.hok ha
  obtain ⟨hh, gg, dr, tk, os⟩ := s1
  obtain ⟨oD, hD1, hD2⟩ := clsIn_at I.kIn hcD
  refine ks_wpAny_isType_cls hD1 hD2 ⟨rfl, ?_⟩
  refine ks_wpAny_call_super hD1 hD2 ho rfl (fun c e => by cases e) (looks_mroIn I.kIn T.sub) (fun h' e k' => ?_)
  have I2 := I.kept (t' := tk) (h' := h') k'
  obtain ⟨cd, hC, hal⟩ := T.cls
  obtain ⟨oC, hC1, hC2⟩ := clsIn_at I2.kIn hC
  obtain ⟨t2, ho2⟩ := exo_at I2.hok ha
  have hne : a ≠ C := fun z => by
    rw [← z, ho2] at hC1
    have := Option.some.inj hC1
    rw [← this] at hC2
    cases hC2
  refine kxs_getMethod kxs_ValueError e (looks_opaque I2.kIn T.op) ((looks_clsIn I2.kIn hC).andThen .now) rfl I2.kIn hal ((show PySem.W.InstAt h' a ({ cls := .ref C, dict := none, data := .fields #[.ref t2, .none, .none, .none, .bool false, .none] } : Obj) C none from ⟨ho2, rfl, rfl, trivial⟩).type.andThen (looks_subIn I2.kIn T.ve)) hne (by decide) ?_
  have I3 := I2.kept (t' := tk + 1) (h' := h'.push (kxs_mw "ValueError.__init__" a)) fun b o z => Heap.get?_push_of_some _ z
  refine kxs_callWith (i := "ValueError.__init__") (x := a) rfl (PySem.Calls.evalArgs_plain ?_)
  show wpAny _ _ (spliced ((false, eval (.Constant (.str txt) kd pc) _) :: backTo p3 (starEach [] _))) _ _ _
  refine Calls.spliced_cons (Calls.Constant_str (Calls.spliced_nil ?_))
  obtain ⟨nm, qn, Nn, bs, bm, sn, sub, ab, col, dd, k0, k1, k2, k3, k5, hCo, hbm⟩ := T.oex.cls
  obtain ⟨t3, ho3⟩ := exo_at I3.hok ha
  refine ⟨Heap.get?_push_size _ rfl, call_mw (I3.kIn _ _ hCo) ho3 (Heap.get?_push_size _ rfl) (by rw [sizeLine_eq]; simp) fun h4 t4 k4 e4 => ?_⟩
  have J := I3.write (t' := tk + 1 + 1) (x := a) (e := a) (o := exo a C none) (by rw [ha]; exact True.intro) (.inl rfl) k4 ⟨_, e4⟩ (exo_ok e4)
  have eu : upd H a (exo a C none) = H := by
    funext b
    by_cases hb : b = a
    · rw [hb, upd_same, ha]
    · rw [upd_ne hb]
  rw [eu] at J
  obtain ⟨t, ht, hq⟩ := hbody F A outer s H (.ref a :: xs) Q E rfl hsp
  refine wpAt_of_wpAny (wpAny_mono (ht.run [] _ _ H _ J hq) (fun fl s' hs => ?_) fun e s' hs => hs)
  have fin : ∀ {σ' : L2.St} {H' : Hp} {v : V} {u : Value}, Inv (ncx CX P w K mg base N F f A outer s H E) [] σ' H' s' → L2.RelV v u → Q v H' → CE outer P w H s Q u s' :=
    fun {σ' H' v u} J rv q => ⟨v, H', J.os, J.bare, J.base, J.hok, rv, q⟩
  cases fl with
  | ret u =>
    obtain ⟨v, σ', H', J, rv, q⟩ := hs
    exact fin J rv q
  | next =>
    obtain ⟨σ', H', J, q⟩ := hs
    exact fin (v := V.non) (u := Value.none) J rfl q
  | brk =>
    obtain ⟨_, _, _, q⟩ := hs
    exact False.elim q
  | cont =>
    obtain ⟨_, _, _, q⟩ := hs
    exact False.elim q
end
end Sm
end

section
set_option linter.all false
/-! Abs4: raise, try. -/
namespace Sm
def sRaise (c : String) (ns : List String) (as : AA) : AS := fun e h => up e (as e h) fun ds h1 => R.chk (decide (ds.length = ns.length ∧ ds.length < 1000)) (.ok (.ex ⟨c, ns.reverse, ds.reverse⟩ e) h1)
/-- raise c("text"), a class without names of its own -/
def sRaise0 (c : String) : AS := fun e h => .ok (.ex ⟨c, [], []⟩ e) h
def lookB (c : String) : List (String × Bool) → Option Bool
  | [] => none
  | (m, b) :: r => if m = c then some b else lookB c r
/-- behind an except suite -/
def suK (i : Nat) : Fl → AH → R Fl := fun f2 h2 => match f2 with
  | .nx e2 => .ok (.nx (e2.set i none)) h2
  | .rt d => .ok (.rt d) h2
  | .bk e2 => .ok (.bk (e2.set i none)) h2
  | .ct e2 => .ok (.ct (e2.set i none)) h2
  | .ex _ _ => .no
def tryK (tbl : List (String × Bool)) (i : Nat) (su : Ex → AS) : Fl → AH → R Fl := fun f h1 => match f with
  | .ex x e1 => match lookB x.cls tbl with
    | some true => R.chk (decide (i < e1.length)) ((su x (e1.set i none) h1).bind (suK i))
    | some false => .ok (.ex x e1) h1
    | none => .no
  | f => .ok f h1
/-- try: b, except .. as slot i: su -/
def sTryAs (tbl : List (String × Bool)) (i : Nat) (b : AS) (su : Ex → AS) : AS := fun e h => (b e h).bind (tryK tbl i su)
/-- e.n, isinstance(e, ..) of the error at hand -/
def eXf (cs : List String) (x : Ex) (n : String) : AE := fun _ h => R.chk (cs.contains x.cls) (R.of (look1 n x.ns x.ds) h)
def eXis (x : Ex) (tbl : List (String × Bool)) : AE := fun _ h => R.of ((lookB x.cls tbl).map .bl) h
end Sm
end

section
set_option Elab.async false
set_option linter.all false
set_option maxRecDepth 100000
set_option maxHeartbeats 1000000
/-! Sim17: raise, try .. except .. as. -/
namespace Sm
open PySem PySem.Spec PyProof.Rows L2 NdefX
/-! ### what the written part says of the error classes -/
def errB (K : PySem.W.Frag) (C : Addr) : Bool := xfB K C && (decide (PySem.W.findIn K (.ref C) "__class__" = some (some (.builtin "object.__class__"))) && (decide (PySem.W.specialIn K (.builtin "object.__class__") "__get__" = some (some (.builtin "getset_descriptor.__get__"))) &&
  (decide (PySem.W.takesIn K (.builtin "object.__class__") = some true) && (decide (PySem.W.mroIn K C (.type "object") = some true) && (decide (PySem.W.typeIn K (.ref C) = some (.type "type")) && (decide (PySem.W.subIn K (.ref C) (.ref C) = some true) && PySem.W.keepIn K (.ref C)))))))
structure ErrC (K : PySem.W.Frag) (C : Addr) : Prop where
  ex : ExcC K C
  xf : XfC K C
  ty : PySem.W.typeIn K (.ref C) = some (.type "type")
  self : PySem.W.subIn K (.ref C) (.ref C) = some true
  kp : PySem.W.keepIn K (.ref C) = true
theorem errB_ok {K : PySem.W.Frag} {C : Addr} (h : errB K C = true) : ErrC K C := by
  unfold errB at h
  simp only [Bool.and_eq_true, decide_eq_true_eq] at h
  obtain ⟨h0, h1, h2, h3, h4, h5, h6, h7⟩ := h
  have x := xfB_ok h0
  exact ⟨⟨x.ga, x.gg, x.exC, x.hdC, h1, h2, h3, h4⟩, x, h5, h6, h7⟩
def oexB (K : PySem.W.Frag) (C : Addr) : Bool := decide (PySem.W.findIn K (.ref C) "__setattr__" = some (some (.builtin "object.__setattr__"))) && (decide (PySem.W.subIn K (.ref C) (.type "BaseException") = some true) && (decide (PySem.W.typeIn K (.ref C) = some (.type "type")) && (PySem.W.keepIn K (.ref C) && (match K.lookup C with
  | some ⟨.type "type", _, .cls cd, sl⟩ => (match cd.mro, sl.toList with
    | .ref C' :: bm, [_, _, _, _, some (.builtin n), _] => C' == C && (n == "ValueError.__new__" && (!cd.hasDel && (cd.hasDict && PySem.HandSPX.refsVE bm)))
    | _, _ => false)
  | _ => false))))
theorem oexB_ok {K : PySem.W.Frag} {C : Addr} (h : oexB K C = true) : OexC K C := by
  unfold oexB at h
  simp only [Bool.and_eq_true, decide_eq_true_eq] at h
  obtain ⟨h0, h1, h2, h3, q⟩ := h
  refine ⟨?_, h0, h1, h2, h3⟩
  split at q
  · rename_i dd cd sl ho
    split at q
    · rename_i C' bm k0 k1 k2 k3 n k5 hm hs
      simp only [Bool.and_eq_true, beq_iff_eq, Bool.not_eq_true'] at q
      obtain ⟨rfl, rfl, hdel, hdc, hv⟩ := q
      obtain ⟨nm, bs, mro, ns, qn, hd, sn, sub, ab, col, del⟩ := cd
      dsimp only at hm hdel hdc
      subst hm hdel hdc
      have hsl : sl = #[k0, k1, k2, k3, some (.builtin "ValueError.__new__"), k5] := by
        obtain ⟨l⟩ := sl
        simp only at hs
        rw [hs]
      subst hsl
      exact ⟨nm, qn, ns, bs, bm, sn, sub, ab, col, dd, k0, k1, k2, k3, k5, ho, hv⟩
    · cases q
  · cases q
/-- one answer of isinstance by one of issubclass -/
theorem kit_ref {K : PySem.W.Frag} {C D : Addr} {b : Bool} (hC : ErrC K C) (hD : ErrC K D) (h : PySem.W.subIn K (.ref C) (.ref D) = some b) : PySem.W.kitOne K (.ref C) (.ref D) = some b := by
  unfold PySem.W.kitOne
  by_cases z : (Value.ref C == Value.ref D) = true
  · rw [if_pos z]
    have e : C = D := Value.ref.inj (beq_iff_eq.mp z)
    subst e
    rw [hC.self] at h
    exact h
  · rw [if_neg z]
    unfold PySem.W.kitCls
    obtain ⟨cd, hc, _⟩ := PySem.W.any_some hD.xf.hdC
    have : ((PySem.W.clsIn K D).isSome && PySem.W.typeIn K (.ref D) == some (.type "type")) = true := by rw [hc, hD.ty]; rfl
    simp only [this, if_true]
    exact h
theorem exm_of {K : PySem.W.Frag} {C D : Addr} {b : Bool} (hD : ErrC K D) (h : PySem.W.subIn K (.ref C) (.ref D) = some b) : PySem.W.exmOne K (.ref C) (.ref D) = some b := PySem.W.exm_ref hD.xf.exC hD.xf.hdC hD.ty h
/-! ### raise -/
theorem zip_rev {α β : Type} : ∀ {xs : List α} {ys : List β}, xs.length = ys.length → (xs.zip ys).reverse = xs.reverse.zip ys.reverse
  | [], [], _ => rfl
  | [], _ :: _, h => by cases h
  | _ :: _, [], h => by cases h
  | x :: xs, y :: ys, h => by
    have h2 : xs.length = ys.length := by simpa using h
    rw [List.zip_cons_cons, List.reverse_cons, List.reverse_cons, List.reverse_cons, List.zip_append (by simp [h2]), zip_rev h2]
    rfl
section
variable {X : Cx} {G : Gh} {W : WX} {pos : Pos} {ea eb ec : Expr} {a b c : AE}
theorem passN {X : Cx} : Passes (L2.CX X.prog X.w) X (fun _ _ _ => False) := fun pins σ H s e s' _ h => by
  obtain ⟨_, _, _, _, _, _, _, _, _, _, _, _, z⟩ := h
  exact z.elim
/-- what such an __init__ promises -/
def spEx (C : Addr) (fs : List Str) : Sp := fun vs H Q _ => ∃ a xs, vs = .ref a :: xs ∧ xs.length = fs.length ∧ H a = some (exo a C none) ∧ ∀ dx, H dx = none → dx ≠ a → Q .non (upd (upd H dx (exd dx (fs.zip xs).reverse)) a (exo a C (some dx)))
theorem z_raise {cn : String} {ns : List String} {k : Nat} {C fI : Addr} {fd : FuncData} {ps : List Str} {p pos2 : Pos} {e : Expr} {es : List Expr} {as : AA} (T : OexC X.K C) (iC : PySem.W.findIn X.K (.ref C) "__init__" = some (some (.ref fI))) (tI : PySem.W.typeIn X.K (.ref fI) = some (.type "function"))
    (F1 : FnOk X.prog X.w X.K X.mg X.base (L2.CX X.prog X.w) k fI fd ps (spEx C (ns.map Str.ofString))) (hr : RoomG (k + 1) X.A) (hb : Binds X.K fd ps []) (hc : X.calm = true) (tk : Takes X W) (hm : X.mg (Str.ofString cn) = some (.ref C)) (ha : SA X G W (e :: es) as) (hg : Gl X (Str.ofString cn) := by rfl)
    (hdb : (Str.ofString cn == ("__debug__" : Str)) = false := by decide) (he : starEach (e :: es) X.env = (false, eval e X.env) :: starEach es X.env := by rfl) (hpl : (backTo pos (starEach es X.env)).any (·.1) = false := by rfl) :
    SS X G W (.Raise (some (.Call (.Name (Str.ofString cn) p) (e :: es) [] pos)) none pos2) (sRaise cn ns as) :=
  PS.imp (ps_raise hc tk (pmk_oex T iC tI F1 hr.room hb .nil passN hg hm ha hdb he hpl)) fun D σ H h => by
    obtain ⟨M, e, ah, S, P⟩ := h
    refine ⟨M, e, ah, S, upI S P fun ds M1 ah1 H1 s1 q1 P1 vs hv => ?_⟩
    obtain ⟨hz, P1⟩ := Post.chk P1
    obtain ⟨hz, hz2⟩ := of_decide_eq_true hz
    have hl := hv.length
    refine ⟨by omega, fun a na => ⟨a, vs, by simp, by simp; omega, upd_same, fun dx ndx ne => ?_⟩⟩
    rw [upd_ne ne] at ndx
    refine ⟨rfl, dx, _, upd_same, by rw [upd_ne ne, upd_same], ndx, ?_⟩
    have eH : upd (del (upd (upd (upd H1 a (exo a C none)) dx (exd dx ((ns.map Str.ofString).zip vs).reverse)) a (exo a C (some dx))) a) dx (.xd ((ns.map Str.ofString).zip vs).reverse) = upd H1 dx (.xd ((ns.map Str.ofString).zip vs).reverse) := by
      funext b
      by_cases hb : b = dx
      · rw [hb, upd_same, upd_same]
      · rw [upd_ne hb, upd_ne hb]
        by_cases hb2 : b = a
        · rw [hb2, del_same, na]
        · rw [del_ne hb2, upd_ne hb2, upd_ne hb, upd_ne hb2]
    rw [eH]
    have s2 := step_new (M := M1) (.xd ((ns.map Str.ofString).zip vs).reverse) ndx
    have q2 := q1.new (.xd ((ns.map Str.ofString).zip vs).reverse) ndx
    refine P1 M1 _ s2 q2 σ (.ref C) (some dx) (S.step (s1.trans s2) q2) ⟨.inl ⟨C, hm, rfl⟩, by simp [hz], vs.reverse, q1.offNew ndx, ?_, (hv.step s2).reverse⟩
    rw [upd_same]
    unfold flds
    rw [zip_rev (by rw [List.length_map]; omega), List.map_reverse]
/-! ### __init__'s bodies -/
theorem ex_body1 {C a : Addr} {x : V} {fld s0 par : Str} {D : Ends} {σ : L2.St} {H : Hp} {pa pb pc : Pos} (hN0 : X.N[0]? = some s0) (hN1 : X.N[1]? = some par) (v0 : Vis X.env.scope s0) (v1 : Vis X.env.scope par) (T : OexC X.K C) (hno : PySem.W.findIn X.K (.ref C) fld = some none)
    (d0 : (s0 == ("__debug__" : Str)) = false) (c0 : (s0 == ("__classdict__" : Str)) = false) (d1 : (par == ("__debug__" : Str)) = false) (c1 : (par == ("__classdict__" : Str)) = false)
    (hs : swapsWith (.Name par pc) (some (.Attribute (.Name s0 pa) fld pb)) pos.line X.env = pure false) (g0 : σ[0]? = some (some (.ref a))) (g1 : σ[1]? = some (some x)) (ha : H a = some (exo a C none))
    (q : ∀ dx, H dx = none → dx ≠ a → D.nx σ (upd (upd H dx (exd dx [(fld, x)])) a (exo a C (some dx)))) : ∃ t, PSs X [.Assign [.Attribute (.Name s0 pa) fld pb] (.Name par pc) pos] t ∧ t D σ H :=
  ⟨_, pss_one (ps_ost (pe_var hN0 v0 d0 c0) (pe_var hN1 v1 d1 c1) hs), x, g1, .ref a, g0, a, C, rfl, T, hno, .inl ⟨ha, q⟩⟩
theorem ex_body2 {C a : Addr} {x y : V} {fld fld2 s0 par par2 : Str} {D : Ends} {σ : L2.St} {H : Hp} {pa pb pc pa2 pb2 pc2 pos2 : Pos} (hN0 : X.N[0]? = some s0) (hN1 : X.N[1]? = some par) (hN2 : X.N[2]? = some par2) (v0 : Vis X.env.scope s0) (v1 : Vis X.env.scope par) (v2 : Vis X.env.scope par2) (T : OexC X.K C) (hno : PySem.W.findIn X.K (.ref C) fld = some none) (hno2 : PySem.W.findIn X.K (.ref C) fld2 = some none)
    (d0 : (s0 == ("__debug__" : Str)) = false) (c0 : (s0 == ("__classdict__" : Str)) = false) (d1 : (par == ("__debug__" : Str)) = false) (c1 : (par == ("__classdict__" : Str)) = false) (d2 : (par2 == ("__debug__" : Str)) = false) (c2 : (par2 == ("__classdict__" : Str)) = false)
    (hs : swapsWith (.Name par pc) (some (.Attribute (.Name s0 pa) fld pb)) pos.line X.env = pure false) (hs2 : swapsWith (.Name par2 pc2) (some (.Attribute (.Name s0 pa2) fld2 pb2)) pos2.line X.env = pure false) (g0 : σ[0]? = some (some (.ref a))) (g1 : σ[1]? = some (some x)) (g2 : σ[2]? = some (some y)) (ha : H a = some (exo a C none))
    (q : ∀ dx, H dx = none → dx ≠ a → D.nx σ (upd (upd H dx (exd dx [(fld2, y), (fld, x)])) a (exo a C (some dx)))) : ∃ t, PSs X [.Assign [.Attribute (.Name s0 pa) fld pb] (.Name par pc) pos, .Assign [.Attribute (.Name s0 pa2) fld2 pb2] (.Name par2 pc2) pos2] t ∧ t D σ H := by
  refine ⟨_, pss_cons (ps_ost (pe_var hN0 v0 d0 c0) (pe_var hN1 v1 d1 c1) hs) (pss_one (ps_ost (pe_var hN0 v0 d0 c0) (pe_var hN2 v2 d2 c2) hs2)), x, g1, .ref a, g0, a, C, rfl, T, hno, .inl ⟨ha, fun dx n ne => ?_⟩⟩
  refine ⟨y, g2, .ref a, g0, a, C, rfl, T, hno2, .inr ⟨dx, [(fld, x)], upd_same, by rw [upd_ne ne, upd_same], by simp, ?_⟩⟩
  have eH : upd (upd (upd H dx (exd dx [(fld, x)])) a (exo a C (some dx))) dx (exd dx [(fld2, y), (fld, x)]) = upd (upd H dx (exd dx [(fld2, y), (fld, x)])) a (exo a C (some dx)) := by
    funext b
    by_cases hb : b = dx
    · rw [hb, upd_same, upd_ne ne, upd_same]
    · rw [upd_ne hb]
      by_cases hb2 : b = a
      · rw [hb2, upd_same, upd_same]
      · rw [upd_ne hb2, upd_ne hb2, upd_ne hb, upd_ne hb]
  rw [eH]
  exact q dx n ne
end
end Sm
end

section
set_option Elab.async false
set_option linter.all false
set_option maxRecDepth 100000
set_option maxHeartbeats 1000000
/-! Sim18: try .. except .. as. -/
namespace Sm
open PySem PySem.Spec PyProof.Rows L2 NdefX
section
variable {K : PySem.W.Frag} {mg : Str → Option Value} {g g' : Gh} {M M' : Mp} {ah : AH} {H H' : Hp}
mutual
theorem Rep.tg : ∀ {d : D} {v : V}, Rep ⟨K, mg, g, w⟩ M H d v → Rep ⟨K, mg, g', w⟩ M H d v
  | .non, _, h => by rw [Rep] at h ⊢; exact h
  | .bl _, _, h => by rw [Rep] at h ⊢; exact h
  | .int _, _, h => by rw [Rep] at h ⊢; exact h
  | .str _, _, h => by rw [Rep] at h ⊢; exact h
  | .ty _, _, h => by rw [Rep] at h ⊢; exact h
  | .tup ds, v, h => by rw [Rep] at h ⊢; obtain ⟨a, vs, e, f, r⟩ := h; exact ⟨a, vs, e, f, Reps.tg r⟩
  | .lst ds, v, h => by rw [Rep] at h ⊢; obtain ⟨a, vs, e, f, r⟩ := h; exact ⟨a, vs, e, f, Reps.tg r⟩
  | .scr ds, v, h => by rw [Rep] at h ⊢; obtain ⟨a, vs, e, f, r⟩ := h; exact ⟨a, vs, e, f, Reps.tg r⟩
  | .dic ks ds, v, h => by rw [Rep] at h ⊢; obtain ⟨a, vs, e, f, x, z, r⟩ := h; exact ⟨a, vs, e, f, x, z, Reps.tg r⟩
  | .ins c ns ds, v, h => by rw [Rep] at h ⊢; obtain ⟨a, C, dx, vs, e, f, x, k, z, r⟩ := h; exact ⟨a, C, dx, vs, e, f, x, k, z, Reps.tg r⟩
  | .loc l, v, h => by rw [Rep] at h ⊢; exact h
theorem Reps.tg : ∀ {ds : List D} {vs : List V}, Reps ⟨K, mg, g, w⟩ M H ds vs → Reps ⟨K, mg, g', w⟩ M H ds vs
  | [], _, h => by rw [Reps] at h ⊢; exact h
  | d :: ds, vs, h => by rw [Reps] at h ⊢; obtain ⟨x, xs, e, f, r⟩ := h; exact ⟨x, xs, e, Rep.tg f, Reps.tg r⟩
end
theorem RepO.tg {a : Addr} {o : AO} (h : RepO ⟨K, mg, g, w⟩ M H a o) : RepO ⟨K, mg, g', w⟩ M H a o := by
  cases o with
  | lst ds => obtain ⟨vs, e, r⟩ := h; exact ⟨vs, e, r.tg⟩
  | dic ks ds => obtain ⟨vs, e, z, r⟩ := h; exact ⟨vs, e, z, r.tg⟩
  | dicT ks ds => obtain ⟨vs, e, z, r⟩ := h; exact ⟨vs, e, z, r.tg⟩
  | ins c ns ds => obtain ⟨C, dx, vs, x, e, z, r⟩ := h; exact ⟨C, dx, vs, x, e, z, r.tg⟩
  | set xs => exact h
theorem RelH.tg (q : RelH ⟨K, mg, g, w⟩ M ah H) : RelH ⟨K, mg, g', w⟩ M ah H := ⟨q.len, q.nd, q.off, q.exs, fun l a o e1 e2 => (q.obj l a o e1 e2).tg⟩
theorem ExRel.tg {x : Ex} {u : Value} {dx : Option Addr} (h : ExRel ⟨K, mg, g, w⟩ M H x u dx) : ExRel ⟨K, mg, g', w⟩ M H x u dx := by
  refine ⟨h.1, h.2.1, ?_⟩
  have z := h.2.2
  cases dx with
  | none => exact z
  | some d => obtain ⟨vs, f, e, r⟩ := z; exact ⟨vs, f, e, r.tg⟩
theorem Post.tg {α : Type} {W : XK} {P P' : α → Mp → AH → Hp → Prop} {r : R α} (h : Post ⟨K, mg, g, w⟩ W M H P r) (f : ∀ a M' ah' H', RelH ⟨K, mg, g, w⟩ M' ah' H' → P a M' ah' H' → P' a M' ah' H') : Post ⟨K, mg, g', w⟩ W M H P' r := by
  cases r with
  | ok a ah => exact fun M' H' s q => f a M' ah H' q.tg (h M' H' s q.tg)
  | exc x ah => exact fun M' H' u dx s q x => h M' H' u dx s q.tg x.tg
  | no => exact h
theorem Sta.drop {e : Env} {σ : L2.St} {i : Nat} (S : Sta ⟨K, mg, g, w⟩ M e ah σ H) : Sta ⟨K, mg, none, w⟩ M (e.set i none) ah (σ.set i none) H := by
  refine ⟨S.h.tg, by simp [S.len], fun j d hj => ?_, fun p hp => by cases hp⟩
  by_cases hji : j = i
  · subst hji
    by_cases z : j < e.length
    · rw [List.getElem?_set_self z] at hj; cases hj
    · rw [List.getElem?_eq_none (by simpa using z)] at hj; cases hj
  · rw [List.getElem?_set_ne (Ne.symm hji)] at hj ⊢
    obtain ⟨v, hv, rv⟩ := S.slot j d hj
    exact ⟨v, hv, rv.tg⟩
end
abbrev WN : WX := fun _ _ _ _ => False
section
variable {X : Cx} {G : Gh} {W : WX} {pos : Pos} {ea eb ec : Expr} {a b c : AE}
/-- what the handler's class makes of the errors that may come -/
def ExmT (X : Cx) (c : Value) (tbl : List (String × Bool)) : Prop := ∀ n b, lookB n tbl = some b → ∃ C, X.mg (Str.ofString n) = some (.ref C) ∧ PySem.W.exmOne X.K (.ref C) c = some b
theorem em_nil {c : Value} : ExmT X c [] := fun _ _ h => by cases h
theorem em_cons {c : Value} {n : String} {b : Bool} {r : List (String × Bool)} {C : Addr} (h1 : X.mg (Str.ofString n) = some (.ref C)) (h2 : PySem.W.exmOne X.K (.ref C) c = some b) (h : ExmT X c r) : ExmT X c ((n, b) :: r) := fun m k hk => by
  unfold lookB at hk
  by_cases e : n = m
  · subst e
    rw [if_pos rfl] at hk
    cases hk
    exact ⟨C, h1, h2⟩
  · rw [if_neg e] at hk
    exact h m k hk
theorem z_tryAs {tbl : List (String × Bool)} {i : Nat} {body suite : List Stmt} {b₀ : Stmt} {np pos' : Pos} {x n : Str} {cv : Value} {s : AS} {su : Ex → AS} (hX : X.stack = X.env :: X.outer) (hf : X.env.frame = some X.env.locals) (hN : X.N.Nodup) (hi : X.N[i]? = some n) (hln : X.env.kindOf n = some .local) (hc : Names X x cv) (he : ExmT X cv tbl) (tk : Takes X W)
    (hb : ∀ (W' : WX) (pn : List (Addr × Obj)) (xe : Value → Shared → Prop), Takes (X.tr pn xe) W' → PassesOwn (model X.prog X.w) X.A X.env xe → SSs (X.tr pn xe) none W' body s)
    (hsu : ∀ (a : Addr) (oe : Obj) (cls : Value) (d : Option Addr) (pn : List (Addr × Obj)) (x : Ex), Zc cls d oe → (∃ vs, oe.data = .fields vs) → SSs (X.suite a ((a, oe) :: pn)) (some ⟨i, a, cls, d, x⟩) WN (b₀ :: suite) (su x)) :
    SS X none W (.Try body [.ExceptHandler (some (.Name x np)) (some n) (b₀ :: suite) pos'] [] [] pos) (sTryAs tbl i s su) :=
  PS.imp (ps_try_as (tb := fun W' => tS W' (tb X none) s) (ts := fun a cls d => fun D σ H => ∃ x : Ex, tS WN ⟨X.K, X.mg, some ⟨i, a, cls, d, x⟩, X.w⟩ (su x) D σ H) hX hf hN hi hln hc tk hb
    (fun a oe cls d pn hz hd => ⟨fun pins s σ H D I ⟨x, h⟩ => (hsu a oe cls d pn x hz hd).run pins s σ H D I h⟩)) fun D σ H h => by
    obtain ⟨M, e, ah, S, P⟩ := h
    refine ⟨M, e, ah, S, Post.bindI P fun f M1 ah1 H1 s1 q1 P1 => ?_⟩
    cases f with
    | nx e1 => exact Post.here (W := W0) P1 q1
    | rt d => exact Post.here (W := W0) P1 q1
    | bk e1 => exact Post.here (W := W0) P1 q1
    | ct e1 => exact Post.here (W := W0) P1 q1
    | ex x e1 =>
      intro σ1 u dx S1 hx
      have P1 : Post (tb X none) W0 M1 H1 (EndsAt W (tb X none) D) (match lookB x.cls tbl with
        | some true => R.chk (decide (i < e1.length)) ((su x (e1.set i none) ah1).bind (suK i))
        | some false => .ok (.ex x e1) ah1
        | none => .no) := P1
      cases hk : lookB x.cls tbl with
      | none => rw [hk] at P1; exact P1.elim
      | some bb =>
        rw [hk] at P1
        obtain ⟨C, hC, hm⟩ := he _ _ hk
        have hu : u = .ref C := by
          rcases hx.1 with ⟨C2, h2, rfl⟩ | ⟨h2, _⟩
          · have := mg_same hC h2; rw [this]
          · have h2 : X.mg (Str.ofString x.cls) = none := h2
            rw [hC] at h2; cases h2
        subst hu
        refine ⟨bb, hm, fun hbt av hav => ?_, fun hbf => ?_⟩
        · subst hbt
          dsimp only at P1
          obtain ⟨hil, P1⟩ := Post.chk P1
          have hil : i < σ1.length := by rw [← S1.len]; exact of_decide_eq_true hil
          refine ⟨x, M1, e1.set i none, ah1, ⟨q1.tg, by simp [S1.len], fun j d hj => ?_, fun p hp => ?_⟩, ?_⟩
          · by_cases hji : j = i
            · subst hji
              by_cases z : j < e1.length
              · rw [List.getElem?_set_self z] at hj; cases hj
              · rw [List.getElem?_eq_none (by simpa using z)] at hj; cases hj
            · rw [List.getElem?_set_ne (Ne.symm hji)] at hj ⊢
              obtain ⟨v, hv, rv⟩ := S1.slot j d hj
              exact ⟨v, hv, rv.tg⟩
          · cases hp
            exact ⟨List.getElem?_set_self hil, hx.tg⟩
          · refine Post.tg (Post.bind P1) fun f2 M2 ah2 H2 q2 P2 => ?_
            cases f2 with
            | nx e2 => exact fun σ2 S2 => Post.here P2 q2 _ S2.drop
            | rt d => exact fun v hv => Post.here P2 q2 v hv.tg
            | bk e2 => exact fun σ2 S2 => Post.here P2 q2 _ S2.drop
            | ct e2 => exact fun σ2 S2 => Post.here P2 q2 _ S2.drop
            | ex x e2 => exact P2.elim
        · subst hbf
          exact Post.here (W := W0) P1 q1 σ1 _ dx S1 hx
end
end Sm
end

section
set_option Elab.async false
set_option linter.all false
set_option maxRecDepth 100000
set_option maxHeartbeats 1000000
/-! Sim19: what an except suite asks of its error: e.n, isinstance(e, ..). -/
namespace Sm
open PySem PySem.Spec PyProof.Rows L2 NdefX
section
open PySem.W PySem.Calls
variable {prog : Program} {w : World} {A : Around} {E : Value → Shared → Prop} {s : Shared} {K : Frag} {x D : Addr} {ox : Obj} {od : Option Obj}
theorem clsE {Q : Option Value → Shared → Prop} (C : ExcC K D) (X : K.In s.heap) (I : InstAt s.heap x ox D od) (h : Q (some (.ref D)) { s with toks := s.toks + 1 }) : wpAny (model prog w) A (getAttr? (.ref x) "__class__") Q E s := by
  have hc : (clsIn K D).isSome = true := by obtain ⟨cd, hc, _⟩ := any_some C.hd; rw [hc]; rfl
  have hf : findObj K D od "__class__" = some (.bind (.builtin "getset_descriptor.__get__") (.builtin "object.__class__")) := by
    obtain ⟨cd, hc⟩ := Option.isSome_iff_exists.mp hc
    unfold findObj
    rw [hc, Option.bind_some, C.ha, Option.bind_some]
    simp [C.hn, C.ht]
  obtain ⟨hp, g, d, t, os⟩ := s
  have L0 := I.type (M := model prog w)
  have L1 := looks_findIn (M := model prog w) X C.hg
  have L2 := looks_findIn (M := model prog w) X C.hk
  have L3 := looks_find (M := model prog w) X I hf
  have sub : Looks (model prog w) hp (isInstance (.ref x) (.type "BaseException")) true := L0.andThen (looks_subIn X C.hs)
  have hx0 : (false && onTheHeap (Value.builtin "BaseException.__getattribute__")) = false := rfl
  have hx2 : (Value.builtin "BaseException.__getattribute__" == Value.builtin "object.__getattribute__") = false := by decide +kernel
  have hx1 : (onTheHeap (Value.ref D) && Value.builtin "BaseException.__getattribute__" == Value.builtin "object.__getattribute__") = false := by rw [hx2]; rfl
  unfold getAttr? getAttrBy? getAttrBy
  refine wpAny_bind (wpAny_mkText (wpAny_bind (wpAny_attempt (wpAny_holding (wpAny_bind (L0.at (wpAny_bind (L1.at ?_))))))))
  show wpAny _ _ (if (onTheHeap (Value.ref D) && Value.builtin "BaseException.__getattribute__" == Value.builtin "object.__getattribute__") = true then _ else _) _ _ _
  rw [hx1, if_neg Bool.false_ne_true]
  unfold getAttrByItsOwn hookBefore
  refine wpAny_bind ?_
  rw [if_pos (show onTheHeap (Value.ref D) = true from rfl)]
  refine L2.at ?_
  refine wpAny_bind (wpAny_attempt (wpAny_holding ?_))
  unfold callGetattribute
  rw [hx0, if_neg Bool.false_ne_true]
  unfold boundAndCalled
  rw [PySem.F.excAttr_ValueError.ga.bind (.ref x)]
  refine wpAny_bind (wpAny_pure ?_)
  show wpAny _ _ (call (.builtin "BaseException.__getattribute__") [.ref x, .str "__class__" t]) _ _ _
  refine wpAny_call (codeAny_call_builtin PySem.F.excAttr_ValueError.ga.plain PySem.F.entry_bexc_ga ?_)
  refine @check_slot (model prog w) _ _ ⟨hp, g, d, t + 1, os⟩ "BaseException.__getattribute__" "BaseException" "__getattribute__" (.ref x) [.str "__class__" t] [] _ (by decide +kernel) (by decide +kernel) sub (PySem.F.args_bexc_ga (.ref x) (.str "__class__" t)) ?_
  unfold Builtin.«object.__getattribute__»
  refine wpAny_bind (wpAny_of_eq (a := ((Value.ref x : Value), [Value.str "__class__" t])) (by first | rfl | (simp only [slotArgs]; rfl)) ?_)
  refine wpAny_bind (wpAny_pure (wpAny_bind (L0.at (wpAny_bind (L3.at ?_)))))
  show wpAny _ _ (holding [Value.builtin "object.__class__"] (call (.builtin "getset_descriptor.__get__") [.builtin "object.__class__", .ref x, .ref D]) >>= ret) _ _ _
  refine wpAny_bind (wpAny_holding (wpAny_call (class_get (s := ⟨hp, g, d, t + 1, os⟩) (ox := ox) (od := od) X I C.hm ?_)))
  refine wpAny_pure ?_
  show wpAny _ _ (handedOut (.ref D)) _ _ _
  rw [handedOut_of (v := .ref D) rfl]
  first
    | exact wpAny_pure (wpAny_pure h)
    | exact wpAny_pure h
    | exact wpAny_pure (wpAny_bind (wpAny_pure (wpAny_pure h)))
theorem kitxE (C : ExcC K D) : KitX K (.ref x) (.ref D) (fun h => ∃ od, InstAt h x ox D od) where
  ty := fun _ _ _ ⟨_, I⟩ => I.type
  it := fun _ _ X _ => by
    obtain ⟨cdD, hcD, _⟩ := any_some C.hd
    unfold clsIn at hcD
    split at hcD
    · rename_i c' d' cd' sl' ho
      intro A' Q' E' s' k q
      unfold isType loadHead
      exact wpAny_bind (wpAny_loadPart (k _ _ (X _ _ ho)) (wpAny_pure q))
    · cases hcD
  ne := fun h tp dd its n sl X htp => by
    obtain ⟨cdD, hcD, _⟩ := any_some C.hd
    refine Bool.eq_false_iff.mpr fun q => ?_
    have e : D = tp := Value.ref.inj (beq_iff_eq.mp q)
    subst e
    unfold clsIn at hcD
    split at hcD
    · rename_i c' d' cd' sl' ho
      have z := (X _ _ ho).symm.trans htp
      cases z
    · cases hcD
  ca := fun X ⟨_, I⟩ k => clsE C X I k
end
section
variable {X : Cx} {G : Gh} {W : WX} {pos : Pos} {ea eb ec : Expr} {a b c : AE}
theorem Sta.xc {x : Ex} {i : Nat} {av : Addr} {cls : Value} {d : Option Addr} {M : Mp} {e : Env} {ah : AH} {σ : L2.St} {H : Hp} (S : Sta ⟨X.K, X.mg, some ⟨i, av, cls, d, x⟩, X.w⟩ M e ah σ H) : σ[i]? = some (some (.ref av)) ∧ ExRel ⟨X.K, X.mg, some ⟨i, av, cls, d, x⟩, X.w⟩ M H x cls d := S.gh _ rfl
/-- the classes whose name n is read off an error -/
def XfT (X : Cx) (n : Str) (cs : List String) : Prop := ∀ c ∈ cs, ∃ C, X.mg (Str.ofString c) = some (.ref C) ∧ XfC X.K C ∧ PySem.W.findIn X.K (.ref C) n = some none
theorem xt_nil {n : Str} : XfT X n [] := fun _ h => by simp at h
theorem xt_cons {n : Str} {c : String} {cs : List String} {C : Addr} (h1 : X.mg (Str.ofString c) = some (.ref C)) (h2 : ErrC X.K C) (h3 : PySem.W.findIn X.K (.ref C) n = some none) (h : XfT X n cs) : XfT X n (c :: cs) := fun x hx => by
  rcases List.mem_cons.mp hx with rfl | hx
  · exact ⟨C, h1, h2.xf, h3⟩
  · exact h x hx
theorem cls_of {T : Tb} {c : String} {C : Addr} {u : Value} (h : ClsOf T c u) (hC : T.mg (Str.ofString c) = some (.ref C)) : u = .ref C := by
  rcases h with ⟨C2, h2, rfl⟩ | ⟨h2, _⟩
  · rw [mg_same hC h2]
  · rw [hC] at h2; cases h2
theorem s_xf {av : Addr} {oe : Obj} {cls : Value} {d : Option Addr} {pn : List (Addr × Obj)} {x : Ex} {i : Nat} {nm : Str} {p : Pos} {cs : List String} (n : String) (hz : Zc cls d oe) (hd : ∃ vs, oe.data = .fields vs) (hk : XfT X (Str.ofString n) cs) (hN : X.N[i]? = some nm := by rfl) (hv : Vis X.env.scope nm := by first | exact Or.inl rfl | exact Or.inr (Or.inl rfl) | exact Or.inr (Or.inr rfl))
    (hb : attributeBase (.Name nm p) (Str.ofString n) X.env (eval (.Name nm p) X.env) = eval (.Name nm p) X.env := by rfl) (hdb : (nm == ("__debug__" : Str)) = false := by decide) (hcd : (nm == ("__classdict__" : Str)) = false := by decide) :
    SE (X.suite av ((av, oe) :: pn)) (some ⟨i, av, cls, d, x⟩) W (.Attribute (.Name nm p) (Str.ofString n) pos) (eXf cs x n) := by
  refine ⟨fun pins s σ H Q I h => ?_⟩
  obtain ⟨M, e, ah, S, P⟩ := h
  obtain ⟨hz2, P⟩ := Post.chk P
  obtain ⟨dv, hdv, P⟩ := Post.of P
  obtain ⟨g1, g2⟩ := S.xc
  obtain ⟨C, k1, k2, k3⟩ := hk x.cls (by simpa using hz2)
  have hcl := cls_of g2.1 k1
  refine (pe_xf k2 k3 hz hd (pe_var hN hv hdb hcd) hb).run pins s σ H Q I ?_
  have z := g2.2.2
  cases d with
  | none =>
    have z : x.ns = [] := z
    rw [z] at hdv
    cases hdv
  | some dd =>
    obtain ⟨vs, f, eH, r⟩ := z
    have l := look1_rep n g2.2.1 r
    rw [hdv] at l
    obtain ⟨w, l1, l2⟩ := l
    exact ⟨.ref av, g1, rfl, hcl, dd, _, w, rfl, eH, l1, P.val S.h l2⟩
/-! ### isinstance(e, C), isinstance(e, (C, ..)) -/
def rIsX (K : PySem.W.Frag) (D av : Addr) (d : Option Addr) : List V → Hp → VK → Prop := fun xs H Q => ∃ b, Q (.bl b) H ∧ (d = none ∨ ∃ dd fs, d = some dd ∧ H dd = some (.xd fs)) ∧
  ((∃ c cv, xs = [.ref av, c] ∧ ClsV c cv ∧ PySem.W.kitOne K (.ref D) cv = some b) ∨ ∃ tp cs us, xs = [.ref av, .ref tp] ∧ H tp = some (.tup cs) ∧ Paired ClsV cs us ∧ PySem.W.kitAny K (.ref D) us = some b)
theorem call_isX {av D : Addr} {oe : Obj} {d : Option Addr} {pn : List (Addr × Obj)} (C : ExcC X.K D) (hz : Zc (.ref D) d oe) (hf : ∃ vs, oe.data = .fields vs) : CallR (X.suite av ((av, oe) :: pn)) (.builtin "isinstance") (rIsX X.K D av d) := by
  intro pins s σ H xs us Q I r h
  obtain ⟨b, q, hd, h⟩ := h
  obtain ⟨hget, _⟩ := I.pin (av, oe) (List.mem_append.mpr (.inl List.mem_cons_self))
  obtain ⟨vs, hv⟩ := hf
  have J : ∃ od, PySem.W.InstAt s.heap av oe D od := by
    obtain ⟨oc, odd, oda, osl⟩ := oe
    obtain ⟨h1, h2⟩ := hz
    dsimp only at h1 h2 hv
    subst h1 h2 hv
    rcases hd with rfl | ⟨dd, fs, rfl, e⟩
    · exact ⟨none, hget, rfl, rfl, trivial⟩
    · have hx : ObjOk X.prog X.w H s.heap dd (.xd fs) := I.hok dd _ e
      obtain ⟨mA, ⟨o, _, _, ho, _⟩, hr⟩ := hx
      exact ⟨some o, hget, rfl, rfl, ho⟩
  rcases h with ⟨c, cv, rfl, k, e⟩ | ⟨tp, cs, ws, rfl, hT, k, e⟩
  · obtain ⟨u1, u2, rfl, r1, r2⟩ := vals2 r
    cases (show u1 = Value.ref av from r1)
    have e2 := k.eq r2
    subst e2
    exact PySem.W.kia_one (kitxE C) I.kIn J e (fun z => nomatch z) fun tk => ⟨.bl b, H, I.tok tk, rfl, q⟩
  · obtain ⟨u1, u2, rfl, r1, r2⟩ := vals2 r
    cases (show u1 = Value.ref av from r1)
    cases (show u2 = Value.ref tp from r2)
    obtain ⟨_, its, rv, o, h1, h2, n, h3⟩ := (show ObjOk X.prog X.w H s.heap tp (.tup cs) from I.hok tp _ hT)
    have e3 := ClsV.all k rv
    subst e3
    obtain ⟨oc, od, dt, sl⟩ := o
    simp only at h2 h3
    subst h2 h3
    exact PySem.W.kia_tup (kitxE C) I.kIn J h1 e (fun z => nomatch z) fun tk => ⟨.bl b, H, I.tok tk, rfl, q⟩
/-- names of classes as arguments -/
def PCs (X : Cx) (es : List Expr) (vs : List V) (us : List Value) : Prop := (∃ t, PA X es t ∧ ∀ σ H Q, Q vs H → t σ H Q) ∧ Paired ClsV vs us
theorem pc_nil : PCs X [] [] [] := ⟨⟨_, pa_nil, fun _ _ _ h => h⟩, .nil⟩
theorem pc_own {x : Str} {p : Pos} {es : List Expr} {vs : List V} {us : List Value} {C : Addr} (hm : X.mg x = some (.ref C)) (h : PCs X es vs us) (hg : Gl X x := by rfl) (hdb : (x == ("__debug__" : Str)) = false := by decide) (hs : starEach (.Name x p :: es) X.env = (false, eval (.Name x p) X.env) :: starEach es X.env := by rfl) : PCs X (.Name x p :: es) (.ref C :: vs) (.ref C :: us) := by
  obtain ⟨⟨t, h1, h2⟩, h3⟩ := h
  exact ⟨⟨_, pa_cons (pe_glob hg hm (show RelV (.ref C) (.ref C) from rfl) hdb) h1 hs, fun σ H Q q => h2 σ H _ q⟩, .cons (.own C) h3⟩
theorem pc_ty {x : Str} {p : Pos} {es : List Expr} {vs : List V} {us : List Value} {n : String} (hm : X.mg x = none) (hv : bootBuiltins x = some (.type n)) (h : PCs X es vs us) (hg : Gl X x := by rfl) (hn : x ≠ "__name__" := by decide) (hdb : (x == ("__debug__" : Str)) = false := by decide) (hs : starEach (.Name x p :: es) X.env = (false, eval (.Name x p) X.env) :: starEach es X.env := by rfl) : PCs X (.Name x p :: es) (.ty n :: vs) (.type n :: us) := by
  obtain ⟨⟨t, h1, h2⟩, h3⟩ := h
  exact ⟨⟨_, pa_cons (pe_bltn hg hm hv (show RelV (.ty n) (.type n) from rfl) hn hdb) h1 hs, fun σ H Q q => h2 σ H _ q⟩, .cons (.ty n) h3⟩
/-- the answers for the errors that may be at hand -/
def KitT (X : Cx) (us : List Value) (tbl : List (String × Bool)) : Prop := ∀ n b, lookB n tbl = some b → ∃ C, X.mg (Str.ofString n) = some (.ref C) ∧ ExcC X.K C ∧ PySem.W.kitAny X.K (.ref C) us = some b
theorem kt_nil {us : List Value} : KitT X us [] := fun _ _ h => by cases h
theorem kt_cons {us : List Value} {n : String} {b : Bool} {r : List (String × Bool)} {C : Addr} (h1 : X.mg (Str.ofString n) = some (.ref C)) (h2 : ErrC X.K C) (h3 : PySem.W.kitAny X.K (.ref C) us = some b) (h : KitT X us r) : KitT X us ((n, b) :: r) := fun m k hk => by
  unfold lookB at hk
  by_cases e : n = m
  · subst e
    rw [if_pos rfl] at hk
    cases hk
    exact ⟨C, h1, h2.ex, h3⟩
  · rw [if_neg e] at hk
    exact h m k hk
theorem kitAny_one {K : PySem.W.Frag} {t c : Value} {b : Bool} (h : PySem.W.kitAny K t [c] = some b) : PySem.W.kitOne K t c = some b := by
  unfold PySem.W.kitAny at h
  cases z : PySem.W.kitOne K t c with
  | none => rw [z] at h; cases h
  | some k =>
    rw [z] at h
    cases k with
    | true => exact h
    | false => exact h
theorem xd_of {T : Tb} {M : Mp} {H : Hp} {x : Ex} {u : Value} {d : Option Addr} (h : ExRel T M H x u d) : d = none ∨ ∃ dd fs, d = some dd ∧ H dd = some (.xd fs) := by
  cases d with
  | none => exact .inl rfl
  | some dd =>
    obtain ⟨vs, f, e, r⟩ := h.2.2
    exact .inr ⟨dd, _, rfl, e⟩
section
variable {av : Addr} {oe : Obj} {cls : Value} {d : Option Addr} {pn : List (Addr × Obj)} {x : Ex} {i : Nat} {nm xi : Str} {p p2 p3 : Pos} {tbl : List (String × Bool)} {us : List Value} {vs : List V}
theorem s_xis1 {ex : Expr} {v : V} {u : Value} (hz : Zc cls d oe) (hd : ∃ vs, oe.data = .fields vs) (hx : xi = "isinstance") (hm : X.mg xi = none) (hc : PCs (X.suite av ((av, oe) :: pn)) [ex] [v] [u]) (hk : KitT X [u] tbl) (hN : X.N[i]? = some nm := by rfl) (hv : Vis X.env.scope nm := by first | exact Or.inl rfl | exact Or.inr (Or.inl rfl) | exact Or.inr (Or.inr rfl)) (hg : Gl X xi := by rfl)
    (hdb : (nm == ("__debug__" : Str)) = false := by decide) (hcd : (nm == ("__classdict__" : Str)) = false := by decide)
    (hs : starEach [(.Name nm p2 : Expr), ex] X.env = (false, eval (.Name nm p2) X.env) :: starEach [ex] X.env := by rfl) (hpl : (backTo pos (starEach [ex] X.env)).any (·.1) = false := by rfl) :
    SE (X.suite av ((av, oe) :: pn)) (some ⟨i, av, cls, d, x⟩) W (.Call (.Name xi p) [.Name nm p2, ex] [] pos) (eXis x tbl) := by
  subst hx
  refine ⟨fun pins s σ H Q I h => ?_⟩
  obtain ⟨M, e, ah, S, P⟩ := h
  obtain ⟨dv, hdv, P⟩ := Post.of P
  obtain ⟨bb, hbb, rfl⟩ := Option.map_eq_some_iff.mp hdv
  obtain ⟨g1, g2⟩ := S.xc
  obtain ⟨C, k1, k2, k3⟩ := hk x.cls bb hbb
  have hcl := cls_of g2.1 k1
  subst hcl
  obtain ⟨⟨t, t1, t2⟩, t3⟩ := hc
  have pa : PA (X.suite av ((av, oe) :: pn)) [.Name nm p2, ex] (tCons (tVar i) t) := pa_cons (pe_var hN hv hdb hcd) t1 hs
  refine (pe_callB (X := X.suite av ((av, oe) :: pn)) (pos := pos) (p := p) (call_isX k2 hz hd) hg hm (by decide +kernel) pa (he := hs) (hpl := hpl)).run pins s σ H Q I ?_
  refine ⟨.ref av, g1, t2 _ _ _ ⟨bb, P.val S.h mk_bl, xd_of g2, .inl ⟨v, u, rfl, ?_, kitAny_one k3⟩⟩⟩
  cases t3 with
  | cons h _ => exact h
theorem s_xisT {es : List Expr} {kx : Nat} (hz : Zc cls d oe) (hd : ∃ vs, oe.data = .fields vs) (hx : xi = "isinstance") (hm : X.mg xi = none) (hc : PCs (X.suite av ((av, oe) :: pn)) es vs us) (hl : vs.length ≤ 1000) (hk : KitT X us tbl) (hN : X.N[i]? = some nm := by rfl) (hv : Vis X.env.scope nm := by first | exact Or.inl rfl | exact Or.inr (Or.inl rfl) | exact Or.inr (Or.inr rfl)) (hg : Gl X xi := by rfl)
    (hdb : (nm == ("__debug__" : Str)) = false := by decide) (hcd : (nm == ("__classdict__" : Str)) = false := by decide)
    (hs : starEach [(.Name nm p2 : Expr), .Tuple es kx p3] X.env = (false, eval (.Name nm p2) X.env) :: starEach [.Tuple es kx p3] X.env := by rfl) (hs2 : starEach [(.Tuple es kx p3 : Expr)] X.env = (false, eval (.Tuple es kx p3) X.env) :: starEach [] X.env := by rfl) (hpl : (backTo pos (starEach [.Tuple es kx p3] X.env)).any (·.1) = false := by rfl) :
    SE (X.suite av ((av, oe) :: pn)) (some ⟨i, av, cls, d, x⟩) W (.Call (.Name xi p) [.Name nm p2, .Tuple es kx p3] [] pos) (eXis x tbl) := by
  subst hx
  refine ⟨fun pins s σ H Q I h => ?_⟩
  obtain ⟨M, e, ah, S, P⟩ := h
  obtain ⟨dv, hdv, P⟩ := Post.of P
  obtain ⟨bb, hbb, rfl⟩ := Option.map_eq_some_iff.mp hdv
  obtain ⟨g1, g2⟩ := S.xc
  obtain ⟨C, k1, k2, k3⟩ := hk x.cls bb hbb
  have hcl := cls_of g2.1 k1
  subst hcl
  obtain ⟨⟨t, t1, t2⟩, t3⟩ := hc
  have pa : PA (X.suite av ((av, oe) :: pn)) [.Name nm p2, .Tuple es kx p3] (tCons (tVar i) (tCons (tTup t) tNil)) := pa_cons (pe_var hN hv hdb hcd) (pa_cons (pe_tup t1) pa_nil hs2) hs
  refine (pe_callB (X := X.suite av ((av, oe) :: pn)) (pos := pos) (p := p) (call_isX k2 hz hd) hg hm (by decide +kernel) pa (he := hs) (hpl := hpl)).run pins s σ H Q I ?_
  refine ⟨.ref av, g1, t2 _ _ _ ⟨by rw [sizeLine_eq]; omega, fun tp np => ?_⟩⟩
  have s2 := step_new (M := M) (.tup vs) np
  have q2 := S.h.new (.tup vs) np
  refine ⟨bb, P M _ s2 q2 _ mk_bl, xd_of (g2.mono s2.mono), .inr ⟨tp, vs, us, rfl, upd_same, t3, k3⟩⟩
end
end
end Sm
end

section
set_option Elab.async false
set_option linter.all false
set_option maxRecDepth 100000
set_option maxHeartbeats 1000000
/-! Sim20: small things that the printed derivations name. -/
namespace Sm
open PySem PySem.Spec PyProof.Rows L2 NdefX
def supB (K : PySem.W.Frag) (C D : Addr) (file : Str) (cvs : Array Value) : Bool := decide (PySem.W.mroIn K C (.ref D) = some true) && (decide (PySem.W.subIn K (.ref C) (.type "ValueError") = some true) && ((match PySem.W.clsIn K C with
  | some cd => decide (PySem.W.alongIn K "__init__" ((cd.mro.dropWhile (· != .ref D)).drop 1) = some (some (.builtin "ValueError.__init__")))
  | none => false) && ((PySem.W.clsIn K D).isSome && (match cvs[2]? with
  | some (Value.str f _) => file == f
  | _ => false))))
theorem supB_ok {P : Program} {K : PySem.W.Frag} {C D cc cda : Addr} {cvs : Array Value} {ccl : Value} {cdd : Option Addr} {ccs : Array (Option Value)} (h0 : OexC K C) (hcell : ∃ cl cld csl, K.lookup cc = some ⟨cl, cld, .cell (some (.ref D)), csl⟩)
    (hcode : K.lookup cda = some ⟨ccl, cdd, .fields cvs, ccs⟩) (h : supB K C D (P.main.file : Str) cvs = true) (top : (P.main.scope.names.lookup ("super" : Str)).isSome = false) (op : PySem.W.nsIn K cStatics "thirdparty.any" = some none) : SupC P K C D cc cda := by
  unfold supB at h
  simp only [Bool.and_eq_true, decide_eq_true_eq] at h
  obtain ⟨h1, h2, h3, h4, h5⟩ := h
  refine ⟨h0, hcell, ?_, Option.isSome_iff_exists.mp h4, h1, h2, op, ?_, top⟩
  · split at h3
    · rename_i cd hc
      exact ⟨cd, hc, of_decide_eq_true h3⟩
    · cases h3
  · split at h5
    · rename_i f t hf
      exact ⟨_, _, _, _, f, t, hcode, hf, h5⟩
    · cases h5
theorem kit_ve {K : PySem.W.Frag} {C : Addr} (h : PySem.W.subIn K (.ref C) (.type "ValueError") = some true) : PySem.W.kitOne K (.ref C) (.type "ValueError") = some true := by
  unfold PySem.W.kitOne
  rw [if_neg (show ¬ ((Value.ref C == Value.type "ValueError") = true) from fun z => by cases (beq_iff_eq.mp z))]
  unfold PySem.W.kitCls
  simp only [show PySem.W.kitMeta "ValueError" = true by decide +kernel, if_true]
  exact h
theorem kitAny_t {K : PySem.W.Frag} {t c : Value} {cs : List Value} (h : PySem.W.kitOne K t c = some true) : PySem.W.kitAny K t (c :: cs) = some true := kitAny_cons h (fun z => by cases z) fun _ => rfl
theorem kitAny_f {K : PySem.W.Frag} {t c : Value} {cs : List Value} {r : Bool} (h : PySem.W.kitOne K t c = some false) (h2 : PySem.W.kitAny K t cs = some r) : PySem.W.kitAny K t (c :: cs) = some r := kitAny_cons h (fun _ => h2) fun z => by cases z
end Sm
end

section
set_option Elab.async false
set_option linter.all false
set_option maxRecDepth 100000
set_option maxHeartbeats 1000000
/-! Sim21: list(reversed(a list)). -/
namespace Sm
open PySem PySem.Spec PyProof.Rows L2 RT
section
variable {prog : Program} {w : World} {A : Around} {E : Value → Shared → Prop} {s : Shared}
end
section
variable {X : Cx}
def tLstRev (K : PySem.W.Frag) (te : TE) : TE := fun σ H Q => te σ H fun v H1 => ∃ (a : Addr) (xs : List V), v = .ref a ∧ SqL K H1 a xs ∧ ∀ q, H1 q = none → Q (.ref q) (upd H1 q (.lst xs.reverse))
end
end Sm
end

section
set_option linter.all false
/-! Abs5: all(xs), any(xs) of truth values. -/
namespace Sm
def asBls : List D → Option (List Bool)
  | [] => some []
  | .bl b :: r => (asBls r).map (b :: ·)
  | _ => none
def boolsD (f : List Bool → Bool) (x : D) (h : AH) : R D := match lstH h x with
  | some xs => match asBls xs with
    | some bs => .ok (.bl (f bs)) h
    | none => .no
  | none => .no
def allF (bs : List Bool) : Bool := bs.all id
def anyF (bs : List Bool) : Bool := bs.any id
end Sm
end

section
set_option Elab.async false
set_option linter.all false
set_option maxRecDepth 100000
set_option maxHeartbeats 1000000
/-! Sim22: all(xs), any(xs). -/
namespace Sm
open PySem PySem.Spec PyProof.Rows L2
section
variable {T : Tb} {M : Mp} {H : Hp}
end
section
variable {X : Cx} {G : Gh} {W : WX} {ea : Expr} {as : AA} {p pos : Pos}
end
end Sm
end

section
set_option linter.all false
/-! Abs6: sets of ints. -/
namespace Sm
def eNewS : AE := fun _ h => .ok (.loc h.length) (h ++ [.set []])
def setH (h : AH) : D → Option (Nat × List Int)
  | .loc l => match h[l]? with
    | some (.set xs) => some (l, xs)
    | _ => none
  | _ => none
def isSetB (h : AH) (d : D) : Bool := (setH h d).isSome
def sAddD (x y : D) (h : AH) : R D := match setH h x with
  | some (l, xs) => match y with
    | .int k => R.chk (decide (xs.length < 1000)) (.ok .non (h.set l (.set (if k ∈ xs then xs else xs ++ [k]))))
    | _ => .no
  | none => .no
def inSD (x y : D) (h : AH) : R D := match setH h y with
  | some (_, xs) => match x with
    | .int k => .ok (.bl (decide (k ∈ xs))) h
    | _ => .no
  | none => .no
def notInSD (x y : D) (h : AH) : R D := match setH h y with
  | some (_, xs) => match x with
    | .int k => .ok (.bl (!decide (k ∈ xs))) h
    | _ => .no
  | none => .no
/-- sorted(a set) -/
def sortedSD (fz : Bool) (x : D) (h : AH) : R D := match setH h x with
  | some (_, xs) => R.chk (decide (xs.length < 64)) (mkL fz ((sortU xs).map .int) h)
  | none => .no
/-- o.m(e): o's kind is looked at first -/
def eM2 (g : AH → D → Bool) (f : D → D → AH → R D) (a b : AE) : AE := fun e h => (a e h).bind fun d h1 => R.chk (g h1 d) ((b e h1).bind fun y h2 => f d y h2)
def remIx (l : Nat) (y : D) (h : AH) (xs : List D) : R D := match y with
  | .int k => match asInts xs with
    | some ns => R.chk (decide (k ∈ ns)) (.ok .non (h.set l (.lst ((ns.erase k).map .int))))
    | none => .no
  | _ => .no
def removeD (x y : D) (h : AH) : R D := onL h x fun l xs => remIx l y h xs
end Sm
end

section
set_option Elab.async false
set_option linter.all false
set_option maxRecDepth 100000
set_option maxHeartbeats 1000000
/-! Sim23: sets of ints. -/
namespace Sm
open PySem PySem.Spec PyProof.Rows L2
section
variable {X : Cx} {G : Gh} {W : WX} {pos : Pos} {ea eb ec : Expr} {a b c : AE}
end
end Sm
end

section
set_option Elab.async false
set_option linter.all false
set_option maxRecDepth 100000
set_option maxHeartbeats 1000000
/-! Sim24: xs.remove(x). -/
namespace Sm
open PySem PySem.Spec PyProof.Rows L2
section
variable {X : Cx} {G : Gh} {W : WX} {pos : Pos} {ea eb ec : Expr} {a b c : AE}
end
end Sm
end

section
set_option linter.all false
/-! Abs7: repr of plain lists and tuples. -/
namespace Sm
def digs (i : Int) : List Nat := (toString i).toList.map Char.toNat
def jn : List (List Nat) → List Nat
  | [] => []
  | [x] => x
  | x :: y :: r => x ++ ([44, 32] ++ jn (y :: r))
mutual
/-- the text that repr makes of a plain datum -/
def shw : D → List Nat
  | .int i => digs i
  | .str x => 39 :: (x ++ [39])
  | .bl b => if b then [84, 114, 117, 101] else [70, 97, 108, 115, 101]
  | .tup xs => 40 :: (jn (shws xs) ++ (if xs.length = 1 then [44, 41] else [41]))
  | .lst xs => 91 :: (jn (shws xs) ++ [93])
  | _ => [78, 111, 110, 101]
def shws : List D → List (List Nat)
  | [] => []
  | x :: xs => shw x :: shws xs
end
mutual
/-- the rule knows its text: small whole numbers, plain small letters -/
def sok : D → Bool
  | .int i => Nat.ble i.natAbs.log2 1919
  | .str x => x.all fun c => Nat.ble 97 c && Nat.ble c 122
  | .bl _ => true
  | .non => true
  | .tup xs => soks xs
  | .lst xs => soks xs
  | _ => false
def soks : List D → Bool
  | [] => true
  | x :: xs => sok x && soks xs
end
mutual
/-- no text is longer -/
def wt : D → Nat
  | .int _ => 1922
  | .str x => x.length + 2
  | .tup xs => wts xs + 4
  | .lst xs => wts xs + 4
  | _ => 5
def wts : List D → Nat
  | [] => 0
  | x :: xs => wt x + 2 + wts xs
end
def reprD (d : D) (h : AH) : R D := match pd h 64 d with
  | some (.lst xs) => R.chk (soks xs && Nat.ble (wts xs) 16000000) (.ok (.str (shw (.lst xs))) h)
  | some (.tup xs) => R.chk (soks xs && Nat.ble (wts xs) 16000000) (.ok (.str (shw (.tup xs))) h)
  | _ => .no
/-- t[::-1] of a tuple -/
def revTD (x : D) (h : AH) : R D := match x with
  | .tup xs => .ok (.tup xs.reverse) h
  | _ => .no
/-- max(a tuple of whole numbers, default=d) -/
def maxOr (d : Int) : List Int → Int
  | [] => d
  | x :: xs => xs.foldl max x
def maxTD (d : Int) (x : D) (h : AH) : R D := match x with
  | .tup xs => match asInts xs with
    | some ns => .ok (.int (maxOr d ns)) h
    | none => .no
  | _ => .no
/-- sorted of pairs of whole numbers -/
def lexI (a b : Int × Int) : Bool := decide (a.1 < b.1 ∨ (a.1 = b.1 ∧ a.2 ≤ b.2))
def insP (x : Int × Int) : List (Int × Int) → List (Int × Int)
  | [] => [x]
  | y :: ys => if lexI x y then x :: y :: ys else y :: insP x ys
def sortP : List (Int × Int) → List (Int × Int)
  | [] => []
  | x :: xs => insP x (sortP xs)
def asPair : D → Option (Int × Int)
  | .tup [.int a, .int b] => some (a, b)
  | _ => none
def pairD (p : Int × Int) : D := .tup [.int p.1, .int p.2]
def sortedPD (fz : Bool) (d : D) (h : AH) : R D := match lstH h d with
  | some xs => match mapO asPair xs with
    | some ps => mkL fz ((sortP ps).map pairD) h
    | none => .no
  | none => .no
/-- isinstance(x, C) of an instance of just this class -/
def isClsD (cn : String) (d : D) (h : AH) : R D := match insH h d with
  | some (c, _, _) => R.chk (decide (c = cn)) (.ok (.bl true) h)
  | none => .no
/-- range with a step -/
def cnt3 (i j c : Int) : Nat := (if c > 0 then (if i < j then (j - i - 1) / c + 1 else 0) else (if i > j then (i - j - 1) / (-c) + 1 else 0)).toNat
def rng3 (i c : Int) (n : Nat) : List D := (List.range n).map fun (k : Nat) => .int (i + k * c)
def iR3 (a b c : AE) : AI := fun e h => (a e h).bind fun x h1 => (b e h1).bind fun y h2 => (c e h2).bind fun z h3 => match x with
  | .int i => match y with
    | .int j => match z with
      | .int k => R.chk (inI i && inI j && Nat.ble k.natAbs 1000000000 && Nat.ble 1 k.natAbs) (.ok (.lst (rng3 i k (cnt3 i j k))) h3)
      | _ => .no
    | _ => .no
  | _ => .no
/-- x in a list of plain data of any depth -/
def inAny (h : AH) (x y : D) : Option Bool := match pd h 64 x, pd h 64 y with
  | some a, some (.lst bs) => some (bs.any fun z => ev z a)
  | _, _ => none
def inDD (x y : D) (h : AH) : R D := (R.of (inAny h x y) h).bind fun b h => .ok (.bl b) h
def notInDD (x y : D) (h : AH) : R D := (R.of (inAny h x y) h).bind fun b h => .ok (.bl (!b)) h
end Sm
end

section
set_option Elab.async false
set_option linter.all false
set_option maxRecDepth 100000
set_option maxHeartbeats 1000000
/-! Sim25: repr. -/
namespace Sm
open PySem PySem.Spec PyProof.Rows L2
theorem os_ts (s : String) : Str.ofString s = ts (s.toList.map Char.toNat) := Str.ofString_eq_toList s
theorem shown_int (i : Int) : (Str.ofString (toString i)) = ts (digs i) := os_ts _
theorem sep_ts : Str.ofString ", " = ts [44, 32] := by rw [os_ts]; rfl
theorem emp_ts : Str.ofString "" = ts [] := by rw [os_ts]; rfl
theorem jn_join : ∀ xs : List (List Nat), Str.join ", " (xs.map ts) = ts (jn xs)
  | [] => rfl
  | [x] => rfl
  | x :: y :: r => by
    have ih := jn_join (y :: r)
    show ts x ++ (", " : Str) ++ Str.join ", " ((y :: r).map ts) = ts (x ++ ([44, 32] ++ jn (y :: r)))
    rw [ih, sep_ts, ts_app, ts_app, List.append_assoc]
theorem text_from : ∀ (xs : List (List Nat)) (k : Nat) (acc : List Nat), textFrom k (ts acc) (xs.map ts) = ts (acc ++ (if 0 < k ∧ xs ≠ [] then [44, 32] else []) ++ jn xs)
  | [], k, acc => by simp [textFrom, jn]
  | x :: r, k, acc => by
    have ih := text_from r (k + 1) (acc ++ (if 0 < k then [44, 32] else []) ++ x)
    show textFrom (k + 1) (ts acc ++ (if k > 0 then ", " else "" : String) ++ ts x) (r.map ts) = _
    have e : (ts acc ++ ((if k > 0 then ", " else "" : String) : Str) ++ ts x) = ts (acc ++ (if 0 < k then [44, 32] else []) ++ x) := by
      by_cases h : 0 < k
      · rw [if_pos h, if_pos h, sep_ts, ts_app, ts_app]
      · rw [if_neg h, if_neg h, emp_ts, ts_app, ts_app]
    rw [e, ih]
    congr 1
    cases r with
    | nil => simp [jn]
    | cons y r => simp [jn]
theorem shown_list (xs : List (List Nat)) : listText (xs.map ts) = ts (91 :: (jn xs ++ [93])) := by
  have h := text_from xs 0 [91]
  unfold listText
  rw [show Str.ofString "[" = ts [91] by rw [os_ts]; rfl, show Str.ofString "]" = ts [93] by rw [os_ts]; rfl, h, ts_app]
  simp
theorem shown_tup (xs : List (List Nat)) : tupleText (xs.map ts) = ts (40 :: (jn xs ++ (if xs.length = 1 then [44, 41] else [41]))) := by
  unfold tupleText
  rw [show Str.ofString "(" = ts [40] by rw [os_ts]; rfl, jn_join, List.length_map]
  by_cases h : xs.length = 1
  · rw [if_pos (by simpa using h), if_pos h, show Str.ofString ",)" = ts [44, 41] by rw [os_ts]; rfl, ts_app, ts_app]; rfl
  · rw [if_neg (by simpa using h), if_neg h, show Str.ofString ")" = ts [41] by rw [os_ts]; rfl, ts_app, ts_app]; rfl
theorem shown_str {x : List Nat} (h : (x.all fun c => Nat.ble 97 c && Nat.ble c 122) = true) : reprText (ts x) = ts (39 :: (x ++ [39])) := by
  rw [List.all_eq_true] at h
  have hc : ∀ c ∈ x, 97 ≤ c ∧ c ≤ 122 := fun c hx => by
    have := h c hx
    rw [Bool.and_eq_true] at this
    exact ⟨Nat.le_of_ble_eq_true this.1, Nat.le_of_ble_eq_true this.2⟩
  have q : reprQuote (ts x) = 39 := by
    unfold reprQuote
    have n39 : (ts x).cps.contains 39 = false := by
      show x.toArray.contains 39 = false
      rw [Bool.eq_false_iff]
      intro z
      have : 39 ∈ x := by simpa using z
      have := hc 39 this
      omega
    rw [n39]; rfl
  have ch : ∀ c, 97 ≤ c → c ≤ 122 → Builtin.Str.reprChar 39 c = [c] := by
    intro c a b
    have : c = 97 ∨ c = 98 ∨ c = 99 ∨ c = 100 ∨ c = 101 ∨ c = 102 ∨ c = 103 ∨ c = 104 ∨ c = 105 ∨ c = 106 ∨ c = 107 ∨ c = 108 ∨ c = 109 ∨ c = 110 ∨ c = 111 ∨ c = 112 ∨ c = 113 ∨ c = 114 ∨ c = 115 ∨ c = 116 ∨ c = 117 ∨ c = 118 ∨ c = 119 ∨ c = 120 ∨ c = 121 ∨ c = 122 := by omega
    rcases this with rfl | rfl | rfl | rfl | rfl | rfl | rfl | rfl | rfl | rfl | rfl | rfl | rfl | rfl | rfl | rfl | rfl | rfl | rfl | rfl | rfl | rfl | rfl | rfl | rfl | rfl <;> decide +kernel
  have fold : ∀ (y acc : List Nat), (∀ c ∈ y, 97 ≤ c ∧ c ≤ 122) → y.foldl (fun (out : Array Nat) c => out ++ (Builtin.Str.reprChar 39 c).toArray) acc.toArray = (acc ++ y).toArray := by
    intro y
    induction y with
    | nil => intro acc _; simp
    | cons c y ih =>
      intro acc hy
      have h1 := hy c (by simp)
      rw [List.foldl_cons, ch c h1.1 h1.2]
      have := ih (acc ++ [c]) fun d hd => hy d (by simp [hd])
      simpa using this
  unfold reprText
  rw [q]
  show (⟨(x.toArray.foldl _ #[39]).push 39⟩ : Str) = ⟨(39 :: (x ++ [39])).toArray⟩
  rw [← Array.foldl_toList]
  have := fold x [39] hc
  simp at this
  simp [this]
mutual
theorem shw_ok : ∀ d : D, sok d = true → PyData.shown (pdP d) = ts (shw d) ∧ PyData.showable (pdP d) = true
  | .non, _ => ⟨by simp only [pdP, PyData.shown, shw]; rw [os_ts]; rfl, rfl⟩
  | .bl b, _ => ⟨by rw [pdP, PyData.shown, shw, os_ts]; cases b <;> rfl, rfl⟩
  | .int i, h => ⟨by rw [pdP, PyData.shown, shw]; exact shown_int i, by
      rw [pdP, PyData.showable]
      rw [sok] at h
      exact decide_eq_true (Nat.lt_succ_of_le (Nat.le_of_ble_eq_true h))⟩
  | .str x, h => ⟨by rw [pdP, PyData.shown, shw]; exact shown_str (by rw [sok] at h; exact h), rfl⟩
  | .tup xs, h => by
    rw [sok] at h
    obtain ⟨a, b, c⟩ := shws_ok xs h
    exact ⟨by rw [pdP, PyData.shown, shw, a, shown_tup, c], by rw [pdP, PyData.showable]; exact b⟩
  | .lst xs, h => by
    rw [sok] at h
    obtain ⟨a, b, c⟩ := shws_ok xs h
    exact ⟨by rw [pdP, PyData.shown, shw, a, shown_list], by rw [pdP, PyData.showable]; exact b⟩
theorem shws_ok : ∀ xs : List D, soks xs = true → PyData.shownAll (pdPs xs) = (shws xs).map ts ∧ PyData.showableAll (pdPs xs) = true ∧ (shws xs).length = xs.length
  | [], _ => ⟨rfl, rfl, rfl⟩
  | x :: xs, h => by
    rw [soks, Bool.and_eq_true] at h
    obtain ⟨a, b⟩ := shw_ok x h.1
    obtain ⟨c, d, e⟩ := shws_ok xs h.2
    exact ⟨by rw [pdPs, PyData.shownAll, a, c, shws]; rfl, by rw [pdPs, PyData.showableAll, b, d]; rfl, by rw [shws]; simp [e]⟩
end
theorem jn_len : ∀ (xs : List (List Nat)), (jn xs).length ≤ (xs.map fun x => x.length + 2).sum
  | [] => by simp [jn]
  | [x] => by simp [jn]
  | x :: y :: r => by
    have := jn_len (y :: r)
    rw [jn]
    simp at this ⊢
    omega
mutual
theorem wt_ok : ∀ d : D, sok d = true → (shw d).length ≤ wt d
  | .non, _ => by simp [shw, wt]
  | .bl b, _ => by cases b <;> simp [shw, wt]
  | .int i, h => by
    rw [sok] at h
    rw [shw, wt]
    have := int_text_length_le (a := i) (k := 1920) (by decide) (Nat.lt_succ_of_le (Nat.le_of_ble_eq_true h))
    unfold digs
    rw [List.length_map]
    have e : (toString i).toList.length = (toString i).length := by first | exact String.length_toList | exact String.length_toList _ | rfl | simp [String.length]
    omega
  | .str x, _ => by rw [shw, wt]; simp
  | .tup xs, h => by
    rw [sok] at h
    have a := wts_ok xs h
    have b := jn_len (shws xs)
    rw [shw, wt]
    by_cases c : xs.length = 1
    · rw [if_pos c]; simp; omega
    · rw [if_neg c]; simp; omega
  | .lst xs, h => by
    rw [sok] at h
    have a := wts_ok xs h
    have b := jn_len (shws xs)
    rw [shw, wt]
    simp; omega
theorem wts_ok : ∀ xs : List D, soks xs = true → ((shws xs).map fun x => x.length + 2).sum ≤ wts xs
  | [], _ => by rw [shws, wts]; decide
  | x :: xs, h => by
    rw [soks, Bool.and_eq_true] at h
    have a := wt_ok x h.1
    have b := wts_ok xs h.2
    rw [shws, wts]
    simp; omega
end
section
variable {X : Cx} {G : Gh} {W : WX} {pos : Pos} {ea : Expr} {a : AE}
def rRepr (X : Cx) : List V → Hp → VK → Prop := fun xs H Q => ∃ (b : Addr) (d : PyData) (t : List Nat), xs = [V.ref b] ∧ Dp X.K H (V.ref b) d ∧ d.canLay0 = true ∧ d.depth ≤ 64 ∧ d.showable = true ∧ d.shown = ts t ∧ t.length ≤ 16000100 ∧ Q (.str (ts t)) H
end
end Sm
end

section
set_option Elab.async false
set_option linter.all false
set_option maxRecDepth 100000
set_option maxHeartbeats 1000000
/-! Sim26: range with a step. -/
namespace Sm
open PySem PySem.Spec PyProof.Rows L2
section
variable {X : Cx} {G : Gh} {W : WX} {pos : Pos} {ea eb ec : Expr} {a b c : AE}
end
end Sm
end

section
set_option Elab.async false
set_option linter.all false
set_option maxRecDepth 100000
set_option maxHeartbeats 1000000
/-! Sim27: isinstance(x, C), C a class of the text. -/
namespace Sm
open PySem PySem.Spec PyProof.Rows L2
structure IsC (K : PySem.W.Frag) (C : Addr) : Prop where
  ha : PySem.W.findIn K (.ref C) "__class__" = some (some (.builtin "object.__class__"))
  hn : PySem.W.specialIn K (.builtin "object.__class__") "__get__" = some (some (.builtin "getset_descriptor.__get__"))
  ht : PySem.W.takesIn K (.builtin "object.__class__") = some true
  hm : PySem.W.mroIn K C (.type "object") = some true
section
variable {X : Cx} {G : Gh} {W : WX} {pos : Pos} {ea : Expr} {a : AE}
theorem s_isCls {cn : String} {C : Addr} {p p2 : Pos} (ic : IsC X.K C) (cl : Cls X.K C) (hC : X.mg (Str.ofString cn) = some (.ref C)) (hm : X.mg "isinstance" = none) (ha : SE X G W ea a) (hg : Gl X "isinstance" := by rfl) (hgC : Gl X (Str.ofString cn) := by rfl)
    (hdb : (Str.ofString cn == ("__debug__" : Str)) = false := by decide)
    (hs : starEach [ea, (.Name (Str.ofString cn) p2 : Expr)] X.env = [(false, eval ea X.env), (false, eval (.Name (Str.ofString cn) p2) X.env)] := by rfl) (hs2 : starEach [(.Name (Str.ofString cn) p2 : Expr)] X.env = [(false, eval (.Name (Str.ofString cn) p2) X.env)] := by rfl)
    (hs3 : (backTo pos (starEach [(.Name (Str.ofString cn) p2 : Expr)] X.env)).any (·.1) = false := by rfl) : SE X G W (.Call (.Name "isinstance" p) [ea, .Name (Str.ofString cn) p2] [] pos) (e1 (isClsD cn) a) := by
  have h1 : PE X (.Name (Str.ofString cn) p2) (L2.tC (.ref C)) := pe_glob hgC hC rfl hdb
  have h2 := pe_callB (pos := pos) (p := p) call_isi hg hm (by decide +kernel) (pa_cons ha (pa_cons h1 pa_nil (by rw [hs2]; rfl)) (by rw [hs, hs2])) (he := by rw [hs, hs2]) (hpl := hs3)
  refine PE.imp h2 fun σ H Q h => ?_
  obtain ⟨M, e, ah, S, P⟩ := h
  refine ⟨M, e, ah, S, P.bindI fun dx M1 ah1 H1 s1 q1 P1 v hv => ?_⟩
  have P1 : Post (tb X G) _ M1 H1 _ (isClsD cn dx ah1) := P1
  unfold isClsD at P1
  cases hi : insH ah1 dx with
  | none => rw [hi] at P1; exact P1.elim
  | some z =>
    obtain ⟨c, ns, ds⟩ := z
    rw [hi] at P1
    dsimp only at P1
    obtain ⟨hz, P2⟩ := Post.chk P1
    clear P1
    have hz := of_decide_eq_true hz
    subst hz
    obtain ⟨p3, C2, dx2, vs, e1, e2, e3, e4, r⟩ := rep_ins q1 hv hi
    have hcc : C = C2 := mg_same e2 hC
    subst hcc
    subst e1
    refine ⟨V.ref p3, .ref C, .ref C, .ref C, true, rfl, .own C, .base (.ins e3 cl ic.ha ic.hn ic.ht ic.hm), ?_, P2.val q1 mk_bl⟩
    unfold PySem.W.kitOne
    rw [if_pos (by simp)]
end
end Sm
end

section
set_option Elab.async false
set_option linter.all false
set_option maxRecDepth 100000
set_option maxHeartbeats 1000000
/-! Sim28: sorted of pairs of whole numbers. -/
namespace Sm
open PySem PySem.Spec PyProof.Rows L2
theorem lexI_no {a b : Int × Int} (h : ¬ lexI a b = true) : lexI b a = true := by
  unfold lexI at h ⊢
  rw [decide_eq_true_eq] at h ⊢
  omega
theorem lexI_trans {a b c : Int × Int} (h : lexI a b = true) (k : lexI b c = true) : lexI a c = true := by
  unfold lexI at h k ⊢
  rw [decide_eq_true_eq] at h k ⊢
  omega
theorem lexI_anti {a b : Int × Int} (h : lexI a b = true) (k : lexI b a = true) : a = b := by
  unfold lexI at h k
  rw [decide_eq_true_eq] at h k
  exact Prod.ext (by omega) (by omega)
theorem insP_perm (x : Int × Int) : ∀ ys, (insP x ys).Perm (x :: ys)
  | [] => .refl _
  | y :: ys => by
    unfold insP
    split
    · exact .refl _
    · exact ((insP_perm x ys).cons y).trans (.swap x y ys)
theorem sortP_perm : ∀ xs, (sortP xs).Perm xs
  | [] => .refl _
  | x :: xs => (insP_perm x _).trans ((sortP_perm xs).cons x)
theorem insP_sorted (x : Int × Int) : ∀ ys, ys.Pairwise (fun a b => lexI a b = true) → (insP x ys).Pairwise (fun a b => lexI a b = true)
  | [], _ => by simp [insP]
  | y :: ys, h => by
    unfold insP
    have h := List.pairwise_cons.mp h
    split
    · rename_i hxy
      refine List.pairwise_cons.mpr ⟨fun z hz => ?_, List.pairwise_cons.mpr h⟩
      rcases List.mem_cons.mp hz with rfl | hz
      · exact hxy
      · exact lexI_trans hxy (h.1 z hz)
    · rename_i hxy
      refine List.pairwise_cons.mpr ⟨fun z hz => ?_, insP_sorted x ys h.2⟩
      rcases List.mem_cons.mp ((insP_perm x ys).mem_iff.mp hz) with rfl | hz
      · exact lexI_no hxy
      · exact h.1 z hz
theorem sortP_sorted : ∀ xs, (sortP xs).Pairwise (fun a b => lexI a b = true)
  | [] => by simp [sortP]
  | x :: xs => insP_sorted x _ (sortP_sorted xs)
theorem sortP_uniq {xs ys : List (Int × Int)} (p : xs.Perm ys) (h : xs.Pairwise (fun a b => lexI a b = true)) (g : ys.Pairwise (fun a b => lexI a b = true)) : xs = ys := List.Perm.eq_of_pairwise (le := fun a b => lexI a b = true) (fun a b _ _ h1 h2 => lexI_anti h1 h2) h g p
/-- the pair that a reference stands for -/
def pairV (H : Hp) : V → Int × Int
  | .ref t => match H t with
    | some (.tup [.int a, .int b]) => (a, b)
    | _ => (0, 0)
  | _ => (0, 0)
theorem pair_rep {T : Tb} {M : Mp} {H : Hp} {d : D} {v : V} {q : Int × Int} (r : Rep T M H d v) (h : asPair d = some q) : ∃ t, v = .ref t ∧ H t = some (.tup [.int q.1, .int q.2]) ∧ pairV H v = q ∧ Off M t := by
  unfold asPair at h
  split at h
  · rename_i a b
    cases h
    obtain ⟨p, vs, rfl, f, g⟩ := rep_tup r
    have e1 : vs = [.int a, .int b] := by
      rw [Reps] at g
      obtain ⟨x, xs, rfl, ra, g⟩ := g
      rw [Reps] at g
      obtain ⟨y, ys, rfl, rb, g⟩ := g
      rw [Reps] at g
      subst g
      rw [rep_int ra, rep_int rb]
    subst e1
    refine ⟨p, rfl, f.2, ?_, f.1⟩
    unfold pairV
    dsimp only
    rw [f.2]
  · cases h
theorem pairs_rep {T : Tb} {M : Mp} {H : Hp} : ∀ {ds : List D} {vs : List V} {qs : List (Int × Int)}, Reps T M H ds vs → mapO asPair ds = some qs → vs.map (pairV H) = qs ∧ ∀ v ∈ vs, ∃ t, v = .ref t ∧ H t = some (.tup [.int (pairV H v).1, .int (pairV H v).2]) ∧ Off M t
  | [], vs, qs, r, h => by
    rw [Reps] at r
    subst r
    cases h
    exact ⟨rfl, fun _ h => nomatch h⟩
  | d :: ds, vs, qs, r, h => by
    rw [Reps] at r
    obtain ⟨x, xs, rfl, f, g⟩ := r
    obtain ⟨z, zs, h1, h2, rfl⟩ := mapO_cons h
    obtain ⟨t, e, ht, hk, ho⟩ := pair_rep f h1
    obtain ⟨a, b⟩ := pairs_rep g h2
    refine ⟨by rw [List.map_cons, hk, a], fun v hv => ?_⟩
    rcases List.mem_cons.mp hv with rfl | hv
    · exact ⟨t, e, by rw [hk]; exact ht, ho⟩
    · exact b v hv
theorem reps_pairs {T : Tb} {M : Mp} {H : Hp} : ∀ {vs : List V}, (∀ v ∈ vs, ∃ t, v = .ref t ∧ H t = some (.tup [.int (pairV H v).1, .int (pairV H v).2]) ∧ Off M t) → Reps T M H ((vs.map (pairV H)).map pairD) vs
  | [], _ => Reps.nil
  | v :: vs, h => by
    obtain ⟨t, e, ht, ho⟩ := h v (by simp)
    refine Reps.cons ?_ (reps_pairs fun w hw => h w (by simp [hw]))
    unfold pairD
    rw [Rep]
    exact ⟨t, _, e, ⟨ho, ht⟩, Reps.cons (by rw [Rep]) (Reps.cons (by rw [Rep]) Reps.nil)⟩
section
variable {X : Cx} {G : Gh} {W : WX} {pos : Pos} {ea : Expr} {a : AE}
theorem f_sortedP {fz : Bool} : CallF X G (rSortedPO X.K) (on1 (sortedPD fz)) := f_one fun E M ah H d x Q q r P => by
  unfold sortedPD at P
  split at P
  · rename_i xs hx
    split at P
    · rename_i qs hn
      obtain ⟨p, vs, e1, f1, g1⟩ := rep_lst q r hx
      obtain ⟨z1, z2⟩ := pairs_rep g1 hn
      refine ⟨p, vs, pairV H, by rw [e1], SqL.of f1, fun v hv => ?_, fun ys p' hs hst hp => ?_⟩
      · obtain ⟨t, e, ht, _⟩ := z2 v hv
        exact ⟨t, e, ht⟩
      · have pm : (ys.map (pairV H)).Perm qs := by rw [← z1]; exact hst.perm.map _
        have sd : (ys.map (pairV H)).Pairwise (fun a b => lexI a b = true) := by
          rw [List.pairwise_map]
          refine hs.imp fun {a b} h => ?_
          have := SrtO.lexB_no.mp h
          unfold lexI
          rw [decide_eq_true_eq]
          omega
        have e : ys.map (pairV H) = sortP qs := sortP_uniq (pm.trans (sortP_perm qs).symm) sd (sortP_sorted qs)
        have rr := reps_pairs (T := tb X G) (M := M) (H := H) (vs := ys) fun v hv => z2 v (hst.perm.mem_iff.mp hv)
        rw [e] at rr
        exact P.mkL q rr p' hp
    · exact P.elim
  · exact P.elim
theorem c_sortedP {fz : Bool} {p : Pos} {as : AA} (hm : X.mg "sorted" = none) (ha : SA X G W [ea] as) (hg : Gl X "sorted" := by rfl) (he : starEach [ea] X.env = (false, eval ea X.env) :: starEach [] X.env := by rfl) : SE X G W (.Call (.Name "sorted" p) [ea] [] pos) (eA (on1 (sortedPD fz)) as) := s_callB cr_sortedPO f_sortedP hg hm (by decide +kernel) ha (by decide) (by decide) he (by rfl)
end
end Sm
end

section
set_option Elab.async false
set_option linter.all false
set_option maxRecDepth 100000
set_option maxHeartbeats 1000000
/-! Sim29: max(a tuple, default=d). -/
namespace Sm
open PySem PySem.Spec PyProof.Rows L2
def rMaxT (K : PySem.W.Frag) : List V → List V → Hp → VK → Prop := fun xs zs H Q => ∃ (a : Addr) (ns : List Int) (d : Int), xs = [V.ref a] ∧ zs = [.int d] ∧ SqT K H a (ns.map V.int) ∧ Q (.int (maxOr d ns)) H
section
variable {X : Cx} {G : Gh} {W : WX} {pos : Pos} {ea : Expr} {a : AE}
end
end Sm
end

section
set_option Elab.async false
set_option linter.all false
set_option maxRecDepth 100000
set_option maxHeartbeats 1000000
/-! Sim30: t[::-1] of a tuple. -/
namespace Sm
open PySem PySem.Spec PyProof.Rows L2
section
variable {prog : Program} {w : World} {A : Around} {E : Value → Shared → Prop} {s : Shared}
end
section
variable {X : Cx} {G : Gh} {W : WX} {ea : Expr} {a : AE}
def tRevT (K : PySem.W.Frag) (te : TE) : TE := fun σ H Q => te σ H fun x H1 => ∃ b xs, x = .ref b ∧ SqT K H1 b xs ∧ ∀ p, H1 p = none → Q (.ref p) (upd H1 p (.tup xs.reverse))
end
end Sm
end

section
set_option linter.all false
/-! Abs8: try with several clauses. -/
namespace Sm
abbrev Cl3 := List (String × Bool) × Nat × (Ex → AS)
def clsK : List Cl3 → Ex → Env → AH → R Fl
  | [], x, e, h => .ok (.ex x e) h
  | (tbl, i, su) :: r, x, e, h => match lookB x.cls tbl with
    | some true => R.chk (decide (i < e.length)) ((su x (e.set i none) h).bind (suK i))
    | some false => clsK r x e h
    | none => .no
def tryKs (cs : List Cl3) : Fl → AH → R Fl := fun f h1 => match f with
  | .ex x e1 => clsK cs x e1 h1
  | f => .ok f h1
/-- try: b, except .. as slot i: su, .. -/
def sTryMs (cs : List Cl3) (b : AS) : AS := fun e h => (b e h).bind (tryKs cs)
end Sm
end

section
set_option Elab.async false
set_option linter.all false
set_option maxRecDepth 100000
set_option maxHeartbeats 1000000
/-! Sim31: try with several clauses, each with a name. -/
namespace Sm
open PySem PySem.Spec PyProof.Rows L2 NdefX
/-- the error a of class cls lies before the clauses of X: sI is the state without it -/
structure Cau (X : Cx) (pins : List (Addr × Obj)) (σ : L2.St) (H : Hp) (a : Addr) (G : Heap) (cls : Value) (d : Option Addr) (sI s : Shared) : Prop where
  inv : Inv X pins σ H sI
  out : ∀ b o, sI.heap.get? b = some o → b ∉ frs X.stack → G.get? b = some o
  up : sI.heap.UpToSlots s.heap
  fly : HandSPX.FlyingZ G (X.env :: X.outer) a (Zc cls d) s.heap
  na : H a = none
  os : s.os = sI.os
  ag : AllBare s.gens
section
variable {X : Cx} {pins : List (Addr × Obj)} {σ : L2.St} {H : Hp} {a : Addr} {G : Heap} {cls : Value} {d : Option Addr} {sI s : Shared}
theorem Cau.here (c : Cau X pins σ H a G cls d sI s) : Inv X pins σ H s := c.inv.landed c.out c.fly.1 c.up c.os c.ag
theorem Cau.obj (c : Cau X pins σ H a G cls d sI s) (hf : X.env.frame = some X.env.locals) : ∃ o : Obj, s.heap.get? a = some o ∧ Zc cls d o ∧ (∃ vs, o.data = .fields vs) ∧ Inv (X.suite a ((a, o) :: (X.pn ++ pins))) [] σ H s := by
  obtain ⟨o, vs, g, z, dt⟩ := c.fly.there
  have out : ∀ e ∈ X.env :: X.outer, e.frame ≠ some a := fun e he q => by
    obtain ⟨_, o2, g2, nf⟩ := c.fly.2.2.1.mem (List.mem_filterMap.mpr ⟨e, he, q⟩)
    rw [g] at g2
    cases g2
    exact nf vs dt
  refine ⟨o, g, z, ⟨vs, dt⟩, c.here.suite g dt c.na (fun q => out X.env (by simp) (by rw [hf, q])) fun q => ?_⟩
  obtain ⟨e, he, q⟩ := List.mem_filterMap.mp q
  exact out e (by simp [he]) q
/-- no clause is left: it flies on -/
theorem Cau.on {W : WX} {D : Ends} (c : Cau X pins σ H a G cls d sI s) (hX : X.stack = X.env :: X.outer) (hf : X.env.frame = some X.env.locals) (tk : Takes X W) (w : W cls d σ H) : wpAny (model X.prog X.w) X.A (handleBy (.ref a) X.env []) (SP X pins D) X.xe s := by
  obtain ⟨_, _, _, o, vs, T, _, _, g, _, dt, v1, _⟩ := id c.fly
  have last : wpAny (model X.prog X.w) X.A (setFlight (.ref a) X.env.frame) (fun _ z => wpAny (model X.prog X.w) X.A (throw (.ref a) : Sem Flow) (SP X pins D) X.xe z) X.xe s := by
    rw [hf]
    exact HandSPX.setFlight_upZ c.fly fun hp held more => wpAny_throw (tk _ _ ⟨a, G, sI, pins, σ, H, cls, d, rfl, c.inv, c.out, c.up.trans more, .inr (.inr (hX ▸ held)), c.na, c.os, c.ag, w⟩)
  refine wpAny_handleBy_nil ?_
  unfold PySem.passOn
  refine wpAny_bind (wpAny_field g dt v1 ?_)
  rw [if_neg (by simp)]
  first
    | exact wpAny_bind last
    | exact wpAny_bind (wpAny_pure (wpAny_bind last))
/-- one clause -/
theorem Cau.clause {D : Ends} {x n : Str} {cv : Value} {i : Nat} {b₀ : Stmt} {suite : List Stmt} {np cp : Pos} {more : List ExceptHandler} {b : Bool} {ts : TS} (c : Cau X pins σ H a G cls d sI s) (hf : X.env.frame = some X.env.locals) (hN : X.N.Nodup) (hi : X.N[i]? = some n) (hl : X.env.kindOf n = some .local) (hc : Names X x cv)
    (hb : PySem.W.exmOne X.K cls cv = some b)
    (yes : b = true → (∀ (o : Obj) (pn : List (Addr × Obj)), Zc cls d o → (∃ vs, o.data = .fields vs) → PSs (X.suite a ((a, o) :: pn)) (b₀ :: suite) ts) ∧ ts { nx := fun σ2 H2 => D.nx (σ2.set i none) H2, rt := D.rt, bk := fun σ2 H2 => D.bk (σ2.set i none) H2, ct := fun σ2 H2 => D.ct (σ2.set i none) H2 } (σ.set i (some (.ref a))) H)
    (no : b = false → wpAny (model X.prog X.w) X.A (handleBy (.ref a) X.env more) (SP X pins D) X.xe s) : wpAny (model X.prog X.w) X.A (handleBy (.ref a) X.env (.ExceptHandler (some (.Name x np)) (some n) (b₀ :: suite) cp :: more)) (SP X pins D) X.xe s := by
  obtain ⟨o, g, z, _, S⟩ := c.obj hf
  have ty : PySem.W.Looks (model X.prog X.w) s.heap (typeOf (.ref a)) cls := fun _ _ _ _ k q => wpAny_typeOf_ref (k _ _ g) (by rw [z.1]; exact q)
  have mt := PySem.W.exm_one (M := model X.prog X.w) c.here.kIn ty hb
  have ask : ∀ {Q E : Value → Shared → Prop}, Q cv s → wpAny (model X.prog X.w) (X.A.mark (some (.ref a))) (eval (.Name x np) X.env) Q E s := fun {Q E} q => by
    obtain ⟨h1, h2, h3 | ⟨h3, h4, h5⟩⟩ := hc
    · exact ld_glob S h1 h3 q h2
    · exact ld_blt S h1 h3 h4 q h5 h2
  refine wpAny_handleBy_cons (codeAny_handlers_test (ask (mt.here ?_))) (by intro q; cases q)
  cases b with
  | false => exact no rfl
  | true =>
    obtain ⟨hs, ht⟩ := yes rfl
    refine codeAny_handlers_suite_as (HandSPX.lands_againZ c.fly fun hp fly more => ?_)
    have c2 : Cau X pins σ H a G cls d sI { s with heap := hp } := ⟨c.inv, c.out, c.up.trans more, fly, c.na, c.os, c.ag⟩
    obtain ⟨o2, g2, z2, f2, S2⟩ := c2.obj hf
    refine store_ok (v := .ref a) (X := X.suite a ((a, o2) :: (X.pn ++ pins))) S2 hN hi (.inl hl) rfl (fun s2 S3 => ?_) (.inr hl)
    refine wpAny_mono ((hs o2 (X.pn ++ pins) z2 f2).run [] s2 _ H _ S3 ht) (fun f s3 q => ?_) (fun _ _ z => False.elim z)
    have bye : ∀ {σ2 : L2.St} {H2 : Hp} {Q : Shared → Prop}, Inv (X.suite a ((a, o2) :: (X.pn ++ pins))) [] σ2 H2 s3 → (∀ s4, Inv X pins (σ2.set i none) H2 s4 → Q s4) → wpAny (model X.prog X.w) X.A (do bindName X.env n .none; unbindBehindTheSuite X.env n cp) (fun _ s4 => Q s4) X.xe s3 := fun {σ2 H2 Q} S4 hq => gone_ok (S4.unsuite c.inv.ok) hN hi hl hq
    cases f with
    | ret u =>
      obtain ⟨v, σ2, H2, S4, rv, q⟩ := q
      exact bye S4 fun _ J => ⟨v, _, _, J, rv, q⟩
    | next =>
      obtain ⟨σ2, H2, S4, q⟩ := q
      exact bye S4 fun _ J => ⟨_, H2, J, q⟩
    | brk =>
      obtain ⟨σ2, H2, S4, q⟩ := q
      exact bye S4 fun _ J => ⟨_, H2, J, q⟩
    | cont =>
      obtain ⟨σ2, H2, S4, q⟩ := q
      exact bye S4 fun _ J => ⟨_, H2, J, q⟩
end
/-- what lies before the clauses, as a wish of the body -/
def wLie (X : Cx) (hds : List ExceptHandler) (D : Ends) : WX := fun cls d σ H => ∀ (pins : List (Addr × Obj)) (a : Addr) (G : Heap) (sI s : Shared), Cau X pins σ H a G cls d sI s → wpAny (model X.prog X.w) X.A (handleBy (.ref a) X.env hds) (SP X pins D) X.xe s
section
variable {X : Cx} {W : WX} {pos : Pos}
/-- the clauses, one after the other -/
inductive Cls3 (X : Cx) : List ExceptHandler → List Cl3 → Prop
  | nil : Cls3 X [] []
  | cons {x n : Str} {cv : Value} {i : Nat} {b₀ : Stmt} {suite : List Stmt} {np cp : Pos} {tbl : List (String × Bool)} {su : Ex → AS} {hds : List ExceptHandler} {cs : List Cl3} (hi : X.N[i]? = some n) (hl : X.env.kindOf n = some .local) (hc : Names X x cv) (he : ExmT X cv tbl)
      (hsu : ∀ (a : Addr) (oe : Obj) (cls : Value) (d : Option Addr) (pn : List (Addr × Obj)) (x : Ex), Zc cls d oe → (∃ vs, oe.data = .fields vs) → SSs (X.suite a ((a, oe) :: pn)) (some ⟨i, a, cls, d, x⟩) WN (b₀ :: suite) (su x)) (r : Cls3 X hds cs) :
      Cls3 X (.ExceptHandler (some (.Name x np)) (some n) (b₀ :: suite) cp :: hds) ((tbl, i, su) :: cs)
end
end Sm
end

section
set_option linter.all false
/-! k06: plain computations (printed by gen2.py) -/
namespace Sm
/- never_ends: parents, field, place, _ -/
def b_never_ends : AS := sB [sSet 2 (eV 1),
  sFor (iR1 (eA (on1 lenD) (eL [eV 0]))) (gV 3) (sB [sIf (tB1 (e1 isNonD (eV 2))) (sB [sRet (eC (.bl false))]) (sB []),
    sSet 2 (e2 ixD (eV 0) (eV 2))]),
  sRet (e1 notNonD (eV 2))]
def F_never_ends : AF := fnT 2 4 b_never_ends
/- check_shape: parents, kinds, fields, field -/
def b_check_shape : AS := sB [sSet 2 (eA (on1 lenD) (eL [eV 0])),
  sIf (tOr (tB1 (e2 neD (eV 2) (eA (on1 lenD) (eL [eV 1])))) (tNot (tB1 (eChain leD leD (eC (.int 1)) (eV 2) (eC (.int 16)))))) (sB [sRaise "BadForest" ["field"] (eL [eC .non])]) (sB []),
  sFor (iR1 (eV 2)) (gV 3) (sB [sIf (tAnd (tB1 (e1 notNonD (e2 ixD (eV 0) (eV 3)))) (tNot (tB1 (eChain leD ltD (eC (.int 0)) (e2 ixD (eV 0) (eV 3)) (eV 2))))) (sB [sRaise "BadForest" ["field"] (eL [eV 3])]) (sB [])]),
  sFor (iR1 (eV 2)) (gV 3) (sB [sIf (tV (eA (F_never_ends) (eL [eV 0, eV 3]))) (sB [sRaise "BadForest" ["field"] (eL [eV 3])]) (sB [])]),
  sFor (iR1 (eV 2)) (gV 3) (sB [sIf (tAnd (tB1 (e2 inD (e2 ixD (eV 1) (eV 3)) (eTup (eL [eC (.str [102, 105, 114, 115, 116]), eC (.str [108, 97, 115, 116])])))) (tB1 (e2 inD (eV 3) (eV 0)))) (sB [sRaise "BadForest" ["field"] (eL [eV 3])]) (sB [])])]
def F_check_shape : AF := fnT 2 4 b_check_shape
/- Forest.__init__: self, parents, kinds -/
def b_Forest_init : AS := sB [sE (eA (F_check_shape) (eL [eV 1, eV 2])),
  sFldS (setFldD ["Forest"] "fields") (eV 0) (eA (on1 lenD) (eL [eV 1])),
  sFldS (setFldD ["Forest"] "parents") (eV 0) (eA (on1 tupD) (eL [eV 1])),
  sFldS (setFldD ["Forest"] "kinds") (eV 0) (eA (on1 tupD) (eL [eV 2]))]
def F_Forest_init : AF := fnT 3 3 b_Forest_init
/- _law_exchanged: _law_kinds_here, _law_one, _law_other, _law_kind -/
def b_q_exchanged : AS := sB [sRet (eLC true [3] (iS (eV 0)) (gV 3) (tYes) (eGet2 (eDisp true [(eV 1, eV 2), (eV 2, eV 1)]) (eV 3) (eV 3)))]
def F_q_exchanged : AF := fnT 3 4 b_q_exchanged
/- path_of: parents, field, path -/
def b_path_of : AS := sB [sSet 2 (eLst false (eL [eV 1])),
  sWhile (tB1 (e1 notNonD (e2 ixD (eV 0) (e2 ixD (eV 2) (e1 negD (eC (.int 1))))))) (sB [sE (eM isLst (mt1 appendD) (eV 2) (eL [e2 ixD (eV 0) (e2 ixD (eV 2) (e1 negD (eC (.int 1))))]))]),
  sRet (eA (on1 tupD) (eL [e1 (revD true) (eV 2)]))]
def F_path_of : AF := fnT 2 3 b_path_of
/- Forest.beneath: self, field, reached, place -/
def b_Forest_beneath : AS := sB [sSet 2 (eLC true [3] (iR1 (e1 (fldD ["Forest"] "fields") (eV 0))) (gV 3) (tB1 (e2 inD (eV 1) (eA (F_path_of) (eL [e1 (fldD ["Forest"] "parents") (eV 0), eV 3])))) (eV 3)),
  sRet (eA (on1 tupD) (eL [eLC true [3] (iS (eV 2)) (gV 3) (tB1 (e2 neD (eV 3) (eV 1))) (eV 3)]))]
def F_Forest_beneath : AF := fnT 2 4 b_Forest_beneath
/- Forest.children: self, field, child -/
def b_Forest_children : AS := sB [sRet (eA (on1 tupD) (eL [eLC true [2] (iR1 (e1 (fldD ["Forest"] "fields") (eV 0))) (gV 2) (tB1 (e2 eqD (e2 ixD (e1 (fldD ["Forest"] "parents") (eV 0)) (eV 2)) (eV 1))) (eV 2)]))]
def F_Forest_children : AF := fnT 2 3 b_Forest_children
/- Forest.fair: self -/
def b_Forest_fair : AS := sB [sRet (eAnd (e2 notInD (eC (.str [102, 105, 114, 115, 116])) (e1 (fldD ["Forest"] "kinds") (eV 0))) (e2 notInD (eC (.str [108, 97, 115, 116])) (e1 (fldD ["Forest"] "kinds") (eV 0))))]
def F_Forest_fair : AF := fnT 1 1 b_Forest_fair
/- Forest.leaves: self, field -/
def b_Forest_leaves : AS := sB [sRet (eA (on1 tupD) (eL [eLC true [1] (iR1 (eA (on1 lenD) (eL [e1 (fldD ["Forest"] "parents") (eV 0)]))) (gV 1) (tB1 (e2 notInD (eV 1) (e1 (fldD ["Forest"] "parents") (eV 0)))) (eV 1)]))]
def F_Forest_leaves : AF := fnT 1 2 b_Forest_leaves
/- Forest.path: self, field -/
def b_Forest_path : AS := sB [sRet (eA (F_path_of) (eL [e1 (fldD ["Forest"] "parents") (eV 0), eV 1]))]
def F_Forest_path : AF := fnT 2 2 b_Forest_path
/- Forest.roots: self, field -/
def b_Forest_roots : AS := sB [sRet (eA (on1 tupD) (eL [eLC true [1] (iR1 (eA (on1 lenD) (eL [e1 (fldD ["Forest"] "parents") (eV 0)]))) (gV 1) (tB1 (e1 isNonD (e2 ixD (e1 (fldD ["Forest"] "parents") (eV 0)) (eV 1)))) (eV 1)]))]
def F_Forest_roots : AF := fnT 1 2 b_Forest_roots
/- Forest.word: self, field, place -/
def b_Forest_word : AS := sB [sRet (eA (on1 tupD) (eL [eLC true [2] (iS (eA (F_path_of) (eL [e1 (fldD ["Forest"] "parents") (eV 0), eV 1]))) (gV 2) (tYes) (eTup (eL [eV 2, e2 ixD (e1 (fldD ["Forest"] "kinds") (eV 0)) (eV 2)]))]))]
def F_Forest_word : AF := fnT 2 3 b_Forest_word
/- _law_path: _law_parents_here, _law_field, _law_path_here, _law_k -/
def b_q_path : AS := sB [sSet 2 (eLst false (eL [eV 1])),
  sFor (iR1 (eA (on1 lenD) (eL [eV 0]))) (gV 3) (sB [sIf (tB1 (e1 notNonD (e2 ixD (eV 0) (e2 ixD (eV 2) (eC (.int 0)))))) (sB [sE (eM isLst (mt2 insertD) (eV 2) (eL [eC (.int 0), e2 ixD (eV 0) (e2 ixD (eV 2) (eC (.int 0)))]))]) (sB [])]),
  sRet (eV 2)]
def F_q_path : AF := fnT 2 4 b_q_path
/- _law_is_integer: _law_actual -/
def b_q_is_integer : AS := sB [sRet (eAnd (e1 (isTy "int") (eV 0)) (e1 notD (e1 (isTy "bool") (eV 0))))]
def F_q_is_integer : AF := fnT 1 1 b_q_is_integer
/- _law_same: _law_actual, _law_expected, _law_k -/
def b_q_same : AS := sB [sIf (tOr (tNot (tV (e1 (isTy "tuple") (eV 0)))) (tB1 (e2 neD (eA (on1 lenD) (eL [eV 0])) (eA (on1 lenD) (eL [eV 1]))))) (sB [sRet (eC (.bl false))]) (sB []),
  sFor (iR1 (eA (on1 lenD) (eL [eV 1]))) (gV 2) (sB [sIf (tB1 (e1 isNonD (e2 ixD (eV 1) (eV 2)))) (sB [sIf (tB1 (e1 notNonD (e2 ixD (eV 0) (eV 2)))) (sB [sRet (eC (.bl false))]) (sB [])]) (sB [sIf (tOr (tNot (tV (eA (F_q_is_integer) (eL [e2 ixD (eV 0) (eV 2)])))) (tB1 (e2 neD (e2 ixD (eV 0) (eV 2)) (e2 ixD (eV 1) (eV 2))))) (sB [sRet (eC (.bl false))]) (sB [])])]),
  sRet (eC (.bl true))]
def F_q_same : AF := fnT 2 3 b_q_same
/- _law_same_word: _law_actual, _law_expected, _law_k, _law_step -/
def b_q_same_word : AS := sB [sIf (tOr (tNot (tV (e1 (isTy "tuple") (eV 0)))) (tB1 (e2 neD (eA (on1 lenD) (eL [eV 0])) (eA (on1 lenD) (eL [eV 1]))))) (sB [sRet (eC (.bl false))]) (sB []),
  sFor (iR1 (eA (on1 lenD) (eL [eV 1]))) (gV 2) (sB [sSet 3 (e2 ixD (eV 0) (eV 2)),
    sIf (tOr (tNot (tV (e1 (isTy "tuple") (eV 3)))) (tOr (tB1 (e2 neD (eA (on1 lenD) (eL [eV 3])) (eC (.int 2)))) (tNot (tV (e1 (isTy "str") (e2 ixD (eV 3) (eC (.int 1)))))))) (sB [sRet (eC (.bl false))]) (sB []),
    sIf (tOr (tNot (tV (eA (F_q_is_integer) (eL [e2 ixD (eV 3) (eC (.int 0))])))) (tB1 (e2 neD (eV 3) (e2 ixD (eV 1) (eV 2))))) (sB [sRet (eC (.bl false))]) (sB [])]),
  sRet (eC (.bl true))]
def F_q_same_word : AF := fnT 2 4 b_q_same_word
/- _law_texts: _law_actual, _law_expected, _law_k -/
def b_q_texts : AS := sB [sIf (tOr (tNot (tV (e1 (isTy "tuple") (eV 0)))) (tB1 (e2 neD (eA (on1 lenD) (eL [eV 0])) (eA (on1 lenD) (eL [eV 1]))))) (sB [sRet (eC (.bl false))]) (sB []),
  sFor (iR1 (eA (on1 lenD) (eL [eV 1]))) (gV 2) (sB [sIf (tOr (tNot (tV (e1 (isTy "str") (e2 ixD (eV 0) (eV 2))))) (tB1 (e2 neD (e2 ixD (eV 0) (eV 2)) (e2 ixD (eV 1) (eV 2))))) (sB [sRet (eC (.bl false))]) (sB [])]),
  sRet (eC (.bl true))]
def F_q_texts : AF := fnT 2 3 b_q_texts
/- _law_shown: _law_forest, _law_parents_here, _law_kinds_here -/
def b_q_shown : AS := sB [sIf (tOr (tNot (tV (eA (F_q_is_integer) (eL [e1 (fldD ["Forest"] "fields") (eV 0)])))) (tB1 (e2 neD (e1 (fldD ["Forest"] "fields") (eV 0)) (eA (on1 lenD) (eL [eV 1]))))) (sB [sRet (eC (.bl false))]) (sB []),
  sRet (eAnd (eA (F_q_same) (eL [e1 (fldD ["Forest"] "parents") (eV 0), eV 1])) (eA (F_q_texts) (eL [e1 (fldD ["Forest"] "kinds") (eV 0), eV 2])))]
def F_q_shown : AF := fnT 3 3 b_q_shown
/- _law_word: _law_parents_here, _law_kinds_here, _law_field, _law_place -/
def b_q_word : AS := sB [sRet (eA (on1 tupD) (eL [eLC true [3] (iS (eA (F_q_path) (eL [eV 0, eV 2]))) (gV 3) (tYes) (eTup (eL [eV 3, e2 ixD (eV 1) (eV 3)]))]))]
def F_q_word : AF := fnT 3 4 b_q_word
/- _law_fits: _law_forest, _law_parents_here, _law_kinds_here, _law_n, _law_roots, _law_field, _law_fair, _law_paths, _law_other, _law_under -/
def b_q_fits : AS := sB [sSet 3 (eA (on1 lenD) (eL [eV 1])),
  sIf (tNot (tV (eA (F_q_shown) (eL [eV 0, eV 1, eV 2])))) (sB [sRet (eC (.bl false))]) (sB []),
  sSet 4 (eLC true [5] (iR1 (eV 3)) (gV 5) (tB1 (e1 isNonD (e2 ixD (eV 1) (eV 5)))) (eV 5)),
  sSet 6 (eAnd (e2 notInD (eC (.str [102, 105, 114, 115, 116])) (eV 2)) (e2 notInD (eC (.str [108, 97, 115, 116])) (eV 2))),
  sIf (tOr (tNot (tV (eA (F_q_same) (eL [ePrp [("Forest", F_Forest_roots)] (eV 0), eV 4])))) (tNot (tV (eA (F_q_same) (eL [eMth [("Forest", F_Forest_children)] "children" (eV 0) (eL [eC .non]), eV 4]))))) (sB [sRet (eC (.bl false))]) (sB []),
  sIf (tNot (tV (eA (F_q_same) (eL [ePrp [("Forest", F_Forest_leaves)] (eV 0), eLC true [5] (iR1 (eV 3)) (gV 5) (tB1 (e2 notInD (eV 5) (eV 1))) (eV 5)])))) (sB [sRet (eC (.bl false))]) (sB []),
  sIf (tOr (tNot (tV (e1 (isTy "bool") (ePrp [("Forest", F_Forest_fair)] (eV 0))))) (tB1 (e2 neD (ePrp [("Forest", F_Forest_fair)] (eV 0)) (eV 6)))) (sB [sRet (eC (.bl false))]) (sB []),
  sSet 7 (eLC true [5] (iR1 (eV 3)) (gV 5) (tYes) (eA (F_q_path) (eL [eV 1, eV 5]))),
  sFor (iR1 (eV 3)) (gV 5) (sB [sIf (tNot (tV (eA (F_q_same) (eL [eMth [("Forest", F_Forest_path)] "path" (eV 0) (eL [eV 5]), e2 ixD (eV 7) (eV 5)])))) (sB [sRet (eC (.bl false))]) (sB []),
    sIf (tNot (tV (eA (F_q_same_word) (eL [eMth [("Forest", F_Forest_word)] "word" (eV 0) (eL [eV 5]), eA (F_q_word) (eL [eV 1, eV 2, eV 5])])))) (sB [sRet (eC (.bl false))]) (sB []),
    sIf (tNot (tV (eA (F_q_same) (eL [eMth [("Forest", F_Forest_children)] "children" (eV 0) (eL [eV 5]), eLC true [8] (iR1 (eV 3)) (gV 8) (tB1 (e2 eqD (e2 ixD (eV 1) (eV 8)) (eV 5))) (eV 8)])))) (sB [sRet (eC (.bl false))]) (sB []),
    sSet 9 (eLC true [8] (iR1 (eV 3)) (gV 8) (tAnd (tB1 (e2 neD (eV 8) (eV 5))) (tB1 (e2 inD (eV 5) (e2 ixD (eV 7) (eV 8))))) (eV 8)),
    sIf (tNot (tV (eA (F_q_same) (eL [eMth [("Forest", F_Forest_beneath)] "beneath" (eV 0) (eL [eV 5]), eV 9])))) (sB [sRet (eC (.bl false))]) (sB [])]),
  sRet (eC (.bl true))]
def F_q_fits : AF := fnT 3 10 b_q_fits
/- _law_take: _law_tape_here, _law_size, _law_cell, _law_k, _law_mixed -/
def b_q_take : AS := sB [sSet 2 (e2 ixD (eV 0) (eC (.int 0))),
  sSub setIxD (eV 0) (eC (.int 1)) (e2 (addD true) (e2 ixD (eV 0) (eC (.int 1))) (eC (.int 1))),
  sSet 3 (e2 ixD (eV 0) (eC (.int 1))),
  sIf (tB1 (e2 geD (eV 2) (e2 powD (eC (.int 10)) (eC (.int 18))))) (sB [sSub setIxD (eV 0) (eC (.int 0)) (e2 fdivD (eV 2) (eV 1)),
    sRet (e2 modD (eA (on1 intD) (eL [eV 2])) (eV 1))]) (sB []),
  sSet 4 (e2 modD (eA (on1 intD) (eL [e2 (addD true) (e2 (addD true) (eV 2) (e2 (mulD true) (eC (.int 7919)) (eV 3))) (eC (.int 13))])) (eC (.int 2147483647))),
  sSet 4 (e2 modD (eA (on1 intD) (eL [e2 (mulD true) (eV 4) (e2 (addD true) (eV 4) (eC (.int 48271)))])) (eC (.int 2147483629))),
  sSet 4 (e2 modD (eA (on1 intD) (eL [e2 (addD true) (e2 (mulD true) (eV 4) (e2 (addD true) (eV 4) (eC (.int 69621)))) (e2 (mulD true) (eC (.int 31)) (eV 3))])) (eC (.int 2147483647))),
  sRet (e2 modD (eA (on1 intD) (eL [e2 fdivD (eV 4) (eC (.int 9))])) (eV 1))]
def F_q_take : AF := fnT 2 5 b_q_take
/- _law_kinds: _law_tape_here, _law_parents_here, _law_fair, _law_kinds_here, _law_field, _law_pick -/
def b_q_kinds : AS := sB [sSet 3 (eLst false (eL [])),
  sFor (iR1 (eA (on1 lenD) (eL [eV 1]))) (gV 4) (sB [sSet 5 (eA (F_q_take) (eL [eV 0, eC (.int 4)])),
    sIf (tOr (tV (eV 2)) (tB1 (e2 inD (eV 4) (eV 1)))) (sB [sSet 5 (e2 modD (eA (on1 intD) (eL [eV 5])) (eC (.int 2)))]) (sB []),
    sE (eM isLst (mt1 appendD) (eV 3) (eL [e2 ixD (eLst true (eL [eC (.str [117, 112]), eC (.str [100, 111, 119, 110]), eC (.str [102, 105, 114, 115, 116]), eC (.str [108, 97, 115, 116])])) (eV 5)]))]),
  sRet (eV 3)]
def F_q_kinds : AF := fnT 3 6 b_q_kinds
/- _law_turns: _law_tape_here, _law_n, _law_left, _law_turns_here, _law_k -/
def b_q_turns : AS := sB [sSet 2 (eLR false false (eC (.int 0)) (eV 1)),
  sSet 3 (eLst false (eL [])),
  sFor (iR1 (eV 1)) (gV 4) (sB [sE (eM isLst (mt1 appendD) (eV 3) (eL [eM isLst (mt1 popAtD) (eV 2) (eL [eA (F_q_take) (eL [eV 0, eA (on1 lenD) (eL [eV 2])])])]))]),
  sRet (eV 3)]
def F_q_turns : AF := fnT 2 5 b_q_turns
/- _law_parents: _law_tape_here, _law_n, _law_turns_here, _law_bend, _law_parents_here, _law_k, _law_pick -/
def b_q_parents : AS := sB [sSet 2 (eA (F_q_turns) (eL [eV 0, eV 1])),
  sSet 3 (eA (F_q_take) (eL [eV 0, eC (.int 4)])),
  sSet 4 (eLC false [5] (iR1 (eV 1)) (gV 5) (tYes) (eC .non)),
  sFor (iR2 (eC (.int 1)) (eV 1)) (gV 5) (sB [sSet 6 (eA (F_q_take) (eL [eV 0, e2 (addD true) (eV 5) (eC (.int 1))])),
    sIf (tB1 (e2 eqD (eV 3) (eC (.int 0)))) (sB [sSet 6 (eV 5)]) (sB []),
    sIf (tB1 (e2 eqD (eV 3) (eC (.int 1)))) (sB [sSet 6 (eC (.int 0))]) (sB []),
    sIf (tB1 (e2 gtD (eV 6) (eC (.int 0)))) (sB [sSub setIxD (eV 4) (e2 ixD (eV 2) (eV 5)) (e2 ixD (eV 2) (e2 subD (eV 6) (eC (.int 1))))]) (sB [])]),
  sRet (eV 4)]
def F_q_parents : AF := fnT 2 7 b_q_parents
/- _law_tape: _law_script, _law_k -/
def b_q_tape : AS := sB [sIf (tB1 (e2 ltD (eV 1) (eA (on1 lenD) (eL [eV 0])))) (sB [sRet (eLst false (eL [eA (on1 absD) (eL [e2 ixD (eV 0) (eV 1)]), eC (.int 0)]))]) (sB []),
  sRet (eLst false (eL [eV 1, eC (.int 0)]))]
def F_q_tape : AF := fnK 2 2 b_q_tape
/- swapped: kind, one, other -/
def b_swapped : AS := sB [sIf (tB1 (e2 eqD (eV 0) (eV 1))) (sB [sRet (eV 2)]) (sB []),
  sIf (tB1 (e2 eqD (eV 0) (eV 2))) (sB [sRet (eV 1)]) (sB []),
  sRet (eV 0)]
def F_swapped : AF := fnT 3 3 b_swapped
/- mirror_forest: forest, kind -/
def b_mirror_forest : AS := sB [sRet (eA (mkI "Forest" true (F_Forest_init)) (eL [e1 (fldD ["Forest"] "parents") (eV 0), eLC true [1] (iS (e1 (fldD ["Forest"] "kinds") (eV 0))) (gV 1) (tYes) (eA (F_swapped) (eL [eV 1, eC (.str [102, 105, 114, 115, 116]), eC (.str [108, 97, 115, 116])]))]))]
def F_mirror_forest : AF := fnT 1 2 b_mirror_forest
/- turned_forest: forest, kind -/
def b_turned_forest : AS := sB [sRet (eA (mkI "Forest" true (F_Forest_init)) (eL [e1 (fldD ["Forest"] "parents") (eV 0), eLC true [1] (iS (e1 (fldD ["Forest"] "kinds") (eV 0))) (gV 1) (tYes) (eA (F_swapped) (eL [eV 1, eC (.str [117, 112]), eC (.str [100, 111, 119, 110])]))]))]
def F_turned_forest : AF := fnT 1 2 b_turned_forest
/- law: _law_script, _law_shapes, _law_forests, _law_k, _law_sizes, _law_most, _law_n, _law_parents_here, _law_kinds_here, _law_given, _law_row -/
def b_law_k06 : AS := sB [sSet 1 (eLst false (eL [])),
  sSet 2 (eLst false (eL [])),
  sFor (iR1 (eC (.int 2))) (gV 3) (sB [sSet 4 (eA (F_q_tape) (eL [eV 0, e2 (mulD true) (eC (.int 2)) (eV 3)])),
    sSet 5 (e2 ixD (eLst true (eL [eC (.int 16), eC (.int 8)])) (eV 3)),
    sSet 6 (e2 subD (eV 5) (eA (F_q_take) (eL [eV 4, eV 5]))),
    sSet 7 (eA (F_q_parents) (eL [eV 4, eV 6])),
    sSet 8 (eA (F_q_kinds) (eL [eA (F_q_tape) (eL [eV 0, e2 (addD true) (e2 (mulD true) (eC (.int 2)) (eV 3)) (eC (.int 1))]), eV 7, e2 eqD (eA (F_q_take) (eL [eV 4, eC (.int 3)])) (eC (.int 0))])),
    sSet 9 (eLst false (eL [eA (on1 (listD false)) (eL [eV 7]), eA (on1 (listD false)) (eL [eV 8])])),
    sE (eM isLst (mt1 appendD) (eV 2) (eL [eA (mkI "Forest" true (F_Forest_init)) (eL [e2 ixD (eV 9) (eC (.int 0)), e2 ixD (eV 9) (eC (.int 1))])])),
    sIf (tB1 (e2 neD (eV 9) (eLst true (eL [eV 7, eV 8])))) (sB [sRet (eC (.bl false))]) (sB []),
    sFor (iS (eV 9)) (gV 10) (sB [sE (eM isLst (mt1 appendD) (eV 10) (eL [e2 ixD (eV 10) (eC (.int 0))])),
      sSub setIxD (eV 10) (eC (.int 0)) (eC (.str [108, 97, 115, 116]))]),
    sE (eM isLst (mt1 appendD) (eV 1) (eL [eLst true (eL [eV 7, eV 8])]))]),
  sFor (iR1 (eC (.int 2))) (gV 3) (sB [sSet 7 (e2 ixD (e2 ixD (eV 1) (eV 3)) (eC (.int 0))),
    sSet 8 (e2 ixD (e2 ixD (eV 1) (eV 3)) (eC (.int 1))),
    sIf (tNot (tV (eA (F_q_fits) (eL [e2 ixD (eV 2) (eV 3), eV 7, eV 8])))) (sB [sRet (eC (.bl false))]) (sB []),
    sIf (tNot (tV (eA (F_q_fits) (eL [eA (F_turned_forest) (eL [e2 ixD (eV 2) (eV 3)]), eV 7, eA (F_q_exchanged) (eL [eV 8, eC (.str [117, 112]), eC (.str [100, 111, 119, 110])])])))) (sB [sRet (eC (.bl false))]) (sB []),
    sIf (tNot (tV (eA (F_q_fits) (eL [eA (F_mirror_forest) (eL [e2 ixD (eV 2) (eV 3)]), eV 7, eA (F_q_exchanged) (eL [eV 8, eC (.str [102, 105, 114, 115, 116]), eC (.str [108, 97, 115, 116])])])))) (sB [sRet (eC (.bl false))]) (sB [])]),
  sFor (iR1 (eC (.int 2))) (gV 3) (sB [sIf (tNot (tV (eA (F_q_fits) (eL [e2 ixD (eV 2) (eV 3), e2 ixD (e2 ixD (eV 1) (eV 3)) (eC (.int 0)), e2 ixD (e2 ixD (eV 1) (eV 3)) (eC (.int 1))])))) (sB [sRet (eC (.bl false))]) (sB [])]),
  sRet (eC (.bl true))]
def F_law_k06 : AF := fnT 1 11 b_law_k06
end Sm
end

section
set_option linter.all false
/-! k19: plain computations (printed by gen2.py) -/
namespace Sm
/- _law_healed: _law_question_here, _law_parents_here, _law_n, _law_held, _law_letter, _law_field, _law_place -/
def b_q_healed : AS := sB [sSet 2 (eA (on1 lenD) (eL [eV 1])),
  sSet 3 (eSl true (e2 (addD true) (e2 ixD (eV 0) (eC (.int 0))) (eTup (eL [eC (.int 0)]))) (oN) (oS (eV 2))),
  sSet 4 (eA (on1 (listD false)) (eL [eSl true (e2 (addD true) (e2 ixD (eV 0) (eC (.int 1))) (eTup (eL [eC .non]))) (oN) (oS (eV 2))])),
  sFor (iR1 (eV 2)) (gV 5) (sB [sIf (tB1 (e2 neD (eLC true [6] (iS (eA (F_q_path) (eL [eV 1, eV 5]))) (gV 6) (tB1 (e1 isNonD (e2 ixD (eV 4) (eV 6)))) (eV 6)) (eLst true (eL [])))) (sB [sSub setIxD (eV 4) (eV 5) (eC .non)]) (sB [])]),
  sRet (eLst true (eL [eV 3, eA (on1 tupD) (eL [eV 4])]))]
def F_q_healed : AF := fnT 2 7 b_q_healed
/- check_closed: forest, letter, field, parent -/
def b_check_closed : AS := sB [sFor (iR1 (e1 (fldD ["Forest"] "fields") (eV 0))) (gV 2) (sB [sSet 3 (e2 ixD (e1 (fldD ["Forest"] "parents") (eV 0)) (eV 2)),
    sIf (tAnd (tB1 (e1 notNonD (e2 ixD (eV 1) (eV 2)))) (tAnd (tB1 (e1 notNonD (eV 3))) (tB1 (e1 isNonD (e2 ixD (eV 1) (eV 3)))))) (sB [sRaise "BadLetter" ["field"] (eL [eV 2])]) (sB [])])]
def F_check_closed : AF := fnT 2 4 b_check_closed
/- check_fair: forest, field -/
def b_check_fair : AS := sB [sFor (iR1 (e1 (fldD ["Forest"] "fields") (eV 0))) (gV 1) (sB [sIf (tB1 (e2 inD (e2 ixD (e1 (fldD ["Forest"] "kinds") (eV 0)) (eV 1)) (eTup (eL [eC (.str [102, 105, 114, 115, 116]), eC (.str [108, 97, 115, 116])])))) (sB [sRaise "NotFair" ["field"] (eL [eV 1])]) (sB [])])]
def F_check_fair : AF := fnT 1 2 b_check_fair
/- check_record: fields, record -/
def b_check_record : AS := sB [sIf (tB1 (e2 neD (eA (on1 lenD) (eL [eV 1])) (eV 0))) (sB [sRaise "BadRecord" ["record"] (eL [eV 1])]) (sB [])]
def F_check_record : AF := fnT 2 2 b_check_record
/- check_two: forest, first, second -/
def b_check_two : AS := sB [sE (eA (F_check_fair) (eL [eV 0])),
  sE (eA (F_check_record) (eL [e1 (fldD ["Forest"] "fields") (eV 0), eV 1])),
  sE (eA (F_check_record) (eL [e1 (fldD ["Forest"] "fields") (eV 0), eV 2]))]
def F_check_two : AF := fnT 3 3 b_check_two
/- better: kind, value, other -/
def b_better : AS := sB [sIf (tB1 (e2 eqD (eV 0) (eC (.str [117, 112])))) (sB [sRet (e2 gtD (eV 1) (eV 2))]) (sB []),
  sIf (tB1 (e2 eqD (eV 0) (eC (.str [100, 111, 119, 110])))) (sB [sRet (e2 ltD (eV 1) (eV 2))]) (sB []),
  sRet (eC (.bl false))]
def F_better : AF := fnT 3 3 b_better
/- first_unlike_on: path, first, second, field -/
def b_first_unlike_on : AS := sB [sFor (iS (eV 0)) (gV 3) (sB [sIf (tB1 (e2 neD (e2 ixD (eV 1) (eV 3)) (e2 ixD (eV 2) (eV 3)))) (sB [sRet (eV 3)]) (sB [])]),
  sRet (eC .non)]
def F_first_unlike_on : AF := fnT 3 4 b_first_unlike_on
/- wins: forest, field, record, other, place -/
def b_wins : AS := sB [sSet 4 (eA (F_first_unlike_on) (eL [eA (F_path_of) (eL [e1 (fldD ["Forest"] "parents") (eV 0), eV 1]), eV 2, eV 3])),
  sRet (eAnd (e1 notNonD (eV 4)) (eA (F_better) (eL [e2 ixD (e1 (fldD ["Forest"] "kinds") (eV 0)) (eV 4), e2 ixD (eV 2) (eV 4), e2 ixD (eV 3) (eV 4)])))]
def F_wins : AF := fnT 4 5 b_wins
/- receive: forest, copy, letter, result, field -/
def b_receive : AS := sB [sE (eA (F_check_two) (eL [eV 0, eV 1, eV 2])),
  sE (eA (F_check_closed) (eL [eV 0, eV 2])),
  sSet 3 (eA (on1 (listD false)) (eL [eV 1])),
  sFor (iR1 (e1 (fldD ["Forest"] "fields") (eV 0))) (gV 4) (sB [sIf (tAnd (tB1 (e1 notNonD (e2 ixD (eV 2) (eV 4)))) (tV (eA (F_wins) (eL [eV 0, eV 4, eV 2, eV 1])))) (sB [sSub setIxD (eV 3) (eV 4) (e2 ixD (eV 2) (eV 4))]) (sB [])]),
  sRet (eA (on1 tupD) (eL [eV 3]))]
def F_receive : AF := fnT 3 5 b_receive
/- _law_ask: _law_forest, _law_held, _law_letter, _law_found, e -/
def b_q_ask : AS := sB [sSet 3 (eLst false (eL [])),
  sTryAs [("BadRecord", true), ("BadTree", true), ("BadForest", true), ("NotFair", true), ("CannotLand", true), ("Overlap", true), ("BadLetter", true), ("BadAnswer", true), ("FieldsDiffer", true), ("HangsOn", true), ("BadPlace", true)] 4 (sB [sRet (eLst true (eL [eA (F_receive) (eL [eV 0, eV 1, eV 2])]))]) (fun x => sB [sIf (tOr (tNot (tV (eXis x [("BadRecord", true), ("BadTree", true), ("BadForest", true), ("NotFair", true), ("CannotLand", true), ("Overlap", true), ("BadLetter", true), ("BadAnswer", true), ("FieldsDiffer", true), ("HangsOn", true), ("BadPlace", true)]))) (tOr (tV (eXis x [("BadRecord", false), ("BadTree", false), ("BadForest", false), ("NotFair", false), ("CannotLand", false), ("Overlap", false), ("BadLetter", false), ("BadAnswer", false), ("FieldsDiffer", false), ("HangsOn", false), ("BadPlace", true)])) (tV (eXis x [("BadRecord", false), ("BadTree", false), ("BadForest", true), ("NotFair", false), ("CannotLand", false), ("Overlap", false), ("BadLetter", false), ("BadAnswer", false), ("FieldsDiffer", false), ("HangsOn", false), ("BadPlace", false)])))) (sB [sE (eM isLst (mt1 appendD) (eV 3) (eL [eTup (eL [eC (.str [97, 110, 111, 116, 104, 101, 114, 32, 99, 108, 97, 115, 115]), eC (.int 0)])]))]) (sB []),
    sIf (tV (eXis x [("BadRecord", false), ("BadTree", true), ("BadForest", false), ("NotFair", false), ("CannotLand", true), ("Overlap", true), ("BadLetter", false), ("BadAnswer", true), ("FieldsDiffer", true), ("HangsOn", true), ("BadPlace", false)])) (sB [sE (eM isLst (mt1 appendD) (eV 3) (eL [eTup (eL [eC (.str [97, 110, 111, 116, 104, 101, 114, 32, 99, 108, 97, 115, 115]), eC (.int 0)])]))]) (sB []),
    sIf (tV (eXis x [("BadRecord", false), ("BadTree", false), ("BadForest", false), ("NotFair", true), ("CannotLand", false), ("Overlap", false), ("BadLetter", false), ("BadAnswer", false), ("FieldsDiffer", false), ("HangsOn", false), ("BadPlace", false)])) (sB [sE (eM isLst (mt1 appendD) (eV 3) (eL [eTup (eL [eC (.str [78, 111, 116, 70, 97, 105, 114]), eXf ["BadTree", "BadForest", "NotFair", "CannotLand", "Overlap", "BadLetter", "BadAnswer"] x "field"])]))]) (sB []),
    sIf (tV (eXis x [("BadRecord", true), ("BadTree", false), ("BadForest", false), ("NotFair", false), ("CannotLand", false), ("Overlap", false), ("BadLetter", false), ("BadAnswer", false), ("FieldsDiffer", false), ("HangsOn", false), ("BadPlace", false)])) (sB [sE (eM isLst (mt1 appendD) (eV 3) (eL [eTup (eL [eC (.str [66, 97, 100, 82, 101, 99, 111, 114, 100]), eXf ["BadRecord"] x "record"])]))]) (sB []),
    sIf (tV (eXis x [("BadRecord", false), ("BadTree", false), ("BadForest", false), ("NotFair", false), ("CannotLand", false), ("Overlap", false), ("BadLetter", true), ("BadAnswer", false), ("FieldsDiffer", false), ("HangsOn", false), ("BadPlace", false)])) (sB [sE (eM isLst (mt1 appendD) (eV 3) (eL [eTup (eL [eC (.str [66, 97, 100, 76, 101, 116, 116, 101, 114]), eXf ["BadTree", "BadForest", "NotFair", "CannotLand", "Overlap", "BadLetter", "BadAnswer"] x "field"])]))]) (sB [])]),
  sRet (eA (on1 tupD) (eL [eV 3]))]
def F_q_ask : AF := fnT 3 5 b_q_ask
/- _law_is_record: _law_actual, _law_n, _law_value_here -/
def b_q_is_record : AS := sB [sIf (tOr (tNot (tV (e1 (isTy "tuple") (eV 0)))) (tB1 (e2 neD (eA (on1 lenD) (eL [eV 0])) (eV 1)))) (sB [sRet (eC (.bl false))]) (sB []),
  sFor (iS (eV 0)) (gV 2) (sB [sIf (tNot (tV (eA (F_q_is_integer) (eL [eV 2])))) (sB [sRet (eC (.bl false))]) (sB [])]),
  sRet (eC (.bl true))]
def F_q_is_record : AF := fnT 2 3 b_q_is_record
/- _law_is_letter: _law_actual, _law_expected, _law_k -/
def b_q_is_letter : AS := sB [sIf (tOr (tNot (tV (e1 (isTy "tuple") (eV 0)))) (tB1 (e2 neD (eA (on1 lenD) (eL [eV 0])) (eA (on1 lenD) (eL [eV 1]))))) (sB [sRet (eC (.bl false))]) (sB []),
  sFor (iR1 (eA (on1 lenD) (eL [eV 1]))) (gV 2) (sB [sIf (tAnd (tB1 (e1 isNonD (e2 ixD (eV 1) (eV 2)))) (tB1 (e1 notNonD (e2 ixD (eV 0) (eV 2))))) (sB [sRet (eC (.bl false))]) (sB []),
    sIf (tAnd (tB1 (e1 notNonD (e2 ixD (eV 1) (eV 2)))) (tOr (tNot (tV (eA (F_q_is_integer) (eL [e2 ixD (eV 0) (eV 2)])))) (tB1 (e2 neD (e2 ixD (eV 0) (eV 2)) (e2 ixD (eV 1) (eV 2)))))) (sB [sRet (eC (.bl false))]) (sB [])]),
  sRet (eC (.bl true))]
def F_q_is_letter : AF := fnT 2 3 b_q_is_letter
/- _law_is_refusal: _law_told, _law_due -/
def b_q_is_refusal : AS := sB [sIf (tOr (tNot (tV (e1 (isTy "tuple") (eV 0)))) (tOr (tB1 (e2 neD (eA (on1 lenD) (eL [eV 0])) (eC (.int 1)))) (tB1 (e2 neD (e2 ixD (e2 ixD (eV 0) (eC (.int 0))) (eC (.int 0))) (e2 ixD (eV 1) (eC (.int 0))))))) (sB [sRet (eC (.bl false))]) (sB []),
  sIf (tB1 (e2 eqD (e2 ixD (eV 1) (eC (.int 0))) (eC (.str [66, 97, 100, 82, 101, 99, 111, 114, 100])))) (sB [sRet (eA (F_q_is_letter) (eL [e2 ixD (e2 ixD (eV 0) (eC (.int 0))) (eC (.int 1)), e2 ixD (eV 1) (eC (.int 1))]))]) (sB []),
  sRet (eAnd (eA (F_q_is_integer) (eL [e2 ixD (e2 ixD (eV 0) (eC (.int 0))) (eC (.int 1))])) (e2 eqD (e2 ixD (e2 ixD (eV 0) (eC (.int 0))) (eC (.int 1))) (e2 ixD (eV 1) (eC (.int 1)))))]
def F_q_is_refusal : AF := fnT 2 2 b_q_is_refusal
/- _law_unfair: _law_kinds_here, _law_field -/
def b_q_unfair : AS := sB [sFor (iR1 (eA (on1 lenD) (eL [eV 0]))) (gV 1) (sB [sIf (tOr (tB1 (e2 eqD (e2 ixD (eV 0) (eV 1)) (eC (.str [102, 105, 114, 115, 116])))) (tB1 (e2 eqD (e2 ixD (eV 0) (eV 1)) (eC (.str [108, 97, 115, 116]))))) (sB [sRet (eTup (eL [eC (.str [78, 111, 116, 70, 97, 105, 114]), eV 1]))]) (sB [])]),
  sRet (eC .non)]
def F_q_unfair : AF := fnT 1 2 b_q_unfair
/- _law_refusal: _law_parents_here, _law_kinds_here, _law_held, _law_letter, _law_unfair_here, _law_record_here, _law_field -/
def b_q_refusal : AS := sB [sSet 4 (eA (F_q_unfair) (eL [eV 1])),
  sIf (tB1 (e1 notNonD (eV 4))) (sB [sRet (eV 4)]) (sB []),
  sFor (iS (eLst true (eL [eV 2, eV 3]))) (gV 5) (sB [sIf (tB1 (e2 neD (eA (on1 lenD) (eL [eV 5])) (eA (on1 lenD) (eL [eV 1])))) (sB [sRet (eTup (eL [eC (.str [66, 97, 100, 82, 101, 99, 111, 114, 100]), eV 5]))]) (sB [])]),
  sFor (iR1 (eA (on1 lenD) (eL [eV 1]))) (gV 6) (sB [sIf (tAnd (tB1 (e1 notNonD (e2 ixD (eV 3) (eV 6)))) (tAnd (tB1 (e1 notNonD (e2 ixD (eV 0) (eV 6)))) (tB1 (e1 isNonD (e2 ixD (eV 3) (e2 ixD (eV 0) (eV 6))))))) (sB [sRet (eTup (eL [eC (.str [66, 97, 100, 76, 101, 116, 116, 101, 114]), eV 6]))]) (sB [])]),
  sRet (eC .non)]
def F_q_refusal : AF := fnT 4 7 b_q_refusal
/- _law_side: _law_parents_here, _law_kinds_here, _law_field, _law_older, _law_newer, _law_place -/
def b_q_side : AS := sB [sFor (iS (eA (F_q_path) (eL [eV 0, eV 2]))) (gV 5) (sB [sIf (tB1 (e2 neD (e2 ixD (eV 3) (eV 5)) (e2 ixD (eV 4) (eV 5)))) (sB [sIf (tB1 (e2 eqD (e2 ixD (eV 1) (eV 5)) (eC (.str [102, 105, 114, 115, 116])))) (sB [sRet (eC (.int 0))]) (sB []),
      sIf (tB1 (e2 eqD (e2 ixD (eV 1) (eV 5)) (eC (.str [108, 97, 115, 116])))) (sB [sRet (eC (.int 1))]) (sB []),
      sRet (eA (on1 intD) (eL [e2 neD (e2 gtD (e2 ixD (eV 3) (eV 5)) (e2 ixD (eV 4) (eV 5))) (e2 eqD (e2 ixD (eV 1) (eV 5)) (eC (.str [117, 112])))]))]) (sB [])]),
  sRet (eC (.int 0))]
def F_q_side : AF := fnT 5 6 b_q_side
/- _law_holds: _law_forest, _law_parents_here, _law_kinds_here, _law_held, _law_letter, _law_due, _law_told, _law_expected, _law_field, _law_value_here, _law_k -/
def b_q_holds : AS := sB [sSet 5 (eA (F_q_refusal) (eL [eV 1, eV 2, eV 3, eV 4])),
  sSet 6 (eA (F_q_ask) (eL [eV 0, eV 3, eV 4])),
  sIf (tB1 (e1 notNonD (eV 5))) (sB [sRet (eA (F_q_is_refusal) (eL [eV 6, eV 5]))]) (sB []),
  sSet 7 (eLst false (eL [])),
  sFor (iR1 (eA (on1 lenD) (eL [eV 2]))) (gV 8) (sB [sSet 9 (e2 ixD (eV 3) (eV 8)),
    sIf (tAnd (tB1 (e1 notNonD (e2 ixD (eV 4) (eV 8)))) (tB1 (e2 eqD (eA (F_q_side) (eL [eV 1, eV 2, eV 8, eV 3, eV 4])) (eC (.int 1))))) (sB [sSet 9 (e2 ixD (eV 4) (eV 8))]) (sB []),
    sE (eM isLst (mt1 appendD) (eV 7) (eL [eV 9]))]),
  sFor (iR1 (eC (.int 2))) (gV 10) (sB [sIf (tOr (tNot (tV (e1 (isTy "list") (eV 6)))) (tOr (tNot (tV (eA (F_q_is_record) (eL [e2 ixD (eV 6) (eC (.int 0)), eA (on1 lenD) (eL [eV 2])])))) (tB1 (e2 neD (e2 ixD (eV 6) (eC (.int 0))) (eA (on1 tupD) (eL [eV 7])))))) (sB [sRet (eC (.bl false))]) (sB []),
    sSet 6 (eA (F_q_ask) (eL [eV 0, e2 ixD (eV 6) (eC (.int 0)), eV 4]))]),
  sRet (eAnd (e1 (isTy "list") (eV 6)) (eAnd (eA (F_q_is_record) (eL [e2 ixD (eV 6) (eC (.int 0)), eA (on1 lenD) (eL [eV 2])])) (e2 eqD (e2 ixD (eV 6) (eC (.int 0))) (eA (on1 tupD) (eL [eV 7])))))]
def F_q_holds : AF := fnT 5 11 b_q_holds
/- _law_level: _law_kinds_here, _law_level_here, _law_kind -/
def b_q_level : AS := sB [sSet 1 (eLst false (eL [])),
  sFor (iS (eV 0)) (gV 2) (sB [sIf (tB1 (e2 eqD (eV 2) (eC (.str [102, 105, 114, 115, 116])))) (sB [sE (eM isLst (mt1 appendD) (eV 1) (eL [eC (.str [117, 112])]))]) (sB [sIf (tB1 (e2 eqD (eV 2) (eC (.str [108, 97, 115, 116])))) (sB [sE (eM isLst (mt1 appendD) (eV 1) (eL [eC (.str [100, 111, 119, 110])]))]) (sB [sE (eM isLst (mt1 appendD) (eV 1) (eL [eV 2]))])])]),
  sRet (eV 1)]
def F_q_level : AF := fnT 1 3 b_q_level
/- _law_choice: _law_tape_here, _law_parents_here, _law_sent, _law_pick, _law_letter, _law_field, _law_place -/
def b_q_choice : AS := sB [sSet 3 (eA (F_q_take) (eL [eV 0, eC (.int 8)])),
  sSet 4 (eLC false [5] (iR1 (eA (on1 lenD) (eL [eV 1]))) (gV 5) (tYes) (eC .non)),
  sFor (iR1 (eA (on1 lenD) (eL [eV 1]))) (gV 5) (sB [sIf (tB1 (e2 gtD (eV 3) (eC (.int 4)))) (sB [sIf (tB1 (e2 eqD (eA (F_q_take) (eL [eV 0, eC (.int 2)])) (eC (.int 0)))) (sB [sSub setIxD (eV 4) (eV 5) (e2 ixD (eV 2) (eV 5))]) (sB [])]) (sB [sIf (tOr (tB1 (e2 eqD (eV 3) (eC (.int 0)))) (tAnd (tB1 (e2 gtD (eV 3) (eC (.int 1)))) (tB1 (e2 eqD (eA (F_q_take) (eL [eV 0, eC (.int 3)])) (eC (.int 0)))))) (sB [sFor (iS (eA (F_q_path) (eL [eV 1, eV 5]))) (gV 6) (sB [sSub setIxD (eV 4) (eV 6) (e2 ixD (eV 2) (eV 6))])]) (sB [])])]),
  sRet (eV 4)]
def F_q_choice : AF := fnK 3 7 b_q_choice
/- _law_value: _law_tape_here, _law_span, _law_pick -/
def b_q_value : AS := sB [sSet 2 (eA (F_q_take) (eL [eV 0, eC (.int 8)])),
  sIf (tB1 (e2 eqD (eV 2) (eC (.int 0)))) (sB [sRet (e2 subD (e2 (mulD true) (eA (F_q_take) (eL [eV 0, e2 powD (eC (.int 10)) (eC (.int 9))])) (e2 powD (eC (.int 10)) (eC (.int 30)))) (eA (F_q_take) (eL [eV 0, e2 powD (eC (.int 10)) (eC (.int 9))])))]) (sB []),
  sIf (tB1 (e2 eqD (eV 2) (eC (.int 1)))) (sB [sRet (e2 subD (eC (.int 0)) (eA (F_q_take) (eL [eV 0, eV 1])))]) (sB []),
  sRet (eA (F_q_take) (eL [eV 0, eV 1]))]
def F_q_value : AF := fnT 2 3 b_q_value
/- _law_record: _law_tape_here, _law_n, _law_span, _law_k -/
def b_q_record : AS := sB [sRet (eA (on1 tupD) (eL [eLC true [3] (iR1 (eV 1)) (gV 3) (tYes) (eA (F_q_value) (eL [eV 0, eV 2]))]))]
def F_q_record : AF := fnT 3 4 b_q_record
/- _law_question: _law_script, _law_turn, _law_parents_here, _law_n, _law_held, _law_tape_here, _law_sent, _law_field, _law_value_here, _law_letter, _law_k, _law_place, _law_spoil -/
def b_q_question : AS := sB [sSet 3 (eA (on1 lenD) (eL [eV 2])),
  sSet 4 (eA (F_q_record) (eL [eA (F_q_tape) (eL [eV 0, e2 (addD true) (eC (.int 2)) (e2 (mulD true) (eC (.int 3)) (eV 1))]), eV 3, eC (.int 3)])),
  sSet 5 (eA (F_q_tape) (eL [eV 0, e2 (addD true) (eC (.int 3)) (e2 (mulD true) (eC (.int 3)) (eV 1))])),
  sSet 6 (eLst false (eL [])),
  sFor (iR1 (eV 3)) (gV 7) (sB [sSet 8 (eA (F_q_value) (eL [eV 5, eC (.int 3)])),
    sIf (tB1 (e2 eqD (eA (F_q_take) (eL [eV 5, eC (.int 3)])) (eC (.int 0)))) (sB [sSet 8 (e2 ixD (eV 4) (eV 7))]) (sB []),
    sE (eM isLst (mt1 appendD) (eV 6) (eL [eV 8]))]),
  sSet 5 (eA (F_q_tape) (eL [eV 0, e2 (addD true) (eC (.int 4)) (e2 (mulD true) (eC (.int 3)) (eV 1))])),
  sSet 9 (eA (F_q_choice) (eL [eV 5, eV 2, eV 6])),
  sFor (iR1 (e2 ixD (eLst true (eL [eC (.int 0), eC (.int 0), eC (.int 0), eC (.int 1)])) (eA (F_q_take) (eL [eV 5, eC (.int 4)])))) (gV 10) (sB [sSet 11 (eA (F_q_take) (eL [eV 5, eV 3])),
    sIf (tB1 (e1 isNonD (e2 ixD (eV 9) (eV 11)))) (sB [sSub setIxD (eV 9) (eV 11) (e2 ixD (eV 6) (eV 11))]) (sB [sSub setIxD (eV 9) (eV 11) (eC .non)])]),
  sSet 12 (eA (F_q_take) (eL [eV 5, eC (.int 16)])),
  sIf (tOr (tB1 (e2 eqD (eV 12) (eC (.int 0)))) (tB1 (e2 eqD (eV 12) (eC (.int 4))))) (sB [sE (eM isLst (mt1 appendD) (eV 9) (eL [e2 ixD (eLst true (eL [eC .non, eC (.int 7)])) (eA (F_q_take) (eL [eV 5, eC (.int 2)]))]))]) (sB []),
  sIf (tB1 (e2 eqD (eV 12) (eC (.int 1)))) (sB [sE (eM isLst (mt1 popAtD) (eV 9) (eL [eC (.int 0)]))]) (sB []),
  sIf (tOr (tB1 (e2 eqD (eV 12) (eC (.int 2)))) (tB1 (e2 eqD (eV 12) (eC (.int 4))))) (sB [sSet 4 (e2 (addD true) (eV 4) (eTup (eL [eC (.int 7)])))]) (sB []),
  sIf (tB1 (e2 eqD (eV 12) (eC (.int 3)))) (sB [sSet 4 (eSl true (eV 4) (oS (eC (.int 1))) (oN))]) (sB []),
  sRet (eLst true (eL [eV 4, eA (on1 tupD) (eL [eV 9])]))]
def F_q_question : AF := fnT 3 13 b_q_question
/- _law_size: _law_tape_here, _law_size_here -/
def b_q_size : AS := sB [sSet 1 (e2 (addD true) (eC (.int 1)) (eA (F_q_take) (eL [eV 0, eC (.int 6)]))),
  sIf (tB1 (e2 eqD (eA (F_q_take) (eL [eV 0, eC (.int 8)])) (eC (.int 0)))) (sB [sSet 1 (e2 (addD true) (eC (.int 7)) (eA (F_q_take) (eL [eV 0, eC (.int 2)])))]) (sB []),
  sRet (eV 1)]
def F_q_size : AF := fnT 1 2 b_q_size
/- _law_stays: _law_forest, _law_parents_here, _law_kinds_here -/
def b_q_stays : AS := sB [sRet (eAnd (e2 eqD (e1 (fldD ["Forest"] "parents") (eV 0)) (eA (on1 tupD) (eL [eV 1]))) (e2 eqD (e1 (fldD ["Forest"] "kinds") (eV 0)) (eA (on1 tupD) (eL [eV 2]))))]
def F_q_stays : AF := fnT 3 3 b_q_stays
/- law: _law_script, _law_tape_here, _law_n, _law_parents_here, _law_fair, _law_kinds_here, _law_level_here, _law_ranks, _law_forests, _law_turns_here, _law_at, _law_question_here, _law_asked, _law_k, _law_pick -/
def b_law_k19 : AS := sB [sSet 1 (eA (F_q_tape) (eL [eV 0, eC (.int 0)])),
  sSet 2 (eA (F_q_size) (eL [eV 1])),
  sSet 3 (eA (F_q_parents) (eL [eV 1, eV 2])),
  sSet 1 (eA (F_q_tape) (eL [eV 0, eC (.int 1)])),
  sSet 4 (e2 gtD (eA (F_q_take) (eL [eV 1, eC (.int 6)])) (eC (.int 0))),
  sSet 5 (eA (F_q_kinds) (eL [eV 1, eV 3, eV 4])),
  sSet 6 (eA (F_q_level) (eL [eV 5])),
  sSet 7 (eLst true (eL [eV 5, eV 6])),
  sSet 8 (eLst true (eL [eA (mkI "Forest" true (F_Forest_init)) (eL [eA (on1 (listD true)) (eL [eV 3]), eA (on1 (listD true)) (eL [eV 5])]), eA (mkI "Forest" true (F_Forest_init)) (eL [eA (on1 (listD true)) (eL [eV 3]), eA (on1 (listD true)) (eL [eV 6])])])),
  sSet 9 (eLst true (eL [eC (.int 0), eC (.int 1), eC (.int 2), eC (.int 3), eC (.int 0)])),
  sFor (iR1 (eA (on1 lenD) (eL [eV 9]))) (gV 10) (sB [sSet 11 (eA (F_q_question) (eL [eV 0, e2 ixD (eV 9) (eV 10), eV 3])),
    sSet 12 (eLst true (eL [eV 11, eA (F_q_healed) (eL [eV 11, eV 3])])),
    sFor (iR1 (eC (.int 2))) (gV 13) (sB [sSet 14 (e2 modD (eA (on1 intD) (eL [e2 (addD true) (eV 13) (eV 10)])) (eC (.int 2))),
      sIf (tNot (tV (eA (F_q_holds) (eL [e2 ixD (eV 8) (eV 14), eV 3, e2 ixD (eV 7) (eV 14), e2 ixD (e2 ixD (eV 12) (eV 13)) (eC (.int 0)), e2 ixD (e2 ixD (eV 12) (eV 13)) (eC (.int 1))])))) (sB [sRet (eC (.bl false))]) (sB [])])]),
  sRet (eAnd (eA (F_q_stays) (eL [e2 ixD (eV 8) (eC (.int 0)), eV 3, eV 5])) (eA (F_q_stays) (eL [e2 ixD (eV 8) (eC (.int 1)), eV 3, eV 6])))]
def F_law_k19 : AF := fnT 1 15 b_law_k19
end Sm
end

section
set_option linter.all false
/-! k48: plain computations (printed by gen2.py) -/
namespace Sm
/- _law_bears: _law_path, _law_record_here, _law_end, _law_place -/
def b_q_bears : AS := sB [sFor (iS (eV 0)) (gV 3) (sB [sIf (tB1 (e2 neD (e2 ixD (eV 1) (eV 3)) (e2 ixD (eV 2) (eV 3)))) (sB [sRet (eC (.bl false))]) (sB [])]),
  sRet (eC (.bl true))]
def F_q_bears : AF := fnT 3 4 b_q_bears
/- _law_same: _law_actual, _law_wanted, _law_k -/
def b_q_same_v2 (F : AF) : AS := sB [sIf (tB1 (e1 isNonD (eV 1))) (sB [sRet (e1 isNonD (eV 0))]) (sB []),
  sIf (tV (e1 (isTy "bool") (eV 1))) (sB [sRet (eAnd (e1 (isTy "bool") (eV 0)) (e2 eqD (eV 0) (eV 1)))]) (sB []),
  sIf (tV (e1 (isTy "int") (eV 1))) (sB [sRet (eAnd (e1 (isTy "int") (eV 0)) (eAnd (e1 notD (e1 (isTy "bool") (eV 0))) (e2 eqD (eV 0) (eV 1))))]) (sB []),
  sIf (tV (e1 (isTy "str") (eV 1))) (sB [sRet (eAnd (e1 (isTy "str") (eV 0)) (e2 eqD (eV 0) (eV 1)))]) (sB []),
  sIf (tOr (tB1 (e2 neD (e1 (isTy "tuple") (eV 1)) (e1 (isTy "tuple") (eV 0)))) (tB1 (e2 neD (e1 (isTy "list") (eV 1)) (e1 (isTy "list") (eV 0))))) (sB [sRet (eC (.bl false))]) (sB []),
  sIf (tB1 (e2 neD (eA (on1 lenD) (eL [eV 0])) (eA (on1 lenD) (eL [eV 1])))) (sB [sRet (eC (.bl false))]) (sB []),
  sFor (iR1 (eA (on1 lenD) (eL [eV 1]))) (gV 2) (sB [sIf (tNot (tV (eA (F) (eL [e2 ixD (eV 0) (eV 2), e2 ixD (eV 1) (eV 2)])))) (sB [sRet (eC (.bl false))]) (sB [])]),
  sRet (eC (.bl true))]
def F_q_same_v2 : Nat → AF
  | 0 => fun _ _ => .no
  | n + 1 => fnT 2 3 (b_q_same_v2 (F_q_same_v2 n))
/- bearing: parents, records, end, field, path, at -/
def b_bearing : AS := sB [sSet 4 (eA (F_path_of) (eL [eV 0, eV 3])),
  sRet (eA (on1 tupD) (eL [eLC true [5] (iR1 (eA (on1 lenD) (eL [eV 1]))) (gV 5) (tB1 (e1 isNonD (eA (F_first_unlike_on) (eL [eV 4, e2 ixD (eV 1) (eV 5), eV 2])))) (eV 5)]))]
def F_bearing : AF := fnT 4 6 b_bearing
/- check_place: fields, place -/
def b_check_place : AS := sB [sIf (tNot (tB1 (eChain leD ltD (eC (.int 0)) (eV 1) (eV 0)))) (sB [sRaise "BadPlace" ["place"] (eL [eV 1])]) (sB [])]
def F_check_place : AF := fnT 2 2 b_check_place
/- check_records: fields, records, record -/
def b_check_records : AS := sB [sIf (tB1 (e2 eqD (eA (on1 lenD) (eL [eV 1])) (eC (.int 0)))) (sB [sRaise0 "NoRecord"]) (sB []),
  sFor (iS (eV 1)) (gV 2) (sB [sE (eA (F_check_record) (eL [eV 0, eV 2]))])]
def F_check_records : AF := fnT 2 3 b_check_records
/- best_of: kind, field, records, best, record -/
def b_best_of : AS := sB [sIf (tB1 (e2 eqD (eV 0) (eC (.str [102, 105, 114, 115, 116])))) (sB [sRet (eLst true (eL [e2 ixD (eV 2) (eC (.int 0))]))]) (sB []),
  sIf (tB1 (e2 eqD (eV 0) (eC (.str [108, 97, 115, 116])))) (sB [sRet (eLst true (eL [e2 ixD (eV 2) (e1 negD (eC (.int 1)))]))]) (sB []),
  sSet 3 (e2 ixD (e2 ixD (eV 2) (eC (.int 0))) (eV 1)),
  sFor (iS (eV 2)) (gV 4) (sB [sIf (tV (eA (F_better) (eL [eV 0, e2 ixD (eV 4) (eV 1), eV 3]))) (sB [sSet 3 (e2 ixD (eV 4) (eV 1))]) (sB [])]),
  sRet (eLC true [4] (iS (eV 2)) (gV 4) (tB1 (e2 eqD (e2 ixD (eV 4) (eV 1)) (eV 3))) (eV 4))]
def F_best_of : AF := fnT 3 5 b_best_of
/- end_of_row: parents, kinds, records, result, field, left, place -/
def b_end_of_row : AS := sB [sSet 3 (eLst false (eL [])),
  sFor (iR1 (eA (on1 lenD) (eL [eV 0]))) (gV 4) (sB [sSet 5 (eA (on1 (listD true)) (eL [eV 2])),
    sFor (iS (eA (F_path_of) (eL [eV 0, eV 4]))) (gV 6) (sB [sSet 5 (eA (F_best_of) (eL [e2 ixD (eV 1) (eV 6), eV 6, eV 5]))]),
    sE (eM isLst (mt1 appendD) (eV 3) (eL [e2 ixD (e2 ixD (eV 5) (eC (.int 0))) (eV 4)]))]),
  sRet (eA (on1 tupD) (eL [eV 3]))]
def F_end_of_row : AF := fnT 3 7 b_end_of_row
/- bearers: forest, records, field, lot -/
def b_bearers : AS := sB [sE (eA (F_check_fair) (eL [eV 0])),
  sE (eA (F_check_records) (eL [e1 (fldD ["Forest"] "fields") (eV 0), eV 1])),
  sE (eA (F_check_place) (eL [e1 (fldD ["Forest"] "fields") (eV 0), eV 2])),
  sSet 3 (eA (on1 (listD true)) (eL [eV 1])),
  sRet (eA (F_bearing) (eL [e1 (fldD ["Forest"] "parents") (eV 0), eV 3, eA (F_end_of_row) (eL [e1 (fldD ["Forest"] "parents") (eV 0), e1 (fldD ["Forest"] "kinds") (eV 0), eV 3]), eV 2]))]
def F_bearers : AF := fnT 3 4 b_bearers
/- _law_answers: _law_forest, _law_paths_here, _law_handed, _law_end, _law_lot_here, _law_field, _law_due_here, _law_k -/
def b_q_answers : AS := sB [sSet 4 (eA (on1 (listD true)) (eL [eV 2])),
  sFor (iR1 (eA (on1 lenD) (eL [eV 1]))) (gV 5) (sB [sSet 6 (eLC true [7] (iR1 (eA (on1 lenD) (eL [eV 4]))) (gV 7) (tV (eA (F_q_bears) (eL [e2 ixD (eV 1) (eV 5), e2 ixD (eV 4) (eV 7), eV 3]))) (eV 7)),
    sIf (tOr (tB1 (e2 eqD (eA (on1 lenD) (eL [eV 6])) (eC (.int 0)))) (tNot (tV (eA (F_q_same_v2 12) (eL [eA (F_bearers) (eL [eV 0, eV 2, eV 5]), eA (on1 tupD) (eL [eV 6])]))))) (sB [sRet (eC (.bl false))]) (sB [])]),
  sRet (eA (F_q_same_v2 12) (eL [eV 2, eV 4]))]
def F_q_answers : AF := fnT 4 8 b_q_answers
/- _law_count: _law_tape_here, _law_least -/
def b_q_count : AS := sB [sIf (tB1 (e2 eqD (eA (F_q_take) (eL [eV 0, eC (.int 8)])) (eC (.int 0)))) (sB [sRet (e2 (addD true) (eC (.int 7)) (eA (F_q_take) (eL [eV 0, eC (.int 14)])))]) (sB []),
  sRet (e2 (addD true) (eV 1) (eA (F_q_take) (eL [eV 0, e2 subD (eC (.int 7)) (eV 1)])))]
def F_q_count : AF := fnT 2 2 b_q_count
/- _law_fields: _law_tape_here -/
def b_q_fields : AS := sB [sIf (tB1 (e2 eqD (eA (F_q_take) (eL [eV 0, eC (.int 8)])) (eC (.int 0)))) (sB [sRet (e2 (addD true) (eC (.int 7)) (eA (F_q_take) (eL [eV 0, eC (.int 2)])))]) (sB []),
  sRet (e2 (addD true) (eC (.int 1)) (eA (F_q_take) (eL [eV 0, eC (.int 6)])))]
def F_q_fields : AF := fnT 1 1 b_q_fields
/- _law_side: _law_path, _law_kinds_here, _law_older, _law_newer, _law_place -/
def b_q_side_v2 : AS := sB [sFor (iS (eV 0)) (gV 4) (sB [sIf (tB1 (e2 neD (e2 ixD (eV 2) (eV 4)) (e2 ixD (eV 3) (eV 4)))) (sB [sRet (eA (on1 intD) (eL [e2 neD (e2 gtD (e2 ixD (eV 2) (eV 4)) (e2 ixD (eV 3) (eV 4))) (e2 eqD (e2 ixD (eV 1) (eV 4)) (eC (.str [117, 112])))]))]) (sB [])]),
  sRet (eC (.int 0))]
def F_q_side_v2 : AF := fnT 4 5 b_q_side_v2
/- _law_merge: _law_paths_here, _law_kinds_here, _law_older, _law_newer, _law_pair, _law_f -/
def b_q_merge : AS := sB [sSet 4 (eLst true (eL [eV 2, eV 3])),
  sRet (eA (on1 tupD) (eL [eLC true [5] (iR1 (eA (on1 lenD) (eL [eV 0]))) (gV 5) (tYes) (e2 ixD (e2 ixD (eV 4) (eA (F_q_side_v2) (eL [e2 ixD (eV 0) (eV 5), eV 1, eV 2, eV 3]))) (eV 5))]))]
def F_q_merge : AF := fnT 4 6 b_q_merge
/- _law_fold: _law_paths_here, _law_kinds_here, _law_records, _law_end, _law_record_here -/
def b_q_fold : AS := sB [sSet 3 (e2 ixD (eV 2) (eC (.int 0))),
  sFor (iS (eSl true (eV 2) (oS (eC (.int 1))) (oN))) (gV 4) (sB [sSet 3 (eA (F_q_merge) (eL [eV 0, eV 1, eV 3, eV 4]))]),
  sRet (eV 3)]
def F_q_fold : AF := fnT 3 5 b_q_fold
/- _law_lot: _law_script, _law_place, _law_n, _law_count_here, _law_span_here, _law_lot_here, _law_k, _law_tape_here, _law_record_here, _law_kin, _law_field -/
def b_q_lot : AS := sB [sSet 5 (eLst false (eL [])),
  sFor (iR1 (eV 3)) (gV 6) (sB [sSet 7 (eA (F_q_tape) (eL [eV 0, e2 (addD true) (eV 1) (eV 6)])),
    sSet 8 (eA (F_q_record) (eL [eV 7, eV 2, eV 4])),
    sIf (tAnd (tB1 (e2 gtD (eV 6) (eC (.int 0)))) (tB1 (e2 eqD (eA (F_q_take) (eL [eV 7, eC (.int 3)])) (eC (.int 0))))) (sB [sSet 9 (eA (on1 (listD false)) (eL [e2 ixD (eV 5) (eA (F_q_take) (eL [eV 7, eV 6]))])),
      sSet 10 (eA (F_q_take) (eL [eV 7, eV 2])),
      sSub setIxD (eV 9) (eV 10) (e2 ixD (eV 8) (eV 10)),
      sSet 8 (eA (on1 tupD) (eL [eV 9]))]) (sB []),
    sE (eM isLst (mt1 appendD) (eV 5) (eL [eV 8]))]),
  sRet (eV 5)]
def F_q_lot : AF := fnT 5 11 b_q_lot
/- _law_paths: _law_parents_here, _law_paths_here, _law_field, _law_path, _law_k -/
def b_q_paths : AS := sB [sSet 1 (eLst false (eL [])),
  sFor (iR1 (eA (on1 lenD) (eL [eV 0]))) (gV 2) (sB [sSet 3 (eLst false (eL [eV 2])),
    sFor (iR1 (eA (on1 lenD) (eL [eV 0]))) (gV 4) (sB [sIf (tB1 (e1 notNonD (e2 ixD (eV 0) (e2 ixD (eV 3) (eC (.int 0)))))) (sB [sE (eM isLst (mt2 insertD) (eV 3) (eL [eC (.int 0), e2 ixD (eV 0) (e2 ixD (eV 3) (eC (.int 0)))]))]) (sB [])]),
    sE (eM isLst (mt1 appendD) (eV 1) (eL [eV 3]))]),
  sRet (eV 1)]
def F_q_paths : AF := fnT 1 5 b_q_paths
/- _law_raised: _law_kinds_here, _law_record_here, _law_field, _law_by, _law_row -/
def b_q_raised : AS := sB [sSet 4 (eA (on1 (listD false)) (eL [eV 1])),
  sIf (tB1 (e2 eqD (e2 ixD (eV 0) (eV 2)) (eC (.str [117, 112])))) (sB [sSub setIxD (eV 4) (eV 2) (e2 (addD true) (e2 ixD (eV 4) (eV 2)) (eV 3))]) (sB [sSub setIxD (eV 4) (eV 2) (e2 subD (e2 ixD (eV 4) (eV 2)) (eV 3))]),
  sRet (eA (on1 tupD) (eL [eV 4]))]
def F_q_raised : AF := fnT 4 5 b_q_raised
/- _law_lowest: _law_kinds_here, _law_field -/
def b_q_lowest : AS := sB [sFor (iR1 (eA (on1 lenD) (eL [eV 0]))) (gV 1) (sB [sIf (tOr (tB1 (e2 eqD (e2 ixD (eV 0) (eV 1)) (eC (.str [102, 105, 114, 115, 116])))) (tB1 (e2 eqD (e2 ixD (eV 0) (eV 1)) (eC (.str [108, 97, 115, 116]))))) (sB [sRet (eV 1)]) (sB [])]),
  sRet (eC .non)]
def F_q_lowest : AF := fnT 1 2 b_q_lowest
/- _law_due: _law_kinds_here, _law_rows, _law_field, _law_record_here -/
def b_q_due : AS := sB [sIf (tB1 (e1 notNonD (eA (F_q_lowest) (eL [eV 0])))) (sB [sRet (eTup (eL [eC (.str [78, 111, 116, 70, 97, 105, 114]), eA (F_q_lowest) (eL [eV 0])]))]) (sB []),
  sIf (tB1 (e2 eqD (eA (on1 lenD) (eL [eV 1])) (eC (.int 0)))) (sB [sRet (eTup (eL [eC (.str [78, 111, 82, 101, 99, 111, 114, 100])]))]) (sB []),
  sFor (iS (eV 1)) (gV 3) (sB [sIf (tB1 (e2 neD (eA (on1 lenD) (eL [eV 3])) (eA (on1 lenD) (eL [eV 0])))) (sB [sRet (eTup (eL [eC (.str [66, 97, 100, 82, 101, 99, 111, 114, 100]), eV 3]))]) (sB [])]),
  sIf (tOr (tB1 (e2 ltD (eV 2) (eC (.int 0)))) (tB1 (e2 geD (eV 2) (eA (on1 lenD) (eL [eV 0]))))) (sB [sRet (eTup (eL [eC (.str [66, 97, 100, 80, 108, 97, 99, 101]), eV 2]))]) (sB []),
  sRet (eC .non)]
def F_q_due : AF := fnT 3 4 b_q_due
/- _law_wrong: _law_tape_here, _law_record_here, _law_pick -/
def b_q_wrong : AS := sB [sSet 2 (eA (F_q_take) (eL [eV 0, eC (.int 4)])),
  sIf (tB1 (e2 eqD (eV 2) (eC (.int 0)))) (sB [sRet (eSl true (eV 1) (oN) (oS (e1 negD (eC (.int 1)))))]) (sB []),
  sIf (tB1 (e2 eqD (eV 2) (eC (.int 1)))) (sB [sRet (e2 (addD true) (eV 1) (eTup (eL [eC (.int 0)])))]) (sB []),
  sIf (tB1 (e2 eqD (eV 2) (eC (.int 2)))) (sB [sRet (eTup (eL []))]) (sB []),
  sRet (e2 (addD true) (eV 1) (eV 1))]
def F_q_wrong : AF := fnT 2 3 b_q_wrong
/- _law_faulty: _law_tape_here, _law_lot_here, _law_rows, _law_k, _law_place -/
def b_q_faulty : AS := sB [sSet 2 (eA (on1 (listD false)) (eL [eV 1])),
  sFor (iR1 (eA (F_q_take) (eL [eV 0, eC (.int 3)]))) (gV 3) (sB [sIf (tB1 (e2 gtD (eA (on1 lenD) (eL [eV 2])) (eC (.int 0)))) (sB [sSet 4 (eA (F_q_take) (eL [eV 0, eA (on1 lenD) (eL [eV 2])])),
      sSub setIxD (eV 2) (eV 4) (eA (F_q_wrong) (eL [eV 0, e2 ixD (eV 2) (eV 4)]))]) (sB [])]),
  sRet (eV 2)]
def F_q_faulty : AF := fnT 2 5 b_q_faulty
/- _law_told: _law_forest, _law_rows, _law_field, e, _law_family -/
def b_q_told : AS := sB [sTryAs [("BadRecord", true), ("NoRecord", true), ("BadForest", true), ("NotFair", true), ("FieldsDiffer", true), ("BadNumber", true), ("BadPlace", true), ("Marked", true), ("BadSizes", true)] 3 (sB [sE (eA (F_bearers) (eL [eV 0, eV 1, eV 2]))]) (fun x => sB [sSet 4 (eLst true (eL [eXis x [("BadRecord", false), ("NoRecord", false), ("BadForest", false), ("NotFair", true), ("FieldsDiffer", false), ("BadNumber", false), ("BadPlace", false), ("Marked", false), ("BadSizes", false)], eXis x [("BadRecord", false), ("NoRecord", true), ("BadForest", false), ("NotFair", false), ("FieldsDiffer", false), ("BadNumber", false), ("BadPlace", false), ("Marked", false), ("BadSizes", false)], eXis x [("BadRecord", true), ("NoRecord", false), ("BadForest", false), ("NotFair", false), ("FieldsDiffer", false), ("BadNumber", false), ("BadPlace", false), ("Marked", false), ("BadSizes", false)], eXis x [("BadRecord", false), ("NoRecord", false), ("BadForest", false), ("NotFair", false), ("FieldsDiffer", false), ("BadNumber", false), ("BadPlace", true), ("Marked", true), ("BadSizes", false)]])),
    sIf (tOr (tNot (tV (eXis x [("BadRecord", true), ("NoRecord", true), ("BadForest", true), ("NotFair", true), ("FieldsDiffer", true), ("BadNumber", true), ("BadPlace", true), ("Marked", true), ("BadSizes", true)]))) (tV (eXis x [("BadRecord", false), ("NoRecord", false), ("BadForest", true), ("NotFair", false), ("FieldsDiffer", true), ("BadNumber", true), ("BadPlace", false), ("Marked", true), ("BadSizes", true)]))) (sB [sRet (eTup (eL [eC (.str [97, 110, 111, 116, 104, 101, 114])]))]) (sB []),
    sIf (tB1 (e2 eqD (eV 4) (eLst true (eL [eC (.bl true), eC (.bl false), eC (.bl false), eC (.bl false)])))) (sB [sRet (eTup (eL [eC (.str [78, 111, 116, 70, 97, 105, 114]), eXf ["BadForest", "NotFair"] x "field"]))]) (sB []),
    sIf (tB1 (e2 eqD (eV 4) (eLst true (eL [eC (.bl false), eC (.bl true), eC (.bl false), eC (.bl false)])))) (sB [sRet (eTup (eL [eC (.str [78, 111, 82, 101, 99, 111, 114, 100])]))]) (sB []),
    sIf (tB1 (e2 eqD (eV 4) (eLst true (eL [eC (.bl false), eC (.bl false), eC (.bl true), eC (.bl false)])))) (sB [sRet (eTup (eL [eC (.str [66, 97, 100, 82, 101, 99, 111, 114, 100]), eXf ["BadRecord"] x "record"]))]) (sB []),
    sIf (tB1 (e2 eqD (eV 4) (eLst true (eL [eC (.bl false), eC (.bl false), eC (.bl false), eC (.bl true)])))) (sB [sRet (eTup (eL [eC (.str [66, 97, 100, 80, 108, 97, 99, 101]), eXf ["BadPlace", "Marked"] x "place"]))]) (sB []),
    sRet (eTup (eL [eC (.str [97, 110, 111, 116, 104, 101, 114])]))]),
  sRet (eC .non)]
def F_q_told : AF := fnT 3 5 b_q_told
/- _law_unfair: _law_tape_here, _law_parents_here, _law_kinds_here, _law_spoilt, _law_field -/
def b_q_unfair_v2 : AS := sB [sSet 3 (eA (on1 (listD false)) (eL [eV 2])),
  sFor (iR1 (eA (on1 lenD) (eL [eV 1]))) (gV 4) (sB [sIf (tAnd (tB1 (e2 notInD (eV 4) (eV 1))) (tB1 (e2 eqD (eA (F_q_take) (eL [eV 0, eC (.int 2)])) (eC (.int 0))))) (sB [sSub setIxD (eV 3) (eV 4) (e2 ixD (eLst true (eL [eC (.str [102, 105, 114, 115, 116]), eC (.str [108, 97, 115, 116])])) (eA (F_q_take) (eL [eV 0, eC (.int 2)])))]) (sB [])]),
  sRet (eV 3)]
def F_q_unfair_v2 : AF := fnT 3 5 b_q_unfair_v2
/- _law_refuses: _law_tape_here, _law_forest, _law_parents_here, _law_kinds_here, _law_lot_here, _law_spoilt, _law_rows, _law_n, _law_field, _law_pick, _law_asked, _law_handed, _law_told_here -/
def b_q_refuses : AS := sB [sSet 5 (eA (on1 (listD true)) (eL [eV 3])),
  sIf (tB1 (e2 eqD (eA (F_q_take) (eL [eV 0, eC (.int 2)])) (eC (.int 0)))) (sB [sSet 5 (eA (F_q_unfair_v2) (eL [eV 0, eV 2, eV 3]))]) (sB []),
  sSet 6 (eA (on1 (listD true)) (eL [eV 4])),
  sIf (tB1 (e2 eqD (eA (F_q_take) (eL [eV 0, eC (.int 2)])) (eC (.int 0)))) (sB [sSet 6 (eSl true (eV 4) (oN) (oS (eA (F_q_take) (eL [eV 0, eC (.int 2)]))))]) (sB []),
  sSet 6 (eA (F_q_faulty) (eL [eV 0, eV 6])),
  sSet 7 (eA (on1 lenD) (eL [eV 2])),
  sSet 8 (eA (F_q_take) (eL [eV 0, eV 7])),
  sSet 9 (eA (F_q_take) (eL [eV 0, eC (.int 8)])),
  sIf (tB1 (e2 ltD (eV 9) (eC (.int 4)))) (sB [sSet 8 (e2 ixD (eLst true (eL [e2 subD (eC (.int 0)) (eC (.int 1)), eV 7, e2 subD (eC (.int 0)) (eV 7), e2 (addD true) (e2 (addD true) (eV 7) (eC (.int 1))) (eA (F_q_take) (eL [eV 0, e2 powD (eC (.int 10)) (eC (.int 9))]))])) (eV 9))]) (sB []),
  sSet 10 (eV 1),
  sIf (tB1 (e2 neD (eV 5) (eV 3))) (sB [sSet 10 (eA (mkI "Forest" true (F_Forest_init)) (eL [eA (on1 (listD true)) (eL [eV 2]), eA (on1 (listD true)) (eL [eV 5])]))]) (sB []),
  sSet 11 (eA (on1 (listD true)) (eL [eV 6])),
  sSet 12 (eA (F_q_told) (eL [eV 10, eV 11, eV 8])),
  sRet (eAnd (eA (F_q_same_v2 12) (eL [eV 12, eA (F_q_due) (eL [eV 5, eV 6, eV 8])])) (eA (F_q_same_v2 12) (eL [eV 11, eV 6])))]
def F_q_refuses : AF := fnT 5 13 b_q_refuses
/- _law_span: _law_tape_here -/
def b_q_span : AS := sB [sRet (e2 ixD (eLst true (eL [eC (.int 3), eC (.int 3), eC (.int 3), eC (.int 3), eC (.int 3), eC (.int 2), eC (.int 1000), e2 powD (eC (.int 10)) (eC (.int 59))])) (eA (F_q_take) (eL [eV 0, eC (.int 8)])))]
def F_q_span : AF := fnT 1 1 b_q_span
/- _law_turned: _law_kinds_here, _law_kind -/
def b_q_turned : AS := sB [sRet (eLC true [1] (iS (eV 0)) (gV 1) (tYes) (e2 ixD (eLst true (eL [eC (.str [117, 112]), eC (.str [100, 111, 119, 110])])) (eA (on1 intD) (eL [e2 eqD (eV 1) (eC (.str [117, 112]))]))))]
def F_q_turned : AF := fnT 1 2 b_q_turned
/- _law_worse: _law_parents_here, _law_kinds_here, _law_lot_here, _law_low, _law_parent, _law_field, _law_record_here -/
def b_q_worse : AS := sB [sSet 3 (eLC false [4] (iS (eV 0)) (gV 4) (tYes) (eC (.int 0))),
  sFor (iR1 (eA (on1 lenD) (eL [eV 0]))) (gV 5) (sB [sIf (tAnd (tB1 (e1 isNonD (e2 ixD (eV 0) (eV 5)))) (tB1 (e2 eqD (e2 ixD (eV 1) (eV 5)) (eC (.str [117, 112]))))) (sB [sSub setIxD (eV 3) (eV 5) (e2 subD (eA (on1 (intsD minF)) (eL [eLC true [6] (iS (eV 2)) (gV 6) (tYes) (e2 ixD (eV 6) (eV 5))])) (eC (.int 1)))]) (sB []),
    sIf (tAnd (tB1 (e1 isNonD (e2 ixD (eV 0) (eV 5)))) (tB1 (e2 eqD (e2 ixD (eV 1) (eV 5)) (eC (.str [100, 111, 119, 110]))))) (sB [sSub setIxD (eV 3) (eV 5) (e2 (addD true) (eA (on1 (intsD maxF)) (eL [eLC true [6] (iS (eV 2)) (gV 6) (tYes) (e2 ixD (eV 6) (eV 5))])) (eC (.int 1)))]) (sB [])]),
  sRet (eA (on1 tupD) (eL [eV 3]))]
def F_q_worse : AF := fnT 3 7 b_q_worse
/- law: _law_script, _law_tape_here, _law_n, _law_parents_here, _law_count_here, _law_span_here, _law_many, _law_place, _law_field, _law_turn, _law_kinds_here, _law_lot_here, _law_paths_here, _law_worse_here, _law_handed, _law_k, _law_forest, _law_end, _law_low, _law_best -/
def b_law_k48 : AS := sB [sSet 1 (eA (F_q_tape) (eL [eV 0, eC (.int 0)])),
  sSet 2 (eA (F_q_fields) (eL [eV 1])),
  sSet 3 (eA (F_q_parents) (eL [eV 1, eV 2])),
  sSet 4 (eA (F_q_count) (eL [eV 1, eC (.int 1)])),
  sSet 5 (eA (F_q_span) (eL [eV 1])),
  sSet 6 (eC (.int 0)),
  sIf (tAnd (tB1 (e2 eqD (eA (F_q_take) (eL [eV 1, eC (.int 8)])) (eC (.int 0)))) (tB1 (e2 ltD (eV 2) (eC (.int 5))))) (sB [sSet 6 (e2 (addD true) (eC (.int 60)) (eA (F_q_take) (eL [eV 1, eC (.int 20)])))]) (sB []),
  sSet 7 (eA (F_q_take) (eL [eV 1, e2 (addD true) (eV 4) (eC (.int 1))])),
  sSet 8 (eA (F_q_take) (eL [eV 1, eV 2])),
  sSet 9 (eA (F_q_tape) (eL [eV 0, eC (.int 1)])),
  sSet 10 (eA (F_q_kinds) (eL [eV 9, eV 3, eC (.bl true)])),
  sSet 11 (eA (F_q_lot) (eL [eV 0, eC (.int 2), eV 2, eV 4, eV 5])),
  sSet 12 (eA (F_q_paths) (eL [eV 3])),
  sSet 13 (eA (F_q_worse) (eL [eV 3, eV 10, eV 11])),
  sSet 14 (e2 (addD false) (e2 (addD true) (eSl true (eV 11) (oN) (oS (eV 7))) (eLC true [15] (iR1 (eV 6)) (gV 15) (tYes) (eV 13))) (eSl true (eV 11) (oS (eV 7)) (oN))),
  sSet 16 (eA (mkI "Forest" true (F_Forest_init)) (eL [eA (on1 (listD true)) (eL [eV 3]), eA (on1 (listD true)) (eL [eV 10])])),
  sSet 17 (eA (F_q_fold) (eL [eV 12, eV 10, eV 11])),
  sIf (tNot (tV (eA (F_q_answers) (eL [eV 16, eV 12, eV 14, eV 17])))) (sB [sRet (eC (.bl false))]) (sB []),
  sSet 18 (eA (F_q_turned) (eL [eV 10])),
  sIf (tNot (tV (eA (F_q_answers) (eL [eA (mkI "Forest" true (F_Forest_init)) (eL [eA (on1 (listD true)) (eL [eV 3]), eA (on1 (listD true)) (eL [eV 18])]), eV 12, eA (on1 (listD true)) (eL [eV 11]), eA (F_q_fold) (eL [eV 12, eV 18, eV 11])])))) (sB [sRet (eC (.bl false))]) (sB []),
  sIf (tNot (tV (eA (F_q_refuses) (eL [eV 9, eV 16, eV 3, eV 10, eV 11])))) (sB [sRet (eC (.bl false))]) (sB []),
  sSet 19 (eA (F_q_raised) (eL [eV 10, eV 17, eV 8, eC (.int 1)])),
  sE (eM isLst (mt1 appendD) (eV 14) (eL [eV 19])),
  sIf (tNot (tV (eA (F_q_answers) (eL [eV 16, eV 12, eV 14, eV 19])))) (sB [sRet (eC (.bl false))]) (sB []),
  sE (eM isLst (mt0 popD) (eV 14) (eL [])),
  sRet (eA (F_q_answers) (eL [eV 16, eV 12, eV 14, eV 17]))]
def F_law_k48 : AF := fnT 1 20 b_law_k48
end Sm
end

section
set_option linter.all false
/-! k15: plain computations (printed by gen2.py) -/
namespace Sm
/- _law_by_bearers: _law_paths_here, _law_lot_here, _law_end, _law_ends, _law_told_here, _law_field, _law_bearing, _law_k, _law_differs -/
def b_q_by_bearers : AS := sB [sFor (iR1 (eA (on1 lenD) (eL [eV 0]))) (gV 5) (sB [sSet 6 (eLC true [7] (iR1 (eA (on1 lenD) (eL [eV 1]))) (gV 7) (tV (eA (F_q_bears) (eL [e2 ixD (eV 0) (eV 5), e2 ixD (eV 1) (eV 7), eV 2]))) (eV 7)),
    sFor (iR1 (eA (on1 lenD) (eL [eV 1]))) (gV 7) (sB [sSet 8 (e2 neD (e2 ixD (e2 ixD (eV 4) (eV 7)) (eV 5)) (e2 ixD (eV 2) (eV 5))),
      sIf (tB1 (e2 neD (eV 8) (eAnd (e2 eqD (eV 6) (eLst true (eL [eV 7]))) (e2 neD (e2 ixD (e2 ixD (eV 3) (eV 7)) (eV 5)) (e2 ixD (eV 2) (eV 5)))))) (sB [sRet (eC (.bl false))]) (sB [])])]),
  sRet (eC (.bl true))]
def F_q_by_bearers : AF := fnT 5 9 b_q_by_bearers
/- merged_record: parents, kinds, older, newer, result, field, place -/
def b_merged_record : AS := sB [sSet 4 (eLst false (eL [])),
  sFor (iR1 (eA (on1 lenD) (eL [eV 0]))) (gV 5) (sB [sSet 6 (eA (F_first_unlike_on) (eL [eA (F_path_of) (eL [eV 0, eV 5]), eV 2, eV 3])),
    sIf (tOr (tB1 (e1 isNonD (eV 6))) (tOr (tB1 (e2 eqD (e2 ixD (eV 1) (eV 6)) (eC (.str [102, 105, 114, 115, 116])))) (tV (eA (F_better) (eL [e2 ixD (eV 1) (eV 6), e2 ixD (eV 2) (eV 6), e2 ixD (eV 3) (eV 6)]))))) (sB [sE (eM isLst (mt1 appendD) (eV 4) (eL [e2 ixD (eV 2) (eV 5)]))]) (sB [sE (eM isLst (mt1 appendD) (eV 4) (eL [e2 ixD (eV 3) (eV 5)]))])]),
  sRet (eA (on1 tupD) (eL [eV 4]))]
def F_merged_record : AF := fnT 4 7 b_merged_record
/- running_ends: forest, records, ends, record -/
def b_running_ends : AS := sB [sSet 2 (eLst false (eL [e2 ixD (eV 1) (eC (.int 0))])),
  sFor (iS (eSl true (eV 1) (oS (eC (.int 1))) (oN))) (gV 3) (sB [sE (eM isLst (mt1 appendD) (eV 2) (eL [eA (F_merged_record) (eL [e1 (fldD ["Forest"] "parents") (eV 0), e1 (fldD ["Forest"] "kinds") (eV 0), e2 ixD (eV 2) (e1 negD (eC (.int 1))), eV 3])]))]),
  sRet (eV 2)]
def F_running_ends : AF := fnT 2 4 b_running_ends
/- ends_without: forest, records, lot, ahead, after, ends, at -/
def b_ends_without : AS := sB [sE (eA (F_check_fair) (eL [eV 0])),
  sIf (tB1 (e2 ltD (eA (on1 lenD) (eL [eV 1])) (eC (.int 2)))) (sB [sRaise0 "NoRecord"]) (sB []),
  sE (eA (F_check_records) (eL [e1 (fldD ["Forest"] "fields") (eV 0), eV 1])),
  sSet 2 (eA (on1 (listD true)) (eL [eV 1])),
  sSet 3 (eA (F_running_ends) (eL [eV 0, eV 2])),
  sSet 4 (e1 (revD true) (eA (F_running_ends) (eL [eV 0, e1 (revD true) (eV 2)]))),
  sSet 5 (eLst false (eL [e2 ixD (eV 4) (eC (.int 1))])),
  sFor (iR2 (eC (.int 1)) (e2 subD (eA (on1 lenD) (eL [eV 2])) (eC (.int 1)))) (gV 6) (sB [sE (eM isLst (mt1 appendD) (eV 5) (eL [eA (F_merged_record) (eL [e1 (fldD ["Forest"] "parents") (eV 0), e1 (fldD ["Forest"] "kinds") (eV 0), e2 ixD (eV 3) (e2 subD (eV 6) (eC (.int 1))), e2 ixD (eV 4) (e2 (addD true) (eV 6) (eC (.int 1)))])]))]),
  sE (eM isLst (mt1 appendD) (eV 5) (eL [e2 ixD (eV 3) (e1 negD (eC (.int 2)))])),
  sRet (eV 5)]
def F_ends_without : AF := fnK 2 7 b_ends_without
/- _law_answers: _law_forest, _law_paths_here, _law_kinds_here, _law_lot_here, _law_place, _law_many, _law_worse_here, _law_end, _law_ends, _law_k, _law_whole, _law_wanted, _law_handed, _law_told_here, _law_first -/
def b_q_answers_v2 : AS := sB [sSet 7 (eA (F_q_fold) (eL [eV 1, eV 2, eV 3])),
  sSet 8 (eLC true [9] (iR1 (eA (on1 lenD) (eL [eV 3]))) (gV 9) (tYes) (eA (F_q_fold) (eL [eV 1, eV 2, e2 (addD true) (eSl true (eV 3) (oN) (oS (eV 9))) (eSl true (eV 3) (oS (e2 (addD true) (eV 9) (eC (.int 1)))) (oN))]))),
  sSet 10 (e2 (addD true) (e2 (addD true) (eSl true (eV 3) (oN) (oS (eV 4))) (eLC true [9] (iR1 (eV 5)) (gV 9) (tYes) (eV 6))) (eSl true (eV 3) (oS (eV 4)) (oN))),
  sSet 11 (e2 (addD true) (e2 (addD true) (eSl true (eV 8) (oN) (oS (eV 4))) (eLC true [9] (iR1 (eV 5)) (gV 9) (tYes) (eV 7))) (eSl true (eV 8) (oS (eV 4)) (oN))),
  sSet 12 (eA (on1 (listD false)) (eL [eV 10])),
  sSet 13 (eA (F_ends_without) (eL [eV 0, eV 12])),
  sIf (tOr (tNot (tV (eA (F_q_same_v2 12) (eL [eV 13, eV 11])))) (tNot (tV (eA (F_q_same_v2 12) (eL [eV 12, eV 10]))))) (sB [sRet (eC (.bl false))]) (sB []),
  sIf (tNot (tV (eA (F_q_by_bearers) (eL [eV 1, eV 3, eV 7, eV 8, e2 (addD true) (eSl true (eV 13) (oN) (oS (eV 4))) (eSl true (eV 13) (oS (e2 (addD true) (eV 4) (eV 5))) (oN))])))) (sB [sRet (eC (.bl false))]) (sB []),
  sSub setIxD (eV 13) (eC (.int 0)) (eV 6),
  sE (eM isLst (mt1 appendD) (eV 13) (eL [eV 6])),
  sIf (tOr (tNot (tV (eA (F_q_same_v2 12) (eL [eA (F_ends_without) (eL [eV 0, eV 12]), eV 11])))) (tNot (tV (eA (F_q_same_v2 12) (eL [eV 12, eV 10]))))) (sB [sRet (eC (.bl false))]) (sB []),
  sSet 14 (eM isLst (mt1 popAtD) (eV 12) (eL [eC (.int 0)])),
  sE (eM isLst (mt1 appendD) (eV 12) (eL [eV 14])),
  sRet (eA (F_q_same_v2 12) (eL [eA (F_ends_without) (eL [eV 0, eV 12]), e2 (addD true) (eSl true (eV 11) (oS (eC (.int 1))) (oN)) (eSl true (eV 11) (oN) (oS (eC (.int 1))))]))]
def F_q_answers_v2 : AF := fnT 7 15 b_q_answers_v2
/- _law_due: _law_kinds_here, _law_rows, _law_record_here -/
def b_q_due_v2 : AS := sB [sIf (tB1 (e1 notNonD (eA (F_q_lowest) (eL [eV 0])))) (sB [sRet (eTup (eL [eC (.str [78, 111, 116, 70, 97, 105, 114]), eA (F_q_lowest) (eL [eV 0])]))]) (sB []),
  sIf (tB1 (e2 ltD (eA (on1 lenD) (eL [eV 1])) (eC (.int 2)))) (sB [sRet (eTup (eL [eC (.str [78, 111, 82, 101, 99, 111, 114, 100])]))]) (sB []),
  sFor (iS (eV 1)) (gV 2) (sB [sIf (tB1 (e2 neD (eA (on1 lenD) (eL [eV 2])) (eA (on1 lenD) (eL [eV 0])))) (sB [sRet (eTup (eL [eC (.str [66, 97, 100, 82, 101, 99, 111, 114, 100]), eV 2]))]) (sB [])]),
  sRet (eC .non)]
def F_q_due_v2 : AF := fnT 2 3 b_q_due_v2
/- _law_told: _law_forest, _law_rows, e, _law_family -/
def b_q_told_v2 : AS := sB [sTryAs [("BadRecord", true), ("NoRecord", true), ("BadForest", true), ("NotFair", true), ("FieldsDiffer", true), ("BadNumber", true), ("BadPlace", true), ("BadSizes", true)] 2 (sB [sE (eA (F_ends_without) (eL [eV 0, eV 1]))]) (fun x => sB [sSet 3 (eLst true (eL [eXis x [("BadRecord", true), ("NoRecord", true), ("BadForest", true), ("NotFair", true), ("FieldsDiffer", true), ("BadNumber", true), ("BadPlace", true), ("BadSizes", true)], eXis x [("BadRecord", false), ("NoRecord", false), ("BadForest", false), ("NotFair", true), ("FieldsDiffer", false), ("BadNumber", false), ("BadPlace", false), ("BadSizes", false)], eXis x [("BadRecord", false), ("NoRecord", true), ("BadForest", false), ("NotFair", false), ("FieldsDiffer", false), ("BadNumber", false), ("BadPlace", false), ("BadSizes", false)], eXis x [("BadRecord", true), ("NoRecord", false), ("BadForest", false), ("NotFair", false), ("FieldsDiffer", false), ("BadNumber", false), ("BadPlace", false), ("BadSizes", false)]])),
    sIf (tV (eXis x [("BadRecord", false), ("NoRecord", false), ("BadForest", true), ("NotFair", false), ("FieldsDiffer", true), ("BadNumber", true), ("BadPlace", true), ("BadSizes", true)])) (sB [sRet (eTup (eL [eC (.str [97, 110, 111, 116, 104, 101, 114])]))]) (sB []),
    sIf (tB1 (e2 eqD (eV 3) (eLst true (eL [eC (.bl true), eC (.bl true), eC (.bl false), eC (.bl false)])))) (sB [sRet (eTup (eL [eC (.str [78, 111, 116, 70, 97, 105, 114]), eXf ["BadForest", "NotFair"] x "field"]))]) (sB []),
    sIf (tB1 (e2 eqD (eV 3) (eLst true (eL [eC (.bl true), eC (.bl false), eC (.bl true), eC (.bl false)])))) (sB [sRet (eTup (eL [eC (.str [78, 111, 82, 101, 99, 111, 114, 100])]))]) (sB []),
    sIf (tB1 (e2 eqD (eV 3) (eLst true (eL [eC (.bl true), eC (.bl false), eC (.bl false), eC (.bl true)])))) (sB [sRet (eTup (eL [eC (.str [66, 97, 100, 82, 101, 99, 111, 114, 100]), eXf ["BadRecord"] x "record"]))]) (sB []),
    sRet (eTup (eL [eC (.str [97, 110, 111, 116, 104, 101, 114])]))]),
  sRet (eC .non)]
def F_q_told_v2 : AF := fnT 2 4 b_q_told_v2
/- _law_refuses: _law_tape_here, _law_forest, _law_parents_here, _law_kinds_here, _law_lot_here, _law_spoilt, _law_rows, _law_asked, _law_handed, _law_told_here -/
def b_q_refuses_v2 : AS := sB [sSet 5 (eA (on1 (listD true)) (eL [eV 3])),
  sIf (tB1 (e2 eqD (eA (F_q_take) (eL [eV 0, eC (.int 2)])) (eC (.int 0)))) (sB [sSet 5 (eA (F_q_unfair_v2) (eL [eV 0, eV 2, eV 3]))]) (sB []),
  sSet 6 (eA (on1 (listD true)) (eL [eV 4])),
  sIf (tB1 (e2 eqD (eA (F_q_take) (eL [eV 0, eC (.int 2)])) (eC (.int 0)))) (sB [sSet 6 (eSl true (eV 4) (oN) (oS (eA (F_q_take) (eL [eV 0, eC (.int 2)]))))]) (sB []),
  sSet 6 (eA (F_q_faulty) (eL [eV 0, eV 6])),
  sSet 7 (eV 1),
  sIf (tB1 (e2 neD (eV 5) (eV 3))) (sB [sSet 7 (eA (mkI "Forest" true (F_Forest_init)) (eL [eA (on1 (listD true)) (eL [eV 2]), eA (on1 (listD true)) (eL [eV 5])]))]) (sB []),
  sSet 8 (eA (on1 (listD true)) (eL [eV 6])),
  sSet 9 (eA (F_q_told_v2) (eL [eV 7, eV 8])),
  sRet (eAnd (eA (F_q_same_v2 12) (eL [eV 9, eA (F_q_due_v2) (eL [eV 5, eV 6])])) (eA (F_q_same_v2 12) (eL [eV 8, eV 6])))]
def F_q_refuses_v2 : AF := fnT 5 10 b_q_refuses_v2
/- law: _law_script, _law_tape_here, _law_n, _law_parents_here, _law_count_here, _law_span_here, _law_many, _law_place, _law_turn, _law_kinds_here, _law_lot_here, _law_paths_here, _law_worse_here, _law_forest -/
def b_law_k15 : AS := sB [sSet 1 (eA (F_q_tape) (eL [eV 0, eC (.int 0)])),
  sSet 2 (eA (F_q_fields) (eL [eV 1])),
  sSet 3 (eA (F_q_parents) (eL [eV 1, eV 2])),
  sSet 4 (eA (F_q_count) (eL [eV 1, eC (.int 2)])),
  sSet 5 (eA (F_q_span) (eL [eV 1])),
  sSet 6 (eC (.int 0)),
  sIf (tAnd (tB1 (e2 eqD (eA (F_q_take) (eL [eV 1, eC (.int 8)])) (eC (.int 0)))) (tB1 (e2 ltD (eV 2) (eC (.int 5))))) (sB [sSet 6 (e2 (addD true) (eC (.int 60)) (eA (F_q_take) (eL [eV 1, eC (.int 20)])))]) (sB []),
  sSet 7 (eA (F_q_take) (eL [eV 1, e2 (addD true) (eV 4) (eC (.int 1))])),
  sSet 8 (eA (F_q_tape) (eL [eV 0, eC (.int 1)])),
  sSet 9 (eA (F_q_kinds) (eL [eV 8, eV 3, eC (.bl true)])),
  sSet 10 (eA (F_q_lot) (eL [eV 0, eC (.int 2), eV 2, eV 4, eV 5])),
  sSet 11 (eA (F_q_paths) (eL [eV 3])),
  sSet 12 (eA (F_q_worse) (eL [eV 3, eV 9, eV 10])),
  sSet 13 (eA (mkI "Forest" true (F_Forest_init)) (eL [eA (on1 (listD true)) (eL [eV 3]), eA (on1 (listD true)) (eL [eV 9])])),
  sIf (tNot (tV (eA (F_q_answers_v2) (eL [eV 13, eV 11, eV 9, eV 10, eV 7, eV 6, eV 12])))) (sB [sRet (eC (.bl false))]) (sB []),
  sIf (tNot (tV (eA (F_q_refuses_v2) (eL [eV 8, eV 13, eV 3, eV 9, eV 10])))) (sB [sRet (eC (.bl false))]) (sB []),
  sRet (eA (F_q_answers_v2) (eL [eV 13, eV 11, eV 9, e2 (addD true) (eV 10) (eLst true (eL [e2 ixD (eV 10) (eC (.int 0))])), eC (.int 0), eC (.int 0), eV 12]))]
def F_law_k15 : AF := fnT 1 14 b_law_k15
end Sm
end

section
set_option linter.all false
/-! k59: plain computations (printed by gen2.py) -/
namespace Sm
/- check_bound: forest, copy, bound -/
def b_check_bound : AS := sB [sE (eA (F_check_fair) (eL [eV 0])),
  sE (eA (F_check_record) (eL [e1 (fldD ["Forest"] "fields") (eV 0), eV 1])),
  sE (eA (F_check_record) (eL [e1 (fldD ["Forest"] "fields") (eV 0), eV 2]))]
def F_check_bound : AF := fnT 3 3 b_check_bound
/- is_firm: forest, copy, bound, field, place -/
def b_is_firm : AS := sB [sSet 4 (eA (F_first_unlike_on) (eL [eA (F_path_of) (eL [e1 (fldD ["Forest"] "parents") (eV 0), eV 3]), eV 1, eV 2])),
  sRet (eOr (e1 isNonD (eV 4)) (eA (F_better) (eL [e2 ixD (e1 (fldD ["Forest"] "kinds") (eV 0)) (eV 4), e2 ixD (eV 1) (eV 4), e2 ixD (eV 2) (eV 4)])))]
def F_is_firm : AF := fnT 4 5 b_is_firm
/- firm_fields: forest, copy, bound, field -/
def b_firm_fields : AS := sB [sE (eA (F_check_bound) (eL [eV 0, eV 1, eV 2])),
  sRet (eA (on1 tupD) (eL [eLC true [3] (iR1 (e1 (fldD ["Forest"] "fields") (eV 0))) (gV 3) (tV (eA (F_is_firm) (eL [eV 0, eV 1, eV 2, eV 3]))) (eV 3)]))]
def F_firm_fields : AF := fnT 3 4 b_firm_fields
/- raised: kind, value, by -/
def b_raised : AS := sB [sIf (tB1 (e2 eqD (eV 0) (eC (.str [100, 111, 119, 110])))) (sB [sRet (e2 subD (eV 1) (eV 2))]) (sB []),
  sRet (e2 (addD true) (eV 1) (eV 2))]
def F_raised : AF := fnT 3 3 b_raised
/- moving_letter: forest, copy, bound, field, result -/
def b_moving_letter : AS := sB [sE (eA (F_check_bound) (eL [eV 0, eV 1, eV 2])),
  sE (eA (F_check_place) (eL [e1 (fldD ["Forest"] "fields") (eV 0), eV 3])),
  sIf (tV (eA (F_is_firm) (eL [eV 0, eV 1, eV 2, eV 3]))) (sB [sRet (eC .non)]) (sB []),
  sSet 4 (eA (on1 (listD false)) (eL [eV 2])),
  sIf (tB1 (e2 eqD (e2 ixD (eV 1) (eV 3)) (e2 ixD (eV 2) (eV 3)))) (sB [sSub setIxD (eV 4) (eV 3) (eA (F_raised) (eL [e2 ixD (e1 (fldD ["Forest"] "kinds") (eV 0)) (eV 3), e2 ixD (eV 2) (eV 3), e1 negD (eC (.int 1))]))]) (sB []),
  sRet (eA (on1 tupD) (eL [eV 4]))]
def F_moving_letter : AF := fnT 4 5 b_moving_letter
/- _law_ask: _law_which, _law_forest, _law_held, _law_bound, _law_field, _law_found, e -/
def b_q_ask_v2 : AS := sB [sSet 5 (eLst false (eL [])),
  sTryAs [("BadRecord", true), ("BadTree", true), ("BadForest", true), ("NotFair", true), ("CannotLand", true), ("BadLetter", true), ("BadAnswer", true), ("BadPlace", true), ("Marked", true)] 6 (sB [sIf (tB1 (e2 eqD (eV 0) (eC (.int 0)))) (sB [sRet (eLst true (eL [eA (F_firm_fields) (eL [eV 1, eV 2, eV 3])]))]) (sB []),
    sRet (eLst true (eL [eA (F_moving_letter) (eL [eV 1, eV 2, eV 3, eV 4])]))]) (fun x => sB [sIf (tOr (tNot (tV (eXis x [("BadRecord", true), ("BadTree", true), ("BadForest", true), ("NotFair", true), ("CannotLand", true), ("BadLetter", true), ("BadAnswer", true), ("BadPlace", true), ("Marked", true)]))) (tOr (tV (eXis x [("BadRecord", false), ("BadTree", false), ("BadForest", false), ("NotFair", false), ("CannotLand", false), ("BadLetter", false), ("BadAnswer", false), ("BadPlace", false), ("Marked", true)])) (tV (eXis x [("BadRecord", false), ("BadTree", false), ("BadForest", true), ("NotFair", false), ("CannotLand", false), ("BadLetter", false), ("BadAnswer", false), ("BadPlace", false), ("Marked", false)])))) (sB [sE (eM isLst (mt1 appendD) (eV 5) (eL [eTup (eL [eC (.str [97, 110, 111, 116, 104, 101, 114, 32, 99, 108, 97, 115, 115]), eC (.int 0)])]))]) (sB []),
    sIf (tV (eXis x [("BadRecord", false), ("BadTree", true), ("BadForest", false), ("NotFair", false), ("CannotLand", true), ("BadLetter", true), ("BadAnswer", true), ("BadPlace", false), ("Marked", false)])) (sB [sE (eM isLst (mt1 appendD) (eV 5) (eL [eTup (eL [eC (.str [97, 110, 111, 116, 104, 101, 114, 32, 99, 108, 97, 115, 115]), eC (.int 0)])]))]) (sB []),
    sIf (tV (eXis x [("BadRecord", false), ("BadTree", false), ("BadForest", false), ("NotFair", true), ("CannotLand", false), ("BadLetter", false), ("BadAnswer", false), ("BadPlace", false), ("Marked", false)])) (sB [sE (eM isLst (mt1 appendD) (eV 5) (eL [eTup (eL [eC (.str [78, 111, 116, 70, 97, 105, 114]), eXf ["BadTree", "BadForest", "NotFair", "CannotLand", "BadLetter", "BadAnswer"] x "field"])]))]) (sB []),
    sIf (tV (eXis x [("BadRecord", true), ("BadTree", false), ("BadForest", false), ("NotFair", false), ("CannotLand", false), ("BadLetter", false), ("BadAnswer", false), ("BadPlace", false), ("Marked", false)])) (sB [sE (eM isLst (mt1 appendD) (eV 5) (eL [eTup (eL [eC (.str [66, 97, 100, 82, 101, 99, 111, 114, 100]), eXf ["BadRecord"] x "record"])]))]) (sB []),
    sIf (tV (eXis x [("BadRecord", false), ("BadTree", false), ("BadForest", false), ("NotFair", false), ("CannotLand", false), ("BadLetter", false), ("BadAnswer", false), ("BadPlace", true), ("Marked", true)])) (sB [sE (eM isLst (mt1 appendD) (eV 5) (eL [eTup (eL [eC (.str [66, 97, 100, 80, 108, 97, 99, 101]), eXf ["BadPlace", "Marked"] x "place"])]))]) (sB [])]),
  sRet (eA (on1 tupD) (eL [eV 5]))]
def F_q_ask_v2 : AF := fnT 5 7 b_q_ask_v2
/- _law_closed: _law_parents_here, _law_firm_here, _law_field, _law_place -/
def b_q_closed : AS := sB [sFor (iS (eV 1)) (gV 2) (sB [sIf (tB1 (e2 neD (eLC true [3] (iS (eA (F_q_path) (eL [eV 0, eV 2]))) (gV 3) (tB1 (e2 notInD (eV 3) (eV 1))) (eV 3)) (eLst true (eL [])))) (sB [sRet (eC (.bl false))]) (sB [])]),
  sRet (eC (.bl true))]
def F_q_closed : AF := fnT 2 4 b_q_closed
/- _law_firm: _law_parents_here, _law_kinds_here, _law_held, _law_bound, _law_field -/
def b_q_firm : AS := sB [sRet (eLC true [4] (iR1 (eA (on1 lenD) (eL [eV 1]))) (gV 4) (tB1 (e2 eqD (eA (F_q_side) (eL [eV 0, eV 1, eV 4, eV 2, eV 3])) (eC (.int 0)))) (eV 4))]
def F_q_firm : AF := fnT 4 5 b_q_firm
/- _law_is_ascending: _law_actual, _law_n, _law_last, _law_value_here -/
def b_q_is_ascending : AS := sB [sIf (tNot (tV (e1 (isTy "tuple") (eV 0)))) (sB [sRet (eC (.bl false))]) (sB []),
  sSet 2 (e2 subD (eC (.int 0)) (eC (.int 1))),
  sFor (iS (eV 0)) (gV 3) (sB [sIf (tOr (tNot (tV (eA (F_q_is_integer) (eL [eV 3])))) (tNot (tB1 (eChain ltD ltD (eV 2) (eV 3) (eV 1))))) (sB [sRet (eC (.bl false))]) (sB []),
    sSet 2 (eV 3)]),
  sRet (eC (.bl true))]
def F_q_is_ascending : AF := fnT 2 4 b_q_is_ascending
/- _law_is_firm: _law_told, _law_firm_here, _law_n -/
def b_q_is_firm : AS := sB [sRet (eAnd (e1 (isTy "list") (eV 0)) (eAnd (eA (F_q_is_ascending) (eL [e2 ixD (eV 0) (eC (.int 0)), eV 2])) (e2 eqD (e2 ixD (eV 0) (eC (.int 0))) (eA (on1 tupD) (eL [eV 1])))))]
def F_q_is_firm : AF := fnT 3 3 b_q_is_firm
/- _law_is_refusal: _law_told, _law_due -/
def b_q_is_refusal_v2 : AS := sB [sIf (tOr (tNot (tV (e1 (isTy "tuple") (eV 0)))) (tOr (tB1 (e2 neD (eA (on1 lenD) (eL [eV 0])) (eC (.int 1)))) (tB1 (e2 neD (e2 ixD (e2 ixD (eV 0) (eC (.int 0))) (eC (.int 0))) (e2 ixD (eV 1) (eC (.int 0))))))) (sB [sRet (eC (.bl false))]) (sB []),
  sIf (tB1 (e2 eqD (e2 ixD (eV 1) (eC (.int 0))) (eC (.str [66, 97, 100, 82, 101, 99, 111, 114, 100])))) (sB [sRet (eAnd (eA (F_q_is_record) (eL [e2 ixD (e2 ixD (eV 0) (eC (.int 0))) (eC (.int 1)), eA (on1 lenD) (eL [e2 ixD (eV 1) (eC (.int 1))])])) (e2 eqD (e2 ixD (e2 ixD (eV 0) (eC (.int 0))) (eC (.int 1))) (e2 ixD (eV 1) (eC (.int 1)))))]) (sB []),
  sRet (eAnd (eA (F_q_is_integer) (eL [e2 ixD (e2 ixD (eV 0) (eC (.int 0))) (eC (.int 1))])) (e2 eqD (e2 ixD (e2 ixD (eV 0) (eC (.int 0))) (eC (.int 1))) (e2 ixD (eV 1) (eC (.int 1)))))]
def F_q_is_refusal_v2 : AF := fnT 2 2 b_q_is_refusal_v2
/- Forest.__call__: self, older, newer -/
def b_Forest_call : AS := sB [sE (eA (F_check_record) (eL [e1 (fldD ["Forest"] "fields") (eV 0), eV 1])),
  sE (eA (F_check_record) (eL [e1 (fldD ["Forest"] "fields") (eV 0), eV 2])),
  sRet (eA (F_merged_record) (eL [e1 (fldD ["Forest"] "parents") (eV 0), e1 (fldD ["Forest"] "kinds") (eV 0), eV 1, eV 2]))]
def F_Forest_call : AF := fnT 3 3 b_Forest_call
/- _law_merge: _law_parents_here, _law_kinds_here, _law_older, _law_newer, _law_pair, _law_f -/
def b_q_merge_v2 : AS := sB [sSet 4 (eLst true (eL [eV 2, eV 3])),
  sRet (eA (on1 tupD) (eL [eLC true [5] (iR1 (eA (on1 lenD) (eL [eV 0]))) (gV 5) (tYes) (e2 ixD (e2 ixD (eV 4) (eA (F_q_side) (eL [eV 0, eV 1, eV 5, eV 2, eV 3]))) (eV 5))]))]
def F_q_merge_v2 : AF := fnT 4 6 b_q_merge_v2
/- _law_step: _law_kind, _law_old, _law_new -/
def b_q_step : AS := sB [sIf (tB1 (e2 eqD (eV 1) (eV 2))) (sB [sRet (eC (.int 0))]) (sB []),
  sIf (tB1 (e2 eqD (e2 gtD (eV 2) (eV 1)) (e2 eqD (eV 0) (eC (.str [117, 112]))))) (sB [sRet (eC (.int 1))]) (sB []),
  sRet (e2 subD (eC (.int 0)) (eC (.int 1)))]
def F_q_step : AF := fnT 3 3 b_q_step
/- _law_moves: _law_forest, _law_parents_here, _law_kinds_here, _law_question_here, _law_field, _law_told, _law_held, _law_bound, _law_place, _law_end, _law_pair, _law_merged -/
def b_q_moves : AS := sB [sSet 6 (e2 ixD (eV 3) (eC (.int 0))),
  sSet 7 (e2 ixD (eV 3) (eC (.int 1))),
  sIf (tOr (tNot (tV (e1 (isTy "list") (eV 5)))) (tNot (tV (eA (F_q_is_record) (eL [e2 ixD (eV 5) (eC (.int 0)), eA (on1 lenD) (eL [eV 2])]))))) (sB [sRet (eC (.bl false))]) (sB []),
  sFor (iR1 (eA (on1 lenD) (eL [eV 2]))) (gV 8) (sB [sIf (tB1 (e2 gtD (eA (F_q_step) (eL [e2 ixD (eV 2) (eV 8), e2 ixD (eV 7) (eV 8), e2 ixD (e2 ixD (eV 5) (eC (.int 0))) (eV 8)])) (eC (.int 0)))) (sB [sRet (eC (.bl false))]) (sB [])]),
  sSet 9 (eA (F_q_merge_v2) (eL [eV 1, eV 2, eV 6, e2 ixD (eV 5) (eC (.int 0))])),
  sFor (iS (eLst true (eL [eTup (eL [eV 6, e2 ixD (eV 5) (eC (.int 0))]), eTup (eL [e2 ixD (eV 5) (eC (.int 0)), eV 6])]))) (gV 10) (sB [sSet 11 (eCal [("Forest", F_Forest_call)] (eV 0) (eL [e2 ixD (eV 10) (eC (.int 0)), e2 ixD (eV 10) (eC (.int 1))])),
    sIf (tOr (tNot (tV (eA (F_q_is_record) (eL [eV 11, eA (on1 lenD) (eL [eV 2])])))) (tB1 (e2 neD (eV 11) (eV 9)))) (sB [sRet (eC (.bl false))]) (sB [])]),
  sRet (e2 neD (e2 ixD (eV 9) (eV 4)) (e2 ixD (eV 6) (eV 4)))]
def F_q_moves : AF := fnT 6 12 b_q_moves
/- _law_refusal: _law_kinds_here, _law_held, _law_bound, _law_unfair_here, _law_record_here -/
def b_q_refusal_v2 : AS := sB [sSet 3 (eA (F_q_unfair) (eL [eV 0])),
  sIf (tB1 (e1 notNonD (eV 3))) (sB [sRet (eV 3)]) (sB []),
  sFor (iS (eLst true (eL [eV 1, eV 2]))) (gV 4) (sB [sIf (tB1 (e2 neD (eA (on1 lenD) (eL [eV 4])) (eA (on1 lenD) (eL [eV 0])))) (sB [sRet (eTup (eL [eC (.str [66, 97, 100, 82, 101, 99, 111, 114, 100]), eV 4]))]) (sB [])]),
  sRet (eC .non)]
def F_q_refusal_v2 : AF := fnT 3 5 b_q_refusal_v2
/- _law_stay_firm: _law_forest, _law_parents_here, _law_kinds_here, _law_question_here, _law_firm_here, _law_now, _law_letter, _law_merged, _law_later, _law_field -/
def b_q_stay_firm : AS := sB [sSet 5 (e2 ixD (eV 3) (eC (.int 0))),
  sFor (iS (e2 ixD (eV 3) (eC (.int 2)))) (gV 6) (sB [sSet 7 (eCal [("Forest", F_Forest_call)] (eV 0) (eL [eV 5, eV 6])),
    sIf (tOr (tNot (tV (eA (F_q_is_record) (eL [eV 7, eA (on1 lenD) (eL [eV 2])])))) (tB1 (e2 neD (eV 7) (eA (F_q_merge_v2) (eL [eV 1, eV 2, eV 5, eV 6]))))) (sB [sRet (eC (.bl false))]) (sB []),
    sSet 8 (eA (F_q_firm) (eL [eV 1, eV 2, eV 7, e2 ixD (eV 3) (eC (.int 1))])),
    sFor (iS (eV 4)) (gV 9) (sB [sIf (tOr (tB1 (e2 neD (e2 ixD (eV 7) (eV 9)) (e2 ixD (eV 5) (eV 9)))) (tB1 (e2 notInD (eV 9) (eV 8)))) (sB [sRet (eC (.bl false))]) (sB [])]),
    sIf (tNot (tV (eA (F_q_is_firm) (eL [eA (F_q_ask_v2) (eL [eC (.int 0), eV 0, eV 7, e2 ixD (eV 3) (eC (.int 1)), eC (.int 0)]), eV 8, eA (on1 lenD) (eL [eV 2])])))) (sB [sRet (eC (.bl false))]) (sB []),
    sSet 5 (eV 7),
    sSet 4 (eV 8)]),
  sRet (eC (.bl true))]
def F_q_stay_firm : AF := fnT 5 10 b_q_stay_firm
/- _law_holds: _law_forest, _law_parents_here, _law_kinds_here, _law_question_here, _law_due, _law_told, _law_strange, _law_shown, _law_field, _law_answer, _law_firm_here -/
def b_q_holds_v2 : AS := sB [sSet 4 (eA (F_q_refusal_v2) (eL [eV 2, e2 ixD (eV 3) (eC (.int 0)), e2 ixD (eV 3) (eC (.int 1))])),
  sSet 5 (eA (F_q_ask_v2) (eL [eC (.int 0), eV 0, e2 ixD (eV 3) (eC (.int 0)), e2 ixD (eV 3) (eC (.int 1)), eC (.int 0)])),
  sSet 6 (eA (F_q_ask_v2) (eL [eC (.int 1), eV 0, e2 ixD (eV 3) (eC (.int 0)), e2 ixD (eV 3) (eC (.int 1)), e2 ixD (eV 3) (eC (.int 3))])),
  sSet 7 (eLC true [8] (iR1 (eA (on1 lenD) (eL [eV 2]))) (gV 8) (tYes) (eA (F_q_ask_v2) (eL [eC (.int 1), eV 0, e2 ixD (eV 3) (eC (.int 0)), e2 ixD (eV 3) (eC (.int 1)), eV 8]))),
  sIf (tB1 (e1 notNonD (eV 4))) (sB [sFor (iS (e2 (addD true) (eLst true (eL [eV 5, eV 6])) (eV 7))) (gV 9) (sB [sIf (tNot (tV (eA (F_q_is_refusal_v2) (eL [eV 9, eV 4])))) (sB [sRet (eC (.bl false))]) (sB [])]),
    sRet (eC (.bl true))]) (sB []),
  sSet 10 (eA (F_q_firm) (eL [eV 1, eV 2, e2 ixD (eV 3) (eC (.int 0)), e2 ixD (eV 3) (eC (.int 1))])),
  sIf (tOr (tNot (tV (eA (F_q_is_firm) (eL [eV 5, eV 10, eA (on1 lenD) (eL [eV 2])])))) (tNot (tV (eA (F_q_closed) (eL [eV 1, eV 10]))))) (sB [sRet (eC (.bl false))]) (sB []),
  sIf (tNot (tV (eA (F_q_is_refusal_v2) (eL [eV 6, eTup (eL [eC (.str [66, 97, 100, 80, 108, 97, 99, 101]), e2 ixD (eV 3) (eC (.int 3))])])))) (sB [sRet (eC (.bl false))]) (sB []),
  sFor (iR1 (eA (on1 lenD) (eL [eV 2]))) (gV 8) (sB [sIf (tB1 (e2 inD (eV 8) (eV 10))) (sB [sIf (tOr (tNot (tV (e1 (isTy "list") (e2 ixD (eV 7) (eV 8))))) (tB1 (e1 notNonD (e2 ixD (e2 ixD (eV 7) (eV 8)) (eC (.int 0)))))) (sB [sRet (eC (.bl false))]) (sB [])]) (sB [sIf (tNot (tV (eA (F_q_moves) (eL [eV 0, eV 1, eV 2, eV 3, eV 8, e2 ixD (eV 7) (eV 8)])))) (sB [sRet (eC (.bl false))]) (sB [])])]),
  sRet (eA (F_q_stay_firm) (eL [eV 0, eV 1, eV 2, eV 3, eV 10]))]
def F_q_holds_v2 : AF := fnT 4 11 b_q_holds_v2
/- _law_no_field: _law_tape_here, _law_n -/
def b_q_no_field : AS := sB [sRet (e2 ixD (eLst true (eL [e2 subD (eC (.int 0)) (eC (.int 1)), eV 1, e2 (addD true) (eV 1) (eC (.int 1)), e2 subD (eC (.int 0)) (eV 1), e2 subD (e2 subD (eC (.int 0)) (eV 1)) (eC (.int 1)), e2 powD (eC (.int 10)) (eC (.int 20))])) (eA (F_q_take) (eL [eV 0, eC (.int 6)])))]
def F_q_no_field : AF := fnT 2 2 b_q_no_field
/- _law_raised: _law_kind, _law_value_here, _law_by -/
def b_q_raised_v2 : AS := sB [sIf (tB1 (e2 eqD (eV 0) (eC (.str [100, 111, 119, 110])))) (sB [sRet (e2 subD (eV 1) (eV 2))]) (sB []),
  sRet (e2 (addD true) (eV 1) (eV 2))]
def F_q_raised_v2 : AF := fnT 3 3 b_q_raised_v2
/- _law_question: _law_script, _law_turn, _law_kinds_here, _law_n, _law_held, _law_tape_here, _law_bound, _law_steps, _law_field, _law_strange, _law_spoil, _law_letters, _law_k, _law_healed -/
def b_q_question_v2 : AS := sB [sSet 3 (eA (on1 lenD) (eL [eV 2])),
  sSet 4 (eA (F_q_record) (eL [eA (F_q_tape) (eL [eV 0, e2 (addD true) (eC (.int 2)) (e2 (mulD true) (eC (.int 8)) (eV 1))]), eV 3, eC (.int 3)])),
  sSet 5 (eA (F_q_tape) (eL [eV 0, e2 (addD true) (eC (.int 3)) (e2 (mulD true) (eC (.int 8)) (eV 1))])),
  sSet 6 (eA (F_q_record) (eL [eV 5, eV 3, eC (.int 3)])),
  sIf (tB1 (e2 gtD (eA (F_q_take) (eL [eV 5, eC (.int 3)])) (eC (.int 0)))) (sB [sSet 7 (eLC true [8] (iR1 (eV 3)) (gV 8) (tYes) (e2 ixD (eLst true (eL [eC (.int 0), eC (.int 0), eC (.int 0), eC (.int 1), eC (.int 2), eC (.int 3), e2 powD (eC (.int 10)) (eC (.int 30)), e2 subD (eC (.int 0)) (eC (.int 1)), e2 subD (eC (.int 0)) (eC (.int 2)), e2 subD (eC (.int 0)) (e2 powD (eC (.int 10)) (eC (.int 30)))])) (eA (F_q_take) (eL [eV 5, eC (.int 10)])))),
    sSet 6 (eA (on1 tupD) (eL [eLC true [8] (iR1 (eV 3)) (gV 8) (tYes) (eA (F_q_raised_v2) (eL [e2 ixD (eV 2) (eV 8), e2 ixD (eV 4) (eV 8), e2 ixD (eV 7) (eV 8)]))]))]) (sB []),
  sSet 9 (eA (F_q_no_field) (eL [eV 5, eV 3])),
  sSet 10 (eA (F_q_take) (eL [eV 5, eC (.int 16)])),
  sSet 11 (eLst false (eL [])),
  sFor (iR1 (eA (F_q_take) (eL [eV 5, eC (.int 7)]))) (gV 12) (sB [sSet 5 (eA (F_q_tape) (eL [eV 0, e2 (addD true) (e2 (addD true) (eC (.int 4)) (e2 (mulD true) (eC (.int 8)) (eV 1))) (eV 12)])),
    sSet 7 (eLC true [8] (iR1 (eV 3)) (gV 8) (tYes) (e2 ixD (eLst true (eL [eC (.int 0), eC (.int 0), e2 subD (eC (.int 0)) (eC (.int 1)), e2 subD (eC (.int 0)) (eC (.int 2)), e2 subD (eC (.int 0)) (eC (.int 3)), e2 subD (eC (.int 0)) (e2 powD (eC (.int 10)) (eC (.int 30)))])) (eA (F_q_take) (eL [eV 5, eC (.int 6)])))),
    sE (eM isLst (mt1 appendD) (eV 11) (eL [eA (on1 tupD) (eL [eLC true [8] (iR1 (eV 3)) (gV 8) (tYes) (eA (F_q_raised_v2) (eL [e2 ixD (eV 2) (eV 8), e2 ixD (eV 6) (eV 8), e2 ixD (eV 7) (eV 8)]))])]))]),
  sSet 13 (eLst true (eL [eV 4, eV 6, eV 11, eV 9])),
  sIf (tOr (tB1 (e2 eqD (eV 10) (eC (.int 0)))) (tB1 (e2 eqD (eV 10) (eC (.int 2))))) (sB [sSet 4 (e2 (addD true) (eV 4) (eTup (eL [eC (.int 7)])))]) (sB []),
  sIf (tB1 (e2 eqD (eV 10) (eC (.int 1)))) (sB [sSet 4 (eSl true (eV 4) (oS (eC (.int 1))) (oN))]) (sB []),
  sIf (tOr (tB1 (e2 eqD (eV 10) (eC (.int 2)))) (tB1 (e2 eqD (eV 10) (eC (.int 3))))) (sB [sSet 6 (eSl true (eV 6) (oS (eC (.int 1))) (oN))]) (sB []),
  sRet (eLst true (eL [eLst true (eL [eV 4, eV 6, eV 11, eV 9]), eV 13]))]
def F_q_question_v2 : AF := fnT 3 14 b_q_question_v2
/- law: _law_script, _law_tape_here, _law_n, _law_parents_here, _law_fair, _law_kinds_here, _law_level_here, _law_ranks, _law_forests, _law_turns_here, _law_at, _law_asked, _law_k, _law_pick -/
def b_law_k59 : AS := sB [sSet 1 (eA (F_q_tape) (eL [eV 0, eC (.int 0)])),
  sSet 2 (eA (F_q_size) (eL [eV 1])),
  sSet 3 (eA (F_q_parents) (eL [eV 1, eV 2])),
  sSet 1 (eA (F_q_tape) (eL [eV 0, eC (.int 1)])),
  sSet 4 (e2 gtD (eA (F_q_take) (eL [eV 1, eC (.int 6)])) (eC (.int 0))),
  sSet 5 (eA (F_q_kinds) (eL [eV 1, eV 3, eV 4])),
  sSet 6 (eA (F_q_level) (eL [eV 5])),
  sSet 7 (eLst true (eL [eV 5, eV 6])),
  sSet 8 (eLst true (eL [eA (mkI "Forest" true (F_Forest_init)) (eL [eA (on1 (listD true)) (eL [eV 3]), eA (on1 (listD true)) (eL [eV 5])]), eA (mkI "Forest" true (F_Forest_init)) (eL [eA (on1 (listD true)) (eL [eV 3]), eA (on1 (listD true)) (eL [eV 6])])])),
  sSet 9 (eLst true (eL [eC (.int 0), eC (.int 1), eC (.int 0)])),
  sFor (iR1 (eA (on1 lenD) (eL [eV 9]))) (gV 10) (sB [sSet 11 (eA (F_q_question_v2) (eL [eV 0, e2 ixD (eV 9) (eV 10), eV 6])),
    sFor (iR1 (eC (.int 2))) (gV 12) (sB [sSet 13 (e2 modD (eA (on1 intD) (eL [e2 (addD true) (eV 12) (eV 10)])) (eC (.int 2))),
      sIf (tNot (tV (eA (F_q_holds_v2) (eL [e2 ixD (eV 8) (eV 13), eV 3, e2 ixD (eV 7) (eV 13), e2 ixD (eV 11) (eV 12)])))) (sB [sRet (eC (.bl false))]) (sB [])])]),
  sRet (eAnd (eA (F_q_stays) (eL [e2 ixD (eV 8) (eC (.int 0)), eV 3, eV 5])) (eA (F_q_stays) (eL [e2 ixD (eV 8) (eC (.int 1)), eV 3, eV 6])))]
def F_law_k59 : AF := fnT 1 14 b_law_k59
end Sm
end

section
set_option linter.all false
/-! k64: plain computations (printed by gen2.py) -/
namespace Sm
/- PlainBook.__init__: self, forest, hangs, hang -/
def b_PlainBook_init : AS := sB [sE (eA (F_check_fair) (eL [eV 1])),
  sFor (iS (eV 2)) (gV 3) (sB [sIf (tB1 (e1 notNonD (eV 3))) (sB [sE (eA (F_check_place) (eL [e1 (fldD ["Forest"] "fields") (eV 1), eV 3]))]) (sB [])]),
  sFldS (setFldD ["PlainBook"] "forest") (eV 0) (eV 1),
  sFldS (setFldD ["PlainBook"] "hangs") (eV 0) (eA (on1 tupD) (eL [eV 2]))]
def F_PlainBook_init : AF := fnT 3 4 b_PlainBook_init
/- check_plain: fields, plain, record -/
def b_check_plain : AS := sB [sIf (tOr (tB1 (e2 neD (eA (on1 lenD) (eL [e2 ixD (eV 2) (eC (.int 0))])) (eV 0))) (tB1 (e2 neD (eA (on1 lenD) (eL [e2 ixD (eV 2) (eC (.int 1))])) (eV 1)))) (sB [sRaise "BadRecord" ["record"] (eL [eV 2])]) (sB [])]
def F_check_plain : AF := fnT 3 3 b_check_plain
/- check_plain_records: fields, plain, records, record -/
def b_check_plain_records : AS := sB [sIf (tB1 (e2 eqD (eA (on1 lenD) (eL [eV 2])) (eC (.int 0)))) (sB [sRaise0 "NoRecord"]) (sB []),
  sFor (iS (eV 2)) (gV 3) (sB [sE (eA (F_check_plain) (eL [eV 0, eV 1, eV 3]))])]
def F_check_plain_records : AF := fnT 3 4 b_check_plain_records
/- plain_value: forest, hang, one, two, which, field -/
def b_plain_value : AS := sB [sIf (tB1 (e2 eqD (e2 ixD (e2 ixD (eV 2) (eC (.int 1))) (eV 4)) (e2 ixD (e2 ixD (eV 3) (eC (.int 1))) (eV 4)))) (sB [sRet (e2 ixD (e2 ixD (eV 2) (eC (.int 1))) (eV 4))]) (sB []),
  sIf (tB1 (e1 isNonD (eV 1))) (sB [sRet (eC (.int 0))]) (sB []),
  sSet 5 (eA (F_first_unlike_on) (eL [eA (F_path_of) (eL [e1 (fldD ["Forest"] "parents") (eV 0), eV 1]), e2 ixD (eV 2) (eC (.int 0)), e2 ixD (eV 3) (eC (.int 0))])),
  sIf (tB1 (e1 isNonD (eV 5))) (sB [sRet (eC (.int 0))]) (sB []),
  sIf (tV (eA (F_better) (eL [e2 ixD (e1 (fldD ["Forest"] "kinds") (eV 0)) (eV 5), e2 ixD (e2 ixD (eV 2) (eC (.int 0))) (eV 5), e2 ixD (e2 ixD (eV 3) (eC (.int 0))) (eV 5)]))) (sB [sRet (e2 ixD (e2 ixD (eV 2) (eC (.int 1))) (eV 4))]) (sB []),
  sRet (e2 ixD (e2 ixD (eV 3) (eC (.int 1))) (eV 4))]
def F_plain_value : AF := fnT 5 6 b_plain_value
/- merged_plain: forest, hangs, older, newer, ranked, plain, which -/
def b_merged_plain : AS := sB [sSet 4 (eA (F_merged_record) (eL [e1 (fldD ["Forest"] "parents") (eV 0), e1 (fldD ["Forest"] "kinds") (eV 0), e2 ixD (eV 2) (eC (.int 0)), e2 ixD (eV 3) (eC (.int 0))])),
  sSet 5 (eLC true [6] (iR1 (eA (on1 lenD) (eL [eV 1]))) (gV 6) (tYes) (eA (F_plain_value) (eL [eV 0, e2 ixD (eV 1) (eV 6), eV 2, eV 3, eV 6]))),
  sRet (eTup (eL [eV 4, eA (on1 tupD) (eL [eV 5])]))]
def F_merged_plain : AF := fnT 4 7 b_merged_plain
/- PlainBook.end: self, records, result, record -/
def b_PlainBook_end : AS := sB [sE (eA (F_check_plain_records) (eL [e1 (fldD ["Forest"] "fields") (e1 (fldD ["PlainBook"] "forest") (eV 0)), eA (on1 lenD) (eL [e1 (fldD ["PlainBook"] "hangs") (eV 0)]), eV 1])),
  sSet 2 (e2 ixD (eV 1) (eC (.int 0))),
  sFor (iS (eSl true (eV 1) (oS (eC (.int 1))) (oN))) (gV 3) (sB [sSet 2 (eA (F_merged_plain) (eL [e1 (fldD ["PlainBook"] "forest") (eV 0), e1 (fldD ["PlainBook"] "hangs") (eV 0), eV 2, eV 3]))]),
  sRet (eV 2)]
def F_PlainBook_end : AF := fnT 2 4 b_PlainBook_end
/- _law_count: _law_tape_here -/
def b_q_count_v2 : AS := sB [sIf (tB1 (e2 eqD (eA (F_q_take) (eL [eV 0, eC (.int 8)])) (eC (.int 0)))) (sB [sRet (e2 (addD true) (eC (.int 9)) (eA (F_q_take) (eL [eV 0, eC (.int 12)])))]) (sB []),
  sRet (e2 (addD true) (eC (.int 1)) (eA (F_q_take) (eL [eV 0, eC (.int 8)])))]
def F_q_count_v2 : AF := fnT 1 1 b_q_count_v2
/- _law_bearers_value: _law_parents_here, _law_records, _law_end, _law_hang, _law_which, _law_path_here, _law_values, _law_record_here, _law_place, _law_value_here -/
def b_q_bearers_value : AS := sB [sSet 5 (eLst true (eL [])),
  sIf (tB1 (e1 notNonD (eV 3))) (sB [sSet 5 (eA (F_q_path) (eL [eV 0, eV 3]))]) (sB []),
  sSet 6 (eLst false (eL [])),
  sFor (iS (eV 1)) (gV 7) (sB [sIf (tB1 (e2 eqD (eLC true [8] (iS (eV 5)) (gV 8) (tYes) (e2 ixD (e2 ixD (eV 7) (eC (.int 0))) (eV 8))) (eLC true [8] (iS (eV 5)) (gV 8) (tYes) (e2 ixD (eV 2) (eV 8))))) (sB [sE (eM isLst (mt1 appendD) (eV 6) (eL [e2 ixD (e2 ixD (eV 7) (eC (.int 1))) (eV 4)]))]) (sB [])]),
  sFor (iS (eV 6)) (gV 9) (sB [sIf (tB1 (e2 neD (eV 9) (e2 ixD (eV 6) (eC (.int 0))))) (sB [sRet (eC (.int 0))]) (sB [])]),
  sRet (e2 ixD (eV 6) (eC (.int 0)))]
def F_q_bearers_value : AF := fnT 5 10 b_q_bearers_value
/- _law_fold: _law_parents_here, _law_kinds_here, _law_records, _law_end, _law_record_here -/
def b_q_fold_v2 : AS := sB [sSet 3 (e2 ixD (eV 2) (eC (.int 0))),
  sFor (iS (eSl true (eV 2) (oS (eC (.int 1))) (oN))) (gV 4) (sB [sSet 3 (eA (F_q_merge_v2) (eL [eV 0, eV 1, eV 3, eV 4]))]),
  sRet (eV 3)]
def F_q_fold_v2 : AF := fnT 3 5 b_q_fold_v2
/- _law_due_end: _law_parents_here, _law_kinds_here, _law_hangs_here, _law_records, _law_end, _law_record_here, _law_plain, _law_which -/
def b_q_due_end : AS := sB [sSet 4 (eA (F_q_fold_v2) (eL [eV 0, eV 1, eLC true [5] (iS (eV 3)) (gV 5) (tYes) (e2 ixD (eV 5) (eC (.int 0)))])),
  sSet 6 (eLst false (eL [])),
  sFor (iR1 (eA (on1 lenD) (eL [eV 2]))) (gV 7) (sB [sE (eM isLst (mt1 appendD) (eV 6) (eL [eA (F_q_bearers_value) (eL [eV 0, eV 3, eV 4, e2 ixD (eV 2) (eV 7), eV 7])]))]),
  sRet (eTup (eL [eV 4, eA (on1 tupD) (eL [eV 6])]))]
def F_q_due_end : AF := fnT 4 8 b_q_due_end
/- _law_hangs: _law_tape_here, _law_n, _law_m, _law_hangs_here, _law_k, _law_pick -/
def b_q_hangs : AS := sB [sSet 3 (eLst false (eL [])),
  sFor (iR1 (eV 2)) (gV 4) (sB [sSet 5 (eA (F_q_take) (eL [eV 0, e2 (addD true) (eV 1) (eC (.int 1))])),
    sE (eM isLst (mt1 appendD) (eV 3) (eL [e2 ixD (eLst true (eL [eC .non, e2 subD (eV 5) (eC (.int 1))])) (eA (on1 intD) (eL [e2 gtD (eV 5) (eC (.int 0))]))]))]),
  sRet (eV 3)]
def F_q_hangs : AF := fnT 3 6 b_q_hangs
/- _law_turns: _law_tape_here, _law_n, _law_left, _law_turns_here, _law_k -/
def b_q_turns_v2 : AS := sB [sSet 2 (eLR false false (eC (.int 0)) (eV 1)),
  sSet 3 (eLst false (eL [])),
  sFor (iR1 (eV 1)) (gV 4) (sB [sE (eM isLst (mt1 appendD) (eV 3) (eL [eM isLst (mt1 popAtD) (eV 2) (eL [eA (F_q_take) (eL [eV 0, eA (on1 lenD) (eL [eV 2])])])]))]),
  sRet (eV 3)]
def F_q_turns_v2 : AF := fnK 2 5 b_q_turns_v2
/- _law_parents: _law_tape_here, _law_n, _law_turns_here, _law_bend, _law_parents_here, _law_k, _law_pick -/
def b_q_parents_v2 : AS := sB [sSet 2 (eA (F_q_turns_v2) (eL [eV 0, eV 1])),
  sSet 3 (eA (F_q_take) (eL [eV 0, eC (.int 4)])),
  sSet 4 (eLC false [5] (iR1 (eV 1)) (gV 5) (tYes) (eC .non)),
  sFor (iR2 (eC (.int 1)) (eV 1)) (gV 5) (sB [sSet 6 (eA (F_q_take) (eL [eV 0, e2 (addD true) (eV 5) (eC (.int 1))])),
    sIf (tB1 (e2 eqD (eV 3) (eC (.int 0)))) (sB [sSet 6 (eV 5)]) (sB []),
    sIf (tB1 (e2 eqD (eV 3) (eC (.int 1)))) (sB [sSet 6 (eC (.int 0))]) (sB []),
    sIf (tB1 (e2 gtD (eV 6) (eC (.int 0)))) (sB [sSub setIxD (eV 4) (e2 ixD (eV 2) (eV 5)) (e2 ixD (eV 2) (e2 subD (eV 6) (eC (.int 1))))]) (sB [])]),
  sRet (eV 4)]
def F_q_parents_v2 : AF := fnT 2 7 b_q_parents_v2
/- _law_plain_record: _law_tape_here, _law_n, _law_m, _law_ranked, _law_plain, _law_k, _law_pick -/
def b_q_plain_record : AS := sB [sSet 3 (eA (F_q_record) (eL [eV 0, eV 1, eC (.int 3)])),
  sSet 4 (eLst false (eL [])),
  sFor (iR1 (eV 2)) (gV 5) (sB [sSet 6 (eA (F_q_take) (eL [eV 0, eC (.int 9)])),
    sE (eM isLst (mt1 appendD) (eV 4) (eL [e2 ixD (eLst true (eL [eC (.int 1), eC (.int 1), eC (.int 1), eC (.int 2), eC (.int 2), eC (.int 3), eC (.int 0), e2 (addD true) (e2 powD (eC (.int 10)) (eC (.int 30))) (eC (.int 1)), e2 (addD true) (e2 powD (eC (.int 10)) (eC (.int 30))) (eC (.int 2))])) (eV 6)]))]),
  sRet (eTup (eL [eV 3, eA (on1 tupD) (eL [eV 4])]))]
def F_q_plain_record : AF := fnT 3 7 b_q_plain_record
/- _law_plains: _law_tape_here -/
def b_q_plains : AS := sB [sIf (tB1 (e2 eqD (eA (F_q_take) (eL [eV 0, eC (.int 8)])) (eC (.int 0)))) (sB [sRet (e2 (addD true) (eC (.int 5)) (eA (F_q_take) (eL [eV 0, eC (.int 2)])))]) (sB []),
  sRet (eA (F_q_take) (eL [eV 0, eC (.int 5)]))]
def F_q_plains : AF := fnT 1 1 b_q_plains
/- _law_same: _law_actual, _law_due, _law_k -/
def b_q_same_v4 (F : AF) : AS := sB [sIf (tB1 (e1 isNonD (eV 1))) (sB [sRet (e1 isNonD (eV 0))]) (sB []),
  sIf (tV (e1 (isTy "str") (eV 1))) (sB [sRet (eAnd (e1 (isTy "str") (eV 0)) (e2 eqD (eV 0) (eV 1)))]) (sB []),
  sIf (tV (e1 (isTy "int") (eV 1))) (sB [sRet (eAnd (eA (F_q_is_integer) (eL [eV 0])) (e2 eqD (eV 0) (eV 1)))]) (sB []),
  sIf (tV (e1 (isTy "tuple") (eV 1))) (sB [sIf (tOr (tNot (tV (e1 (isTy "tuple") (eV 0)))) (tB1 (e2 neD (eA (on1 lenD) (eL [eV 0])) (eA (on1 lenD) (eL [eV 1]))))) (sB [sRet (eC (.bl false))]) (sB [])]) (sB [sIf (tOr (tNot (tV (e1 (isTy "list") (eV 0)))) (tB1 (e2 neD (eA (on1 lenD) (eL [eV 0])) (eA (on1 lenD) (eL [eV 1]))))) (sB [sRet (eC (.bl false))]) (sB [])]),
  sFor (iR1 (eA (on1 lenD) (eL [eV 1]))) (gV 2) (sB [sIf (tNot (tV (eA (F) (eL [e2 ixD (eV 0) (eV 2), e2 ixD (eV 1) (eV 2)])))) (sB [sRet (eC (.bl false))]) (sB [])]),
  sRet (eC (.bl true))]
def F_q_same_v4 : Nat → AF
  | 0 => fun _ _ => .no
  | n + 1 => fnT 2 3 (b_q_same_v4 (F_q_same_v4 n))
/- _law_sequence: _law_tape_here, _law_records, _law_turns_here, _law_k, _law_place, _law_turn -/
def b_q_sequence : AS := sB [sSet 2 (eA (F_q_turns_v2) (eL [eV 0, eA (on1 lenD) (eL [eV 1])])),
  sFor (iR1 (eA (F_q_take) (eL [eV 0, e2 (addD true) (eA (on1 lenD) (eL [eV 1])) (eC (.int 1))]))) (gV 3) (sB [sSet 4 (eA (F_q_take) (eL [eV 0, e2 (addD true) (eA (on1 lenD) (eL [eV 2])) (eC (.int 1))])),
    sE (eM isLst (mt2 insertD) (eV 2) (eL [eV 4, eA (F_q_take) (eL [eV 0, eA (on1 lenD) (eL [eV 1])])]))]),
  sRet (eLC true [5] (iS (eV 2)) (gV 5) (tYes) (e2 ixD (eV 1) (eV 5)))]
def F_q_sequence : AF := fnT 2 6 b_q_sequence
/- _law_size: _law_tape_here -/
def b_q_size_v2 : AS := sB [sIf (tB1 (e2 eqD (eA (F_q_take) (eL [eV 0, eC (.int 8)])) (eC (.int 0)))) (sB [sRet (e2 (addD true) (eC (.int 6)) (eA (F_q_take) (eL [eV 0, eC (.int 3)])))]) (sB []),
  sRet (e2 (addD true) (eC (.int 1)) (eA (F_q_take) (eL [eV 0, eC (.int 5)])))]
def F_q_size_v2 : AF := fnT 1 1 b_q_size_v2
/- PlainBook.__call__: self, older, newer -/
def b_PlainBook_call : AS := sB [sE (eA (F_check_plain_records) (eL [e1 (fldD ["Forest"] "fields") (e1 (fldD ["PlainBook"] "forest") (eV 0)), eA (on1 lenD) (eL [e1 (fldD ["PlainBook"] "hangs") (eV 0)]), eTup (eL [eV 1, eV 2])])),
  sRet (eA (F_merged_plain) (eL [e1 (fldD ["PlainBook"] "forest") (eV 0), e1 (fldD ["PlainBook"] "hangs") (eV 0), eV 1, eV 2]))]
def F_PlainBook_call : AF := fnT 3 3 b_PlainBook_call
/- _law_plain_value: _law_parents_here, _law_kinds_here, _law_hang, _law_older, _law_newer, _law_which, _law_place, _law_pair -/
def b_q_plain_value : AS := sB [sIf (tB1 (e2 eqD (e2 ixD (e2 ixD (eV 3) (eC (.int 1))) (eV 5)) (e2 ixD (e2 ixD (eV 4) (eC (.int 1))) (eV 5)))) (sB [sRet (e2 ixD (e2 ixD (eV 3) (eC (.int 1))) (eV 5))]) (sB []),
  sIf (tB1 (e1 isNonD (eV 2))) (sB [sRet (eC (.int 0))]) (sB []),
  sFor (iS (eA (F_q_path) (eL [eV 0, eV 2]))) (gV 6) (sB [sIf (tB1 (e2 neD (e2 ixD (e2 ixD (eV 3) (eC (.int 0))) (eV 6)) (e2 ixD (e2 ixD (eV 4) (eC (.int 0))) (eV 6)))) (sB [sSet 7 (eLst true (eL [eV 3, eV 4])),
      sRet (e2 ixD (e2 ixD (e2 ixD (eV 7) (eA (F_q_side) (eL [eV 0, eV 1, eV 2, e2 ixD (eV 3) (eC (.int 0)), e2 ixD (eV 4) (eC (.int 0))]))) (eC (.int 1))) (eV 5))]) (sB [])]),
  sRet (eC (.int 0))]
def F_q_plain_value : AF := fnT 6 8 b_q_plain_value
/- _law_plain_merge: _law_parents_here, _law_kinds_here, _law_hangs_here, _law_older, _law_newer, _law_plain, _law_which -/
def b_q_plain_merge : AS := sB [sSet 5 (eLst false (eL [])),
  sFor (iR1 (eA (on1 lenD) (eL [eV 2]))) (gV 6) (sB [sE (eM isLst (mt1 appendD) (eV 5) (eL [eA (F_q_plain_value) (eL [eV 0, eV 1, e2 ixD (eV 2) (eV 6), eV 3, eV 4, eV 6])]))]),
  sRet (eTup (eL [eA (F_q_merge_v2) (eL [eV 0, eV 1, e2 ixD (eV 3) (eC (.int 0)), e2 ixD (eV 4) (eC (.int 0))]), eA (on1 tupD) (eL [eV 5])]))]
def F_q_plain_merge : AF := fnT 5 7 b_q_plain_merge
/- _law_way_right: _law_tape_here, _law_book, _law_parents_here, _law_kinds_here, _law_hangs_here, _law_records, _law_due, _law_row, _law_k, _law_place, _law_merged -/
def b_q_way_right : AS := sB [sSet 7 (eA (on1 (listD false)) (eL [eV 5])),
  sFor (iR1 (e2 subD (eA (on1 lenD) (eL [eV 5])) (eC (.int 1)))) (gV 8) (sB [sSet 9 (eA (F_q_take) (eL [eV 0, e2 subD (eA (on1 lenD) (eL [eV 7])) (eC (.int 1))])),
    sSet 10 (eA (F_q_plain_merge) (eL [eV 2, eV 3, eV 4, e2 ixD (eV 7) (eV 9), e2 ixD (eV 7) (e2 (addD true) (eV 9) (eC (.int 1)))])),
    sIf (tNot (tV (eA (F_q_same_v4 12) (eL [eCal [("PlainBook", F_PlainBook_call), ("Forest", F_Forest_call)] (eV 1) (eL [e2 ixD (eV 7) (eV 9), e2 ixD (eV 7) (e2 (addD true) (eV 9) (eC (.int 1)))]), eV 10])))) (sB [sRet (eC (.bl false))]) (sB []),
    sSub setIxD (eV 7) (eV 9) (eV 10),
    sE (eM isLst (mt1 popAtD) (eV 7) (eL [e2 (addD true) (eV 9) (eC (.int 1))]))]),
  sRet (eA (F_q_same_v4 12) (eL [e2 ixD (eV 7) (eC (.int 0)), eV 6]))]
def F_q_way_right : AF := fnT 7 11 b_q_way_right
/- law: _law_script, _law_tape_here, _law_n, _law_m, _law_count_here, _law_again, _law_parents_here, _law_kinds_here, _law_hangs_here, _law_forest, _law_book, _law_turned, _law_k, _law_other, _law_records, _law_shuffled, _law_due, _law_given, _law_passed, _law_grown, _law_record_here -/
def b_law_k64 : AS := sB [sSet 1 (eA (F_q_tape) (eL [eV 0, eC (.int 0)])),
  sSet 2 (eA (F_q_size_v2) (eL [eV 1])),
  sSet 3 (eA (F_q_plains) (eL [eV 1])),
  sSet 4 (eA (F_q_count_v2) (eL [eV 1])),
  sSet 5 (e2 eqD (eA (F_q_take) (eL [eV 1, eC (.int 3)])) (eC (.int 0))),
  sSet 6 (eA (F_q_parents_v2) (eL [eV 1, eV 2])),
  sSet 1 (eA (F_q_tape) (eL [eV 0, eC (.int 1)])),
  sSet 7 (eA (F_q_kinds) (eL [eV 1, eV 6, eC (.bl true)])),
  sSet 8 (eA (F_q_hangs) (eL [eV 1, eV 2, eV 3])),
  sSet 9 (eA (mkI "Forest" true (F_Forest_init)) (eL [eA (on1 (listD true)) (eL [eV 6]), eA (on1 (listD true)) (eL [eV 7])])),
  sSet 10 (eA (mkI "PlainBook" true (F_PlainBook_init)) (eL [eV 9, eA (on1 (listD true)) (eL [eV 8])])),
  sSet 11 (eLC true [12] (iR1 (eV 3)) (gV 12) (tYes) (e2 ixD (eV 8) (e2 subD (e2 subD (eV 3) (eC (.int 1))) (eV 12)))),
  sSet 13 (eA (mkI "PlainBook" true (F_PlainBook_init)) (eL [eV 9, eA (on1 (listD true)) (eL [eV 11])])),
  sSet 14 (eLC false [12] (iR1 (eV 4)) (gV 12) (tYes) (eA (F_q_plain_record) (eL [eA (F_q_tape) (eL [eV 0, e2 (addD true) (eC (.int 3)) (eV 12)]), eV 2, eV 3]))),
  sIf (tAnd (tB1 (e2 gtD (eV 4) (eC (.int 1)))) (tV (eV 5))) (sB [sSub setIxD (eV 14) (e2 subD (eV 4) (eC (.int 1))) (e2 ixD (eV 14) (eC (.int 0)))]) (sB []),
  sSet 1 (eA (F_q_tape) (eL [eV 0, eC (.int 2)])),
  sSet 15 (eA (F_q_sequence) (eL [eV 1, eV 14])),
  sSet 16 (eA (F_q_due_end) (eL [eV 6, eV 7, eV 8, eV 14])),
  sFor (iS (eLst true (eL [eV 14, eV 15, eV 14]))) (gV 17) (sB [sSet 18 (eA (on1 (listD false)) (eL [eV 17])),
    sIf (tOr (tNot (tV (eA (F_q_same_v4 12) (eL [eMth [("PlainBook", F_PlainBook_end)] "end" (eV 10) (eL [eV 18]), eV 16])))) (tB1 (e2 neD (eV 18) (eV 17)))) (sB [sRet (eC (.bl false))]) (sB []),
    sE (eM isLst (mt1 appendD) (eV 18) (eL [e2 ixD (eV 14) (eC (.int 0))])),
    sIf (tNot (tV (eA (F_q_same_v4 12) (eL [eMth [("PlainBook", F_PlainBook_end)] "end" (eV 13) (eL [eA (on1 (listD true)) (eL [eV 17])]), eA (F_q_due_end) (eL [eV 6, eV 7, eV 11, eV 14])])))) (sB [sRet (eC (.bl false))]) (sB []),
    sIf (tNot (tV (eA (F_q_same_v4 12) (eL [eMth [("PlainBook", F_PlainBook_end)] "end" (eV 10) (eL [eLst true (eL [e2 ixD (eV 14) (eC (.int 0))])]), e2 ixD (eV 14) (eC (.int 0))])))) (sB [sRet (eC (.bl false))]) (sB [])]),
  sSet 19 (eLst false (eL [e2 ixD (eV 14) (eC (.int 0))])),
  sIf (tNot (tV (eA (F_q_same_v4 12) (eL [eMth [("PlainBook", F_PlainBook_end)] "end" (eV 10) (eL [eV 19]), e2 ixD (eV 14) (eC (.int 0))])))) (sB [sRet (eC (.bl false))]) (sB []),
  sFor (iS (eSl true (eV 14) (oS (eC (.int 1))) (oN))) (gV 20) (sB [sE (eM isLst (mt1 appendD) (eV 19) (eL [eV 20]))]),
  sIf (tNot (tV (eA (F_q_same_v4 12) (eL [eMth [("PlainBook", F_PlainBook_end)] "end" (eV 10) (eL [eV 19]), eV 16])))) (sB [sRet (eC (.bl false))]) (sB []),
  sIf (tNot (tV (eA (F_q_way_right) (eL [eV 1, eV 10, eV 6, eV 7, eV 8, eV 15, eV 16])))) (sB [sRet (eC (.bl false))]) (sB []),
  sRet (eA (F_q_way_right) (eL [eV 1, eV 10, eV 6, eV 7, eV 8, eV 14, eV 16]))]
def F_law_k64 : AF := fnT 1 21 b_law_k64
end Sm
end

section
set_option linter.all false
/-! k20: plain computations (printed by gen2.py) -/
namespace Sm
/- change: forest, field, parent, kind, parents, kinds -/
def b_change : AS := sB [sE (eA (F_check_place) (eL [e1 (fldD ["Forest"] "fields") (eV 0), eV 1])),
  sSet 4 (eA (on1 (listD false)) (eL [e1 (fldD ["Forest"] "parents") (eV 0)])),
  sSet 5 (eA (on1 (listD false)) (eL [e1 (fldD ["Forest"] "kinds") (eV 0)])),
  sSub setIxD (eV 4) (eV 1) (eV 2),
  sSub setIxD (eV 5) (eV 1) (eV 3),
  sRet (eA (mkI "Forest" true (F_Forest_init)) (eL [eV 4, eV 5]))]
def F_change : AF := fnT 4 6 b_change
/- _law_change: _law_forest, _law_field, _law_parent, _law_kind, _law_actual, e, _law_alone -/
def b_q_change : AS := sB [sTryMs [([("BadRecord", false), ("BadTree", false), ("BadForest", false), ("NotFair", false), ("BadPlace", true), ("Marked", true)], 5, fun x => sB [sSet 6 (eAnd (eXis x [("BadPlace", true), ("Marked", true)]) (eXis x [("BadPlace", true), ("Marked", true)])),
    sRet (eLst true (eL [eC (.str [112, 108, 97, 99, 101]), eXf ["BadPlace", "Marked"] x "place", eAnd (eV 6) (e1 notD (eXis x [("BadPlace", false), ("Marked", true)]))]))]), ([("BadRecord", false), ("BadTree", false), ("BadForest", true), ("NotFair", false), ("BadPlace", false), ("Marked", false)], 5, fun x => sB [sSet 6 (eAnd (eXis x [("BadForest", true)]) (eXis x [("BadForest", true)])),
    sRet (eLst true (eL [eC (.str [102, 111, 114, 101, 115, 116]), eXf ["BadTree", "BadForest", "NotFair"] x "field", eAnd (eV 6) (e1 notD (eXis x [("BadForest", false)]))]))])] (sB [sSet 4 (eA (F_change) (eL [eV 0, eV 1, eV 2, eV 3]))]),
  sRet (eLst true (eL [eC (.str [108, 101, 116]), eV 4]))]
def F_q_change : AF := fnT 4 7 b_q_change
/- _law_fault: _law_parents_here, _law_kinds_here, _law_n, _law_field, _law_place, _law_k -/
def b_q_fault : AS := sB [sSet 2 (eA (on1 lenD) (eL [eV 0])),
  sIf (tOr (tB1 (e2 eqD (eV 2) (eC (.int 0)))) (tOr (tB1 (e2 gtD (eV 2) (eC (.int 16)))) (tB1 (e2 neD (eA (on1 lenD) (eL [eV 1])) (eV 2))))) (sB [sRet (eTup (eL [eC .non]))]) (sB []),
  sFor (iR1 (eV 2)) (gV 3) (sB [sIf (tAnd (tB1 (e1 notNonD (e2 ixD (eV 0) (eV 3)))) (tNot (tB1 (eChain leD ltD (eC (.int 0)) (e2 ixD (eV 0) (eV 3)) (eV 2))))) (sB [sRet (eTup (eL [eV 3]))]) (sB [])]),
  sFor (iR1 (eV 2)) (gV 3) (sB [sSet 4 (e2 ixD (eV 0) (eV 3)),
    sFor (iR1 (eV 2)) (gV 5) (sB [sIf (tB1 (e1 notNonD (eV 4))) (sB [sSet 4 (e2 ixD (eV 0) (eV 4))]) (sB [])]),
    sIf (tB1 (e1 notNonD (eV 4))) (sB [sRet (eTup (eL [eV 3]))]) (sB [])]),
  sFor (iR1 (eV 2)) (gV 3) (sB [sIf (tAnd (tB1 (e2 inD (e2 ixD (eV 1) (eV 3)) (eLst true (eL [eC (.str [102, 105, 114, 115, 116]), eC (.str [108, 97, 115, 116])])))) (tB1 (e2 inD (eV 3) (eV 0)))) (sB [sRet (eTup (eL [eV 3]))]) (sB [])]),
  sRet (eTup (eL []))]
def F_q_fault : AF := fnT 2 6 b_q_fault
/- _law_due: _law_parents_here, _law_kinds_here, _law_fault_here -/
def b_q_due_v5 : AS := sB [sSet 2 (eA (F_q_fault) (eL [eV 0, eV 1])),
  sIf (tB1 (e2 gtD (eA (on1 lenD) (eL [eV 2])) (eC (.int 0)))) (sB [sRet (eLst true (eL [eC (.str [102, 111, 114, 101, 115, 116]), e2 ixD (eV 2) (eC (.int 0))]))]) (sB []),
  sRet (eLst true (eL [eC (.str [108, 101, 116]), eV 0, eV 1]))]
def F_q_due_v5 : AF := fnT 2 3 b_q_due_v5
/- _law_due_change: _law_parents_here, _law_kinds_here, _law_field, _law_parent, _law_kind, _law_moved, _law_turned -/
def b_q_due_change : AS := sB [sIf (tNot (tB1 (eChain leD ltD (eC (.int 0)) (eV 2) (eA (on1 lenD) (eL [eV 0]))))) (sB [sRet (eLst true (eL [eC (.str [112, 108, 97, 99, 101]), eV 2]))]) (sB []),
  sSet 5 (eA (on1 (listD false)) (eL [eV 0])),
  sSub setIxD (eV 5) (eV 2) (eV 3),
  sSet 6 (eA (on1 (listD false)) (eL [eV 1])),
  sSub setIxD (eV 6) (eV 2) (eV 4),
  sRet (eA (F_q_due_v5) (eL [eV 5, eV 6]))]
def F_q_due_change : AF := fnT 5 7 b_q_due_change
/- graft: forest, parent, kind -/
def b_graft : AS := sB [sRet (eA (mkI "Forest" true (F_Forest_init)) (eL [e2 (addD true) (eA (on1 (listD true)) (eL [e1 (fldD ["Forest"] "parents") (eV 0)])) (eLst true (eL [eV 1])), e2 (addD true) (eA (on1 (listD true)) (eL [e1 (fldD ["Forest"] "kinds") (eV 0)])) (eLst true (eL [eV 2]))]))]
def F_graft : AF := fnT 3 3 b_graft
/- _law_graft: _law_forest, _law_parent, _law_kind, _law_actual, e, _law_alone -/
def b_q_graft : AS := sB [sTryAs [("BadRecord", false), ("BadTree", false), ("BadForest", true), ("NotFair", false), ("BadPlace", false), ("Marked", false)] 4 (sB [sSet 3 (eA (F_graft) (eL [eV 0, eV 1, eV 2]))]) (fun x => sB [sSet 5 (eAnd (eXis x [("BadForest", true)]) (eXis x [("BadForest", true)])),
    sRet (eLst true (eL [eC (.str [102, 111, 114, 101, 115, 116]), eXf ["BadTree", "BadForest", "NotFair"] x "field", eAnd (eV 5) (e1 notD (eXis x [("BadForest", false)]))]))]),
  sRet (eLst true (eL [eC (.str [108, 101, 116]), eV 3]))]
def F_q_graft : AF := fnT 3 6 b_q_graft
/- _law_same_forest: _law_actual, _law_parents_here, _law_kinds_here -/
def b_q_same_forest : AS := sB [sIf (tNot (tV (e1 (isClsD "Forest") (eV 0)))) (sB [sRet (eC (.bl false))]) (sB []),
  sIf (tOr (tNot (tV (eA (F_q_same_v4 12) (eL [e1 (fldD ["Forest"] "fields") (eV 0), eA (on1 lenD) (eL [eV 1])])))) (tNot (tV (eA (F_q_same_v4 12) (eL [e1 (fldD ["Forest"] "parents") (eV 0), eA (on1 tupD) (eL [eV 1])]))))) (sB [sRet (eC (.bl false))]) (sB []),
  sRet (eA (F_q_same_v4 12) (eL [e1 (fldD ["Forest"] "kinds") (eV 0), eA (on1 tupD) (eL [eV 2])]))]
def F_q_same_forest : AF := fnT 3 3 b_q_same_forest
/- _law_is_due: _law_actual, _law_due_here -/
def b_q_is_due : AS := sB [sIf (tB1 (e2 neD (e2 ixD (eV 0) (eC (.int 0))) (e2 ixD (eV 1) (eC (.int 0))))) (sB [sRet (eC (.bl false))]) (sB []),
  sIf (tB1 (e2 eqD (e2 ixD (eV 1) (eC (.int 0))) (eC (.str [108, 101, 116])))) (sB [sRet (eA (F_q_same_forest) (eL [e2 ixD (eV 0) (eC (.int 1)), e2 ixD (eV 1) (eC (.int 1)), e2 ixD (eV 1) (eC (.int 2))]))]) (sB []),
  sRet (eAnd (e2 ixD (eV 0) (eC (.int 2))) (eA (F_q_same_v4 12) (eL [e2 ixD (eV 0) (eC (.int 1)), e2 ixD (eV 1) (eC (.int 1))])))]
def F_q_is_due : AF := fnT 2 2 b_q_is_due
/- _law_new_parent: _law_tape_here, _law_parents_here, _law_field, _law_size_here, _law_n, _law_under, _law_place, _law_pick -/
def b_q_new_parent : AS := sB [sSet 4 (eA (on1 lenD) (eL [eV 1])),
  sSet 5 (eLC true [6] (iR1 (eV 4)) (gV 6) (tAnd (tB1 (e2 neD (eV 6) (eV 2))) (tB1 (e2 inD (eV 2) (eA (F_q_path) (eL [eV 1, eV 6]))))) (eV 6)),
  sSet 7 (eA (F_q_take) (eL [eV 0, eC (.int 8)])),
  sSet 6 (eA (F_q_take) (eL [eV 0, eV 4])),
  sIf (tB1 (e2 eqD (eV 7) (eC (.int 0)))) (sB [sRet (eC .non)]) (sB []),
  sIf (tB1 (e2 eqD (eV 7) (eC (.int 1)))) (sB [sRet (eV 2)]) (sB []),
  sIf (tB1 (e2 eqD (eV 7) (eC (.int 2)))) (sB [sRet (e2 ixD (eLst true (eL [e2 subD (eC (.int 0)) (eC (.int 1)), eV 3])) (eA (F_q_take) (eL [eV 0, eC (.int 2)])))]) (sB []),
  sIf (tAnd (tB1 (e2 eqD (eV 7) (eC (.int 3)))) (tB1 (e2 gtD (eA (on1 lenD) (eL [eV 5])) (eC (.int 0))))) (sB [sRet (e2 ixD (eV 5) (e2 modD (eA (on1 intD) (eL [eV 6])) (eA (on1 lenD) (eL [eV 5]))))]) (sB []),
  sRet (eV 6)]
def F_q_new_parent : AF := fnT 4 8 b_q_new_parent
/- _law_size: _law_tape_here -/
def b_q_size_v3 : AS := sB [sIf (tB1 (e2 eqD (eA (F_q_take) (eL [eV 0, eC (.int 9)])) (eC (.int 0)))) (sB [sRet (e2 (addD true) (eC (.int 15)) (eA (F_q_take) (eL [eV 0, eC (.int 2)])))]) (sB []),
  sIf (tB1 (e2 eqD (eA (F_q_take) (eL [eV 0, eC (.int 8)])) (eC (.int 0)))) (sB [sRet (e2 (addD true) (eC (.int 7)) (eA (F_q_take) (eL [eV 0, eC (.int 2)])))]) (sB []),
  sRet (e2 (addD true) (eC (.int 1)) (eA (F_q_take) (eL [eV 0, eC (.int 6)])))]
def F_q_size_v3 : AF := fnT 1 1 b_q_size_v3
/- _law_words_stay: _law_forest, _law_actual, _law_parents_here, _law_kinds_here, _law_due_here, _law_changed, _law_place, _law_before, _law_after -/
def b_q_words_stay : AS := sB [sFor (iR1 (eA (on1 lenD) (eL [eV 2]))) (gV 6) (sB [sSet 7 (eMth [("Forest", F_Forest_word)] "word" (eV 0) (eL [eV 6])),
    sSet 8 (eMth [("Forest", F_Forest_word)] "word" (eV 1) (eL [eV 6])),
    sIf (tNot (tV (eA (F_q_same_v4 12) (eL [eV 7, eA (F_q_word) (eL [eV 2, eV 3, eV 6])])))) (sB [sRet (eC (.bl false))]) (sB []),
    sIf (tNot (tV (eA (F_q_same_v4 12) (eL [eV 8, eA (F_q_word) (eL [e2 ixD (eV 4) (eC (.int 1)), e2 ixD (eV 4) (eC (.int 2)), eV 6])])))) (sB [sRet (eC (.bl false))]) (sB []),
    sIf (tB1 (e2 neD (e2 neD (eV 7) (eV 8)) (e2 inD (eV 5) (eA (F_q_path) (eL [eV 2, eV 6]))))) (sB [sRet (eC (.bl false))]) (sB [])]),
  sRet (eC (.bl true))]
def F_q_words_stay : AF := fnT 6 9 b_q_words_stay
/- _law_words_right: _law_forest, _law_actual, _law_parents_here, _law_kinds_here, _law_due_here, _law_field, _law_place -/
def b_q_words_right : AS := sB [sIf (tB1 (e2 neD (e2 ixD (eV 4) (eC (.int 0))) (eC (.str [108, 101, 116])))) (sB [sRet (eC (.bl true))]) (sB []),
  sIf (tB1 (e2 gtD (eA (on1 lenD) (eL [e2 ixD (eV 4) (eC (.int 1))])) (eA (on1 lenD) (eL [eV 2])))) (sB [sSet 6 (eA (on1 lenD) (eL [eV 2])),
    sIf (tNot (tV (eA (F_q_same_v4 12) (eL [eMth [("Forest", F_Forest_word)] "word" (e2 ixD (eV 1) (eC (.int 1))) (eL [eV 6]), eA (F_q_word) (eL [e2 ixD (eV 4) (eC (.int 1)), e2 ixD (eV 4) (eC (.int 2)), eV 6])])))) (sB [sRet (eC (.bl false))]) (sB []),
    sRet (eA (F_q_words_stay) (eL [eV 0, e2 ixD (eV 1) (eC (.int 1)), eV 2, eV 3, eV 4, eC .non]))]) (sB []),
  sIf (tAnd (tB1 (e2 eqD (e2 ixD (eV 4) (eC (.int 1))) (eV 2))) (tB1 (e2 eqD (e2 ixD (eV 4) (eC (.int 2))) (eV 3)))) (sB [sRet (eA (F_q_words_stay) (eL [eV 0, e2 ixD (eV 1) (eC (.int 1)), eV 2, eV 3, eV 4, eC .non]))]) (sB []),
  sRet (eA (F_q_words_stay) (eL [eV 0, e2 ixD (eV 1) (eC (.int 1)), eV 2, eV 3, eV 4, eV 5]))]
def F_q_words_right : AF := fnT 6 7 b_q_words_right
/- law: _law_script, _law_tape_here, _law_n, _law_many, _law_parents_here, _law_kinds_here, _law_forest, _law_words, _law_k, _law_field, _law_parent, _law_kind, _law_above, _law_other, _law_due_here, _law_changed, _law_grafted, _law_pick -/
def b_law_k20 : AS := sB [sSet 1 (eA (F_q_tape) (eL [eV 0, eC (.int 0)])),
  sSet 2 (eA (F_q_size_v3) (eL [eV 1])),
  sSet 3 (e2 (addD true) (eC (.int 1)) (eA (F_q_take) (eL [eV 1, eC (.int 4)]))),
  sSet 4 (eA (F_q_parents) (eL [eV 1, eV 2])),
  sSet 5 (eA (F_q_kinds) (eL [eA (F_q_tape) (eL [eV 0, eC (.int 1)]), eV 4, eC (.bl false)])),
  sSet 6 (eA (mkI "Forest" true (F_Forest_init)) (eL [eA (on1 (listD true)) (eL [eV 4]), eA (on1 (listD true)) (eL [eV 5])])),
  sSet 7 (eLst true (eL [eC (.str [117, 112]), eC (.str [100, 111, 119, 110]), eC (.str [102, 105, 114, 115, 116]), eC (.str [108, 97, 115, 116])])),
  sFor (iR1 (eV 3)) (gV 8) (sB [sSet 2 (eA (on1 lenD) (eL [eV 4])),
    sSet 1 (eA (F_q_tape) (eL [eV 0, e2 (addD true) (eC (.int 2)) (eV 8)])),
    sSet 9 (e2 subD (eA (F_q_take) (eL [eV 1, e2 (addD true) (eV 2) (eC (.int 2))])) (eC (.int 1))),
    sSet 10 (eA (F_q_new_parent) (eL [eV 1, eV 4, eV 9, eV 2])),
    sSet 11 (e2 ixD (eV 7) (eA (F_q_take) (eL [eV 1, eC (.int 4)]))),
    sSet 12 (eA (F_q_new_parent) (eL [eV 1, eV 4, eV 2, e2 (addD true) (eV 2) (eC (.int 1))])),
    sSet 13 (e2 ixD (eV 7) (eA (F_q_take) (eL [eV 1, eC (.int 4)]))),
    sSet 14 (eLst true (eL [eA (F_q_due_change) (eL [eV 4, eV 5, eV 9, eV 10, eV 11]), eA (F_q_due_v5) (eL [e2 (addD true) (eV 4) (eLst true (eL [eV 12])), e2 (addD true) (eV 5) (eLst true (eL [eV 13]))])])),
    sSet 15 (eA (F_q_change) (eL [eV 6, eV 9, eV 10, eV 11])),
    sSet 16 (eA (F_q_graft) (eL [eV 6, eV 12, eV 13])),
    sIf (tOr (tNot (tV (eA (F_q_is_due) (eL [eV 15, e2 ixD (eV 14) (eC (.int 0))])))) (tNot (tV (eA (F_q_is_due) (eL [eV 16, e2 ixD (eV 14) (eC (.int 1))]))))) (sB [sRet (eC (.bl false))]) (sB []),
    sIf (tNot (tV (eA (F_q_words_right) (eL [eV 6, eV 15, eV 4, eV 5, e2 ixD (eV 14) (eC (.int 0)), eV 9])))) (sB [sRet (eC (.bl false))]) (sB []),
    sIf (tNot (tV (eA (F_q_words_right) (eL [eV 6, eV 16, eV 4, eV 5, e2 ixD (eV 14) (eC (.int 1)), eV 2])))) (sB [sRet (eC (.bl false))]) (sB []),
    sIf (tNot (tV (eA (F_q_is_due) (eL [eA (F_q_change) (eL [eV 6, eV 9, eV 10, eV 11]), e2 ixD (eV 14) (eC (.int 0))])))) (sB [sRet (eC (.bl false))]) (sB []),
    sIf (tNot (tV (eA (F_q_is_due) (eL [eA (F_q_graft) (eL [eV 6, eV 12, eV 13]), e2 ixD (eV 14) (eC (.int 1))])))) (sB [sRet (eC (.bl false))]) (sB []),
    sIf (tNot (tV (eA (F_q_same_forest) (eL [eV 6, eV 4, eV 5])))) (sB [sRet (eC (.bl false))]) (sB []),
    sSet 17 (eA (F_q_take) (eL [eV 1, eC (.int 3)])),
    sIf (tAnd (tB1 (e2 gtD (eV 17) (eC (.int 0)))) (tB1 (e2 eqD (e2 ixD (e2 ixD (eV 14) (e2 subD (eV 17) (eC (.int 1)))) (eC (.int 0))) (eC (.str [108, 101, 116]))))) (sB [sSet 6 (e2 ixD (e2 ixD (eLst true (eL [eV 15, eV 16])) (e2 subD (eV 17) (eC (.int 1)))) (eC (.int 1))),
      sSet 4 (eA (on1 (listD true)) (eL [e2 ixD (e2 ixD (eV 14) (e2 subD (eV 17) (eC (.int 1)))) (eC (.int 1))])),
      sSet 5 (eA (on1 (listD true)) (eL [e2 ixD (e2 ixD (eV 14) (e2 subD (eV 17) (eC (.int 1)))) (eC (.int 2))]))]) (sB [])]),
  sRet (eC (.bl true))]
def F_law_k20 : AF := fnT 1 18 b_law_k20
end Sm
end

section
set_option linter.all false
/-! k62: plain computations (printed by gen2.py) -/
namespace Sm
/- _law_is_differ: _law_actual, _law_first, _law_second_here -/
def b_q_is_differ : AS := sB [sRet (eAnd (e2 eqD (e2 ixD (eV 0) (eC (.int 0))) (eC (.str [100, 105, 102, 102, 101, 114]))) (eAnd (eA (F_q_same_v4 12) (eL [e2 ixD (eV 0) (eC (.int 1)), eTup (eL [eV 1, eV 2])])) (e2 ixD (eV 0) (eC (.int 2)))))]
def F_q_is_differ : AF := fnT 3 3 b_q_is_differ
/- check_same_fields: first, second -/
def b_check_same_fields : AS := sB [sIf (tB1 (e2 neD (e1 (fldD ["Forest"] "fields") (eV 0)) (e1 (fldD ["Forest"] "fields") (eV 1)))) (sB [sRaise "FieldsDiffer" ["first", "second"] (eL [e1 (fldD ["Forest"] "fields") (eV 0), e1 (fldD ["Forest"] "fields") (eV 1)])]) (sB [])]
def F_check_same_fields : AF := fnT 2 2 b_check_same_fields
/- change_plan: first, second, early, late, field, turns, place -/
def b_change_plan : AS := sB [sE (eA (F_check_same_fields) (eL [eV 0, eV 1])),
  sSet 2 (eLst false (eL [])),
  sSet 3 (eLst false (eL [])),
  sFor (iR1 (e1 (fldD ["Forest"] "fields") (eV 0))) (gV 4) (sB [sIf (tAnd (tB1 (e2 eqD (e2 ixD (e1 (fldD ["Forest"] "parents") (eV 0)) (eV 4)) (e2 ixD (e1 (fldD ["Forest"] "parents") (eV 1)) (eV 4)))) (tB1 (e2 eqD (e2 ixD (e1 (fldD ["Forest"] "kinds") (eV 0)) (eV 4)) (e2 ixD (e1 (fldD ["Forest"] "kinds") (eV 1)) (eV 4))))) (sB [sCt]) (sB []),
    sIf (tB1 (e2 inD (e2 ixD (e1 (fldD ["Forest"] "kinds") (eV 1)) (eV 4)) (eTup (eL [eC (.str [117, 112]), eC (.str [100, 111, 119, 110])])))) (sB [sE (eM isLst (mt1 appendD) (eV 2) (eL [eTup (eL [eA (on1 lenD) (eL [eMth [("Forest", F_Forest_path)] "path" (eV 1) (eL [eV 4])]), eV 4])]))]) (sB [sE (eM isLst (mt1 appendD) (eV 3) (eL [eTup (eL [e1 negD (eA (on1 lenD) (eL [eMth [("Forest", F_Forest_path)] "path" (eV 0) (eL [eV 4])])), eV 4])]))])]),
  sSet 5 (eLC true [6] (iS (e2 (addD true) (eA (on1 (sortedPD true)) (eL [eV 2])) (eA (on1 (sortedPD true)) (eL [eV 3])))) (gV 6) (tYes) (e2 ixD (eV 6) (eC (.int 1)))),
  sRet (eLC false [4] (iS (eV 5)) (gV 4) (tYes) (eTup (eL [eV 4, e2 ixD (e1 (fldD ["Forest"] "parents") (eV 1)) (eV 4), e2 ixD (e1 (fldD ["Forest"] "kinds") (eV 1)) (eV 4)])))]
def F_change_plan : AF := fnK 2 7 b_change_plan
/- _law_plan: _law_first, _law_second_here, _law_actual, e, _law_alone -/
def b_q_plan : AS := sB [sTryAs [("BadRecord", false), ("BadForest", false), ("FieldsDiffer", true), ("WordsClash", false), ("BadPlace", false)] 3 (sB [sSet 2 (eA (F_change_plan) (eL [eV 0, eV 1]))]) (fun x => sB [sSet 4 (eAnd (eXis x [("FieldsDiffer", true)]) (eXis x [("FieldsDiffer", true)])),
    sRet (eLst false (eL [eC (.str [100, 105, 102, 102, 101, 114]), eTup (eL [eXf ["FieldsDiffer", "WordsClash"] x "first", eXf ["FieldsDiffer", "WordsClash"] x "second"]), eAnd (eV 4) (e1 notD (eXis x [("FieldsDiffer", false)]))]))]),
  sRet (eLst false (eL [eC (.str [108, 101, 116]), eV 2]))]
def F_q_plan : AF := fnK 2 5 b_q_plan
/- _law_due_plan: _law_one, _law_two, _law_early, _law_late, _law_field, _law_turns_here, _law_place -/
def b_q_due_plan : AS := sB [sSet 2 (eLst false (eL [])),
  sSet 3 (eLst false (eL [])),
  sFor (iR1 (eA (on1 lenD) (eL [e2 ixD (eV 0) (eC (.int 0))]))) (gV 4) (sB [sIf (tOr (tB1 (e2 neD (e2 ixD (e2 ixD (eV 0) (eC (.int 0))) (eV 4)) (e2 ixD (e2 ixD (eV 1) (eC (.int 0))) (eV 4)))) (tB1 (e2 neD (e2 ixD (e2 ixD (eV 0) (eC (.int 1))) (eV 4)) (e2 ixD (e2 ixD (eV 1) (eC (.int 1))) (eV 4))))) (sB [sIf (tB1 (e2 inD (e2 ixD (e2 ixD (eV 1) (eC (.int 1))) (eV 4)) (eLst true (eL [eC (.str [117, 112]), eC (.str [100, 111, 119, 110])])))) (sB [sE (eM isLst (mt1 appendD) (eV 2) (eL [eTup (eL [eA (on1 lenD) (eL [eA (F_q_path) (eL [e2 ixD (eV 1) (eC (.int 0)), eV 4])]), eV 4])]))]) (sB [sE (eM isLst (mt1 appendD) (eV 3) (eL [eTup (eL [e2 subD (eC (.int 0)) (eA (on1 lenD) (eL [eA (F_q_path) (eL [e2 ixD (eV 0) (eC (.int 0)), eV 4])])), eV 4])]))])]) (sB [])]),
  sSet 5 (eLC true [6] (iS (e2 (addD true) (eA (on1 (sortedPD true)) (eL [eV 2])) (eA (on1 (sortedPD true)) (eL [eV 3])))) (gV 6) (tYes) (e2 ixD (eV 6) (eC (.int 1)))),
  sRet (eLC true [4] (iS (eV 5)) (gV 4) (tYes) (eTup (eL [eV 4, e2 ixD (e2 ixD (eV 1) (eC (.int 0))) (eV 4), e2 ixD (e2 ixD (eV 1) (eC (.int 1))) (eV 4)])))]
def F_q_due_plan : AF := fnT 2 7 b_q_due_plan
/- _law_steps_right: _law_first, _law_one, _law_two, _law_plan_here, _law_n, _law_words, _law_field, _law_alike, _law_forest, _law_parents_here, _law_kinds_here, _law_step -/
def b_q_steps_right : AS := sB [sSet 4 (eA (on1 lenD) (eL [e2 ixD (eV 1) (eC (.int 0))])),
  sSet 5 (eLC true [6] (iR1 (eV 4)) (gV 6) (tYes) (eA (F_q_word) (eL [e2 ixD (eV 1) (eC (.int 0)), e2 ixD (eV 1) (eC (.int 1)), eV 6]))),
  sSet 7 (eLC true [6] (iR1 (eV 4)) (gV 6) (tB1 (e2 eqD (e2 ixD (eV 5) (eV 6)) (eA (F_q_word) (eL [e2 ixD (eV 2) (eC (.int 0)), e2 ixD (eV 2) (eC (.int 1)), eV 6])))) (eV 6)),
  sSet 8 (eV 0),
  sSet 9 (eA (on1 (listD false)) (eL [e2 ixD (eV 1) (eC (.int 0))])),
  sSet 10 (eA (on1 (listD false)) (eL [e2 ixD (eV 1) (eC (.int 1))])),
  sFor (iS (eV 3)) (gV 11) (sB [sSet 8 (eA (F_change) (eL [eV 8, e2 ixD (eV 11) (eC (.int 0)), e2 ixD (eV 11) (eC (.int 1)), e2 ixD (eV 11) (eC (.int 2))])),
    sSub setIxD (eV 9) (e2 ixD (eV 11) (eC (.int 0))) (e2 ixD (eV 11) (eC (.int 1))),
    sSub setIxD (eV 10) (e2 ixD (eV 11) (eC (.int 0))) (e2 ixD (eV 11) (eC (.int 2))),
    sIf (tOr (tB1 (e2 gtD (eA (on1 lenD) (eL [eA (F_q_fault) (eL [eV 9, eV 10])])) (eC (.int 0)))) (tNot (tV (eA (F_q_same_forest) (eL [eV 8, eV 9, eV 10]))))) (sB [sRet (eC (.bl false))]) (sB []),
    sFor (iS (eV 7)) (gV 6) (sB [sIf (tNot (tV (eA (F_q_same_v4 12) (eL [eMth [("Forest", F_Forest_word)] "word" (eV 8) (eL [eV 6]), e2 ixD (eV 5) (eV 6)])))) (sB [sRet (eC (.bl false))]) (sB [])])]),
  sRet (eA (F_q_same_forest) (eL [eV 8, e2 ixD (eV 2) (eC (.int 0)), e2 ixD (eV 2) (eC (.int 1))]))]
def F_q_steps_right : AF := fnT 4 12 b_q_steps_right
/- _law_plan_right: _law_first, _law_second_here, _law_one, _law_two, _law_due, _law_actual, _law_again -/
def b_q_plan_right : AS := sB [sSet 4 (eA (F_q_due_plan) (eL [eV 2, eV 3])),
  sSet 5 (eA (F_q_plan) (eL [eV 0, eV 1])),
  sIf (tOr (tB1 (e2 neD (e2 ixD (eV 5) (eC (.int 0))) (eC (.str [108, 101, 116])))) (tNot (tV (eA (F_q_same_v4 12) (eL [e2 ixD (eV 5) (eC (.int 1)), eV 4]))))) (sB [sRet (eC (.bl false))]) (sB []),
  sE (eM isLst (mt1 appendD) (e2 ixD (eV 5) (eC (.int 1))) (eL [eTup (eL [eC (.int 0), eC .non, eC (.str [117, 112])])])),
  sSet 6 (eA (F_q_plan) (eL [eV 0, eV 1])),
  sIf (tOr (tB1 (e2 neD (e2 ixD (eV 6) (eC (.int 0))) (eC (.str [108, 101, 116])))) (tNot (tV (eA (F_q_same_v4 12) (eL [e2 ixD (eV 6) (eC (.int 1)), eV 4]))))) (sB [sRet (eC (.bl false))]) (sB []),
  sIf (tNot (tV (eA (F_q_steps_right) (eL [eV 0, eV 2, eV 3, e2 ixD (eV 6) (eC (.int 1))])))) (sB [sRet (eC (.bl false))]) (sB []),
  sRet (eAnd (eA (F_q_same_forest) (eL [eV 0, e2 ixD (eV 2) (eC (.int 0)), e2 ixD (eV 2) (eC (.int 1))])) (eA (F_q_same_forest) (eL [eV 1, e2 ixD (eV 3) (eC (.int 0)), e2 ixD (eV 3) (eC (.int 1))])))]
def F_q_plan_right : AF := fnT 4 7 b_q_plan_right
/- _law_near: _law_tape_here, _law_parents_here, _law_kinds_here, _law_n, _law_near_here, _law_k, _law_field, _law_pick, _law_moved, _law_turned -/
def b_q_near_v2 : AS := sB [sSet 3 (eA (on1 lenD) (eL [eV 1])),
  sSet 4 (eLst true (eL [eA (on1 (listD true)) (eL [eV 1]), eA (on1 (listD true)) (eL [eV 2])])),
  sFor (iR1 (e2 (addD true) (eC (.int 1)) (eA (F_q_take) (eL [eV 0, eC (.int 6)])))) (gV 5) (sB [sSet 6 (eA (F_q_take) (eL [eV 0, eV 3])),
    sSet 7 (eA (F_q_take) (eL [eV 0, e2 (addD true) (e2 (mulD true) (eC (.int 2)) (eV 3)) (eC (.int 2))])),
    sSet 8 (eA (on1 (listD false)) (eL [e2 ixD (eV 4) (eC (.int 0))])),
    sIf (tB1 (e2 ltD (eV 7) (eV 3))) (sB [sSub setIxD (eV 8) (eV 6) (eV 7)]) (sB []),
    sIf (tB1 (e2 eqD (eV 7) (eV 3))) (sB [sSub setIxD (eV 8) (eV 6) (eC .non)]) (sB []),
    sSet 9 (eA (on1 (listD false)) (eL [e2 ixD (eV 4) (eC (.int 1))])),
    sSub setIxD (eV 9) (eV 6) (e2 ixD (eLst true (eL [eC (.str [117, 112]), eC (.str [100, 111, 119, 110]), eC (.str [102, 105, 114, 115, 116]), eC (.str [108, 97, 115, 116])])) (eA (F_q_take) (eL [eV 0, eC (.int 4)]))),
    sIf (tB1 (e2 eqD (eA (on1 lenD) (eL [eA (F_q_fault) (eL [eV 8, eV 9])])) (eC (.int 0)))) (sB [sSet 4 (eLst true (eL [eV 8, eV 9]))]) (sB [])]),
  sRet (eV 4)]
def F_q_near_v2 : AF := fnT 3 10 b_q_near_v2
/- _law_second: _law_script, _law_parents_here, _law_kinds_here, _law_tape_here, _law_pick, _law_free -/
def b_q_second : AS := sB [sSet 3 (eA (F_q_tape) (eL [eV 0, eC (.int 2)])),
  sSet 4 (eA (F_q_take) (eL [eV 3, eC (.int 8)])),
  sIf (tB1 (e2 ltD (eV 4) (eC (.int 4)))) (sB [sSet 5 (eA (F_q_parents) (eL [eV 3, eA (on1 lenD) (eL [eV 1])])),
    sRet (eLst true (eL [eV 5, eA (F_q_kinds) (eL [eA (F_q_tape) (eL [eV 0, eC (.int 3)]), eV 5, eC (.bl false)])]))]) (sB []),
  sIf (tB1 (e2 eqD (eV 4) (eC (.int 4)))) (sB [sRet (eLst true (eL [eA (on1 (listD true)) (eL [eV 1]), eA (on1 (listD true)) (eL [eV 2])]))]) (sB []),
  sRet (eA (F_q_near_v2) (eL [eV 3, eV 1, eV 2]))]
def F_q_second : AF := fnT 3 6 b_q_second
/- _law_size: _law_tape_here -/
def b_q_size_v4 : AS := sB [sIf (tB1 (e2 eqD (eA (F_q_take) (eL [eV 0, eC (.int 8)])) (eC (.int 0)))) (sB [sRet (e2 (addD true) (eC (.int 7)) (eA (F_q_take) (eL [eV 0, eC (.int 2)])))]) (sB []),
  sRet (e2 (addD true) (eC (.int 1)) (eA (F_q_take) (eL [eV 0, eC (.int 6)])))]
def F_q_size_v4 : AF := fnT 1 1 b_q_size_v4
/- law: _law_script, _law_tape_here, _law_n, _law_other, _law_parents_here, _law_one, _law_two, _law_first, _law_second_here, _law_third, _law_k, _law_same_here -/
def b_law_k62 : AS := sB [sSet 1 (eA (F_q_tape) (eL [eV 0, eC (.int 0)])),
  sSet 2 (eA (F_q_size_v4) (eL [eV 1])),
  sSet 3 (e2 (addD true) (eC (.int 1)) (eA (F_q_take) (eL [eV 1, eC (.int 7)]))),
  sIf (tB1 (e2 geD (eV 3) (eV 2))) (sB [sSet 3 (e2 (addD true) (eV 3) (eC (.int 1)))]) (sB []),
  sSet 4 (eA (F_q_parents) (eL [eV 1, eV 2])),
  sSet 5 (eLst true (eL [eV 4, eA (F_q_kinds) (eL [eA (F_q_tape) (eL [eV 0, eC (.int 1)]), eV 4, eC (.bl false)])])),
  sSet 6 (eA (F_q_second) (eL [eV 0, e2 ixD (eV 5) (eC (.int 0)), e2 ixD (eV 5) (eC (.int 1))])),
  sSet 7 (eA (mkI "Forest" true (F_Forest_init)) (eL [eA (on1 (listD true)) (eL [e2 ixD (eV 5) (eC (.int 0))]), eA (on1 (listD true)) (eL [e2 ixD (eV 5) (eC (.int 1))])])),
  sSet 8 (eA (mkI "Forest" true (F_Forest_init)) (eL [eA (on1 (listD true)) (eL [e2 ixD (eV 6) (eC (.int 0))]), eA (on1 (listD true)) (eL [e2 ixD (eV 6) (eC (.int 1))])])),
  sSet 9 (eA (mkI "Forest" true (F_Forest_init)) (eL [eLC true [10] (iR1 (eV 3)) (gV 10) (tYes) (eC .non), eLC true [10] (iR1 (eV 3)) (gV 10) (tYes) (eC (.str [117, 112]))])),
  sIf (tOr (tNot (tV (eA (F_q_is_differ) (eL [eA (F_q_plan) (eL [eV 7, eV 9]), eV 2, eV 3])))) (tNot (tV (eA (F_q_is_differ) (eL [eA (F_q_plan) (eL [eV 9, eV 8]), eV 3, eV 2]))))) (sB [sRet (eC (.bl false))]) (sB []),
  sIf (tOr (tNot (tV (eA (F_q_plan_right) (eL [eV 7, eV 8, eV 5, eV 6])))) (tNot (tV (eA (F_q_plan_right) (eL [eV 8, eV 7, eV 6, eV 5]))))) (sB [sRet (eC (.bl false))]) (sB []),
  sSet 11 (eA (F_q_plan) (eL [eV 7, eV 7])),
  sRet (eAnd (e2 eqD (e2 ixD (eV 11) (eC (.int 0))) (eC (.str [108, 101, 116]))) (eA (F_q_same_v4 12) (eL [e2 ixD (eV 11) (eC (.int 1)), eLst true (eL [])])))]
def F_law_k62 : AF := fnT 1 12 b_law_k62
end Sm
end

section
set_option linter.all false
set_option maxRecDepth 10000
/-! Pl: how the plain computations run (no model in sight). -/
namespace Sm
section
variable {e : Env} {h : AH}
/-! continuations by name: simp does not look into them before their turn -/
def kV : Option (Option D) → AH → R D := fun o h => match o with
  | some (some d) => .ok d h
  | _ => .no
@[simp] theorem kV_s (d : D) : kV (some (some d)) h = .ok d h := rfl
@[simp] theorem eV_def (i : Nat) : eV i e h = kV e[i]? h := by unfold eV kV; rfl
@[simp] theorem eC_def (d : D) : eC d e h = .ok d h := rfl
@[simp] theorem e1_def (f : D → AH → R D) (a : AE) : e1 f a e h = (a e h).bind f := rfl
def k2b (f : D → D → AH → R D) (x : D) : D → AH → R D := fun y h => f x y h
@[simp] theorem k2b_def (f : D → D → AH → R D) (x y : D) : k2b f x y h = f x y h := rfl
def k2 (f : D → D → AH → R D) (b : AE) (e : Env) : D → AH → R D := fun x h => (b e h).bind (k2b f x)
@[simp] theorem k2_def (f : D → D → AH → R D) (b : AE) (x : D) : k2 f b e x h = (b e h).bind (k2b f x) := rfl
@[simp] theorem e2_def (f : D → D → AH → R D) (a b : AE) : e2 f a b e h = (a e h).bind (k2 f b e) := rfl
def kcons (x : D) : List D → AH → R (List D) := fun xs h => .ok (x :: xs) h
@[simp] theorem kcons_def (x : D) (xs : List D) : kcons x xs h = .ok (x :: xs) h := rfl
def kL (as : List AE) (e : Env) : D → AH → R (List D) := fun x h => (eL as e h).bind (kcons x)
@[simp] theorem kL_def (as : List AE) (x : D) : kL as e x h = (eL as e h).bind (kcons x) := rfl
@[simp] theorem eL_nil : eL [] e h = .ok [] h := rfl
@[simp] theorem eL_cons (a : AE) (as : List AE) : eL (a :: as) e h = (a e h).bind (kL as e) := rfl
@[simp] theorem eA_def (f : List D → AH → R D) (as : AA) : eA f as e h = (as e h).bind f := rfl
def kIf (a b : AE) (e : Env) : Bool → AH → R D := fun c h => if c then a e h else b e h
@[simp] theorem kIf_t (a b : AE) : kIf a b e true h = a e h := rfl
@[simp] theorem kIf_f (a b : AE) : kIf a b e false h = b e h := rfl
@[simp] theorem eIf_def (t : AB) (a b : AE) : eIf t a b e h = (t e h).bind (kIf a b e) := rfl
def kAnd (b : AE) (e : Env) : D → AH → R D := fun x h1 => match x with
  | .bl true => b e h1
  | .bl false => .ok (.bl false) h1
  | _ => .no
@[simp] theorem kAnd_t (b : AE) : kAnd b e (.bl true) h = b e h := rfl
@[simp] theorem kAnd_f (b : AE) : kAnd b e (.bl false) h = .ok (.bl false) h := rfl
@[simp] theorem eAnd_def (a b : AE) : eAnd a b e h = (a e h).bind (kAnd b e) := rfl
def kOr (b : AE) (e : Env) : D → AH → R D := fun x h1 => match x with
  | .bl true => .ok (.bl true) h1
  | .bl false => b e h1
  | _ => .no
@[simp] theorem kOr_t (b : AE) : kOr b e (.bl true) h = .ok (.bl true) h := rfl
@[simp] theorem kOr_f (b : AE) : kOr b e (.bl false) h = b e h := rfl
@[simp] theorem eOr_def (a b : AE) : eOr a b e h = (a e h).bind (kOr b e) := rfl
def kC2 (g : D → D → AH → R D) (c : AE) (e : Env) (y : D) : D → AH → R D := fun z h3 => match z with
  | .bl true => (c e h3).bind (k2b g y)
  | .bl false => .ok (.bl false) h3
  | _ => .no
@[simp] theorem kC2_t (g : D → D → AH → R D) (c : AE) (y : D) : kC2 g c e y (.bl true) h = (c e h).bind (k2b g y) := rfl
@[simp] theorem kC2_f (g : D → D → AH → R D) (c : AE) (y : D) : kC2 g c e y (.bl false) h = .ok (.bl false) h := rfl
def kC1 (f g : D → D → AH → R D) (c : AE) (e : Env) (x : D) : D → AH → R D := fun y h2 => (f x y h2).bind (kC2 g c e y)
@[simp] theorem kC1_def (f g : D → D → AH → R D) (c : AE) (x y : D) : kC1 f g c e x y h = (f x y h).bind (kC2 g c e y) := rfl
def kC0 (f g : D → D → AH → R D) (b c : AE) (e : Env) : D → AH → R D := fun x h1 => (b e h1).bind (kC1 f g c e x)
@[simp] theorem kC0_def (f g : D → D → AH → R D) (b c : AE) (x : D) : kC0 f g b c e x h = (b e h).bind (kC1 f g c e x) := rfl
@[simp] theorem eChain_def (f g : D → D → AH → R D) (a b c : AE) : eChain f g a b c e h = (a e h).bind (kC0 f g b c e) := rfl
@[simp] theorem notD_def (b : Bool) : notD (.bl b) h = .ok (.bl (!b)) h := rfl
@[simp] theorem tB_def (b : Bool) : tB (.bl b) = some b := rfl
def kB : D → AH → R Bool := fun d h => R.of (tB d) h
@[simp] theorem kB_def (b : Bool) : kB (.bl b) h = .ok b h := rfl
@[simp] theorem tB1_def (a : AE) : tB1 a e h = (a e h).bind kB := rfl
def kTr : D → AH → R Bool := fun d h => R.of (truth h d) h
@[simp] theorem kTr_def (d : D) : kTr d h = R.of (truth h d) h := rfl
@[simp] theorem tV_def (a : AE) : tV a e h = (a e h).bind kTr := rfl
def kN : Bool → AH → R Bool := fun c h => .ok (!c) h
@[simp] theorem kN_def (c : Bool) : kN c h = .ok (!c) h := rfl
@[simp] theorem tNot_def (t : AB) : tNot t e h = (t e h).bind kN := rfl
def kTA (u : AB) (e : Env) : Bool → AH → R Bool := fun c h => if c then u e h else .ok false h
@[simp] theorem kTA_t (u : AB) : kTA u e true h = u e h := rfl
@[simp] theorem kTA_f (u : AB) : kTA u e false h = .ok false h := rfl
@[simp] theorem tAnd_def (t u : AB) : tAnd t u e h = (t e h).bind (kTA u e) := rfl
def kTO (u : AB) (e : Env) : Bool → AH → R Bool := fun c h => if c then .ok true h else u e h
@[simp] theorem kTO_t (u : AB) : kTO u e true h = .ok true h := rfl
@[simp] theorem kTO_f (u : AB) : kTO u e false h = u e h := rfl
@[simp] theorem tOr_def (t u : AB) : tOr t u e h = (t e h).bind (kTO u e) := rfl
@[simp] theorem tYes_def : tYes e h = .ok true h := rfl
@[simp] theorem oN_def : oN e h = .ok none h := rfl
def kO : D → AH → R (Option Int) := fun d h => match d with
  | .int i => .ok (some i) h
  | _ => .no
@[simp] theorem kO_def (i : Int) : kO (.int i) h = .ok (some i) h := rfl
@[simp] theorem oS_def (a : AE) : oS a e h = (a e h).bind kO := rfl
def kS3 (fz : Bool) (x : D) (l : Option Int) : Option Int → AH → R D := fun u h => slD fz x l u h
@[simp] theorem kS3_def (fz : Bool) (x : D) (l u : Option Int) : kS3 fz x l u h = slD fz x l u h := rfl
def kS2 (fz : Bool) (hi : AO1) (e : Env) (x : D) : Option Int → AH → R D := fun l h => (hi e h).bind (kS3 fz x l)
@[simp] theorem kS2_def (fz : Bool) (hi : AO1) (x : D) (l : Option Int) : kS2 fz hi e x l h = (hi e h).bind (kS3 fz x l) := rfl
def kS1 (fz : Bool) (lo hi : AO1) (e : Env) : D → AH → R D := fun x h => (lo e h).bind (kS2 fz hi e x)
@[simp] theorem kS1_def (fz : Bool) (lo hi : AO1) (x : D) : kS1 fz lo hi e x h = (lo e h).bind (kS2 fz hi e x) := rfl
@[simp] theorem eSl_def (fz : Bool) (a : AE) (lo hi : AO1) : eSl fz a lo hi e h = (a e h).bind (kS1 fz lo hi e) := rfl
def kTup : List D → AH → R D := fun xs h1 => R.chk (decide (xs.length ≤ big)) (.ok (.tup xs) h1)
@[simp] theorem kTup_def (xs : List D) : kTup xs h = R.chk (decide (xs.length ≤ big)) (.ok (.tup xs) h) := rfl
@[simp] theorem eTup_def (as : AA) : eTup as e h = (as e h).bind kTup := rfl
def kLst (fz : Bool) : List D → AH → R D := fun xs h1 => R.chk (decide (xs.length ≤ big)) (mkL fz xs h1)
@[simp] theorem kLst_def (fz : Bool) (xs : List D) : kLst fz xs h = R.chk (decide (xs.length ≤ big)) (mkL fz xs h) := rfl
@[simp] theorem eLst_def (fz : Bool) (as : AA) : eLst fz as e h = (as e h).bind (kLst fz) := rfl
def kM (g : AH → D → Bool) (f : D → List D → AH → R D) (as : AA) (e : Env) : D → AH → R D := fun d h1 => R.chk (g h1 d) ((as e h1).bind (f d))
@[simp] theorem kM_def (g : AH → D → Bool) (f : D → List D → AH → R D) (as : AA) (d : D) : kM g f as e d h = R.chk (g h d) ((as e h).bind (f d)) := rfl
@[simp] theorem eM_def (g : AH → D → Bool) (f : D → List D → AH → R D) (a : AE) (as : AA) : eM g f a as e h = (a e h).bind (kM g f as e) := rfl
@[simp] theorem sB_nil : sB [] e h = .ok (.nx e) h := rfl
def kB2 (ss : List AS) : Fl → AH → R Fl := fun f h1 => match f with
  | .nx e1 => sB ss e1 h1
  | f => .ok f h1
@[simp] theorem kB2_nx (ss : List AS) : kB2 ss (.nx e) h = sB ss e h := (rfl)
@[simp] theorem kB2_rt (ss : List AS) (d : D) : kB2 ss (.rt d) h = .ok (.rt d) h := rfl
@[simp] theorem kB2_bk (ss : List AS) : kB2 ss (.bk e) h = .ok (.bk e) h := rfl
@[simp] theorem kB2_ct (ss : List AS) : kB2 ss (.ct e) h = .ok (.ct e) h := rfl
@[simp] theorem kB2_ex (ss : List AS) (x : Ex) : kB2 ss (.ex x e) h = .ok (.ex x e) h := rfl
@[simp] theorem sB_cons (s : AS) (ss : List AS) : sB (s :: ss) e h = (s e h).bind (kB2 ss) := (rfl)
def kE (e : Env) : D → AH → R Fl := fun _ h1 => .ok (.nx e) h1
@[simp] theorem kE_def (d : D) : kE e d h = .ok (.nx e) h := rfl
@[simp] theorem sE_def (a : AE) : sE a e h = up e (a e h) (kE e) := rfl
def kSet (e : Env) (i : Nat) : D → AH → R Fl := fun d h1 => .ok (.nx (e.set i (some d))) h1
@[simp] theorem kSet_def (i : Nat) (d : D) : kSet e i d h = .ok (.nx (e.set i (some d))) h := rfl
@[simp] theorem sSet_def (i : Nat) (a : AE) : sSet i a e h = up e (a e h) (kSet e i) := rfl
def kU3 (f : D → D → D → AH → R D) (z x : D) : D → AH → R D := fun y h3 => f x y z h3
@[simp] theorem kU3_def (f : D → D → D → AH → R D) (z x y : D) : kU3 f z x y h = f x y z h := rfl
def kU2 (f : D → D → D → AH → R D) (i : AE) (e : Env) (z : D) : D → AH → R D := fun x h2 => (i e h2).bind (kU3 f z x)
@[simp] theorem kU2_def (f : D → D → D → AH → R D) (i : AE) (z x : D) : kU2 f i e z x h = (i e h).bind (kU3 f z x) := rfl
def kU1 (f : D → D → D → AH → R D) (o i : AE) (e : Env) : D → AH → R D := fun z h1 => (o e h1).bind (kU2 f i e z)
@[simp] theorem kU1_def (f : D → D → D → AH → R D) (o i : AE) (z : D) : kU1 f o i e z h = (o e h).bind (kU2 f i e z) := rfl
@[simp] theorem sSub_def (f : D → D → D → AH → R D) (o i v : AE) : sSub f o i v e h = up e ((v e h).bind (kU1 f o i e)) (kE e) := rfl
def kAug (i : Nat) (f : D → D → AH → R D) (a : AE) (e : Env) : Option (Option D) → AH → R Fl := fun o h => match o with
  | some (some x) => up e ((a e h).bind (k2b f x)) (kSet e i)
  | _ => .no
@[simp] theorem kAug_def (i : Nat) (f : D → D → AH → R D) (a : AE) (x : D) : kAug i f a e (some (some x)) h = up e ((a e h).bind (k2b f x)) (kSet e i) := rfl
@[simp] theorem sAug_def (i : Nat) (f : D → D → AH → R D) (a : AE) : sAug i f a e h = kAug i f a e e[i]? h := by unfold sAug kAug; rfl
def kSI (a b : AS) (e : Env) : Bool → AH → R Fl := fun c h1 => if c then a e h1 else b e h1
@[simp] theorem kSI_t (a b : AS) : kSI a b e true h = a e h := rfl
@[simp] theorem kSI_f (a b : AS) : kSI a b e false h = b e h := rfl
@[simp] theorem sIf_def (t : AB) (a b : AS) : sIf t a b e h = up e (t e h) (kSI a b e) := rfl
def kRet : D → AH → R Fl := fun d h => .ok (.rt d) h
@[simp] theorem kRet_def (d : D) : kRet d h = .ok (.rt d) h := rfl
@[simp] theorem sRet_def (a : AE) : sRet a e h = up e (a e h) kRet := rfl
@[simp] theorem sRetN_def : sRetN e h = .ok (.rt .non) h := rfl
@[simp] theorem sBrk_def : sBrk e h = .ok (.bk e) h := rfl
@[simp] theorem sCt_def : sCt e h = .ok (.ct e) h := rfl
@[simp] theorem sPass_def : sPass e h = .ok (.nx e) h := rfl
@[simp] theorem gV_def (i : Nat) (d : D) : gV i d e h = .ok (e.set i (some d)) h := rfl
@[simp] theorem on1_def (f : D → AH → R D) (d : D) : on1 f [d] h = f d h := rfl
@[simp] theorem mt0_def (f : D → AH → R D) (d : D) : mt0 f d [] h = f d h := rfl
@[simp] theorem mt1_def (f : D → D → AH → R D) (d x : D) : mt1 f d [x] h = f d x h := rfl
@[simp] theorem add_int (fz : Bool) (i j : Int) : addD fz (.int i) (.int j) h = .ok (.int (i + j)) h := rfl
@[simp] theorem sub_int (i j : Int) : subD (.int i) (.int j) h = .ok (.int (i - j)) h := rfl
@[simp] theorem mul_int (fz : Bool) (i j : Int) : mulD fz (.int i) (.int j) h = R.chk (small i || small j) (.ok (.int (i * j)) h) := rfl
@[simp] theorem mod_int (i j : Int) : modD (.int i) (.int j) h = R.chk (decide (0 < j)) (.ok (.int (i % j)) h) := rfl
@[simp] theorem fdiv_int (i j : Int) : fdivD (.int i) (.int j) h = R.chk (wideJ j) (.ok (.int (i / j)) h) := rfl
@[simp] theorem wideJ_9 : wideJ 9 = true := rfl
@[simp] theorem neg_int (i : Int) : negD (.int i) h = .ok (.int (-i)) h := rfl
@[simp] theorem lt_int (i j : Int) : ltD (.int i) (.int j) h = .ok (.bl (decide (i < j))) h := rfl
@[simp] theorem le_int (i j : Int) : leD (.int i) (.int j) h = .ok (.bl (decide (i ≤ j))) h := rfl
@[simp] theorem gt_int (i j : Int) : gtD (.int i) (.int j) h = .ok (.bl (decide (j < i))) h := rfl
@[simp] theorem ge_int (i j : Int) : geD (.int i) (.int j) h = .ok (.bl (decide (j ≤ i))) h := rfl
@[simp] theorem eq_int (i j : Int) : eqD (.int i) (.int j) h = .ok (.bl (decide (i = j))) h := by
  have : decide (D.int i = D.int j) = decide (i = j) := decide_eq_decide.mpr ⟨fun e => D.int.inj e, fun e => by rw [e]⟩
  show R.ok (D.bl (decide (D.int i = D.int j))) h = _
  rw [this]
@[simp] theorem ne_int (i j : Int) : neD (.int i) (.int j) h = .ok (.bl (!decide (i = j))) h := by
  have : decide (D.int i = D.int j) = decide (i = j) := decide_eq_decide.mpr ⟨fun e => D.int.inj e, fun e => by rw [e]⟩
  show R.ok (D.bl (!decide (D.int i = D.int j))) h = _
  rw [this]
@[simp] theorem eq_str (i j : List Nat) : eqD (.str i) (.str j) h = .ok (.bl (decide (i = j))) h := by
  have : decide (D.str i = D.str j) = decide (i = j) := decide_eq_decide.mpr ⟨fun e => D.str.inj e, fun e => by rw [e]⟩
  show R.ok (D.bl (decide (D.str i = D.str j))) h = _
  rw [this]
@[simp] theorem ne_str (i j : List Nat) : neD (.str i) (.str j) h = .ok (.bl (!decide (i = j))) h := by
  have : decide (D.str i = D.str j) = decide (i = j) := decide_eq_decide.mpr ⟨fun e => D.str.inj e, fun e => by rw [e]⟩
  show R.ok (D.bl (!decide (D.str i = D.str j))) h = _
  rw [this]
@[simp] theorem abs_int (i : Int) : absD (.int i) h = .ok (.int (if i < 0 then -i else i)) h := rfl
@[simp] theorem int_int (i : Int) : intD (.int i) h = .ok (.int i) h := rfl
@[simp] theorem isTy_str_str (s : List Nat) : isTy "str" (.str s) h = .ok (.bl true) h := rfl
@[simp] theorem isTy_str_tup (s : List D) : isTy "str" (.tup s) h = .ok (.bl false) h := rfl
@[simp] theorem isTy_str_int (s : Int) : isTy "str" (.int s) h = .ok (.bl false) h := rfl
@[simp] theorem isTy_tup_str (s : List Nat) : isTy "tuple" (.str s) h = .ok (.bl false) h := rfl
@[simp] theorem isTy_tup_tup (s : List D) : isTy "tuple" (.tup s) h = .ok (.bl true) h := rfl
@[simp] theorem isTy_int_int (i : Int) : isTy "int" (.int i) h = .ok (.bl true) h := rfl
@[simp] theorem isTy_bl_int (i : Int) : isTy "bool" (.int i) h = .ok (.bl false) h := rfl
@[simp] theorem len_lst (xs : List D) : lenD (.lst xs) h = .ok (.int xs.length) h := rfl
@[simp] theorem len_tup (xs : List D) : lenD (.tup xs) h = .ok (.int xs.length) h := rfl
@[simp] theorem len_scr (xs : List D) : lenD (.scr xs) h = .ok (.int xs.length) h := rfl
@[simp] theorem tupD_lst (xs : List D) : tupD (.lst xs) h = .ok (.tup xs) h := rfl
@[simp] theorem tupD_tup (xs : List D) : tupD (.tup xs) h = .ok (.tup xs) h := rfl
@[simp] theorem listD_tup (xs : List D) : listD true (.tup xs) h = .ok (.lst xs) h := rfl
@[simp] theorem listD_lst (xs : List D) : listD true (.lst xs) h = .ok (.lst xs) h := rfl
@[simp] theorem ix_tup (xs : List D) (i : Int) : ixD (.tup xs) (.int i) h = R.of (at? xs i) h := rfl
@[simp] theorem ix_lst (xs : List D) (i : Int) : ixD (.lst xs) (.int i) h = R.of (at? xs i) h := rfl
@[simp] theorem ix_scr (xs : List D) (i : Int) : ixD (.scr xs) (.int i) h = R.of (at? xs i) h := rfl
@[simp] theorem truth_bl (b : Bool) : truth h (.bl b) = some b := rfl
@[simp] theorem sl_tup (fz : Bool) (xs : List D) (lo hi : Option Int) : slD fz (.tup xs) lo hi h = .ok (.tup (cut xs lo hi)) h := rfl
@[simp] theorem add_tup (fz : Bool) (xs ys : List D) : addD fz (.tup xs) (.tup ys) h = R.chk (xs.length + ys.length ≤ big) (.ok (.tup (xs ++ ys)) h) := rfl
def kR1 : D → AH → R Src := fun d h1 => match d with
  | .int j => R.chk (inI j) (.ok (.lst (rng 0 j.toNat)) h1)
  | _ => .no
@[simp] theorem kR1_def (j : Int) : kR1 (.int j) h = R.chk (inI j) (.ok (.lst (rng 0 j.toNat)) h) := rfl
@[simp] theorem iR1_def (a : AE) : iR1 a e h = (a e h).bind kR1 := rfl
def kR2 (x : D) : D → AH → R Src := fun y h2 => match x with
  | .int i => match y with
    | .int j => R.chk (inI i && inI j) (.ok (.lst (rng i (j - i).toNat)) h2)
    | _ => .no
  | _ => .no
@[simp] theorem kR2_def (i j : Int) : kR2 (.int i) (.int j) h = R.chk (inI i && inI j) (.ok (.lst (rng i (j - i).toNat)) h) := rfl
def kR2a (b : AE) (e : Env) : D → AH → R Src := fun x h => (b e h).bind (kR2 x)
@[simp] theorem kR2a_def (b : AE) (x : D) : kR2a b e x h = (b e h).bind (kR2 x) := rfl
@[simp] theorem iR2_def (a b : AE) : iR2 a b e h = (a e h).bind (kR2a b e) := rfl
def kIS : D → AH → R Src := fun d h1 => match d with
  | .loc l => match h1[l]? with
    | some (.lst _) => .ok (.live l) h1
    | _ => .no
  | d => match seqH h1 d with
    | some xs => .ok (.lst xs) h1
    | none => .no
@[simp] theorem kIS_tup (xs : List D) : kIS (.tup xs) h = .ok (.lst xs) h := rfl
@[simp] theorem kIS_lst (xs : List D) : kIS (.lst xs) h = .ok (.lst xs) h := rfl
@[simp] theorem kIS_scr (xs : List D) : kIS (.scr xs) h = .ok (.lst xs) h := rfl
@[simp] theorem iS_def (a : AE) : iS a e h = (a e h).bind kIS := rfl
def kFor (g : AG) (b : AS) (e : Env) : Src → AH → R Fl := fun s h1 => forN g b s s.fuel 0 e h1
@[simp] theorem kFor_def (g : AG) (b : AS) (s : Src) : kFor g b e s h = forN g b s s.fuel 0 e h := (rfl)
@[simp] theorem sFor_def (it : AI) (g : AG) (b : AS) : sFor it g b e h = up e (it e h) (kFor g b e) := (rfl)
@[simp] theorem sWhile_def (t : AB) (b : AS) : sWhile t b e h = whileN t b (2 ^ 40) e h := (rfl)
def kmkL (fz : Bool) : List D → AH → R D := fun ys h => mkL fz ys h
@[simp] theorem kmkL_def (fz : Bool) (ys : List D) : kmkL fz ys h = mkL fz ys h := rfl
def kLC (fz : Bool) (own : List Nat) (g : AG) (t : AB) (a : AE) (e : Env) : Src → AH → R D := fun s h1 => (lcN g t a (wipeE e own) s s.fuel 0 [] h1).bind (kmkL fz)
@[simp] theorem kLC_def (fz : Bool) (own : List Nat) (g : AG) (t : AB) (a : AE) (s : Src) : kLC fz own g t a e s h = (lcN g t a (wipeE e own) s s.fuel 0 [] h).bind (kmkL fz) := (rfl)
@[simp] theorem eLC_def (fz : Bool) (own : List Nat) (it : AI) (g : AG) (t : AB) (a : AE) : eLC fz own it g t a e h = (it e h).bind (kLC fz own g t a e) := (rfl)
@[simp] theorem turn_nx (k : Env → AH → R Fl) : turn (.nx e) h k = k e h := rfl
@[simp] theorem turn_ct (k : Env → AH → R Fl) : turn (.ct e) h k = k e h := rfl
@[simp] theorem turn_bk (k : Env → AH → R Fl) : turn (.bk e) h k = .ok (.nx e) h := rfl
@[simp] theorem turn_rt (d : D) (k : Env → AH → R Fl) : turn (.rt d) h k = .ok (.rt d) h := rfl
end
/-! ### places -/
@[simp] theorem at_nat {α : Type} (xs : List α) (i : Nat) : at? xs (i : Int) = xs[i]? := by
  unfold at? ixN
  by_cases h : i < xs.length
  · rw [if_pos (Int.natCast_nonneg i), if_pos (by omega)]; simp
  · rw [if_pos (Int.natCast_nonneg i), if_neg (by omega), List.getElem?_eq_none (by omega)]; rfl
@[simp] theorem at_2 {α : Type} (xs : List α) : at? xs 2 = xs[2]? := at_nat xs 2
@[simp] theorem at_3 {α : Type} (xs : List α) : at? xs 3 = xs[3]? := at_nat xs 3
@[simp] theorem at_4 {α : Type} (xs : List α) : at? xs 4 = xs[4]? := at_nat xs 4
@[simp] theorem at_0 {α : Type} (xs : List α) : at? xs 0 = xs[0]? := at_nat xs 0
@[simp] theorem at_1 {α : Type} (xs : List α) : at? xs 1 = xs[1]? := at_nat xs 1
/-! ### the heap: what stood before, and the new objects -/
theorem get_new {h : AH} {L : AH} {n : Nat} (hn : h.length ≤ n) : (h ++ L)[n]? = L[n - h.length]? := List.getElem?_append_right hn
theorem set_new {h : AH} {L : AH} {n : Nat} {o : AO} (hn : h.length ≤ n) : (h ++ L).set n o = h ++ L.set (n - h.length) o := List.set_append_right _ _ hn
theorem set_old {h : AH} {L : AH} {n : Nat} {o : AO} (hn : n < h.length) : (h ++ L).set n o = h.set n o ++ L := List.set_append_left _ _ hn
/-! ### list objects -/
def getL (h : AH) (l : Nat) : Option (List D) := match h[l]? with
  | some (.lst xs) => some xs
  | _ => none
theorem getL_of {h : AH} {l : Nat} {xs : List D} (e : h[l]? = some (.lst xs)) : getL h l = some xs := by unfold getL; rw [e]
@[simp] theorem lstH_loc (h : AH) (l : Nat) : lstH h (.loc l) = getL h l := by unfold lstH getL; rfl
@[simp] theorem getL_set {h : AH} {l : Nat} {xs : List D} (hl : l < h.length) : getL (h.set l (.lst xs)) l = some xs := getL_of (by simp [hl])
theorem getL_set_ne {h : AH} {l m : Nat} {o : AO} (hl : l ≠ m) : getL (h.set l o) m = getL h m := by unfold getL; rw [List.getElem?_set_ne hl]
@[simp] theorem getL_old {h L : AH} {l : Nat} (hl : l < h.length) : getL (h ++ L) l = getL h l := by unfold getL; rw [List.getElem?_append_left hl]
theorem getL_new {h L : AH} {l : Nat} (hl : h.length ≤ l) : getL (h ++ L) l = getL L (l - h.length) := by unfold getL; rw [List.getElem?_append_right hl]
@[simp] theorem getL_0 (xs : List D) (L : AH) : getL (.lst xs :: L) 0 = some xs := rfl
@[simp] theorem getL_1 (o : AO) (xs : List D) (L : AH) : getL (o :: .lst xs :: L) 1 = some xs := rfl
@[simp] theorem getL_2 (o o2 : AO) (xs : List D) (L : AH) : getL (o :: o2 :: .lst xs :: L) 2 = some xs := rfl
def kOn (f : Nat → List D → R D) (l : Nat) : Option (List D) → R D
  | some xs => f l xs
  | none => .no
@[simp] theorem kOn_s (f : Nat → List D → R D) (l : Nat) (xs : List D) : kOn f l (some xs) = f l xs := rfl
theorem onL_def (h : AH) (l : Nat) (f : Nat → List D → R D) : onL h (.loc l) f = kOn f l (getL h l) := by
  unfold getL
  show (match h[l]? with
    | some (.lst xs) => f l xs
    | _ => .no) = _
  split <;> simp_all [kOn]
section
variable {h : AH}
theorem append_ok {l : Nat} {xs : List D} (y : D) (e : getL h l = some xs) (hl : xs.length < big) : appendD (.loc l) y h = .ok .non (h.set l (.lst (xs ++ [y]))) := by
  unfold appendD
  rw [onL_def, e]
  show R.chk (decide (xs.length < big)) _ = _
  rw [decide_eq_true hl]; rfl
theorem setIx_ok {l k : Nat} {xs : List D} {i : Int} (v : D) (e : getL h l = some xs) (hk : ixN xs.length i = some k) : setIxD (.loc l) (.int i) v h = .ok .non (h.set l (.lst (xs.set k v))) := by
  unfold setIxD
  dsimp only
  rw [onL_def, e]
  show (R.of (ixN xs.length i) h).bind _ = _
  rw [hk]; rfl
theorem ixL {l : Nat} {xs : List D} (i : Int) (e : getL h l = some xs) : ixD (.loc l) (.int i) h = R.of (at? xs i) h := by
  show (match seqH h (.loc l) with
    | some xs => R.of (at? xs i) h
    | none => .no) = _
  have : seqH h (.loc l) = some xs := (lstH_loc h l).trans e
  rw [this]
theorem lenL {l : Nat} {xs : List D} (e : getL h l = some xs) : lenD (.loc l) h = .ok (.int xs.length) h := by
  show (match seqH h (.loc l) with
    | some xs => R.ok (D.int xs.length) h
    | none => R.no) = _
  have : seqH h (.loc l) = some xs := (lstH_loc h l).trans e
  rw [this]
theorem isL {l : Nat} {xs : List D} (e : getL h l = some xs) : isLst h (.loc l) = true := by
  unfold getL at e
  unfold isLst
  split at e <;> simp_all
end
/-! ### loops -/
theorem for_inv {g : AG} {b : AS} {xs : List D} {P : Nat → Env → AH → Prop} {Z : R Fl → Prop}
    (step : ∀ i x e h (k : Env → AH → R Fl), xs[i]? = some x → P i e h → (∀ e2 h2, P (i + 1) e2 h2 → Z (k e2 h2)) → Z ((g x e h).bind fun e1 h1 => (b e1 h1).bind fun f h2 => turn f h2 k))
    (fin : ∀ e h, P xs.length e h → Z (.ok (.nx e) h)) {e : Env} {h : AH} (h0 : P 0 e h) : Z (forN g b (.lst xs) (Src.lst xs).fuel 0 e h) := by
  have main : ∀ n i e h, i ≤ xs.length → xs.length - i < n → P i e h → Z (forN g b (.lst xs) n i e h) := by
    intro n
    induction n with
    | zero => intro i e h _ hn; omega
    | succ n ih =>
      intro i e h hi hn hp
      show Z (match nxt (.lst xs) i h with
        | none => .no
        | some none => .ok (.nx e) h
        | some (some x) => (g x e h).bind fun e1 h1 => (b e1 h1).bind fun f h2 => turn f h2 (forN g b (.lst xs) n (i + 1)))
      show Z (match some xs[i]? with
        | none => .no
        | some none => .ok (.nx e) h
        | some (some x) => (g x e h).bind fun e1 h1 => (b e1 h1).bind fun f h2 => turn f h2 (forN g b (.lst xs) n (i + 1)))
      by_cases hl : i < xs.length
      · rw [List.getElem?_eq_getElem hl]
        exact step i _ e h _ (List.getElem?_eq_getElem hl) hp fun e2 h2 hp2 => ih (i + 1) e2 h2 hl (by omega) hp2
      · rw [List.getElem?_eq_none (by omega)]
        have : i = xs.length := by omega
        subst this
        exact fin e h hp
  exact main _ 0 e h (Nat.zero_le _) (by show _ < xs.length + 1; omega) h0
theorem lc_inv {g : AG} {t : AB} {a : AE} {e0 : Env} {xs : List D} {P : Nat → List D → AH → Prop} {Z : R (List D) → Prop}
    (step : ∀ i x acc h (k : List D → AH → R (List D)), xs[i]? = some x → P i acc h → (∀ acc2 h2, P (i + 1) acc2 h2 → Z (k acc2 h2)) → Z ((g x e0 h).nox.bind fun e1 h1 => (t e1 h1).nox.bind fun c h2 => if c then (a e1 h2).nox.bind fun y h3 => R.chk (decide (acc.length < big)) (k (acc ++ [y]) h3) else k acc h2))
    (fin : ∀ acc h, P xs.length acc h → Z (.ok acc h)) {h : AH} (h0 : P 0 [] h) : Z (lcN g t a e0 (.lst xs) (Src.lst xs).fuel 0 [] h) := by
  have main : ∀ n i acc h, i ≤ xs.length → xs.length - i < n → P i acc h → Z (lcN g t a e0 (.lst xs) n i acc h) := by
    intro n
    induction n with
    | zero => intro i e h _ hn; omega
    | succ n ih =>
      intro i acc h hi hn hp
      show Z (match some xs[i]? with
        | none => .no
        | some none => .ok acc h
        | some (some x) => (g x e0 h).nox.bind fun e1 h1 => (t e1 h1).nox.bind fun c h2 => if c then (a e1 h2).nox.bind fun y h3 => R.chk (decide (acc.length < big)) (lcN g t a e0 (.lst xs) n (i + 1) (acc ++ [y]) h3) else lcN g t a e0 (.lst xs) n (i + 1) acc h2)
      by_cases hl : i < xs.length
      · rw [List.getElem?_eq_getElem hl]
        exact step i _ acc h (fun acc h => lcN g t a e0 (.lst xs) n (i + 1) acc h) (List.getElem?_eq_getElem hl) hp fun e2 h2 hp2 => ih (i + 1) e2 h2 hl (by omega) hp2
      · rw [List.getElem?_eq_none (by omega)]
        have : i = xs.length := by omega
        subst this
        exact fin acc h hp
  exact main _ 0 [] h (Nat.zero_le _) (by show _ < xs.length + 1; omega) h0
theorem while_inv {t : AB} {b : AS} {P : Nat → Env → AH → Prop} {Z : R Fl → Prop}
    (step : ∀ m e h (k : Env → AH → R Fl), P m e h → (∀ m' e2 h2, m' < m → P m' e2 h2 → Z (k e2 h2)) → Z (up e (t e h) fun c h1 => if c then (b e h1).bind fun f h2 => turn f h2 k else .ok (.nx e) h1)) :
    ∀ (n m : Nat) {e : Env} {h : AH}, m < n → P m e h → Z (whileN t b n e h) := by
  intro n
  induction n with
  | zero => intro m e h hm; omega
  | succ n ih => exact fun m e h hm hp => step m e h (whileN t b n) hp fun m' e2 h2 hm' hp' => ih m' (by omega) hp'
theorem rng_get {lo : Int} {n i : Nat} {x : D} (h : (rng lo n)[i]? = some x) : i < n ∧ x = .int (lo + i) := by
  unfold rng at h
  rw [List.getElem?_map] at h
  by_cases hi : i < n
  · rw [List.getElem?_range hi] at h; simp at h; exact ⟨hi, h.symm⟩
  · rw [List.getElem?_eq_none (by simp; omega)] at h; cases h
@[simp] theorem rng_len {lo : Int} {n : Nat} : (rng lo n).length = n := by simp [rng]
/-! ### closed values -/
@[simp] theorem clo_int (n : Nat) (i : Int) : clo n (.int i) = true := rfl
@[simp] theorem clo_str (n : Nat) (i : List Nat) : clo n (.str i) = true := rfl
@[simp] theorem clo_bl (n : Nat) (i : Bool) : clo n (.bl i) = true := rfl
@[simp] theorem clo_non (n : Nat) : clo n .non = true := rfl
@[simp] theorem clo_tup (n : Nat) (ds : List D) : clo n (.tup ds) = clos n ds := by rw [clo]
@[simp] theorem clo_lst (n : Nat) (ds : List D) : clo n (.lst ds) = clos n ds := by rw [clo]
@[simp] theorem clos_nil (n : Nat) : clos n [] = true := by rw [clos]
@[simp] theorem clos_cons (n : Nat) (d : D) (ds : List D) : clos n (d :: ds) = (clo n d && clos n ds) := by rw [clos]
theorem clos_all (n : Nat) : ∀ ds : List D, clos n ds = ds.all (clo n)
  | [] => by simp
  | d :: ds => by simp [clos_all n ds]
@[simp] theorem clos_ints (n : Nat) (ns : List Int) : clos n (ns.map .int) = true := by
  rw [clos_all]; simp
/-- a def's end -/
theorem pre_app {h h1 : AH} {L : AH} (hl : h1.length = h.length) (hp : pre h.length h h1 = true) : pre h.length h (h1 ++ L) = true := by
  unfold pre at hp ⊢
  rw [List.all_eq_true] at hp ⊢
  intro i hi
  have := List.mem_range.mp hi
  rw [List.getElem?_append_left (by omega)]
  exact hp i hi
theorem pre_refl (h : AH) : pre h.length h h = true := by
  unfold pre
  rw [List.all_eq_true]
  intro i _
  simp
theorem pre_set {h : AH} {l : Nat} {o : AO} (ho : cloO h.length o = true) : pre h.length h (h.set l o) = true := by
  unfold pre
  rw [List.all_eq_true]
  intro i hi
  by_cases e : l = i
  · subst e
    rw [List.getElem?_set_self (List.mem_range.mp hi)]
    simp [ho]
  · rw [List.getElem?_set_ne e]; simp
theorem trim_val {h h1 L : AH} {d : D} (hl : h1.length = h.length) (hp : pre h.length h h1 = true) (hd : ∀ l, d ≠ .loc l) (hc : clo h.length d = true) : trim h (.ok d (h1 ++ L)) = .ok d h1 := by
  have hz : frz h.length (h1 ++ L) d = some d := by
    cases d with
    | loc l => exact absurd rfl (hd l)
    | _ =>
      unfold frz
      simp only [hc]
      rfl
  unfold trim
  dsimp only
  rw [hz]
  dsimp only
  rw [pre_app hl hp]
  show R.ok d ((h1 ++ L).take h.length) = _
  rw [← hl, List.take_left]
theorem trim_lst {h h1 L : AH} {l : Nat} {xs : List D} (hl : h1.length = h.length) (hp : pre h.length h h1 = true) (hn : h.length ≤ l) (hg : (h1 ++ L)[l]? = some (.lst xs)) (hc : clos h.length xs = true) : trim h (.ok (.loc l) (h1 ++ L)) = .ok (.lst xs) h1 := by
  have hz : frz h.length (h1 ++ L) (.loc l) = some (.lst xs) := by
    unfold frz
    dsimp only
    rw [if_neg (by omega), hg]
    dsimp only
    rw [hc]; rfl
  unfold trim
  dsimp only
  rw [hz]
  dsimp only
  rw [pre_app hl hp]
  show R.ok _ ((h1 ++ L).take h.length) = _
  rw [← hl, List.take_left]
theorem fnT_eq {p n : Nat} {b : AS} {ds : List D} {h : AH} {d d' : D} {h1 h2 : AH} (hl : ds.length = p) (hb : b (envOf n ds) h = .ok (.rt d) h1) (ht : trim h (.ok d h1) = .ok d' h2) : fnT p n b ds h = .ok d' h2 := by
  unfold fnT
  rw [decide_eq_true hl, hb]
  exact ht
end Sm
end

section
set_option linter.all false
set_option maxRecDepth 10000
/-! Dr: the draws that every law makes. -/
namespace Sm
def takeB : AS := sB [sSet 2 (e2 ixD (eV 0) (eC (.int 0))),
  sSub setIxD (eV 0) (eC (.int 1)) (e2 (addD true) (e2 ixD (eV 0) (eC (.int 1))) (eC (.int 1))),
  sSet 3 (e2 ixD (eV 0) (eC (.int 1))),
  sIf (tB1 (e2 geD (eV 2) (e2 powD (eC (.int 10)) (eC (.int 18))))) (sB [sSub setIxD (eV 0) (eC (.int 0)) (e2 fdivD (eV 2) (eV 1)),
    sRet (e2 modD (eA (on1 intD) (eL [eV 2])) (eV 1))]) (sB []),
  sSet 4 (e2 modD (eA (on1 intD) (eL [e2 (addD true) (e2 (addD true) (eV 2) (e2 (mulD true) (eC (.int 7919)) (eV 3))) (eC (.int 13))])) (eC (.int 2147483647))),
  sSet 4 (e2 modD (eA (on1 intD) (eL [e2 (mulD true) (eV 4) (e2 (addD true) (eV 4) (eC (.int 48271)))])) (eC (.int 2147483629))),
  sSet 4 (e2 modD (eA (on1 intD) (eL [e2 (addD true) (e2 (mulD true) (eV 4) (e2 (addD true) (eV 4) (eC (.int 69621)))) (e2 (mulD true) (eC (.int 31)) (eV 3))])) (eC (.int 2147483647))),
  sRet (e2 modD (eA (on1 intD) (eL [e2 fdivD (eV 4) (eC (.int 9))])) (eV 1))]
def tapeB : AS := sB [sIf (tB1 (e2 ltD (eV 1) (eA (on1 lenD) (eL [eV 0])))) (sB [sRet (eLst false (eL [eA (on1 absD) (eL [e2 ixD (eV 0) (eV 1)]), eC (.int 0)]))]) (sB []),
  sRet (eLst false (eL [eV 1, eC (.int 0)]))]
def tape (c k : Int) : AO := .lst [.int c, .int k]
structure Tp (h : AH) (l : Nat) : Prop where
  ex : ∃ c k, h[l]? = some (tape c k) ∧ 0 ≤ c
def IsTp (o : AO) : Prop := ∃ c k, o = tape c k ∧ 0 ≤ c
theorem Tp.lt {h : AH} {l : Nat} (t : Tp h l) : l < h.length := by
  obtain ⟨c, k, e, _⟩ := t.ex
  exact (List.getElem?_eq_some_iff.mp e).1
theorem IsTp.clo {o : AO} (t : IsTp o) (n : Nat) : cloO n o = true := by
  obtain ⟨c, k, rfl, _⟩ := t
  simp [tape, cloO]
theorem Tp.set {h : AH} {l : Nat} {o : AO} (t : IsTp o) (hl : l < h.length) : Tp (h.set l o) l := by
  obtain ⟨c, k, rfl, hc⟩ := t
  exact ⟨c, k, by simp [hl], hc⟩
theorem Tp.app {h L : AH} {l : Nat} (t : Tp h l) : Tp (h ++ L) l := by
  obtain ⟨c, k, e, hc⟩ := t.ex
  exact ⟨c, k, by rw [List.getElem?_append_left t.lt]; exact e, hc⟩
theorem take_ok {h : AH} {l : Nat} {n : Int} (t : Tp h l) (h0 : 0 < n) (h1 : n ≤ 10000000000000000000000000000000000000000000000000000000000000000000000000000000000000000000000000000) : ∃ r o, 0 ≤ r ∧ r < n ∧ IsTp o ∧ fnT 2 5 takeB [.loc l, .int n] h = .ok (.int r) (h.set l o) := by
  have hl := t.lt
  obtain ⟨c, k, e, hc⟩ := t.ex
  have e0 : getL h l = some [.int c, .int k] := getL_of e
  have hx : ∀ o, pre h.length h (h.set l (tape o (k + 1))) = true := fun o => pre_set (by simp [tape, cloO])
  have fin : ∀ (r o : Int), 0 ≤ r → r < n → 0 ≤ o → takeB (envOf 5 [.loc l, .int n]) h = .ok (.rt (.int r)) (h.set l (tape o (k + 1))) → ∃ r o, 0 ≤ r ∧ r < n ∧ IsTp o ∧ fnT 2 5 takeB [.loc l, .int n] h = .ok (.int r) (h.set l o) := fun r o h1 h2 h3 hb =>
    ⟨r, tape o (k + 1), h1, h2, ⟨o, k + 1, rfl, h3⟩, fnT_eq rfl hb (by
      have := trim_val (h := h) (h1 := h.set l (tape o (k + 1))) (L := []) (d := .int r) (by simp) (hx o) (by simp) (by simp)
      simpa using this)⟩
  have e1 : getL (h.set l (.lst [.int c, .int (k + 1)])) l = some [.int c, .int (k + 1)] := getL_set hl
  have x1 := setIx_ok (h := h) (i := 1) (k := 1) (.int (k + 1)) e0 rfl
  have x2 := fun v => setIx_ok (i := 0) (k := 0) v e1 rfl
  have h1 := (wideJ_iff n).mpr ⟨h0, h1⟩
  have p1 : powD (.int 10) (.int 18) = fun h => .ok (.int 1000000000000000000) h := by
    funext h; rfl
  by_cases hb : 1000000000000000000 ≤ c
  · refine fin (c % n) (c / n) (Int.emod_nonneg c (by omega)) (Int.emod_lt_of_pos c h0) (Int.ediv_nonneg hc (by omega)) ?_
    simp [takeB, envOf, ixL _ e0, ixL _ e1, x1, x2, p1, hb, h0, h1, tape]
  · have s1 : ∀ x m : Int, m < 2147483648 → 0 < m → small (x % m) = true := fun x m h1 h2 => by
      have a1 := Int.emod_nonneg x (show m ≠ 0 by omega)
      have a2 := Int.emod_lt_of_pos x h2
      exact (small_iff _).mpr ⟨by omega, by omega⟩
    refine fin ((let m1 := (c + 7919 * (k + 1) + 13) % 2147483647; let m2 := (m1 * (m1 + 48271)) % 2147483629; let m3 := (m2 * (m2 + 69621) + 31 * (k + 1)) % 2147483647; m3 / 9) % n) c (Int.emod_nonneg _ (by omega)) (Int.emod_lt_of_pos _ h0) hc ?_
    have s2 : small 7919 = true := by decide
    have s3 : small 31 = true := by decide
    simp [takeB, envOf, ixL _ e0, ixL _ e1, x1, x2, p1, hb, h0, h1, tape, s1, s2, s3]
end Sm
end

section
set_option linter.all false
set_option maxRecDepth 10000
/-! Pw: what holds behind a plain computation. -/
namespace Sm
def wp {α : Type} (r : R α) (Q : α → AH → Prop) : Prop := match r with
  | .ok a h => Q a h
  | _ => False
section
variable {α β : Type} {r : R α} {h h1 : AH} {Q : α → AH → Prop}
@[simp] theorem wp_ok (a : α) : wp (.ok a h) Q = Q a h := rfl
theorem wp_iff : wp r Q ↔ ∃ a h, r = .ok a h ∧ Q a h := by
  cases r with
  | ok a h => exact ⟨fun q => ⟨a, h, rfl, q⟩, fun ⟨_, _, e, q⟩ => by cases e; exact q⟩
  | exc x h => exact ⟨False.elim, fun ⟨_, _, e, _⟩ => by cases e⟩
  | no => exact ⟨False.elim, fun ⟨_, _, e, _⟩ => by cases e⟩
theorem wp_bind {f : α → AH → R β} {Q : β → AH → Prop} (q : wp r fun a h => wp (f a h) Q) : wp (r.bind f) Q := by
  cases r with
  | ok a h => exact q
  | exc x h => exact q.elim
  | no => exact q.elim
theorem wp_up {e : Env} {k : α → AH → R Fl} {Q : Fl → AH → Prop} (q : wp r fun a h => wp (k a h) Q) : wp (up e r k) Q := by
  cases r with
  | ok a h => exact q
  | exc x h => exact q.elim
  | no => exact q.elim
theorem wp_mono {P : α → AH → Prop} (q : wp r P) (f : ∀ a h, P a h → Q a h) : wp r Q := by
  cases r with
  | ok a h => exact f a h q
  | exc x h => exact q.elim
  | no => exact q.elim
theorem wp_nox (q : wp r Q) : wp r.nox Q := by
  cases r with
  | ok a h => exact q
  | exc x h => exact q.elim
  | no => exact q.elim
end
/-! ### loops -/
def after (I : Nat → Env → AH → Prop) (i : Nat) (Q : Fl → AH → Prop) : Fl → AH → Prop := fun f h => match f with
  | .nx e => I (i + 1) e h
  | .ct e => I (i + 1) e h
  | .bk e => Q (.nx e) h
  | .rt d => Q (.rt d) h
  | .ex x e => Q (.ex x e) h
section
variable {I : Nat → Env → AH → Prop} {i : Nat} {Q : Fl → AH → Prop} {h : AH} {e : Env}
@[simp] theorem after_nx : after I i Q (.nx e) h = I (i + 1) e h := rfl
@[simp] theorem after_ct : after I i Q (.ct e) h = I (i + 1) e h := rfl
@[simp] theorem after_bk : after I i Q (.bk e) h = Q (.nx e) h := rfl
@[simp] theorem after_rt (d : D) : after I i Q (.rt d) h = Q (.rt d) h := rfl
end
theorem for_w {g : AG} {b : AS} {xs : List D} {e : Env} {h : AH} {Q : Fl → AH → Prop} (I : Nat → Env → AH → Prop) (h0 : I 0 e h)
    (step : ∀ i x e h, xs[i]? = some x → I i e h → wp ((g x e h).bind b) (after I i Q)) (fin : ∀ e h, I xs.length e h → Q (.nx e) h) : wp (forN g b (.lst xs) (Src.lst xs).fuel 0 e h) Q := by
  refine for_inv (P := I) (Z := fun r => wp r Q) (fun i x e h k hx hi ih => ?_) (fun e h hi => fin e h hi) h0
  have s := step i x e h hx hi
  cases hg : g x e h with
  | no => rw [hg] at s; exact s.elim
  | exc y h => rw [hg] at s; exact s.elim
  | ok e1 h1 =>
    rw [hg, bind_ok] at s
    show wp ((b e1 h1).bind fun f h2 => turn f h2 k) Q
    refine wp_bind (wp_mono s fun f h2 q => ?_)
    cases f with
    | nx e2 => exact ih e2 h2 q
    | ct e2 => exact ih e2 h2 q
    | bk e2 => exact q
    | rt d => exact q
    | ex y e2 => exact q
theorem while_w {t : AB} {b : AS} {e : Env} {h : AH} {Q : Fl → AH → Prop} (I : Nat → Env → AH → Prop) (m : Nat) (hm : m < 2 ^ 40) (h0 : I m e h)
    (step : ∀ m e h, I m e h → wp (t e h) fun c h1 => if c then wp (b e h1) fun f h2 => match f with
      | .nx e2 => ∃ m2, m2 < m ∧ I m2 e2 h2
      | .ct e2 => ∃ m2, m2 < m ∧ I m2 e2 h2
      | .bk e2 => Q (.nx e2) h2
      | f => Q f h2 else Q (.nx e) h1) : wp (whileN t b (2 ^ 40) e h) Q := by
  refine while_inv (P := I) (Z := fun r => wp r Q) (fun m e h k hi ih => ?_) (2 ^ 40) m hm h0
  refine wp_up (wp_mono (step m e h hi) fun c h1 q => ?_)
  cases c with
  | false => exact q
  | true =>
    rw [if_pos rfl] at q ⊢
    refine wp_bind (wp_mono q fun f h2 q2 => ?_)
    cases f with
    | nx e2 => obtain ⟨m2, h1, h2⟩ := q2; exact ih m2 _ _ h1 h2
    | ct e2 => obtain ⟨m2, h1, h2⟩ := q2; exact ih m2 _ _ h1 h2
    | bk e2 => exact q2
    | rt d => exact q2
    | ex y e2 => exact q2
theorem lc_w {g : AG} {t : AB} {a : AE} {e0 : Env} {xs : List D} {h : AH} {Q : List D → AH → Prop} (I : Nat → List D → AH → Prop) (h0 : I 0 [] h)
    (step : ∀ i x acc h, xs[i]? = some x → I i acc h → wp (g x e0 h) fun e1 h1 => wp (t e1 h1) fun c h2 => if c then wp (a e1 h2) fun y h3 => acc.length < big ∧ I (i + 1) (acc ++ [y]) h3 else I (i + 1) acc h2)
    (fin : ∀ acc h, I xs.length acc h → Q acc h) : wp (lcN g t a e0 (.lst xs) (Src.lst xs).fuel 0 [] h) Q := by
  refine lc_inv (P := I) (Z := fun r => wp r Q) (fun i x acc h k hx hi ih => ?_) fin h0
  refine wp_bind (wp_nox (wp_mono (step i x acc h hx hi) fun e1 h1 q => ?_))
  refine wp_bind (wp_nox (wp_mono q fun c h2 q => ?_))
  cases c with
  | false => exact ih _ _ q
  | true =>
    rw [if_pos rfl] at q ⊢
    refine wp_bind (wp_nox (wp_mono q fun y h3 q => ?_))
    rw [decide_eq_true q.1]
    exact ih _ _ q.2
theorem wp_eq {α : Type} {r : R α} {a : α} {h : AH} (q : wp r fun b k => b = a ∧ k = h) : r = .ok a h := by
  obtain ⟨b, k, e, rfl, rfl⟩ := wp_iff.mp q
  exact e
/-- a comprehension whose parts do nothing to the heap -/
theorem lc_pure {v : Nat} {t : AB} {a : AE} {e0 : Env} {xs : List D} {h : AH} {p : D → Bool} {f : D → D} (hl : xs.length ≤ big) (ht : ∀ x ∈ xs, t (e0.set v (some x)) h = .ok (p x) h) (ha : ∀ x ∈ xs, p x = true → a (e0.set v (some x)) h = .ok (f x) h) :
    lcN (gV v) t a e0 (.lst xs) (Src.lst xs).fuel 0 [] h = .ok ((xs.filter p).map f) h := by
  refine wp_eq (lc_w (I := fun i acc k => acc = ((xs.take i).filter p).map f ∧ k = h) ⟨by simp, rfl⟩ ?_ ?_)
  · rintro i x acc k hx ⟨rfl, rfl⟩
    have hm := List.mem_of_getElem? hx
    have hi := (List.getElem?_eq_some_iff.mp hx).1
    have et : xs.take (i + 1) = xs.take i ++ [x] := by rw [List.take_add_one, hx]; rfl
    have hlen : (((xs.take i).filter p).map f).length < big := by
      rw [List.length_map]
      have h1 : ((xs.take i).filter p).length ≤ (xs.take i).length := List.length_filter_le _ _
      have h2 : (xs.take i).length = i := by rw [List.length_take]; omega
      omega
    simp only [gV_def, wp_ok, ht x hm]
    cases hp : p x with
    | false => simp [et, hp]
    | true => simp [ha x hm hp, et, hp]; simpa using hlen
  · rintro acc k ⟨rfl, rfl⟩
    simp
theorem filt_t {α : Type} (xs : List α) : xs.filter (fun _ => true) = xs := List.filter_eq_self.mpr fun _ _ => rfl
theorem lc_map {v : Nat} {a : AE} {e0 : Env} {xs : List D} {h : AH} {f : D → D} (hl : xs.length ≤ big) (ha : ∀ x ∈ xs, a (e0.set v (some x)) h = .ok (f x) h) : lcN (gV v) tYes a e0 (.lst xs) (Src.lst xs).fuel 0 [] h = .ok (xs.map f) h := by
  have := lc_pure (v := v) (t := tYes) (a := a) (e0 := e0) (p := fun _ => true) (f := f) hl (fun _ _ => rfl) fun x hx _ => ha x hx
  rw [this, filt_t]
theorem rng_filter (lo : Int) (n : Nat) (p : D → Bool) (f : D → D) : ((rng lo n).filter p).map f = ((List.range n).filter fun (k : Nat) => p (.int (lo + k))).map fun (k : Nat) => f (.int (lo + k)) := by
  unfold rng; rw [List.filter_map, List.map_map]; rfl
theorem rng_mem {lo : Int} {n : Nat} {x : D} (h : x ∈ rng lo n) : ∃ k : Nat, k < n ∧ x = .int (lo + k) := by
  unfold rng at h
  obtain ⟨k, h1, rfl⟩ := List.mem_map.mp h
  exact ⟨k, List.mem_range.mp h1, rfl⟩
/-- .. over a range -/
theorem lc_rng {v : Nat} {t : AB} {a : AE} {e0 : Env} {n : Nat} {h : AH} {p : Nat → Bool} {f : Nat → D} (hl : n ≤ big) (ht : ∀ k < n, t (e0.set v (some (.int k))) h = .ok (p k) h) (ha : ∀ k < n, p k = true → a (e0.set v (some (.int k))) h = .ok (f k) h) :
    lcN (gV v) t a e0 (.lst (rng 0 n)) (Src.lst (rng 0 n)).fuel 0 [] h = .ok (((List.range n).filter p).map f) h := by
  have := lc_pure (v := v) (t := t) (a := a) (e0 := e0) (xs := rng 0 n) (h := h) (p := fun x => match x with | .int i => p i.toNat | _ => false) (f := fun x => match x with | .int i => f i.toNat | _ => x) (by simpa using hl)
    (fun x hx => by obtain ⟨k, hk, rfl⟩ := rng_mem hx; simpa using ht k hk) (fun x hx hp => by obtain ⟨k, hk, rfl⟩ := rng_mem hx; simp at hp; simpa using ha k hk hp)
  rw [this, rng_filter]
  simp
theorem lc_rngm {v : Nat} {a : AE} {e0 : Env} {n : Nat} {h : AH} {f : Nat → D} (hl : n ≤ big) (ha : ∀ k < n, a (e0.set v (some (.int k))) h = .ok (f k) h) : lcN (gV v) tYes a e0 (.lst (rng 0 n)) (Src.lst (rng 0 n)).fuel 0 [] h = .ok ((List.range n).map f) h := by
  have := lc_rng (v := v) (t := tYes) (a := a) (e0 := e0) (p := fun _ => true) (f := f) hl (fun _ _ => rfl) fun k hk _ => ha k hk
  rw [this, filt_t]
/-! ### a def's end -/
def nloc : D → Bool
  | .loc _ => false
  | _ => true
def endT (h : AH) (Q : D → AH → Prop) : Fl → AH → Prop := fun f h1 => match f with
  | .rt d => wp (trim h (.ok d h1)) Q
  | .nx _ => wp (trim h (.ok .non h1)) Q
  | _ => False
section
variable {h h1 : AH} {Q : D → AH → Prop} {d : D} {e : Env}
@[simp] theorem endT_rt : endT h Q (.rt d) h1 = wp (trim h (.ok d h1)) Q := rfl
@[simp] theorem endT_nx : endT h Q (.nx e) h1 = wp (trim h (.ok .non h1)) Q := rfl
theorem fnT_w {p n : Nat} {b : AS} {ds : List D} (hl : ds.length = p) (hb : wp (b (envOf n ds) h) (endT h Q)) : wp (fnT p n b ds h) Q := by
  unfold fnT
  rw [decide_eq_true hl]
  show wp (trim h (fnR (b (envOf n ds) h))) Q
  obtain ⟨f, h2, e, q⟩ := wp_iff.mp hb
  rw [e]
  cases f with
  | rt d => exact q
  | nx e => exact q
  | bk _ => exact q.elim
  | ct _ => exact q.elim
  | ex _ _ => exact q.elim
theorem fnT_eq' {p n : Nat} {b : AS} {ds : List D} {h2 : AH} (hl : ds.length = p) (hb : wp (b (envOf n ds) h) (endT h fun x k => x = d ∧ k = h2)) : fnT p n b ds h = .ok d h2 := wp_eq (fnT_w hl hb)
theorem trim_app {L : AH} (hd : nloc d = true) (hc : clo h.length d = true) : trim h (.ok d (h ++ L)) = .ok d h := trim_val rfl (pre_refl h) (fun l e => by rw [e] at hd; cases hd) hc
theorem trim_same (hd : nloc d = true) (hc : clo h.length d = true) : trim h (.ok d h) = .ok d h := by
  have := trim_app (L := []) hd hc
  simpa using this
theorem trim_set {L : AH} {l : Nat} {o : AO} (ho : IsTp o) (hd : nloc d = true) (hc : clo h.length d = true) : trim h (.ok d (h.set l o ++ L)) = .ok d (h.set l o) := trim_val (by simp) (pre_set (ho.clo _)) (fun l e => by rw [e] at hd; cases hd) hc
theorem trim_set0 {l : Nat} {o : AO} (ho : IsTp o) (hd : nloc d = true) (hc : clo h.length d = true) : trim h (.ok d (h.set l o)) = .ok d (h.set l o) := by
  have := trim_set (h := h) (L := []) (l := l) ho hd hc
  simpa using this
theorem trim_loc {L : AH} {m : Nat} {xs : List D} (hm : h.length ≤ m) (hg : getL (h ++ L) m = some xs) (hc : clos h.length xs = true) : trim h (.ok (.loc m) (h ++ L)) = .ok (.lst xs) h := by
  refine trim_lst rfl (pre_refl h) hm ?_ hc
  unfold getL at hg
  split at hg
  · rename_i ys e; cases hg; exact e
  · cases hg
theorem trim_setloc {L : AH} {l m : Nat} {o : AO} {xs : List D} (ho : IsTp o) (hm : h.length ≤ m) (hg : getL (h.set l o ++ L) m = some xs) (hc : clos h.length xs = true) : trim h (.ok (.loc m) (h.set l o ++ L)) = .ok (.lst xs) (h.set l o) := by
  refine trim_lst (by simp) (pre_set (ho.clo _)) hm ?_ hc
  unfold getL at hg
  split at hg
  · rename_i ys e; cases hg; exact e
  · cases hg
end
@[simp] theorem nloc_int (i : Int) : nloc (.int i) = true := rfl
@[simp] theorem nloc_str (i : List Nat) : nloc (.str i) = true := rfl
@[simp] theorem nloc_bl (i : Bool) : nloc (.bl i) = true := rfl
@[simp] theorem nloc_non : nloc .non = true := rfl
@[simp] theorem nloc_tup (xs : List D) : nloc (.tup xs) = true := rfl
@[simp] theorem nloc_lst (xs : List D) : nloc (.lst xs) = true := rfl
@[simp] theorem nloc_ins (c : String) (ns : List String) (xs : List D) : nloc (.ins c ns xs) = true := rfl
@[simp] theorem clo_ins (n : Nat) (c : String) (ns : List String) (ds : List D) : clo n (.ins c ns ds) = clos n ds := by rw [clo]
@[simp] theorem clo_scr (n : Nat) (ds : List D) : clo n (.scr ds) = clos n ds := by rw [clo]
theorem bigv : big = 16777216 := rfl
@[simp] theorem leBig (n : Nat) (h : n ≤ 16777216 := by omega) : decide (n ≤ big) = true := by rw [bigv]; simpa using h
/-! ### attributes -/
def kF2 (f : D → D → AH → R D) (y : D) : D → AH → R D := fun x h2 => f x y h2
@[simp] theorem kF2_def (f : D → D → AH → R D) (y x : D) (h : AH) : kF2 f y x h = f x y h := rfl
def kF1 (f : D → D → AH → R D) (o : AE) (e : Env) : D → AH → R D := fun y h1 => (o e h1).bind (kF2 f y)
@[simp] theorem kF1_def (f : D → D → AH → R D) (o : AE) (e : Env) (y : D) (h : AH) : kF1 f o e y h = (o e h).bind (kF2 f y) := rfl
@[simp] theorem sFldS_def (f : D → D → AH → R D) (o v : AE) (e : Env) (h : AH) : sFldS f o v e h = up e ((v e h).bind (kF1 f o e)) (kE e) := rfl
def kMth (tbl : List (String × AF)) (m : String) (as : AA) (e : Env) : D → AH → R D := fun d h1 => mthR tbl m as e d h1
@[simp] theorem eMth_def (tbl : List (String × AF)) (m : String) (a : AE) (as : AA) (e : Env) (h : AH) : eMth tbl m a as e h = (a e h).bind (kMth tbl m as e) := rfl
def kCal (tbl : List (String × AF)) (as : AA) (e : Env) : D → AH → R D := fun d h1 => clR tbl as e d h1
@[simp] theorem eCal_def (tbl : List (String × AF)) (a : AE) (as : AA) (e : Env) (h : AH) : eCal tbl a as e h = (a e h).bind (kCal tbl as e) := rfl
@[simp] theorem ePrp_def (tbl : List (String × AF)) (a : AE) (e : Env) (h : AH) : ePrp tbl a e h = (a e h).bind (prR tbl) := rfl

section
variable {h : AH} {c : String} {ns : List String} {ds : List D}
@[simp] theorem insH_ins : insH h (.ins c ns ds) = some (c, ns, ds) := rfl
end
end Sm
end

section
set_option linter.all false
set_option maxRecDepth 10000
/-! Eqd: == of plain data. -/
namespace Sm
mutual
/-- plain data without truth values -/
def nb : D → Bool
  | .non => true
  | .int _ => true
  | .str x => x.all fun c => decide (c < 1114112)
  | .tup xs => nbs xs
  | .lst xs => nbs xs
  | _ => false
def nbs : List D → Bool
  | [] => true
  | x :: xs => nb x && nbs xs
end
mutual
def dp : D → Nat
  | .tup xs => dps xs + 1
  | .lst xs => dps xs + 1
  | _ => 0
def dps : List D → Nat
  | [] => 0
  | x :: xs => max (dp x) (dps xs)
end
@[simp] theorem nb_non : nb .non = true := by rw [nb]
@[simp] theorem nb_int (i : Int) : nb (.int i) = true := by rw [nb]
@[simp] theorem nb_str (x : List Nat) : nb (.str x) = x.all fun c => decide (c < 1114112) := by rw [nb]
@[simp] theorem nb_tup (xs : List D) : nb (.tup xs) = nbs xs := by rw [nb]
@[simp] theorem nb_lst (xs : List D) : nb (.lst xs) = nbs xs := by rw [nb]
@[simp] theorem nbs_nil : nbs [] = true := by rw [nbs]
@[simp] theorem nbs_cons (x : D) (xs : List D) : nbs (x :: xs) = (nb x && nbs xs) := by rw [nbs]
@[simp] theorem dp_non : dp .non = 0 := by simp [dp]
@[simp] theorem dp_int (i : Int) : dp (.int i) = 0 := by simp [dp]
@[simp] theorem dp_str (i : List Nat) : dp (.str i) = 0 := by simp [dp]
@[simp] theorem dp_tup (xs : List D) : dp (.tup xs) = dps xs + 1 := by rw [dp]
@[simp] theorem dp_lst (xs : List D) : dp (.lst xs) = dps xs + 1 := by rw [dp]
@[simp] theorem dps_nil : dps [] = 0 := by rw [dps]
@[simp] theorem dps_cons (x : D) (xs : List D) : dps (x :: xs) = max (dp x) (dps xs) := by rw [dps]
theorem nbs_all : ∀ xs : List D, nbs xs = xs.all nb
  | [] => by simp
  | x :: xs => by simp [nbs_all xs]
theorem dps_le {n : Nat} : ∀ {xs : List D}, (∀ x ∈ xs, dp x ≤ n) → dps xs ≤ n
  | [], _ => by simp
  | x :: xs, h => by
    have := dps_le (xs := xs) fun y hy => h y (List.mem_cons_of_mem _ hy)
    have := h x List.mem_cons_self
    simp; omega
theorem mapO_some {α β : Type} {f : α → Option β} {g : α → β} : ∀ {xs : List α}, (∀ x ∈ xs, f x = some (g x)) → mapO f xs = some (xs.map g)
  | [], _ => rfl
  | x :: xs, h => by
    unfold mapO
    rw [h x List.mem_cons_self, mapO_some fun y hy => h y (List.mem_cons_of_mem _ hy)]
    rfl
mutual
theorem pd_nb (h : AH) : ∀ (n : Nat) (d : D), nb d = true → dp d ≤ n → pd h n d = some d
  | n, .non, _, _ => by cases n <;> rfl
  | n, .int i, _, _ => by cases n <;> rfl
  | n, .str x, hn, _ => by
    have e : pd0 (.str x) = some (.str x) := by
      rw [nb] at hn
      show (if _ then _ else _) = _
      rw [if_pos hn]
    cases n <;> exact e
  | 0, .tup xs, _, hd => by simp at hd
  | 0, .lst xs, _, hd => by simp at hd
  | n + 1, .tup xs, hn, hd => by
    show (mapO (pd h n) xs).map D.tup = _
    rw [pds_nb h n xs (by simpa using hn) (by simpa using hd)]; rfl
  | n + 1, .lst xs, hn, hd => by
    show (mapO (pd h n) xs).map D.lst = _
    rw [pds_nb h n xs (by simpa using hn) (by simpa using hd)]; rfl
  | n, .bl _, hn, _ => by simp [nb] at hn
  | n, .scr _, hn, _ => by simp [nb] at hn
  | n, .dic _ _, hn, _ => by simp [nb] at hn
  | n, .ins _ _ _, hn, _ => by simp [nb] at hn
  | n, .loc _, hn, _ => by simp [nb] at hn
  | n, .ty _, hn, _ => by simp [nb] at hn
theorem pds_nb (h : AH) (n : Nat) : ∀ (xs : List D), nbs xs = true → dps xs ≤ n → mapO (pd h n) xs = some xs
  | [], _, _ => rfl
  | x :: xs, hn, hd => by
    simp at hn hd
    unfold mapO
    rw [pd_nb h n x hn.1 (by omega), pds_nb h n xs hn.2 (by omega)]; rfl
end
mutual
theorem ev_nb : ∀ (x y : D), nb x = true → nb y = true → ev x y = decide (x = y)
  | .non, .non, _, _ => by simp [ev]
  | .non, .int _, _, _ => by simp [ev]
  | .non, .str _, _, _ => by simp [ev]
  | .non, .tup _, _, _ => by simp [ev]
  | .non, .lst _, _, _ => by simp [ev]
  | .int _, .non, _, _ => by simp [ev]
  | .int i, .int j, _, _ => by
    rw [ev]
    by_cases e : i = j
    · subst e; simp
    · rw [beq_eq_false_iff_ne.mpr e, decide_eq_false fun z => e (D.int.inj z)]
  | .int _, .str _, _, _ => by simp [ev]
  | .int _, .tup _, _, _ => by simp [ev]
  | .int _, .lst _, _, _ => by simp [ev]
  | .str _, .non, _, _ => by simp [ev]
  | .str _, .int _, _, _ => by simp [ev]
  | .str a, .str b, _, _ => by
    rw [ev]
    by_cases e : a = b
    · subst e; simp
    · rw [beq_eq_false_iff_ne.mpr e, decide_eq_false fun z => e (D.str.inj z)]
  | .str _, .tup _, _, _ => by simp [ev]
  | .str _, .lst _, _, _ => by simp [ev]
  | .tup _, .non, _, _ => by simp [ev]
  | .tup _, .int _, _, _ => by simp [ev]
  | .tup _, .str _, _, _ => by simp [ev]
  | .tup a, .tup b, h1, h2 => by
    rw [ev, evs_nb a b (by simpa using h1) (by simpa using h2)]
    exact decide_eq_decide.mpr ⟨fun e => by rw [e], fun e => D.tup.inj e⟩
  | .tup _, .lst _, _, _ => by simp [ev]
  | .lst _, .non, _, _ => by simp [ev]
  | .lst _, .int _, _, _ => by simp [ev]
  | .lst _, .str _, _, _ => by simp [ev]
  | .lst _, .tup _, _, _ => by simp [ev]
  | .lst a, .lst b, h1, h2 => by
    rw [ev, evs_nb a b (by simpa using h1) (by simpa using h2)]
    exact decide_eq_decide.mpr ⟨fun e => by rw [e], fun e => D.lst.inj e⟩
  | .bl _, _, h, _ => by simp [nb] at h
  | .scr _, _, h, _ => by simp [nb] at h
  | .dic _ _, _, h, _ => by simp [nb] at h
  | .ins _ _ _, _, h, _ => by simp [nb] at h
  | .loc _, _, h, _ => by simp [nb] at h
  | .ty _, _, h, _ => by simp [nb] at h
  | _, .bl _, _, h => by simp [nb] at h
  | _, .scr _, _, h => by simp [nb] at h
  | _, .dic _ _, _, h => by simp [nb] at h
  | _, .ins _ _ _, _, h => by simp [nb] at h
  | _, .loc _, _, h => by simp [nb] at h
  | _, .ty _, _, h => by simp [nb] at h
theorem evs_nb : ∀ (xs ys : List D), nbs xs = true → nbs ys = true → evs xs ys = decide (xs = ys)
  | [], [], _, _ => by simp [evs]
  | [], _ :: _, _, _ => by simp [evs]
  | _ :: _, [], _, _ => by simp [evs]
  | x :: xs, y :: ys, h1, h2 => by
    simp at h1 h2
    rw [evs, ev_nb x y h1.1 h2.1, evs_nb xs ys h1.2 h2.2, ← Bool.decide_and]
    exact decide_eq_decide.mpr (by rw [List.cons.injEq])
end
/-- d stands for the plain datum x in the heap -/
def Pd (h : AH) (d x : D) : Prop := pd h 64 d = some x
theorem Pd.nb {h : AH} {d : D} (h1 : nb d = true) (h2 : dp d ≤ 64) : Pd h d d := pd_nb h 64 d h1 h2
theorem Pd.loc {h : AH} {l : Nat} {xs : List D} (e : getL h l = some xs) (h1 : nbs xs = true) (h2 : dps xs ≤ 63) : Pd h (.loc l) (.lst xs) := by
  show (match h[l]? with
      | some (.lst xs) => (mapO (pd h 63) xs).map D.lst
      | _ => none) = _
  unfold getL at e
  split at e
  · rename_i ys e2
    cases e
    try rw [e2]
    simp [pds_nb h 63 xs h1 h2]
  · cases e
theorem eq_pd {h : AH} {d e x y : D} (h1 : Pd h d x) (h2 : Pd h e y) (n1 : nb x = true) (n2 : nb y = true) (hs : scal d e = true → (d = x ∧ e = y)) : eqH h d e = some (decide (x = y)) := by
  unfold eqH
  by_cases s : scal d e = true
  · rw [if_pos s]
    obtain ⟨rfl, rfl⟩ := hs s
    rfl
  · rw [if_neg s]
    unfold Pd at h1 h2
    rw [h1]
    dsimp only
    rw [h2]
    dsimp only
    rw [ev_nb x y n1 n2]
theorem eq_nb {h : AH} {x y : D} (n1 : nb x = true) (n2 : nb y = true) (d1 : dp x ≤ 64) (d2 : dp y ≤ 64) : eqD x y h = .ok (.bl (decide (x = y))) h := by
  unfold eqD
  rw [eq_pd (.nb n1 d1) (.nb n2 d2) n1 n2 fun _ => ⟨rfl, rfl⟩]; rfl
theorem ne_nb {h : AH} {x y : D} (n1 : nb x = true) (n2 : nb y = true) (d1 : dp x ≤ 64) (d2 : dp y ≤ 64) : neD x y h = .ok (.bl (!decide (x = y))) h := by
  unfold neD
  rw [eq_pd (.nb n1 d1) (.nb n2 d2) n1 n2 fun _ => ⟨rfl, rfl⟩]; rfl
end Sm
end

section
set_option linter.all false
set_option maxRecDepth 10000
/-! Fo: forests: shapes, paths, what the program and the laws make of them. -/
namespace Sm
/-! ### sequences as values -/
structure SeqD (P : D) (xs : List D) : Prop where
  ix : ∀ (i : Int) (h : AH), ixD P (.int i) h = R.of (at? xs i) h
  len : ∀ h : AH, lenD P h = .ok (.int xs.length) h
  it : ∀ h : AH, kIS P h = .ok (.lst xs) h
  tup : ∀ h : AH, tupD P h = .ok (.tup xs) h
  list : ∀ h : AH, listD true P h = .ok (.lst xs) h
  seq : ∀ h : AH, seqH h P = some xs
  nl : nloc P = true
theorem SeqD.t (xs : List D) : SeqD (.tup xs) xs := ⟨fun _ _ => rfl, fun _ => rfl, fun _ => rfl, fun _ => rfl, fun _ => rfl, fun _ => rfl, rfl⟩
theorem SeqD.l (xs : List D) : SeqD (.lst xs) xs := ⟨fun _ _ => rfl, fun _ => rfl, fun _ => rfl, fun _ => rfl, fun _ => rfl, fun _ => rfl, rfl⟩
/-! ### shapes -/
abbrev Par := List (Option Nat)
def eO : Option Nat → D
  | none => .non
  | some k => .int k
def encP (ps : Par) : List D := ps.map eO
@[simp] theorem eO_none : eO none = .non := rfl
@[simp] theorem eO_some (k : Nat) : eO (some k) = .int k := rfl
@[simp] theorem encP_len (ps : Par) : (encP ps).length = ps.length := by simp [encP]
theorem encP_get (ps : Par) (i : Nat) : (encP ps)[i]? = (ps[i]?).map eO := by simp [encP]
@[simp] theorem clo_eO (n : Nat) (p : Option Nat) : clo n (eO p) = true := by cases p <;> rfl
@[simp] theorem clos_encP (n : Nat) (ps : Par) : clos n (encP ps) = true := by rw [clos_all]; simp [encP]
structure Acy (ps : Par) : Prop where
  ex : ∃ rk : Nat → Nat, (∀ i < ps.length, rk i < ps.length) ∧ ∀ i p : Nat, ps[i]? = some (some p) → p < ps.length ∧ rk p < rk i
def par (ps : Par) (f : Nat) : Option Nat := (ps[f]?).join
theorem par_lt {ps : Par} (a : Acy ps) {f p : Nat} (h : par ps f = some p) : p < ps.length := by
  obtain ⟨rk, h1, h2⟩ := a.ex
  unfold par at h
  cases e : ps[f]? with
  | none => rw [e] at h; cases h
  | some q => rw [e] at h; simp at h; subst h; exact (h2 f p e).1
theorem par_get {ps : Par} {f : Nat} (hf : f < ps.length) : ps[f]? = some (par ps f) := by
  unfold par; rw [List.getElem?_eq_getElem hf]; rfl
def pathF (ps : Par) : Nat → Nat → List Nat
  | 0, f => [f]
  | k + 1, f => match par ps f with
    | none => [f]
    | some p => pathF ps k p ++ [f]
def path (ps : Par) (f : Nat) : List Nat := pathF ps ps.length f
theorem pathF_st {ps : Par} {rk : Nat → Nat} (h : ∀ i p : Nat, ps[i]? = some (some p) → p < ps.length ∧ rk p < rk i) : ∀ (k j f : Nat), rk f ≤ k → rk f ≤ j → pathF ps k f = pathF ps j f := by
  intro k
  induction k with
  | zero =>
    intro j f h1 h2
    have hp : par ps f = none := by
      cases hq : par ps f with
      | none => rfl
      | some p =>
        exfalso
        unfold par at hq
        cases e : ps[f]? with
        | none => rw [e] at hq; cases hq
        | some q => rw [e] at hq; simp at hq; subst hq; have := (h f p e).2; omega
    cases j with
    | zero => rfl
    | succ j => simp [pathF, hp]
  | succ k ih =>
    intro j f h1 h2
    cases hq : par ps f with
    | none => cases j <;> simp [pathF, hq]
    | some p =>
      have e : ps[f]? = some (some p) := by
        unfold par at hq
        cases e : ps[f]? with
        | none => rw [e] at hq; cases hq
        | some q => rw [e] at hq; simp at hq; rw [hq]
      have := (h f p e).2
      cases j with
      | zero => omega
      | succ j => simp only [pathF, hq]; rw [ih j p (by omega) (by omega)]
theorem path_eq {ps : Par} (a : Acy ps) {f : Nat} (hf : f < ps.length) : path ps f = match par ps f with
    | none => [f]
    | some p => path ps p ++ [f] := by
  obtain ⟨rk, h1, h2⟩ := a.ex
  have hr := h1 f hf
  cases hq : par ps f with
  | none =>
    unfold path
    cases hn : ps.length with
    | zero => omega
    | succ n => simp [pathF, hq]
  | some p =>
    have hp := par_lt a hq
    have hr2 := h1 p hp
    unfold path
    have e : ps[f]? = some (some p) := by rw [par_get hf, hq]
    have hlt := (h2 f p e).2
    obtain ⟨n, hn⟩ : ∃ n, ps.length = n + 1 := ⟨ps.length - 1, by omega⟩
    have : pathF ps (n + 1) f = pathF ps n p ++ [f] := by simp [pathF, hq]
    rw [hn, this, pathF_st h2 n (n + 1) p (by omega) (by omega)]
theorem path_none {ps : Par} (a : Acy ps) {f : Nat} (hf : f < ps.length) (h : par ps f = none) : path ps f = [f] := by rw [path_eq a hf, h]
theorem path_some {ps : Par} (a : Acy ps) {f p : Nat} (hf : f < ps.length) (h : par ps f = some p) : path ps f = path ps p ++ [f] := by rw [path_eq a hf, h]
abbrev eN (k : Nat) : D := .int k
@[simp] theorem clo_eN (n k : Nat) : clo n (eN k) = true := rfl
@[simp] theorem clos_eN (n : Nat) (xs : List Nat) : clos n (xs.map eN) = true := by rw [clos_all]; simp
theorem ixP {P : D} {ps : Par} (s : SeqD P (encP ps)) {f : Nat} (hf : f < ps.length) (h : AH) : ixD P (.int f) h = .ok (eO (par ps f)) h := by
  rw [s.ix, at_nat, encP_get, par_get hf]; rfl
/-- the rank of a shape -/
theorem Acy.rank {ps : Par} (a : Acy ps) : ∃ rk : Nat → Nat, (∀ i < ps.length, rk i < ps.length) ∧ ∀ f p : Nat, f < ps.length → par ps f = some p → p < ps.length ∧ rk p < rk f := by
  obtain ⟨rk, h1, h2⟩ := a.ex
  exact ⟨rk, h1, fun f p hf hp => h2 f p (by rw [par_get hf, hp])⟩
/-- every field of a path is a field -/
theorem path_mem {ps : Par} (a : Acy ps) {f : Nat} (hf : f < ps.length) : ∀ x ∈ path ps f, x < ps.length := by
  obtain ⟨rk, h1, h2⟩ := a.rank
  have key : ∀ (k f : Nat), f < ps.length → rk f < k → ∀ x ∈ path ps f, x < ps.length := by
    intro k
    induction k with
    | zero => intro f _ h; omega
    | succ k ih =>
      intro f hf hk x hx
      cases hq : par ps f with
      | none => rw [path_none a hf hq] at hx; simp at hx; omega
      | some p =>
        rw [path_some a hf hq] at hx
        obtain ⟨p1, p2⟩ := h2 f p hf hq
        rcases List.mem_append.mp hx with hx | hx
        · exact ih p p1 (by omega) x hx
        · simp at hx; omega
  exact key _ f hf (Nat.lt_succ_self _)
/-! ### path_of -/
@[simp] theorem ixN_m1 (n : Nat) : ixN (n + 1) (-1) = some n := by
  unfold ixN; rw [if_neg (by omega), if_pos (by omega)]; congr 1; omega
theorem at_last {α : Type} (xs : List α) (x : α) : at? (xs ++ [x]) (-1) = some x := by
  unfold at?
  rw [show (xs ++ [x]).length = xs.length + 1 by simp, ixN_m1]
  simp
theorem path_of_ok {P : D} {ps : Par} (s : SeqD P (encP ps)) (a : Acy ps) (hn : ps.length ≤ 1000) {f : Nat} (hf : f < ps.length) (h : AH) : F_path_of [P, .int f] h = .ok (.tup ((path ps f).map eN)) h := by
  obtain ⟨rk, h1, h2⟩ := a.rank
  refine fnT_eq' rfl ?_
  simp [b_path_of, envOf]
  refine wp_bind (while_w (I := fun m e h' => ∃ (x : Nat) (tl : List Nat), e = [some P, some (.int f), some (.loc h.length)] ∧ h' = h ++ [.lst (tl.map eN ++ [.int x])] ∧ x < ps.length ∧ rk x ≤ m ∧ tl.length + m ≤ ps.length ∧ path ps x ++ tl.reverse = path ps f) (rk f) (by have := h1 f hf; omega) ⟨f, [], rfl, rfl, hf, Nat.le_refl _, by have := h1 f hf; simp; omega, by simp⟩ ?_)
  rintro m e h' ⟨x, tl, rfl, rfl, hx, hm, htl, hp⟩
  have g0 : getL (h ++ [.lst (tl.map eN ++ [.int x])]) h.length = some (tl.map eN ++ [.int x]) := by rw [getL_new (Nat.le_refl _)]; simp
  have i0 := fun i => ixL (h := h ++ [.lst (tl.map eN ++ [.int x])]) i g0
  have hl : at? (tl.map eN ++ [D.int x]) (-1) = some (.int x) := at_last _ _
  have ix := ixP s hx
  have il := isL g0
  cases hq : par ps x with
  | none =>
    rw [path_none a hx hq] at hp
    have hr : revD true (.loc h.length) (h ++ [.lst (tl.map eN ++ [.int x])]) = .ok (.lst ((path ps f).map eN)) (h ++ [.lst (tl.map eN ++ [.int x])]) := by
      unfold revD
      rw [lstH_loc, g0, ← hp]; simp
    have ht := trim_app (h := h) (L := [.lst (tl.map eN ++ [.int x])]) (d := .tup ((path ps f).map eN)) rfl (by simp)
    simp [i0, hl, ix, hq, isNonD, notNonD]
    simp [hr, ht]
  | some p =>
    obtain ⟨p1, p2⟩ := h2 x p hx hq
    have a2 := append_ok (.int p) g0 (by rw [bigv]; simp; omega)
    rw [set_new (by omega)] at a2
    simp at a2
    simp [i0, hl, ix, hq, isNonD, notNonD, il, a2]
    refine ⟨rk p, by omega, p, tl ++ [x], by simp, p1, Nat.le_refl _, by simp; omega, ?_⟩
    rw [← hp, path_some a hx hq]; simp
/-! ### the law's own path -/
theorem insert0_ok {h : AH} {l : Nat} {xs : List D} (y : D) (e : getL h l = some xs) (hl : xs.length < big) : insertD (.loc l) (.int 0) y h = .ok .non (h.set l (.lst (y :: xs))) := by
  unfold insertD
  dsimp only
  rw [onL_def, e]
  show R.chk (decide (xs.length < big ∧ (0 : Int) ≤ 0 ∧ (0 : Int) < 2 ^ 63)) _ = _
  rw [decide_eq_true ⟨hl, by decide, by decide⟩]
  simp
@[simp] theorem mt2_def (f : D → D → D → AH → R D) (d x y : D) (h : AH) : mt2 f d [x, y] h = f d x y h := rfl
theorem inI_nat {n : Nat} (h : n ≤ 1000000000 := by omega) : inI (n : Int) = true := (inI_iff _).mpr ⟨by omega, by omega⟩
theorem q_path_ok {P : D} {ps : Par} (s : SeqD P (encP ps)) (a : Acy ps) (hn : ps.length ≤ 1000) {f : Nat} (hf : f < ps.length) (h : AH) : F_q_path [P, .int f] h = .ok (.lst ((path ps f).map eN)) h := by
  obtain ⟨rk, h1, h2⟩ := a.rank
  refine fnT_eq' rfl ?_
  have hi : inI (ps.length : Int) = true := inI_nat
  simp [b_q_path, envOf, s.len, hi]
  refine wp_bind (for_w (I := fun i e h' => ∃ (x : Nat) (tl : List Nat) (y : Option D), e = [some P, some (.int f), some (.loc h.length), y] ∧ h' = h ++ [.lst (.int x :: tl.map eN)] ∧ x < ps.length ∧ (par ps x = none ∨ rk x + i ≤ rk f) ∧ tl.length ≤ i ∧ path ps x ++ tl = path ps f) ⟨f, [], none, rfl, rfl, hf, .inr (by omega), by simp, by simp⟩ ?_ ?_)
  · rintro i z e h' hz ⟨x, tl, y, rfl, rfl, hx, hm, htl, hp⟩
    obtain ⟨hil, rfl⟩ := rng_get hz
    have g0 : getL (h ++ [.lst (.int x :: tl.map eN)]) h.length = some (.int x :: tl.map eN) := by rw [getL_new (Nat.le_refl _)]; simp
    have i0 := fun i => ixL (h := h ++ [.lst (.int x :: tl.map eN)]) i g0
    have ix := ixP s hx
    have il := isL g0
    cases hq : par ps x with
    | none =>
      simp [i0, ix, hq, isNonD, notNonD]
      exact ⟨x, tl, by simp, hx, .inl hq, by omega, hp⟩
    | some p =>
      obtain ⟨p1, p2⟩ := h2 x p hx hq
      have a2 := insert0_ok (.int p) g0 (by rw [bigv]; simp; omega)
      rw [set_new (by omega)] at a2
      simp at a2
      simp [i0, ix, hq, isNonD, notNonD, il, a2]
      refine ⟨p, x :: tl, by simp, p1, ?_, by simp; omega, ?_⟩
      · rcases hm with hm | hm
        · rw [hq] at hm; cases hm
        · right; omega
      · rw [← hp, path_some a hx hq]; simp
  · rintro e h' ⟨x, tl, y, rfl, rfl, hx, hm, htl, hp⟩
    rw [rng_len] at hm htl
    have hq : par ps x = none := by
      rcases hm with hm | hm
      · exact hm
      · have := h1 f hf; omega
    rw [path_none a hx hq] at hp
    have g0 : getL (h ++ [.lst (.int x :: tl.map eN)]) h.length = some ((path ps f).map eN) := by rw [getL_new (Nat.le_refl _), ← hp]; simp
    have := trim_loc (Nat.le_refl _) g0 (by simp)
    simp [this]
/-! ### never_ends, check_shape -/
theorem never_ok {P : D} {ps : Par} (s : SeqD P (encP ps)) (a : Acy ps) (hn : ps.length ≤ 1000) {f : Nat} (hf : f < ps.length) (h : AH) : F_never_ends [P, .int f] h = .ok (.bl false) h := by
  obtain ⟨rk, h1, h2⟩ := a.rank
  refine fnT_eq' rfl ?_
  have hi : inI (ps.length : Int) = true := inI_nat
  have ht := trim_same (h := h) (d := .bl false) rfl rfl
  simp [b_never_ends, envOf, s.len, hi]
  refine wp_bind (for_w (I := fun i e h' => ∃ (x : Option Nat) (y : Option D), e = [some P, some (.int f), some (eO x), y] ∧ h' = h ∧ ∀ k, x = some k → k < ps.length ∧ rk k + i ≤ rk f) ⟨some f, none, rfl, rfl, fun k hk => by cases hk; exact ⟨hf, by omega⟩⟩ ?_ ?_)
  · rintro i z e h' hz ⟨x, y, rfl, rfl, hx⟩
    obtain ⟨hil, rfl⟩ := rng_get hz
    cases x with
    | none => simp [isNonD, ht]
    | some k =>
      obtain ⟨k1, k2⟩ := hx k rfl
      simp [isNonD, ixP s k1]
      refine ⟨par ps k, rfl, fun p hp => ?_⟩
      obtain ⟨q1, q2⟩ := h2 k p k1 hp
      exact ⟨q1, by omega⟩
  · rintro e h' ⟨x, y, rfl, rfl, hx⟩
    rw [rng_len] at hx
    cases x with
    | none => simp [notNonD, ht]
    | some k =>
      exfalso
      have := (hx k rfl).2
      have := h1 f hf
      omega
/-! ### kinds -/
inductive Kd where
  | up | down | first | last
  deriving DecidableEq, Repr
def kw : Kd → List Nat
  | .up => [117, 112]
  | .down => [100, 111, 119, 110]
  | .first => [102, 105, 114, 115, 116]
  | .last => [108, 97, 115, 116]
def eK (k : Kd) : D := .str (kw k)
def encK (ks : List Kd) : List D := ks.map eK
@[simp] theorem encK_len (ks : List Kd) : (encK ks).length = ks.length := by simp [encK]
@[simp] theorem clo_eK (n : Nat) (k : Kd) : clo n (eK k) = true := rfl
@[simp] theorem clos_encK (n : Nat) (ks : List Kd) : clos n (encK ks) = true := by rw [clos_all]; simp [encK]
theorem encK_get (ks : List Kd) (i : Nat) : (encK ks)[i]? = (ks[i]?).map eK := by simp [encK]
def kd (ks : List Kd) (f : Nat) : Kd := ks.getD f .up
theorem kd_get {ks : List Kd} {f : Nat} (hf : f < ks.length) : ks[f]? = some (kd ks f) := by
  unfold kd; rw [List.getElem?_eq_getElem hf, List.getD_eq_getElem?_getD, List.getElem?_eq_getElem hf]; rfl
theorem ixK {Q : D} {ks : List Kd} (s : SeqD Q (encK ks)) {f : Nat} (hf : f < ks.length) (h : AH) : ixD Q (.int f) h = .ok (eK (kd ks f)) h := by
  rw [s.ix, at_nat, encK_get, kd_get hf]; rfl
def Kd.end_ : Kd → Bool
  | .first => true
  | .last => true
  | _ => false
structure Good (ps : Par) (ks : List Kd) : Prop where
  len : ks.length = ps.length
  pos : 0 < ps.length
  le : ps.length ≤ 16
  acy : Acy ps
  leaf : ∀ f < ps.length, (kd ks f).end_ = true → some f ∉ ps
@[simp] theorem flat_eO (p : Option Nat) : flat (eO p) = true := by cases p <;> rfl
theorem inP {P : D} {ps : Par} (s : SeqD P (encP ps)) (f : Nat) (h : AH) : inD (.int f) P h = .ok (.bl (decide (some f ∈ ps))) h := by
  unfold inD inH
  rw [s.seq]
  have h1 : (encP ps).all flat = true := by simp [encP]
  have h2 : inL (.int f) (encP ps) = decide (some f ∈ ps) := by
    unfold inL encP
    rw [List.any_map]
    rw [Bool.eq_iff_iff]
    simp only [List.any_eq_true, Function.comp_apply, decide_eq_true_eq]
    constructor
    · rintro ⟨p, hp, he⟩
      cases p with
      | none => simp [ev] at he
      | some k => simp [ev] at he; have : k = f := by omega
                  subst this; exact hp
    · intro hp
      exact ⟨some f, hp, by simp [ev]⟩
  simp [h1, h2, flat]
theorem eqK (k j : Kd) : (kw k = kw j) ↔ k = j := by cases k <;> cases j <;> simp [kw]
theorem inE (k : Kd) (h : AH) : inD (eK k) (.tup [.str (kw .first), .str (kw .last)]) h = .ok (.bl k.end_) h := by
  cases k <;> rfl
theorem inE' (k : Kd) (h : AH) : inD (eK k) (.tup [.str [102, 105, 114, 115, 116], .str [108, 97, 115, 116]]) h = .ok (.bl k.end_) h := inE k h
@[simp] theorem notNon_eO (p : Option Nat) (h : AH) : notNonD (eO p) h = .ok (.bl p.isSome) h := by cases p <;> rfl
@[simp] theorem isNon_eO (p : Option Nat) (h : AH) : isNonD (eO p) h = .ok (.bl p.isNone) h := by cases p <;> rfl
theorem shape_ok {P Q : D} {ps : Par} {ks : List Kd} (s : SeqD P (encP ps)) (t : SeqD Q (encK ks)) (g : Good ps ks) (h : AH) : F_check_shape [P, Q] h = .ok .non h := by
  refine fnT_eq' rfl ?_
  have hn := g.le
  have hi : inI (ps.length : Int) = true := inI_nat
  have ht := trim_same (h := h) (d := .non) rfl rfl
  have c1 : (1 : Int) ≤ ps.length := by have := g.pos; omega
  have c2 : (ps.length : Int) ≤ 16 := by omega
  simp [b_check_shape, envOf, s.len, t.len, g.len, c1, c2, hi]
  refine wp_bind (for_w (I := fun i e h' => (∃ y : Option D, e = [some P, some Q, some (.int ps.length), y]) ∧ h' = h) ⟨⟨none, rfl⟩, rfl⟩ ?_ ?_)
  · rintro i z e h' hz ⟨⟨y, rfl⟩, rfl⟩
    obtain ⟨hil, rfl⟩ := rng_get hz
    simp [ixP s hil]
    cases hq : par ps i with
    | none => simp
    | some p =>
      have := par_lt g.acy hq
      have c3 : (p : Int) < ps.length := by omega
      simp [ixP s hil, hq, c3]
  rintro e h' ⟨⟨y, rfl⟩, rfl⟩
  simp [hi]
  refine wp_bind (for_w (I := fun i e k => (∃ y : Option D, e = [some P, some Q, some (.int ps.length), y]) ∧ k = h') ⟨⟨y, rfl⟩, rfl⟩ ?_ ?_)
  · rintro i z e k hz ⟨⟨y, rfl⟩, rfl⟩
    obtain ⟨hil, rfl⟩ := rng_get hz
    simp [never_ok s g.acy (by omega) hil]
  rintro e k ⟨⟨y, rfl⟩, rfl⟩
  simp [hi]
  refine wp_bind (for_w (I := fun i e k2 => (∃ y : Option D, e = [some P, some Q, some (.int ps.length), y]) ∧ k2 = k) ⟨⟨y, rfl⟩, rfl⟩ ?_ ?_)
  · rintro i z e k2 hz ⟨⟨y, rfl⟩, rfl⟩
    obtain ⟨hil, rfl⟩ := rng_get hz
    have hik : i < ks.length := by rw [g.len]; exact hil
    simp [ixK t hik, inE']
    cases hq : (kd ks i).end_ with
    | false => simp
    | true => simp [inP s, g.leaf i hil hq]
  rintro e k2 ⟨⟨y, rfl⟩, rfl⟩
  simp [ht]
/-! ### forests as values -/
def fo (ps : Par) (ks : List Kd) : D := .ins "Forest" ["fields", "parents", "kinds"] [.int ps.length, .tup (encP ps), .tup (encK ks)]
@[simp] theorem clo_fo (n : Nat) (ps : Par) (ks : List Kd) : clo n (fo ps ks) = true := by simp [fo]
@[simp] theorem fo_fields (ps : Par) (ks : List Kd) (h : AH) : fldD ["Forest"] "fields" (fo ps ks) h = .ok (.int ps.length) h := rfl
@[simp] theorem fo_parents (ps : Par) (ks : List Kd) (h : AH) : fldD ["Forest"] "parents" (fo ps ks) h = .ok (.tup (encP ps)) h := rfl
@[simp] theorem fo_kinds (ps : Par) (ks : List Kd) (h : AH) : fldD ["Forest"] "kinds" (fo ps ks) h = .ok (.tup (encK ks)) h := rfl
theorem setFld_ok {cs : List String} {n c : String} {ns : List String} {ds : List D} {h : AH} {l : Nat} {v : D} (e : h[l]? = some (.ins c ns ds)) (hc : cs.contains c = true) (hn : ns.length < 1000) : setFldD cs n (.loc l) v h = .ok .non (h.set l (.ins c (putN n ns) (putV n v ns ds))) := by
  unfold setFldD
  dsimp only
  rw [e]
  dsimp only
  rw [hc, decide_eq_true hn]; rfl
theorem Forest_init_ok {P Q : D} {ps : Par} {ks : List Kd} (s : SeqD P (encP ps)) (t : SeqD Q (encK ks)) (g : Good ps ks) (h : AH) : F_Forest_init [.loc h.length, P, Q] (h ++ [.ins "Forest" [] []]) = .ok .non (h ++ [.ins "Forest" ["fields", "parents", "kinds"] [.int ps.length, .tup (encP ps), .tup (encK ks)]]) := by
  refine fnT_eq' rfl ?_
  have st : ∀ (ns : List String) (ds : List D) (n : String) (v : D), ns.length < 1000 → setFldD ["Forest"] n (.loc h.length) v (h ++ [.ins "Forest" ns ds]) = .ok .non (h ++ [.ins "Forest" (putN n ns) (putV n v ns ds)]) := fun ns ds n v hl => by
    rw [setFld_ok (c := "Forest") (ns := ns) (ds := ds) (by rw [get_new (Nat.le_refl _)]; simp) (by decide) hl, set_new (Nat.le_refl _)]; simp
  have ht : trim (h ++ [.ins "Forest" [] []]) (.ok .non (h ++ [.ins "Forest" ["fields", "parents", "kinds"] [.int ps.length, .tup (encP ps), .tup (encK ks)]])) = .ok .non (h ++ [.ins "Forest" ["fields", "parents", "kinds"] [.int ps.length, .tup (encP ps), .tup (encK ks)]]) := by
    have hp : pre (h ++ [AO.ins "Forest" [] []]).length (h ++ [.ins "Forest" [] []]) (h ++ [.ins "Forest" ["fields", "parents", "kinds"] [.int ps.length, .tup (encP ps), .tup (encK ks)]]) = true := by
      have := pre_set (h := h ++ [.ins "Forest" [] []]) (l := h.length) (o := .ins "Forest" ["fields", "parents", "kinds"] [.int ps.length, .tup (encP ps), .tup (encK ks)]) (by simp [cloO])
      rw [set_new (Nat.le_refl _)] at this
      simpa using this
    have := trim_val (h := h ++ [.ins "Forest" [] []]) (h1 := h ++ [.ins "Forest" ["fields", "parents", "kinds"] [.int ps.length, .tup (encP ps), .tup (encK ks)]]) (L := []) (d := .non) (by simp) hp (by simp) rfl
    simpa using this
  have p1 : putN "fields" [] = ["fields"] := rfl
  simp [b_Forest_init, envOf, shape_ok s t g, s.len, s.tup, t.tup, st, putN, putV, ht]
theorem frz_ins {h : AH} {L : AH} {c : String} {ns : List String} {ds : List D} (hc : clos h.length ds = true) : trim h (.ok (.loc h.length) (h ++ .ins c ns ds :: L)) = .ok (.ins c ns ds) h := by
  have hz : frz h.length (h ++ .ins c ns ds :: L) (.loc h.length) = some (.ins c ns ds) := by
    unfold frz
    dsimp only
    rw [if_neg (by omega), get_new (Nat.le_refl _)]
    simp [hc]
  unfold trim
  dsimp only
  rw [hz]
  dsimp only
  rw [pre_app rfl (pre_refl h)]
  show R.ok _ ((h ++ _).take h.length) = _
  rw [List.take_left]
theorem make_ok {P Q : D} {ps : Par} {ks : List Kd} (s : SeqD P (encP ps)) (t : SeqD Q (encK ks)) (g : Good ps ks) (h : AH) : mkI "Forest" true F_Forest_init [P, Q] h = .ok (fo ps ks) h := by
  unfold mkI mkIR
  rw [if_pos rfl, Forest_init_ok s t g h]
  exact frz_ins (by simp)
/-! ### draws -/
@[simp] theorem listRg_def (tup fz : Bool) (a b : AE) (e : Env) (h : AH) : eLR tup fz a b e h = (a e h).bind fun x h1 => (b e h1).bind fun y h2 => match x with
  | .int i => match y with
    | .int j => R.chk (inI i && inI j && decide ((j - i).toNat ≤ big)) (if tup then .ok (.tup (rng i (j - i).toNat)) h2 else mkL fz (rng i (j - i).toNat) h2)
    | _ => .no
  | _ => .no := rfl
theorem q_take_ok {h : AH} {l : Nat} {n : Int} (t : Tp h l) (h0 : 0 < n) (h1 : n ≤ 10000000000000000000000000000000000000000000000000000000000000000000000000000000000000000000000000000) : ∃ r o, 0 ≤ r ∧ r < n ∧ IsTp o ∧ F_q_take [.loc l, .int n] h = .ok (.int r) (h.set l o) := take_ok t h0 h1
/-- with a natural size -/
theorem takeN {h : AH} {l n : Nat} (t : Tp h l) (h0 : 0 < n) (h1 : n ≤ 1000000000000) : ∃ (r : Nat) (o : AO), r < n ∧ IsTp o ∧ F_q_take [.loc l, .int n] h = .ok (.int r) (h.set l o) := by
  obtain ⟨r, o, a, b, c, d⟩ := q_take_ok (n := n) t (by omega) (Int.le_trans (show (n : Int) ≤ 1000000000000 by omega) (by decide +kernel))
  obtain ⟨k, rfl⟩ := Int.eq_ofNat_of_zero_le a
  exact ⟨k, o, by omega, c, d⟩
theorem Tp.mono {h : AH} {l : Nat} {L : AH} (t : Tp h l) : Tp (h ++ L) l := t.app
theorem popAt_ok {h : AH} {l k : Nat} {xs : List D} {y : D} (e : getL h l = some xs) (hy : xs[k]? = some y) (hk : k < 1000000) : popAtD (.loc l) (.int k) h = .ok y (h.set l (.lst (xs.eraseIdx k))) := by
  have hl := (List.getElem?_eq_some_iff.mp hy).1
  unfold popAtD
  dsimp only
  rw [onL_def, e]
  have hx : ixN xs.length (k : Int) = some k := by unfold ixN; rw [if_pos (Int.natCast_nonneg k), if_pos (by omega)]; simp
  have hd : (-(2 ^ 63) ≤ (k : Int) ∧ (k : Int) < 2 ^ 63) := ⟨by omega, by omega⟩
  simp only [kOn_s, hd, hx, hy, and_self, decide_true, chk_true, of_some, bind_ok]
theorem tp_self {h : AH} {l : Nat} (t : Tp h l) : ∃ o, IsTp o ∧ h.set l o = h := by
  obtain ⟨c, k, e, hc⟩ := t.ex
  refine ⟨_, ⟨c, k, rfl, hc⟩, ?_⟩
  obtain ⟨hl, e⟩ := List.getElem?_eq_some_iff.mp e
  rw [← e]; simp
theorem perm_erase {xs : List Nat} {k : Nat} {y : Nat} (h : xs[k]? = some y) : (y :: xs.eraseIdx k).Perm xs := by
  have hl := (List.getElem?_eq_some_iff.mp h).1
  have e := (List.getElem?_eq_some_iff.mp h).2
  have h1 : xs.eraseIdx k = xs.take k ++ xs.drop (k + 1) := List.eraseIdx_eq_take_drop_succ ..
  have h2 : xs = xs.take k ++ y :: xs.drop (k + 1) := by
    rw [← e, List.getElem_cons_drop hl, List.take_append_drop]
  rw [h1]
  conv => rhs; rw [h2]
  exact List.perm_middle.symm
theorem map_erase {α β : Type} (f : α → β) (xs : List α) (k : Nat) : (xs.map f).eraseIdx k = (xs.eraseIdx k).map f := by
  rw [List.eraseIdx_eq_take_drop_succ, List.eraseIdx_eq_take_drop_succ, List.map_append, List.map_take, List.map_drop]
theorem turns_ok {h : AH} {l n : Nat} (t : Tp h l) (hn : n ≤ 1000) : ∃ (ts : List Nat) (o : AO), ts.Perm (List.range n) ∧ IsTp o ∧ F_q_turns [.loc l, .int n] h = .ok (.lst (ts.map eN)) (h.set l o) := by
  have hl := t.lt
  obtain ⟨o0, ho0, hs0⟩ := tp_self t
  have hi : inI (n : Int) = true := inI_nat
  have hb : n ≤ big := by rw [bigv]; omega
  have key : wp (F_q_turns [.loc l, .int n] h) fun d k => ∃ (ts : List Nat) (o : AO), ts.Perm (List.range n) ∧ IsTp o ∧ d = .lst (ts.map eN) ∧ k = h.set l o := by
    refine fnT_w rfl ?_
    have i0 : inI 0 = true := by decide
    simp [b_q_turns, envOf, hi, hb, i0]
    have hr : rng 0 n = (List.range n).map eN := by simp [rng]
    rw [hr]
    refine wp_bind (for_w (I := fun i e h' => ∃ (ls ts : List Nat) (o : AO) (y : Option D), e = [some (.loc l), some (.int n), some (.loc h.length), some (.loc (h.length + 1)), y] ∧ h' = h.set l o ++ [.lst (ls.map eN), .lst (ts.map eN)] ∧ IsTp o ∧ (ts ++ ls).Perm (List.range n) ∧ ts.length = i) ⟨List.range n, [], o0, none, rfl, by rw [hs0]; rfl, ho0, by simp, rfl⟩ ?_ ?_)
    · rintro i z e h' hz ⟨ls, ts, o, y, rfl, rfl, ho, hp, hlen⟩
      rw [← hr] at hz
      obtain ⟨hil, rfl⟩ := rng_get hz
      have pl := hp.length_eq
      simp at pl
      have hlx : (h.set l o).length = h.length := by simp
      have g1 : getL (h.set l o ++ [.lst (ls.map eN), .lst (ts.map eN)]) h.length = some (ls.map eN) := by rw [getL_new (by omega)]; simp
      have g2 : getL (h.set l o ++ [.lst (ls.map eN), .lst (ts.map eN)]) (h.length + 1) = some (ts.map eN) := by rw [getL_new (by omega)]; simp
      have tp : Tp (h.set l o ++ [.lst (ls.map eN), .lst (ts.map eN)]) l := (Tp.set ho hl).app
      obtain ⟨r, o2, hr2, ho2, e2⟩ := takeN (n := ls.length) tp (by omega) (by omega)
      rw [set_old (by omega), List.set_set] at e2
      obtain ⟨y2, hy2⟩ : ∃ y2, ls[r]? = some y2 := ⟨_, List.getElem?_eq_getElem hr2⟩
      have g3 : getL (h.set l o2 ++ [.lst (ls.map eN), .lst (ts.map eN)]) h.length = some (ls.map eN) := by rw [getL_new (by simp)]; simp
      have pz := popAt_ok (k := r) (y := .int y2) g3 (by rw [List.getElem?_map, hy2]; rfl) (by omega)
      rw [set_new (by simp), map_erase] at pz
      have g4 : getL (h.set l o2 ++ [.lst ((ls.eraseIdx r).map eN), .lst (ts.map eN)]) (h.length + 1) = some (ts.map eN) := by rw [getL_new (by simp)]; simp
      have az := append_ok (.int y2) g4 (by rw [bigv]; simp; omega)
      rw [set_new (by simp)] at az
      simp at pz az e2
      simp [isL g2, isL g1, lenL g1, e2, pz, az]
      refine ⟨ls.eraseIdx r, ts ++ [y2], o2, by simp, ho2, ?_, by simp [hlen]⟩
      have := perm_erase hy2
      refine List.Perm.trans ?_ hp
      rw [List.append_assoc]
      exact List.Perm.append_left ts this
    · rintro e h' ⟨ls, ts, o, y, rfl, rfl, ho, hp, hlen⟩
      simp at hlen
      have pl := hp.length_eq
      simp at pl
      have : ls = [] := List.length_eq_zero_iff.mp (by omega)
      subst this
      have g2 : getL (h.set l o ++ [.lst [], .lst (ts.map eN)]) (h.length + 1) = some (ts.map eN) := by rw [getL_new (by simp)]; simp
      have tt := trim_setloc (h := h) (l := l) (o := o) (m := h.length + 1) ho (by omega) g2 (by simp)
      simp [tt]
      exact ⟨ts, by simpa using hp, o, ho, rfl, rfl⟩
  obtain ⟨d, k, e, ts, o, hp, ho, rfl, rfl⟩ := wp_iff.mp key
  exact ⟨ts, o, hp, ho, e⟩
theorem perm_get {ts : List Nat} {n : Nat} (h : ts.Perm (List.range n)) : ts.length = n ∧ ts.Nodup ∧ ∀ x, x ∈ ts ↔ x < n := ⟨by simpa using h.length_eq, (h.nodup_iff).mpr List.nodup_range, fun x => by rw [h.mem_iff]; simp⟩
theorem idx_get {ts : List Nat} (nd : ts.Nodup) {a x : Nat} (h : ts[a]? = some x) : ts.idxOf x = a := by
  obtain ⟨hl, e⟩ := List.getElem?_eq_some_iff.mp h
  subst e
  exact nd.idxOf_getElem a hl
theorem ixLs {ts : List Nat} {a x : Nat} (h : ts[a]? = some x) (k : AH) : ixD (.lst (ts.map eN)) (.int a) k = .ok (.int x) k := by
  show R.of (at? (ts.map eN) (a : Int)) k = _
  rw [at_nat, List.getElem?_map, h]; rfl
theorem encP_set (ps : Par) (i : Nat) (p : Option Nat) : (encP ps).set i (eO p) = encP (ps.set i p) := by simp [encP, List.map_set]
theorem ixN_nat {n k : Nat} (h : k < n) : ixN n (k : Int) = some k := by unfold ixN; rw [if_pos (Int.natCast_nonneg k), if_pos (by omega)]; simp
def PUp (ts : List Nat) (i : Nat) (ps : Par) : Prop := ∀ x p : Nat, ps[x]? = some (some p) → ∃ a b : Nat, ts[a]? = some p ∧ ts[b]? = some x ∧ a < b ∧ b ≤ i
theorem parents_ok {h : AH} {l n : Nat} (t : Tp h l) (hn : n ≤ 1000) : ∃ (ps : Par) (o : AO), ps.length = n ∧ Acy ps ∧ IsTp o ∧ F_q_parents [.loc l, .int n] h = .ok (.lst (encP ps)) (h.set l o) := by
  have hl := t.lt
  obtain ⟨ts, o1, hp, ho1, e1⟩ := turns_ok t hn
  obtain ⟨hlen, hnd, hmem⟩ := perm_get hp
  obtain ⟨bd, o2, hbd, ho2, e2⟩ := takeN (n := 4) (Tp.set ho1 hl) (by omega) (by omega)
  rw [List.set_set] at e2
  have hi : inI (n : Int) = true := inI_nat
  have i1 : inI 1 = true := by decide
  have key : wp (F_q_parents [.loc l, .int n] h) fun d k => ∃ (ps : Par) (o : AO), ps.length = n ∧ Acy ps ∧ IsTp o ∧ d = .lst (encP ps) ∧ k = h.set l o := by
    refine fnT_w rfl ?_
    simp at e2
    have hmap : lcN (gV 5) tYes (eC .non) [some (.loc l), some (.int n), some (.lst (ts.map eN)), some (.int bd), none, none, none] (.lst (rng 0 n)) (Src.lst (rng 0 n)).fuel 0 [] (h.set l o2) = .ok (encP (List.replicate n none)) (h.set l o2) := by
      rw [lc_map (f := fun _ => .non) (by simp [bigv]; omega) (fun x _ => rfl)]
      congr 1
      simp [rng, encP]
      apply List.ext_getElem?
      intro i
      simp [List.getElem?_replicate]
      by_cases hin : i < n <;> simp [hin, List.getElem?_range]
    simp [b_q_parents, envOf, e1, e2, hi, i1, wipeE, hmap]
    refine wp_bind (for_w (I := fun i e h' => ∃ (ps : Par) (o : AO) (y z : Option D), e = [some (.loc l), some (.int n), some (.lst (ts.map eN)), some (.int bd), some (.loc h.length), y, z] ∧ h' = h.set l o ++ [.lst (encP ps)] ∧ IsTp o ∧ ps.length = n ∧ PUp ts i ps) ⟨List.replicate n none, o2, none, none, rfl, rfl, ho2, by simp, fun x p hx => by rw [List.getElem?_replicate] at hx; split at hx <;> cases hx⟩ ?_ ?_)
    · rintro i z e h' hz ⟨ps, o, y, w, rfl, rfl, ho, hpl, hinv⟩
      obtain ⟨hil, rfl⟩ := rng_get hz
      have hin : 1 + i < n := by omega
      have tp : Tp (h.set l o ++ [.lst (encP ps)]) l := (Tp.set ho hl).app
      obtain ⟨r, o3, hr, ho3, e3⟩ := takeN (n := 2 + i) tp (by omega) (by omega)
      rw [set_old (by simpa using hl), List.set_set] at e3
      rw [show ((2 + i : Nat) : Int) = 2 + (i : Int) by omega] at e3
      have c1 : (1 : Int) + i + 1 = 2 + (i : Int) := by omega
      obtain ⟨x, hx⟩ : ∃ x, ts[1 + i]? = some x := ⟨_, List.getElem?_eq_getElem (by omega)⟩
      have hxn : x < n := (hmem x).mp (List.mem_of_getElem? hx)
      have stay : ∀ (w2 : Option D), ∃ (ps2 : Par) (o4 : AO), ps2.length = n ∧ IsTp o4 ∧ (h.set l o3 = h.set l o4 ∧ encP ps = encP ps2) ∧ PUp ts (i + 1) ps2 := fun w2 => ⟨ps, o3, hpl, ho3, ⟨rfl, rfl⟩, fun x p hx => by obtain ⟨a, b, h1, h2, h3, h4⟩ := hinv x p hx; exact ⟨a, b, h1, h2, h3, by omega⟩⟩
      have store : ∀ q : Nat, 0 < q → q ≤ 1 + i → ∃ v : Nat, ixD (.lst (ts.map eN)) (.int ((q : Int) - 1)) (h.set l o3 ++ [.lst (encP ps)]) = .ok (.int v) (h.set l o3 ++ [.lst (encP ps)]) ∧ setIxD (.loc h.length) (.int x) (.int v) (h.set l o3 ++ [.lst (encP ps)]) = .ok .non (h.set l o3 ++ [.lst (encP (ps.set x (some v)))]) ∧
          PUp ts (i + 1) (ps.set x (some v)) := by
        intro q q0 q1
        obtain ⟨v, hv⟩ : ∃ v, ts[q - 1]? = some v := ⟨_, List.getElem?_eq_getElem (by omega)⟩
        have cq : (q : Int) - 1 = ((q - 1 : Nat) : Int) := by omega
        have g0 : getL (h.set l o3 ++ [.lst (encP ps)]) h.length = some (encP ps) := by rw [getL_new (by simp)]; simp
        have sx := setIx_ok (i := (x : Int)) (k := x) (.int v) g0 (ixN_nat (by simpa using by omega))
        rw [set_new (by simp), show D.int v = eO (some v) from rfl, encP_set] at sx
        refine ⟨v, by rw [cq]; exact ixLs hv _, by simpa using sx, fun x' p hx' => ?_⟩
        by_cases e : x = x'
        · subst e
          rw [List.getElem?_set_self (by omega)] at hx'
          cases hx'
          exact ⟨q - 1, 1 + i, hv, hx, by omega, by omega⟩
        · rw [List.getElem?_set_ne e] at hx'
          obtain ⟨a, b, h1, h2, h3, h4⟩ := hinv x' p hx'
          exact ⟨a, b, h1, h2, h3, by omega⟩
      have ixx := ixLs hx
      simp at ixx
      by_cases b0 : bd = 0
      · subst b0
        obtain ⟨v, s1, s2, s3⟩ := store (1 + i) (by omega) (by omega)
        have c2 : (0 : Int) < 1 + i := by omega
        simp at s1 s2
        simp [c1, e3, c2, s1, s2, ixx]
        exact ⟨_, o3, ⟨rfl, rfl⟩, ho3, by simpa using hpl, s3⟩
      · have b0' : ¬ ((bd : Int) = 0) := by omega
        by_cases b1 : bd = 1
        · subst b1
          obtain ⟨ps2, o4, h1, h2, h3, h4⟩ := stay none
          simp [c1, e3]
          exact ⟨ps2, o4, h3, h2, h1, h4⟩
        · have b1' : ¬ ((bd : Int) = 1) := by omega
          by_cases r0 : r = 0
          · subst r0
            obtain ⟨ps2, o4, h1, h2, h3, h4⟩ := stay none
            simp [c1, e3, b0', b1', b0, b1]
            exact ⟨ps2, o4, h3, h2, h1, h4⟩
          · obtain ⟨v, s1, s2, s3⟩ := store r (by omega) (by omega)
            have c2 : 0 < r := by omega
            simp at s1 s2
            simp [c1, e3, b0', b1', b0, b1, c2, s1, s2, ixx]
            exact ⟨_, o3, ⟨rfl, rfl⟩, ho3, by simpa using hpl, s3⟩
    · rintro e h' ⟨ps, o, y, w, rfl, rfl, ho, hpl, hinv⟩
      have g0 : getL (h.set l o ++ [.lst (encP ps)]) h.length = some (encP ps) := by rw [getL_new (by simp)]; simp
      have tt := trim_setloc (h := h) (l := l) (o := o) (m := h.length) ho (by omega) g0 (by simp)
      simp [tt]
      refine ⟨ps, hpl, ⟨fun x => ts.idxOf x, fun i hi => ?_, fun x p hx => ?_⟩, o, ho, rfl, rfl⟩
      · rw [hpl, ← hlen]
        exact List.idxOf_lt_length_iff.mpr ((hmem i).mpr (by omega))
      · obtain ⟨a, b, h1, h2, h3, h4⟩ := hinv x p hx
        have := (hmem p).mp (List.mem_of_getElem? h1)
        refine ⟨by omega, ?_⟩
        show ts.idxOf p < ts.idxOf x
        rw [idx_get hnd h1, idx_get hnd h2]; exact h3
  obtain ⟨d, k, e, ps, o, h1, h2, ho, rfl, rfl⟩ := wp_iff.mp key
  exact ⟨ps, o, h1, h2, ho, e⟩
theorem kd_pick {r : Nat} (h : r < 4) : ∃ k : Kd, (at? [D.str [117, 112], D.str [100, 111, 119, 110], D.str [102, 105, 114, 115, 116], D.str [108, 97, 115, 116]] (r : Int)) = some (eK k) ∧ (r < 2 → k.end_ = false) := by
  have : r = 0 ∨ r = 1 ∨ r = 2 ∨ r = 3 := by omega
  rcases this with rfl | rfl | rfl | rfl
  · exact ⟨.up, rfl, fun _ => rfl⟩
  · exact ⟨.down, rfl, fun _ => rfl⟩
  · exact ⟨.first, rfl, fun h => by omega⟩
  · exact ⟨.last, rfl, fun h => by omega⟩
def KOk (ps : Par) (fair : Bool) (ks : List Kd) : Prop := ∀ f < ks.length, (kd ks f).end_ = true → some f ∉ ps ∧ fair = false
theorem kd_app {ks : List Kd} {k : Kd} {f : Nat} : kd (ks ++ [k]) f = if f < ks.length then kd ks f else if f = ks.length then k else .up := by
  unfold kd
  rw [List.getD_eq_getElem?_getD, List.getD_eq_getElem?_getD]
  by_cases h : f < ks.length
  · rw [if_pos h, List.getElem?_append_left h]
  · rw [if_neg h, List.getElem?_append_right (by omega)]
    by_cases e : f = ks.length
    · rw [if_pos e, e]; simp
    · rw [if_neg e]
      have : f - ks.length ≠ 0 := by omega
      obtain ⟨m, hm⟩ := Nat.exists_eq_succ_of_ne_zero this
      rw [hm]; rfl
theorem kinds_ok {P : D} {ps : Par} (s : SeqD P (encP ps)) {h : AH} {l : Nat} (t : Tp h l) (hn : ps.length ≤ 1000) (fair : Bool) : ∃ (ks : List Kd) (o : AO), ks.length = ps.length ∧ KOk ps fair ks ∧ IsTp o ∧ F_q_kinds [.loc l, P, .bl fair] h = .ok (.lst (encK ks)) (h.set l o) := by
  have hl := t.lt
  obtain ⟨o0, ho0, hs0⟩ := tp_self t
  have hi : inI (ps.length : Int) = true := inI_nat
  have key : wp (F_q_kinds [.loc l, P, .bl fair] h) fun d k => ∃ (ks : List Kd) (o : AO), ks.length = ps.length ∧ KOk ps fair ks ∧ IsTp o ∧ d = .lst (encK ks) ∧ k = h.set l o := by
    refine fnT_w rfl ?_
    simp [b_q_kinds, envOf, s.len, hi]
    refine wp_bind (for_w (I := fun i e h' => ∃ (ks : List Kd) (o : AO) (y z : Option D), e = [some (.loc l), some P, some (.bl fair), some (.loc h.length), y, z] ∧ h' = h.set l o ++ [.lst (encK ks)] ∧ IsTp o ∧ ks.length = i ∧ KOk ps fair ks) ⟨[], o0, none, none, rfl, by rw [hs0]; rfl, ho0, rfl, fun f hf => by simp at hf⟩ ?_ ?_)
    · rintro i z e h' hz ⟨ks, o, y, w, rfl, rfl, ho, hk, hok⟩
      obtain ⟨hil, rfl⟩ := rng_get hz
      have tp : Tp (h.set l o ++ [.lst (encK ks)]) l := (Tp.set ho hl).app
      obtain ⟨r, o3, hr, ho3, e3⟩ := takeN (n := 4) tp (by omega) (by omega)
      rw [set_old (by simpa using hl), List.set_set] at e3
      have g0 : getL (h.set l o3 ++ [.lst (encK ks)]) h.length = some (encK ks) := by rw [getL_new (by simp)]; simp
      have fin : ∀ r2 : Nat, r2 < 4 → (fair = true ∨ some i ∈ ps → r2 < 2) → ∃ k : Kd, at? [D.str [117, 112], D.str [100, 111, 119, 110], D.str [102, 105, 114, 115, 116], D.str [108, 97, 115, 116]] (r2 : Int) = some (eK k) ∧ appendD (.loc h.length) (eK k) (h.set l o3 ++ [.lst (encK ks)]) = .ok .non (h.set l o3 ++ [.lst (encK (ks ++ [k]))]) ∧ (ks ++ [k]).length = i + 1 ∧ KOk ps fair (ks ++ [k]) := by
        intro r2 h4 h2
        obtain ⟨k, k1, k2⟩ := kd_pick h4
        have a2 := append_ok (eK k) g0 (by rw [bigv]; simp; omega)
        rw [set_new (by simp)] at a2
        refine ⟨k, k1, by simpa [encK] using a2, by simp [hk], fun f hf he => ?_⟩
        rw [kd_app] at he
        by_cases hfl : f < ks.length
        · rw [if_pos hfl] at he; exact hok f hfl he
        · have : f = ks.length := by simp at hf; omega
          rw [if_neg hfl, if_pos this] at he
          subst this
          rw [hk]
          constructor
          · intro hm
            have := k2 (h2 (.inr hm))
            rw [this] at he; cases he
          · cases hf : fair with
            | false => rfl
            | true =>
              have := k2 (h2 (.inl hf))
              rw [this] at he; cases he
      simp at e3
      have ip := inP s i
      by_cases hc : fair = true ∨ some i ∈ ps
      · obtain ⟨k, k1, k2, k3, k4⟩ := fin (r % 2) (by omega) (fun _ => by omega)
        rw [show ((r % 2 : Nat) : Int) = (r : Int) % 2 by omega] at k1
        rcases hc with rfl | hc
        · simp [e3, k1, k2, isL g0]
          exact ⟨ks ++ [k], o3, ⟨rfl, rfl⟩, ho3, k3, k4⟩
        · cases fair with
          | true =>
            simp [e3, k1, k2, isL g0]
            exact ⟨ks ++ [k], o3, ⟨rfl, rfl⟩, ho3, k3, k4⟩
          | false =>
            simp [e3, k1, k2, isL g0, ip, hc]
            exact ⟨ks ++ [k], o3, ⟨rfl, rfl⟩, ho3, k3, k4⟩
      · have c1 : fair = false := by cases fair with
          | true => exact absurd (.inl rfl) hc
          | false => rfl
        subst c1
        have c2 : some i ∉ ps := fun z => hc (.inr z)
        obtain ⟨k, k1, k2, k3, k4⟩ := fin r hr (fun z => absurd z hc)
        rw [at_nat] at k1
        simp [e3, k1, k2, isL g0, ip, c2]
        exact ⟨ks ++ [k], o3, ⟨rfl, rfl⟩, ho3, k3, k4⟩
    · rintro e h' ⟨ks, o, y, w, rfl, rfl, ho, hk, hok⟩
      have g0 : getL (h.set l o ++ [.lst (encK ks)]) h.length = some (encK ks) := by rw [getL_new (by simp)]; simp
      have tt := trim_setloc (h := h) (l := l) (o := o) (m := h.length) ho (by omega) g0 (by simp)
      simp [tt]
      exact ⟨ks, by simpa using hk, hok, o, ho, rfl, rfl⟩
  obtain ⟨d, k, e, ks, o, h1, h2, ho, rfl, rfl⟩ := wp_iff.mp key
  exact ⟨ks, o, h1, h2, ho, e⟩
theorem Good.of {ps : Par} {ks : List Kd} {fair : Bool} (h1 : 0 < ps.length) (h2 : ps.length ≤ 16) (a : Acy ps) (h3 : ks.length = ps.length) (h4 : KOk ps fair ks) : Good ps ks := ⟨h3, h1, h2, a, fun f hf he => (h4 f (by omega) he).1⟩
/-! ### the laws' looks -/
theorem q_int_ok (h : AH) (i : Int) : F_q_is_integer [.int i] h = .ok (.bl true) h := by
  have := trim_same (h := h) (d := .bl true) rfl rfl
  exact fnT_eq' rfl (by simp [b_q_is_integer, envOf, this])
theorem tape_ok {xs : List Int} {k : Nat} {h : AH} : ∃ o, IsTp o ∧ F_q_tape [.scr (xs.map .int), .int k] h = .ok (.loc h.length) (h ++ [o]) := by
  by_cases hk : k < xs.length
  · refine ⟨tape (if xs[k] < 0 then -xs[k] else xs[k]) 0, ⟨_, 0, rfl, by split <;> omega⟩, ?_⟩
    have hk2 : (k : Int) < (xs.length : Int) := by omega
    simp [F_q_tape, fnK, fnR, b_q_tape, envOf, hk, hk2, tape]
  · refine ⟨tape k 0, ⟨_, 0, rfl, by omega⟩, ?_⟩
    have hk2 : ¬ (k : Int) < (xs.length : Int) := by omega
    simp [F_q_tape, fnK, fnR, b_q_tape, envOf, hk, hk2, tape]
end Sm
end

section
set_option linter.all false
set_option maxRecDepth 10000
/-! Fo2: what k06 looks at. -/
namespace Sm
@[simp] theorem isTy_eK (k : Kd) (h : AH) : isTy "str" (eK k) h = .ok (.bl true) h := rfl
@[simp] theorem ne_eK (k j : Kd) (h : AH) : neD (eK k) (eK j) h = .ok (.bl (!decide (k = j))) h := by
  unfold eK
  rw [ne_str]
  congr 3
  exact decide_eq_decide.mpr (eqK k j)
@[simp] theorem eq_eK (k j : Kd) (h : AH) : eqD (eK k) (eK j) h = .ok (.bl (decide (k = j))) h := by
  unfold eK
  rw [eq_str]
  congr 2
  exact decide_eq_decide.mpr (eqK k j)
def wordD (ps : Par) (ks : List Kd) (f : Nat) : List D := (path ps f).map fun (k : Nat) => D.tup [.int k, eK (kd ks k)]
def ptuple (xs : List Nat) : D := .tup (xs.map eN)
@[simp] theorem isTy_tup_tup' (s : List D) (h : AH) : isTy "tuple" (.tup s) h = .ok (.bl true) h := rfl
/-! ### the program's properties and methods -/
@[simp] theorem fo_ins (ps : Par) (ks : List Kd) (h : AH) : insH h (fo ps ks) = some ("Forest", ["fields", "parents", "kinds"], [.int ps.length, .tup (encP ps), .tup (encK ks)]) := rfl
theorem mth_fo {F : AF} {ps : Par} {ks : List Kd} {h : AH} {d : D} {m : String} {as : AA} {e : Env} {xs : List D} (hm : look1 m ["fields", "parents", "kinds"] [.int ps.length, .tup (encP ps), .tup (encK ks)] = none) (ha : as e h = .ok xs h) (hf : F (fo ps ks :: xs) h = .ok d h) : kMth [("Forest", F)] m as e (fo ps ks) h = .ok d h := by
  unfold kMth mthR
  rw [fo_ins]
  simp only [findF, if_true, hm, Option.isNone_none, chk_true, ha, bind_ok, hf]
def leavesL (ps : Par) : List Nat := (List.range ps.length).filter fun k => !decide (some k ∈ ps)
def rootsL (ps : Par) : List Nat := (List.range ps.length).filter fun k => (par ps k).isNone
def childL (ps : Par) (f : Option Nat) : List Nat := (List.range ps.length).filter fun k => decide (par ps k = f)
def beneathL (ps : Par) (f : Nat) : List Nat := ((List.range ps.length).filter fun k => decide (f ∈ path ps k)).filter fun k => !decide (k = f)
theorem range_len (p : Nat → Bool) (n : Nat) : ((List.range n).filter p).length ≤ n := by
  have := List.length_filter_le p (List.range n)
  simpa using this
section
variable {ps : Par} {ks : List Kd} (hn : ps.length ≤ 1000) (h : AH)
include hn
variable (a : Acy ps)
include a
theorem path_len {f : Nat} (hf : f < ps.length) : (path ps f).length ≤ ps.length := by
  obtain ⟨rk, h1, h2⟩ := a.rank
  have key : ∀ (k f : Nat), f < ps.length → rk f < k → (path ps f).length ≤ rk f + 1 := by
    intro k
    induction k with
    | zero => intro f _ h; omega
    | succ k ih =>
      intro f hf hk
      cases hq : par ps f with
      | none => rw [path_none a hf hq]; simp
      | some p =>
        obtain ⟨p1, p2⟩ := h2 f p hf hq
        have := ih p p1 (by omega)
        rw [path_some a hf hq]
        simp; omega
  have := key _ f hf (Nat.lt_succ_self _)
  have := h1 f hf
  omega
theorem fpath_ok {f : Nat} (hf : f < ps.length) : F_Forest_path [fo ps ks, .int f] h = .ok (.tup ((path ps f).map eN)) h := by
  have ht := trim_same (h := h) (d := .tup ((path ps f).map eN)) rfl (by simp)
  exact fnT_eq' rfl (by simp [b_Forest_path, envOf, path_of_ok (SeqD.t (encP ps)) a hn hf, ht])
variable (hk : ks.length = ps.length)
include hk
theorem wordD_clo (n f : Nat) : clos n (wordD ps ks f) = true := by
  rw [clos_all]; simp [wordD]
theorem fword_ok {f : Nat} (hf : f < ps.length) : F_Forest_word [fo ps ks, .int f] h = .ok (.tup (wordD ps ks f)) h := by
  have hl := path_len hn a hf
  have hc := lc_map (v := 2) (a := eTup (eL [eV 2, e2 ixD (e1 (fldD ["Forest"] "kinds") (eV 0)) (eV 2)])) (e0 := [some (fo ps ks), some (.int f), none]) (xs := (path ps f).map eN) (h := h) (f := fun x => match x with | .int k => .tup [.int k, eK (kd ks k.toNat)] | _ => x) (by simp [bigv]; omega)
    (fun x hx => by
      obtain ⟨k, hk2, rfl⟩ := List.mem_map.mp hx
      have hkl := path_mem a hf k hk2
      have := ixK (SeqD.t (encK ks)) (f := k) (by omega) h
      simp only [ix_tup, at_nat] at this
      simp [this])
  have ec : ((path ps f).map eN).map (fun x : D => match x with | .int k => D.tup [.int k, eK (kd ks k.toNat)] | _ => x) = wordD ps ks f := by simp [wordD]
  rw [ec] at hc
  have ht := trim_same (h := h) (d := .tup (wordD ps ks f)) rfl (by rw [clo_tup]; exact wordD_clo hn a hk _ _)
  refine fnT_eq' rfl ?_
  simp [b_Forest_word, envOf, path_of_ok (SeqD.t (encP ps)) a hn hf, wipeE, hc, ht]
theorem q_word_ok {P Q : D} (s : SeqD P (encP ps)) (t : SeqD Q (encK ks)) {f : Nat} (hf : f < ps.length) : F_q_word [P, Q, .int f] h = .ok (.tup (wordD ps ks f)) h := by
  have hl := path_len hn a hf
  have hc := lc_map (v := 3) (a := eTup (eL [eV 3, e2 ixD (eV 1) (eV 3)])) (e0 := [some P, some Q, some (.int f), none]) (xs := (path ps f).map eN) (h := h) (f := fun x => match x with | .int k => .tup [.int k, eK (kd ks k.toNat)] | _ => x) (by simp [bigv]; omega)
    (fun x hx => by
      obtain ⟨k, hk2, rfl⟩ := List.mem_map.mp hx
      have hkl := path_mem a hf k hk2
      have := ixK t (f := k) (by omega) h
      simp [this])
  have ec : ((path ps f).map eN).map (fun x : D => match x with | .int k => D.tup [.int k, eK (kd ks k.toNat)] | _ => x) = wordD ps ks f := by simp [wordD]
  rw [ec] at hc
  have ht := trim_same (h := h) (d := .tup (wordD ps ks f)) rfl (by rw [clo_tup]; exact wordD_clo hn a hk _ _)
  refine fnT_eq' rfl ?_
  simp [b_q_word, envOf, q_path_ok s a hn hf, wipeE, hc, ht]
end
@[simp] theorem nb_eK (k : Kd) : nb (eK k) = true := by cases k <;> decide
@[simp] theorem dp_eK (k : Kd) : dp (eK k) = 0 := by simp [eK]
theorem ne_bl (a b : Bool) (h : AH) : neD (.bl a) (.bl b) h = .ok (.bl (!decide (a = b))) h := by
  show (R.of (some (decide (D.bl a = D.bl b))) h).bind _ = _
  simp
end Sm
end

section
set_option linter.all false
set_option maxRecDepth 10000
/-! Fo3: forests made of mutable lists; turned and mirrored forests. -/
namespace Sm
structure SeqA (h : AH) (P : D) (xs : List D) : Prop where
  ix : ∀ i : Int, ixD P (.int i) h = R.of (at? xs i) h
  len : lenD P h = .ok (.int xs.length) h
  tup : tupD P h = .ok (.tup xs) h
  seq : seqH h P = some xs
theorem SeqD.a {P : D} {xs : List D} (s : SeqD P xs) (h : AH) : SeqA h P xs := ⟨fun i => s.ix i h, s.len h, s.tup h, s.seq h⟩
theorem SeqA.loc {h : AH} {l : Nat} {xs : List D} (e : getL h l = some xs) : SeqA h (.loc l) xs := by
  refine ⟨fun i => ixL i e, lenL e, ?_, e⟩
  unfold tupD
  rw [show seqH h (.loc l) = some xs from e]
section
variable {h : AH}
theorem ixPA {P : D} {ps : Par} (s : SeqA h P (encP ps)) {f : Nat} (hf : f < ps.length) : ixD P (.int f) h = .ok (eO (par ps f)) h := by
  rw [s.ix, at_nat, encP_get, par_get hf]; rfl
theorem ixKA {Q : D} {ks : List Kd} (s : SeqA h Q (encK ks)) {f : Nat} (hf : f < ks.length) : ixD Q (.int f) h = .ok (eK (kd ks f)) h := by
  rw [s.ix, at_nat, encK_get, kd_get hf]; rfl
theorem inPA {P : D} {ps : Par} (s : SeqA h P (encP ps)) (f : Nat) : inD (.int f) P h = .ok (.bl (decide (some f ∈ ps))) h := by
  have e := inP (SeqD.t (encP ps)) f h
  unfold inD inH at e ⊢
  rw [s.seq]
  exact e
theorem never_a {P : D} {ps : Par} (s : SeqA h P (encP ps)) (a : Acy ps) (hn : ps.length ≤ 1000) {f : Nat} (hf : f < ps.length) : F_never_ends [P, .int f] h = .ok (.bl false) h := by
  obtain ⟨rk, h1, h2⟩ := a.rank
  refine fnT_eq' rfl ?_
  have hi : inI (ps.length : Int) = true := inI_nat
  have ht := trim_same (h := h) (d := .bl false) rfl rfl
  simp [b_never_ends, envOf, s.len, hi]
  refine wp_bind (for_w (I := fun i e h' => ∃ (x : Option Nat) (y : Option D), e = [some P, some (.int f), some (eO x), y] ∧ h' = h ∧ ∀ k, x = some k → k < ps.length ∧ rk k + i ≤ rk f) ⟨some f, none, rfl, rfl, fun k hk => by cases hk; exact ⟨hf, by omega⟩⟩ ?_ ?_)
  · rintro i z e h' hz ⟨x, y, rfl, rfl, hx⟩
    obtain ⟨hil, rfl⟩ := rng_get hz
    cases x with
    | none => simp [isNonD, ht]
    | some k =>
      obtain ⟨k1, k2⟩ := hx k rfl
      simp [isNonD, ixPA s k1]
      refine ⟨par ps k, rfl, fun p hp => ?_⟩
      obtain ⟨q1, q2⟩ := h2 k p k1 hp
      exact ⟨q1, by omega⟩
  · rintro e h' ⟨x, y, rfl, rfl, hx⟩
    rw [rng_len] at hx
    cases x with
    | none => simp [notNonD, ht]
    | some k =>
      exfalso
      have := (hx k rfl).2
      have := h1 f hf
      omega
theorem shape_a {P Q : D} {ps : Par} {ks : List Kd} (s : SeqA h P (encP ps)) (t : SeqA h Q (encK ks)) (g : Good ps ks) : F_check_shape [P, Q] h = .ok .non h := by
  refine fnT_eq' rfl ?_
  have hn := g.le
  have hi : inI (ps.length : Int) = true := inI_nat
  have ht := trim_same (h := h) (d := .non) rfl rfl
  have c1 : (1 : Int) ≤ ps.length := by have := g.pos; omega
  have c2 : (ps.length : Int) ≤ 16 := by omega
  simp [b_check_shape, envOf, s.len, t.len, g.len, c1, c2, hi]
  refine wp_bind (for_w (I := fun i e h' => (∃ y : Option D, e = [some P, some Q, some (.int ps.length), y]) ∧ h' = h) ⟨⟨none, rfl⟩, rfl⟩ ?_ ?_)
  · rintro i z e h' hz ⟨⟨y, rfl⟩, rfl⟩
    obtain ⟨hil, rfl⟩ := rng_get hz
    simp [ixPA s hil]
    cases hq : par ps i with
    | none => simp
    | some p =>
      have := par_lt g.acy hq
      have c3 : (p : Int) < ps.length := by omega
      simp [ixPA s hil, hq, c3]
  rintro e h' ⟨⟨y, rfl⟩, rfl⟩
  simp [hi]
  refine wp_bind (for_w (I := fun i e k => (∃ y : Option D, e = [some P, some Q, some (.int ps.length), y]) ∧ k = h') ⟨⟨y, rfl⟩, rfl⟩ ?_ ?_)
  · rintro i z e k hz ⟨⟨y, rfl⟩, rfl⟩
    obtain ⟨hil, rfl⟩ := rng_get hz
    simp [never_a s g.acy (by omega) hil]
  rintro e k ⟨⟨y, rfl⟩, rfl⟩
  simp [hi]
  refine wp_bind (for_w (I := fun i e k2 => (∃ y : Option D, e = [some P, some Q, some (.int ps.length), y]) ∧ k2 = k) ⟨⟨y, rfl⟩, rfl⟩ ?_ ?_)
  · rintro i z e k2 hz ⟨⟨y, rfl⟩, rfl⟩
    obtain ⟨hil, rfl⟩ := rng_get hz
    have hik : i < ks.length := by rw [g.len]; exact hil
    simp [ixKA t hik, inE']
    cases hq : (kd ks i).end_ with
    | false => simp
    | true => simp [inPA s, g.leaf i hil hq]
  rintro e k2 ⟨⟨y, rfl⟩, rfl⟩
  simp [ht]
end
theorem Forest_init_a {P Q : D} {ps : Par} {ks : List Kd} {h : AH} (s : ∀ o, SeqA (h ++ [o]) P (encP ps)) (t : ∀ o, SeqA (h ++ [o]) Q (encK ks)) (g : Good ps ks) : F_Forest_init [.loc h.length, P, Q] (h ++ [.ins "Forest" [] []]) = .ok .non (h ++ [.ins "Forest" ["fields", "parents", "kinds"] [.int ps.length, .tup (encP ps), .tup (encK ks)]]) := by
  refine fnT_eq' rfl ?_
  have st : ∀ (ns : List String) (ds : List D) (n : String) (v : D), ns.length < 1000 → setFldD ["Forest"] n (.loc h.length) v (h ++ [.ins "Forest" ns ds]) = .ok .non (h ++ [.ins "Forest" (putN n ns) (putV n v ns ds)]) := fun ns ds n v hl => by
    rw [setFld_ok (c := "Forest") (ns := ns) (ds := ds) (by rw [get_new (Nat.le_refl _)]; simp) (by decide) hl, set_new (Nat.le_refl _)]; simp
  have ht : trim (h ++ [.ins "Forest" [] []]) (.ok .non (h ++ [.ins "Forest" ["fields", "parents", "kinds"] [.int ps.length, .tup (encP ps), .tup (encK ks)]])) = .ok .non (h ++ [.ins "Forest" ["fields", "parents", "kinds"] [.int ps.length, .tup (encP ps), .tup (encK ks)]]) := by
    have hp : pre (h ++ [AO.ins "Forest" [] []]).length (h ++ [.ins "Forest" [] []]) (h ++ [.ins "Forest" ["fields", "parents", "kinds"] [.int ps.length, .tup (encP ps), .tup (encK ks)]]) = true := by
      have := pre_set (h := h ++ [.ins "Forest" [] []]) (l := h.length) (o := .ins "Forest" ["fields", "parents", "kinds"] [.int ps.length, .tup (encP ps), .tup (encK ks)]) (by simp [cloO])
      rw [set_new (Nat.le_refl _)] at this
      simpa using this
    have := trim_val (h := h ++ [.ins "Forest" [] []]) (h1 := h ++ [.ins "Forest" ["fields", "parents", "kinds"] [.int ps.length, .tup (encP ps), .tup (encK ks)]]) (L := []) (d := .non) (by simp) hp (by simp) rfl
    simpa using this
  simp [b_Forest_init, envOf, shape_a (s _) (t _) g, (s _).len, (s _).tup, (t _).tup, st, putN, putV, ht]
theorem make_a {P Q : D} {ps : Par} {ks : List Kd} {h : AH} (s : ∀ o, SeqA (h ++ [o]) P (encP ps)) (t : ∀ o, SeqA (h ++ [o]) Q (encK ks)) (g : Good ps ks) : mkI "Forest" true F_Forest_init [P, Q] h = .ok (fo ps ks) h := by
  unfold mkI mkIR
  rw [if_pos rfl, Forest_init_a s t g]
  exact frz_ins (by simp)
/-! ### turned, mirrored -/
def sw (a b k : Kd) : Kd := if k = a then b else if k = b then a else k
theorem kd_map (f : Kd → Kd) (ks : List Kd) {i : Nat} (hi : i < ks.length) : kd (ks.map f) i = f (kd ks i) := by
  unfold kd
  rw [List.getD_eq_getElem?_getD, List.getD_eq_getElem?_getD, List.getElem?_map, List.getElem?_eq_getElem hi]; rfl
theorem Good.map {ps : Par} {ks : List Kd} (g : Good ps ks) (f : Kd → Kd) (hf : ∀ k, (f k).end_ = true → k.end_ = true) : Good ps (ks.map f) :=
  ⟨by simp [g.len], g.pos, g.le, g.acy, fun i hi he => g.leaf i hi (hf _ (by rwa [kd_map f ks (by rw [g.len]; exact hi)] at he))⟩
def unK (d : D) : Kd := if d = eK .up then .up else if d = eK .down then .down else if d = eK .first then .first else .last
@[simp] theorem unK_eK (k : Kd) : unK (eK k) = k := by cases k <;> decide
end Sm
end

section
set_option linter.all false
set_option maxRecDepth 10000
/-! Ra: ways to the parents: which never end; what is wrong with parents and kinds. -/
namespace Sm
def itr (ps : Par) : Nat → Option Nat → Option Nat
  | 0, x => x
  | k + 1, x => (itr ps k x).bind (par ps)
theorem itr_s (ps : Par) : ∀ (k : Nat) (x : Option Nat), itr ps (k + 1) x = itr ps k (x.bind (par ps))
  | 0, _ => rfl
  | k + 1, x => by
    show (itr ps (k + 1) x).bind (par ps) = (itr ps k (x.bind (par ps))).bind (par ps)
    rw [itr_s ps k x]
theorem itr_none (ps : Par) : ∀ k, itr ps k none = none
  | 0 => rfl
  | k + 1 => by rw [itr, itr_none ps k]; rfl
theorem itr_add (ps : Par) (i : Nat) (x : Option Nat) : ∀ k, itr ps (i + k) x = itr ps k (itr ps i x)
  | 0 => rfl
  | k + 1 => by
    show (itr ps (i + k) x).bind (par ps) = (itr ps k (itr ps i x)).bind (par ps)
    rw [itr_add ps i x k]
def InR (ps : Par) : Prop := ∀ i p : Nat, ps[i]? = some (some p) → p < ps.length
theorem InR.par {ps : Par} (r : InR ps) {f p : Nat} (h : par ps f = some p) : p < ps.length := by
  unfold Sm.par at h
  cases e : ps[f]? with
  | none => rw [e] at h; cases h
  | some q => rw [e] at h; simp at h; subst h; exact r f p e
theorem InR.itr {ps : Par} (r : InR ps) {f : Nat} (hf : f < ps.length) : ∀ (k p : Nat), itr ps k (some f) = some p → p < ps.length
  | 0, p, h => by cases h; exact hf
  | k + 1, p, h => by
    have h : (Sm.itr ps k (some f)).bind (Sm.par ps) = some p := h
    cases e : Sm.itr ps k (some f) with
    | none => rw [e] at h; cases h
    | some q => rw [e] at h; exact r.par h
theorem pig : ∀ (n : Nat) (l : List Nat), l.Nodup → (∀ x ∈ l, x < n) → l.length ≤ n
  | 0, l, _, h => by
    cases l with
    | nil => simp
    | cons a l => exact absurd (h a (by simp)) (by omega)
  | n + 1, l, nd, h => by
    by_cases c : n ∈ l
    · have := pig n (l.erase n) (nd.erase n) fun x hx => by
        have h1 := h x (List.mem_of_mem_erase hx)
        have h2 : x ≠ n := fun e => by rw [e] at hx; exact (List.Nodup.not_mem_erase nd) hx
        omega
      rw [List.length_erase_of_mem c] at this
      omega
    · have := pig n l nd fun x hx => by
        have h1 := h x hx
        have h2 : x ≠ n := fun e => by rw [e] at hx; exact c hx
        omega
      omega
/-- a way that has not ended after n steps never ends -/
theorem itr_pig {ps : Par} (r : InR ps) {f : Nat} (hf : f < ps.length) (h : itr ps (ps.length + 1) (some f) = none) : itr ps ps.length (some f) = none := by
  cases e : itr ps ps.length (some f) with
  | none => rfl
  | some z =>
    exfalso
    have all : ∀ i ≤ ps.length, ∃ p, itr ps i (some f) = some p := fun i hi => by
      cases q : itr ps i (some f) with
      | some p => exact ⟨p, rfl⟩
      | none =>
        have := itr_add ps i (some f) (ps.length - i)
        rw [show i + (ps.length - i) = ps.length by omega, q, itr_none, e] at this
        cases this
    have nd : ((List.range (ps.length + 1)).map fun i => (itr ps i (some f)).getD 0).Nodup := by
      unfold List.Nodup
      rw [List.pairwise_map]
      refine List.Pairwise.imp_of_mem ?_ (List.pairwise_lt_range (n := ps.length + 1))
      intro i j hi hj hij hE
      rw [List.mem_range] at hi hj
      obtain ⟨p, hp⟩ := all i (by omega)
      obtain ⟨q, hq⟩ := all j (by omega)
      rw [hp, hq] at hE
      simp at hE
      subst hE
      have a1 := itr_add ps i (some f) (ps.length + 1 - j)
      have a2 := itr_add ps j (some f) (ps.length + 1 - j)
      rw [hp] at a1
      rw [hq, show j + (ps.length + 1 - j) = ps.length + 1 by omega, h] at a2
      obtain ⟨u, hu⟩ := all (i + (ps.length + 1 - j)) (by omega)
      rw [hu, ← a2] at a1
      cases a1
    have := pig ps.length _ nd fun x hx => by
      obtain ⟨i, hi, rfl⟩ := List.mem_map.mp hx
      rw [List.mem_range] at hi
      obtain ⟨p, hp⟩ := all i (by omega)
      rw [hp]
      exact r.itr hf i p hp
    rw [List.length_map, List.length_range] at this
    omega
theorem itr_up {ps : Par} (r : InR ps) {f : Nat} (hf : f < ps.length) : (itr ps (ps.length + 1) (some f)).isSome = (itr ps ps.length (some f)).isSome := by
  cases e : itr ps (ps.length + 1) (some f) with
  | none => rw [itr_pig r hf e]
  | some p =>
    cases q : itr ps ps.length (some f) with
    | some _ => rfl
    | none =>
      have : (itr ps ps.length (some f)).bind (par ps) = some p := e
      rw [q] at this; cases this
def dep (ps : Par) : Nat → Nat → Nat
  | 0, _ => 0
  | k + 1, f => match par ps f with
    | none => 0
    | some p => dep ps k p + 1
theorem dep_lt (ps : Par) : ∀ (k f : Nat), itr ps k (some f) = none → dep ps k f < k
  | 0, f, h => by cases h
  | k + 1, f, h => by
    rw [itr_s] at h
    unfold dep
    cases e : par ps f with
    | none => simp
    | some p =>
      have h : itr ps k ((some f).bind (par ps)) = none := h
      rw [Option.bind_some, e] at h
      have := dep_lt ps k p h
      dsimp only
      omega
theorem dep_st (ps : Par) : ∀ (k f m : Nat), itr ps k (some f) = none → k ≤ m → dep ps m f = dep ps k f
  | 0, f, m, h, _ => by cases h
  | k + 1, f, m, h, hm => by
    obtain ⟨m, rfl⟩ : ∃ j, m = j + 1 := ⟨m - 1, by omega⟩
    rw [itr_s] at h
    unfold dep
    cases e : par ps f with
    | none => rfl
    | some p =>
      have h : itr ps k ((some f).bind (par ps)) = none := h
      rw [Option.bind_some, e] at h
      dsimp only
      rw [dep_st ps k p m h (by omega)]
theorem acy_of {ps : Par} (r : InR ps) (h : ∀ f < ps.length, itr ps ps.length (some f) = none) : Acy ps := ⟨dep ps ps.length, fun i hi => dep_lt ps _ i (h i hi), fun i p e => by
  have hp := r i p e
  have hi : i < ps.length := (List.getElem?_eq_some_iff.mp e).1
  refine ⟨hp, ?_⟩
  have pi : par ps i = some p := by unfold par; rw [e]; rfl
  have h1 := h i hi
  obtain ⟨n, hn⟩ : ∃ n, ps.length = n + 1 := ⟨ps.length - 1, by omega⟩
  rw [hn] at h1 ⊢
  have e1 : dep ps (n + 1) i = dep ps n p + 1 := by rw [dep, pi]
  rw [itr_s, Option.bind_some, pi] at h1
  rw [e1, dep_st ps n p (n + 1) h1 (by omega)]
  omega⟩
theorem acy_itr {ps : Par} (a : Acy ps) {f : Nat} (hf : f < ps.length) : itr ps ps.length (some f) = none := by
  obtain ⟨rk, h1, h2⟩ := a.rank
  have key : ∀ (k f : Nat), f < ps.length → rk f < k → itr ps k (some f) = none := by
    intro k
    induction k with
    | zero => intro f _ h; omega
    | succ k ih =>
      intro f hf hk
      rw [itr_s, Option.bind_some]
      cases e : par ps f with
      | none => exact itr_none ps k
      | some p =>
        obtain ⟨p1, p2⟩ := h2 f p hf e
        exact ih p p1 (by omega)
  exact key _ f hf (h1 f hf)
theorem Acy.inR {ps : Par} (a : Acy ps) : InR ps := fun i p e => by
  obtain ⟨_, _, h⟩ := a.ex
  exact (h i p e).1
/-! ### what is wrong -/
def encOI : Option Int → D
  | none => .non
  | some i => .int i
@[simp] theorem clo_encOI (n : Nat) (o : Option Int) : clo n (encOI o) = true := by cases o <;> rfl
def okE (n : Nat) : Option Int → Bool
  | none => true
  | some i => decide (0 ≤ i) && decide (i < n)
def xat (X : List (Option Int)) (f : Nat) : Option Int := X.getD f none
def toP (X : List (Option Int)) : Par := X.map (Option.map Int.toNat)
def flt1 (X : List (Option Int)) : Option Nat := (List.range X.length).find? fun f => !okE X.length (xat X f)
def flt2 (ps : Par) : Option Nat := (List.range ps.length).find? fun f => (itr ps ps.length (some f)).isSome
def flt3 (ps : Par) (ks : List Kd) : Option Nat := (List.range ps.length).find? fun f => (kd ks f).end_ && decide (some f ∈ ps)
def flt (X : List (Option Int)) (ks : List Kd) : Option (Option Nat) :=
  if X.length ≠ ks.length ∨ X.length = 0 ∨ 16 < X.length then some none else
  match flt1 X with
  | some f => some (some f)
  | none => match flt2 (toP X) with
    | some f => some (some f)
    | none => match flt3 (toP X) ks with
      | some f => some (some f)
      | none => none
theorem xat_get {X : List (Option Int)} {f : Nat} (hf : f < X.length) : X[f]? = some (xat X f) := by
  unfold xat
  rw [List.getElem?_eq_getElem hf, List.getD_eq_getElem?_getD, List.getElem?_eq_getElem hf]; rfl
@[simp] theorem toP_len (X : List (Option Int)) : (toP X).length = X.length := by simp [toP]
theorem inR_of {X : List (Option Int)} (h : flt1 X = none) : X.map encOI = encP (toP X) ∧ InR (toP X) := by
  have all : ∀ f < X.length, okE X.length (xat X f) = true := fun f hf => by
    have := List.find?_eq_none.mp h f (List.mem_range.mpr hf)
    simpa using this
  refine ⟨?_, fun i p e => ?_⟩
  · unfold toP encP
    rw [List.map_map]
    apply List.map_congr_left
    intro x hx
    obtain ⟨i, hi, rfl⟩ := List.mem_iff_getElem.mp hx
    have := all i hi
    have e : X[i] = xat X i := by
      have := xat_get hi
      rw [List.getElem?_eq_getElem hi] at this
      exact Option.some.inj this
    rw [e]
    cases q : xat X i with
    | none => rfl
    | some v =>
      rw [q] at this
      simp [okE] at this
      show D.int v = D.int ((v.toNat : Nat) : Int)
      rw [Int.toNat_of_nonneg this.1]
  · unfold toP at e
    rw [List.getElem?_map] at e
    have hi : i < X.length := by
      cases q : X[i]? with
      | none => rw [q] at e; cases e
      | some _ => exact (List.getElem?_eq_some_iff.mp q).1
    have := all i hi
    rw [xat_get hi] at e
    cases q : xat X i with
    | none => rw [q] at e; cases e
    | some v =>
      rw [q] at e this
      simp [okE] at e this
      rw [toP_len]
      omega
theorem good_of {X : List (Option Int)} {ks : List Kd} (h : flt X ks = none) : X.map encOI = encP (toP X) ∧ Good (toP X) ks := by
  unfold flt at h
  by_cases c : X.length ≠ ks.length ∨ X.length = 0 ∨ 16 < X.length
  · rw [if_pos c] at h; cases h
  rw [if_neg c] at h
  cases h1 : flt1 X with
  | some f => rw [h1] at h; cases h
  | none =>
    rw [h1] at h
    cases h2 : flt2 (toP X) with
    | some f => rw [h2] at h; cases h
    | none =>
      rw [h2] at h
      cases h3 : flt3 (toP X) ks with
      | some f => rw [h3] at h; cases h
      | none =>
        obtain ⟨e, r⟩ := inR_of h1
        have a : Acy (toP X) := acy_of r fun f hf => by
          have := List.find?_eq_none.mp h2 f (List.mem_range.mpr hf)
          simpa using this
        refine ⟨e, ⟨by simp; omega, by simp; omega, by simp; omega, a, fun f hf he hm => ?_⟩⟩
        have := List.find?_eq_none.mp h3 f (List.mem_range.mpr hf)
        simp [he] at this
        exact this hm
def frP (ps : Par) : List (Option Int) := ps.map (Option.map Int.ofNat)
@[simp] theorem frP_len (ps : Par) : (frP ps).length = ps.length := by simp [frP]
theorem toP_frP (ps : Par) : toP (frP ps) = ps := by
  unfold toP frP
  rw [List.map_map]
  have : ∀ x : Option Nat, (Option.map Int.toNat ∘ Option.map Int.ofNat) x = x := fun x => by cases x <;> simp
  rw [List.map_congr_left fun x _ => this x, List.map_id']
theorem frP_enc (ps : Par) : (frP ps).map encOI = encP ps := by
  unfold frP encP
  rw [List.map_map]
  apply List.map_congr_left
  intro x _
  cases x <;> rfl
theorem flt1_fr {ps : Par} (r : InR ps) : flt1 (frP ps) = none := by
  unfold flt1
  rw [List.find?_eq_none]
  intro f hf
  rw [List.mem_range, frP_len] at hf
  have e : xat (frP ps) f = (par ps f).map Int.ofNat := by
    have := xat_get (X := frP ps) (f := f) (by simpa using hf)
    unfold frP at this
    rw [List.getElem?_map, par_get hf] at this
    exact (Option.some.inj this).symm
  rw [e]
  cases q : par ps f with
  | none => simp [okE]
  | some p =>
    have := r.par q
    simp [okE]
    omega
theorem flt_good {ps : Par} {ks : List Kd} (g : Good ps ks) : flt (frP ps) ks = none := by
  have h1 := flt1_fr g.acy.inR
  have h2 : flt2 ps = none := List.find?_eq_none.mpr fun f hf => by
    rw [List.mem_range] at hf
    rw [acy_itr g.acy hf]; simp
  have h3 : flt3 ps ks = none := List.find?_eq_none.mpr fun f hf => by
    rw [List.mem_range] at hf
    cases q : (kd ks f).end_ with
    | false => simp
    | true => simp [g.leaf f hf q]
  unfold flt
  rw [if_neg (by have := g.len; have := g.pos; have := g.le; rw [frP_len]; omega), h1, toP_frP, h2, h3]
end Sm
end

section
set_option linter.all false
set_option maxRecDepth 10000
/-! Pw2: loops over a list object. -/
namespace Sm
theorem live_w {g : AG} {b : AS} {l : Nat} {xs : List D} {e : Env} {h : AH} {Q : Fl → AH → Prop} (I : Nat → Env → AH → Prop) (hb : xs.length ≤ big) (hx : ∀ i e h, I i e h → getL h l = some xs) (h0 : I 0 e h)
    (step : ∀ i x e h, xs[i]? = some x → I i e h → wp ((g x e h).bind b) (after I i Q)) (fin : ∀ e h, I xs.length e h → Q (.nx e) h) : wp (forN g b (.live l) (Src.live l).fuel 0 e h) Q := by
  have main : ∀ n i e h, i ≤ xs.length → xs.length - i < n → I i e h → wp (forN g b (.live l) n i e h) Q := by
    intro n
    induction n with
    | zero => intro i e h _ hn; omega
    | succ n ih =>
      intro i e h hi hn hp
      have gl := hx i e h hp
      have nx : nxt (.live l) i h = some xs[i]? := by
        unfold getL at gl
        split at gl
        · rename_i ys e2; cases gl
          show (match h[l]? with
            | some (.lst xs) => some xs[i]?
            | _ => none) = _
          rw [e2]
        · cases gl
      show wp (match nxt (.live l) i h with
        | none => .no
        | some none => .ok (.nx e) h
        | some (some x) => (g x e h).bind fun e1 h1 => (b e1 h1).bind fun f h2 => turn f h2 (forN g b (.live l) n (i + 1))) Q
      rw [nx]
      cases hxi : xs[i]? with
      | none =>
        have : i = xs.length := by have := List.getElem?_eq_none_iff.mp hxi; omega
        subst this
        exact fin e h hp
      | some x =>
        have hil := (List.getElem?_eq_some_iff.mp hxi).1
        have s := step i x e h hxi hp
        dsimp only
        cases hg : g x e h with
        | no => rw [hg] at s; exact s.elim
        | exc y h => rw [hg] at s; exact s.elim
        | ok e1 h1 =>
          rw [hg, bind_ok] at s
          show wp ((b e1 h1).bind fun f h2 => turn f h2 _) Q
          refine wp_bind (wp_mono s fun f h2 q => ?_)
          cases f with
          | nx e2 => exact ih (i + 1) e2 h2 hil (by omega) q
          | ct e2 => exact ih (i + 1) e2 h2 hil (by omega) q
          | bk e2 => exact q
          | rt d => exact q
          | ex y e2 => exact q
  exact main _ 0 e h (Nat.zero_le _) (by show xs.length - 0 < big + 2; omega) h0
theorem kIS_loc {h : AH} {l : Nat} {xs : List D} (e : getL h l = some xs) : kIS (.loc l) h = .ok (.live l) h := by
  unfold getL at e
  split at e
  · rename_i ys e2
    show (match h[l]? with
      | some (.lst _) => R.ok (Src.live l) h
      | _ => R.no) = _
    first | rw [e2] | rfl
  · cases e
@[simp] theorem listF_lst (xs : List D) (h : AH) : listD false (.lst xs) h = .ok (.loc h.length) (h ++ [.lst xs]) := rfl
@[simp] theorem listF_tup (xs : List D) (h : AH) : listD false (.tup xs) h = .ok (.loc h.length) (h ++ [.lst xs]) := rfl
end Sm
end

section
set_option linter.all false
set_option maxRecDepth 10000
/-! Fr: defs that may raise; records over forests. -/
namespace Sm
def endX (h : AH) (r : R D) : Fl → AH → Prop := fun f h1 => match f with
  | .rt d => trim h (.ok d h1) = r
  | .nx _ => trim h (.ok .non h1) = r
  | .ex x _ => trim h (.exc x h1) = r
  | _ => False
section
variable {h h1 : AH} {r : R D} {d : D} {e : Env} {x : Ex}
@[simp] theorem endX_rt : endX h r (.rt d) h1 = (trim h (.ok d h1) = r) := rfl
@[simp] theorem endX_nx : endX h r (.nx e) h1 = (trim h (.ok .non h1) = r) := rfl
@[simp] theorem endX_ex : endX h r (.ex x e) h1 = (trim h (.exc x h1) = r) := rfl
theorem fnT_x {p n : Nat} {b : AS} {ds : List D} (hl : ds.length = p) (hb : wp (b (envOf n ds) h) (endX h r)) : fnT p n b ds h = r := by
  unfold fnT
  rw [decide_eq_true hl]
  show trim h (fnR (b (envOf n ds) h)) = r
  obtain ⟨f, h2, e, q⟩ := wp_iff.mp hb
  rw [e]
  cases f with
  | rt d => exact q
  | nx e => exact q
  | bk _ => exact q.elim
  | ct _ => exact q.elim
  | ex _ _ => exact q
theorem trim_exc (hc : clos h.length x.ds = true) : trim h (.exc x h) = .exc x h := by
  unfold trim
  dsimp only
  rw [hc, pre_refl]
  simp
@[simp] theorem after_ex {I : Nat → Env → AH → Prop} {i : Nat} {Q : Fl → AH → Prop} : after I i Q (.ex x e) h = Q (.ex x e) h := rfl
def kRaise (c : String) (ns : List String) (e : Env) : List D → AH → R Fl := fun ds h1 => R.chk (decide (ds.length = ns.length ∧ ds.length < 1000)) (.ok (.ex ⟨c, ns.reverse, ds.reverse⟩ e) h1)
@[simp] theorem kRaise_def (c : String) (ns : List String) (ds : List D) : kRaise c ns e ds h = R.chk (decide (ds.length = ns.length ∧ ds.length < 1000)) (.ok (.ex ⟨c, ns.reverse, ds.reverse⟩ e) h) := rfl
@[simp] theorem sRaise_def (c : String) (ns : List String) (as : AA) : sRaise c ns as e h = up e (as e h) (kRaise c ns e) := rfl
@[simp] theorem sTryAs_def (tbl : List (String × Bool)) (i : Nat) (b : AS) (su : Ex → AS) : sTryAs tbl i b su e h = (b e h).bind (tryK tbl i su) := rfl
@[simp] theorem tryK_nx (tbl : List (String × Bool)) (i : Nat) (su : Ex → AS) : tryK tbl i su (.nx e) h = .ok (.nx e) h := rfl
@[simp] theorem tryK_rt (tbl : List (String × Bool)) (i : Nat) (su : Ex → AS) : tryK tbl i su (.rt d) h = .ok (.rt d) h := rfl
theorem tryK_ex {tbl : List (String × Bool)} {i : Nat} {su : Ex → AS} (hl : lookB x.cls tbl = some true) (hi : i < e.length) : tryK tbl i su (.ex x e) h = (su x (e.set i none) h).bind (suK i) := by
  unfold tryK
  dsimp only
  rw [hl, decide_eq_true hi]; rfl
@[simp] theorem suK_nx (i : Nat) : suK i (.nx e) h = .ok (.nx (e.set i none)) h := rfl
@[simp] theorem suK_rt (i : Nat) : suK i (.rt d) h = .ok (.rt d) h := rfl
@[simp] theorem eXis_def (tbl : List (String × Bool)) : eXis x tbl e h = R.of ((lookB x.cls tbl).map .bl) h := rfl
@[simp] theorem eXf_def (cs : List String) (n : String) : eXf cs x n e h = R.chk (cs.contains x.cls) (R.of (look1 n x.ns x.ds) h) := rfl
end
/-! ### the first one of which .. -/
def hitQ (Q : Fl → AH → Prop) : Fl → AH → Prop := fun f h => match f with
  | .rt d => Q (.rt d) h
  | .ex x e => Q (.ex x e) h
  | _ => False
def missQ (I : Env → Prop) (h : AH) : Fl → AH → Prop := fun f k => match f with
  | .nx e => I e ∧ k = h
  | .ct e => I e ∧ k = h
  | _ => False
section
variable {Q : Fl → AH → Prop} {I : Env → Prop} {h k : AH} {e : Env} {d : D} {x : Ex}
@[simp] theorem hitQ_rt : hitQ Q (.rt d) h = Q (.rt d) h := rfl
@[simp] theorem hitQ_ex : hitQ Q (.ex x e) h = Q (.ex x e) h := rfl
@[simp] theorem missQ_nx : missQ I h (.nx e) k = (I e ∧ k = h) := rfl
@[simp] theorem missQ_ct : missQ I h (.ct e) k = (I e ∧ k = h) := rfl
theorem find_drop {α : Type} {ys : List α} {p : α → Bool} {i : Nat} {y : α} (hy : ys[i]? = some y) (hi : (ys.drop i).find? p = ys.find? p) : (p y = true → ys.find? p = some y) ∧ (p y = false → (ys.drop (i + 1)).find? p = ys.find? p) := by
  obtain ⟨hl, e⟩ := List.getElem?_eq_some_iff.mp hy
  have : ys.drop i = y :: ys.drop (i + 1) := by rw [← e, List.getElem_cons_drop hl]
  rw [this] at hi
  constructor
  · intro hp; rw [← hi]; simp [hp]
  · intro hp; rw [← hi]; simp [hp]
theorem first_w {α : Type} {b : AS} {v : Nat} {ys : List α} {enc : α → D} (p : α → Bool) (I : Env → Prop) (h0 : I e)
    (miss : ∀ y ∈ ys, ∀ e, I e → p y = false → wp (b (e.set v (some (enc y))) h) (missQ I h))
    (hit : ∀ y ∈ ys, ∀ e, I e → p y = true → ys.find? p = some y → wp (b (e.set v (some (enc y))) h) (hitQ Q))
    (fin : ∀ e, I e → ys.find? p = none → Q (.nx e) h) : wp (forN (gV v) b (.lst (ys.map enc)) (Src.lst (ys.map enc)).fuel 0 e h) Q := by
  refine for_w (I := fun i e k => I e ∧ k = h ∧ (ys.drop i).find? p = ys.find? p) ⟨h0, rfl, by simp⟩ ?_ ?_
  · rintro i z e k hz ⟨hI, rfl, hf⟩
    rw [List.getElem?_map] at hz
    cases hy : ys[i]? with
    | none => rw [hy] at hz; cases hz
    | some y =>
      rw [hy] at hz
      cases hz
      have hm := List.mem_of_getElem? hy
      obtain ⟨f1, f2⟩ := find_drop hy hf
      rw [gV_def, bind_ok]
      cases hp : p y with
      | false =>
        refine wp_mono (miss y hm e hI hp) fun f k q => ?_
        cases f with
        | nx e2 => exact ⟨q.1, q.2, f2 hp⟩
        | ct e2 => exact ⟨q.1, q.2, f2 hp⟩
        | rt d => exact q.elim
        | bk e2 => exact q.elim
        | ex x e2 => exact q.elim
      | true =>
        refine wp_mono (hit y hm e hI hp (f1 hp)) fun f k q => ?_
        cases f with
        | nx e2 => exact q.elim
        | ct e2 => exact q.elim
        | rt d => exact q
        | bk e2 => exact q.elim
        | ex x e2 => exact q
  · rintro e k ⟨hI, rfl, hf⟩
    refine fin e hI ?_
    rw [← hf]; simp
theorem rng_eN (n : Nat) : rng 0 n = (List.range n).map eN := by simp [rng]
end
/-! ### records and letters -/
def oI : Option Int → D
  | none => .non
  | some i => .int i
@[simp] theorem oI_none : oI none = .non := rfl
@[simp] theorem oI_some (i : Int) : oI (some i) = .int i := rfl
abbrev Let := List (Option Int)
def lett (l : Let) : List D := l.map oI
@[simp] theorem lett_len (l : Let) : (lett l).length = l.length := by simp [lett]
@[simp] theorem clo_oI (n : Nat) (o : Option Int) : clo n (oI o) = true := by cases o <;> rfl
@[simp] theorem clos_lett (n : Nat) (l : Let) : clos n (lett l) = true := by rw [clos_all]; simp [lett]
@[simp] theorem nb_oI (o : Option Int) : nb (oI o) = true := by cases o <;> simp
@[simp] theorem dp_oI (o : Option Int) : dp (oI o) = 0 := by cases o <;> simp
@[simp] theorem oI_inj (a b : Option Int) : oI a = oI b ↔ a = b := by cases a <;> cases b <;> simp
@[simp] theorem isNon_oI (o : Option Int) (h : AH) : isNonD (oI o) h = .ok (.bl o.isNone) h := by cases o <;> rfl
@[simp] theorem notNon_oI (o : Option Int) (h : AH) : notNonD (oI o) h = .ok (.bl o.isSome) h := by cases o <;> rfl
@[simp] theorem ne_oI (a b : Option Int) (h : AH) : neD (oI a) (oI b) h = .ok (.bl (!decide (a = b))) h := by
  rw [ne_nb (by simp) (by simp) (by simp) (by simp)]; simp
def val (l : Let) (p : Nat) : Option Int := (l[p]?).join
abbrev rec (r : List Int) : Let := r.map some
/-! ### first_unlike_on -/
def fu (path : List Nat) (a b : Let) : Option Nat := path.find? fun p => !decide (val a p = val b p)
end Sm
end

section
set_option linter.all false
set_option maxRecDepth 10000
/-! Fr2: receive. -/
namespace Sm
@[simp] theorem notNon_int (i : Int) (h : AH) : notNonD (.int i) h = .ok (.bl true) h := rfl
@[simp] theorem notNon_non (h : AH) : notNonD .non h = .ok (.bl false) h := rfl
@[simp] theorem isNon_int (i : Int) (h : AH) : isNonD (.int i) h = .ok (.bl false) h := rfl
@[simp] theorem isNon_non (h : AH) : isNonD .non h = .ok (.bl true) h := rfl
def bet (k : Kd) (a b : Int) : Bool := match k with
  | .up => decide (b < a)
  | .down => decide (a < b)
  | _ => false
def iv (l : Let) (p : Nat) : Int := (val l p).getD 0
def winsB (ps : Par) (ks : List Kd) (f : Nat) (a b : Let) : Bool := match fu (path ps f) a b with
  | none => false
  | some p => bet (kd ks p) (iv a p) (iv b p)
theorem fu_mem {path : List Nat} {a b : Let} {p : Nat} (h : fu path a b = some p) : p ∈ path := List.mem_of_find?_eq_some h
section
variable {ps : Par} {ks : List Kd} (g : Good ps ks) {h : AH} {f : Nat} (hf : f < ps.length) {a b : Let} (la : a.length = ps.length) (lb : b.length = ps.length)
include g hf la lb
end
/-! ### the checks -/
def lowEnd (ks : List Kd) : Option Nat := (List.range ks.length).find? fun f => (kd ks f).end_
def opens (ps : Par) (l : Let) (f : Nat) : Bool := (val l f).isSome && match par ps f with
  | none => false
  | some p => (val l p).isNone
def lowOpen (ps : Par) (l : Let) : Option Nat := (List.range ps.length).find? (opens ps l)
end Sm
end

section
set_option linter.all false
set_option maxRecDepth 10000
/-! Fr3: receive, whole. -/
namespace Sm
inductive Due where
  | fair (f : Nat) | rc (xs : List D) | op (f : Nat)
def exD : Due → Ex
  | .fair f => ⟨"NotFair", ["field"], [.int f]⟩
  | .rc xs => ⟨"BadRecord", ["record"], [.tup xs]⟩
  | .op f => ⟨"BadLetter", ["field"], [.int f]⟩
def due (ps : Par) (ks : List Kd) (hd : List Int) (lt : Let) : Option Due := match lowEnd ks with
  | some f => some (.fair f)
  | none => if hd.length = ps.length then if lt.length = ps.length then (lowOpen ps lt).map .op else some (.rc (lett lt)) else some (.rc (hd.map .int))
theorem val_rec {r : List Int} {p : Nat} (h : p < r.length) : val (rec r) p = some r[p] := by
  unfold val rec
  rw [List.getElem?_map, List.getElem?_eq_getElem h]; rfl
theorem iv_rec {r : List Int} {p : Nat} (h : p < r.length) : iv (rec r) p = r[p] := by unfold iv; rw [val_rec h]; rfl
def recF (ps : Par) (ks : List Kd) (hd : List Int) (lt : Let) (f : Nat) : Int := match val lt f with
  | some v => if winsB ps ks f lt (rec hd) then v else iv (rec hd) f
  | none => iv (rec hd) f
def recv (ps : Par) (ks : List Kd) (hd : List Int) (lt : Let) : List Int := (List.range ps.length).map (recF ps ks hd lt)
@[simp] theorem recv_len (ps : Par) (ks : List Kd) (hd : List Int) (lt : Let) : (recv ps ks hd lt).length = ps.length := by simp [recv]
def mid (ps : Par) (ks : List Kd) (hd : List Int) (lt : Let) (i : Nat) : List Int := (List.range ps.length).map fun j => if j < i then recF ps ks hd lt j else iv (rec hd) j
@[simp] theorem mid_len (ps : Par) (ks : List Kd) (hd : List Int) (lt : Let) (i : Nat) : (mid ps ks hd lt i).length = ps.length := by simp [mid]
end Sm
end

section
set_option linter.all false
set_option maxRecDepth 10000
/-! Fr4: the law k19's own questions. -/
namespace Sm
def encDue : Due → D
  | .fair f => .tup [.str [78, 111, 116, 70, 97, 105, 114], .int f]
  | .rc xs => .tup [.str [66, 97, 100, 82, 101, 99, 111, 114, 100], .tup xs]
  | .op f => .tup [.str [66, 97, 100, 76, 101, 116, 116, 101, 114], .int f]
def lenT : D → Nat
  | .tup xs => xs.length
  | _ => 0
/-! ### _law_ask -/
def askD (ps : Par) (ks : List Kd) (hd : List Int) (lt : Let) : D := match due ps ks hd lt with
  | none => .lst [.tup ((recv ps ks hd lt).map .int)]
  | some d => .tup [encDue d]
end Sm
end

section
set_option linter.all false
set_option maxRecDepth 10000
/-! Fr5: the law k19's own questions, to _law_holds. -/
namespace Sm
/-! ### sides -/
def sideV (ps : Par) (ks : List Kd) (f : Nat) (a b : Let) : Int := match fu (path ps f) a b with
  | none => 0
  | some p => match kd ks p with
    | .first => 0
    | .last => 1
    | .up => if iv b p < iv a p then 0 else 1
    | .down => if iv b p < iv a p then 1 else 0
end Sm
end

section
set_option linter.all false
set_option maxRecDepth 10000
/-! Fr6: receiving twice; _law_holds. -/
namespace Sm
theorem path_split {ps : Par} (a : Acy ps) {f : Nat} (hf : f < ps.length) : ∀ q ∈ path ps f, ∃ t, path ps f = path ps q ++ t := by
  obtain ⟨rk, h1, h2⟩ := a.rank
  have key : ∀ (k f : Nat), f < ps.length → rk f < k → ∀ q ∈ path ps f, ∃ t, path ps f = path ps q ++ t := by
    intro k
    induction k with
    | zero => intro f _ h; omega
    | succ k ih =>
      intro f hf hk q hq
      cases hp : par ps f with
      | none =>
        rw [path_none a hf hp] at hq
        simp at hq
        subst hq
        exact ⟨[], by simp⟩
      | some p =>
        obtain ⟨p1, p2⟩ := h2 f p hf hp
        have hq2 := hq
        rw [path_some a hf hp] at hq2
        rcases List.mem_append.mp hq2 with hq2 | hq2
        · obtain ⟨t, ht⟩ := ih p p1 (by omega) q hq2
          exact ⟨t ++ [f], by rw [path_some a hf hp, ht, List.append_assoc]⟩
        · simp at hq2
          subst hq2
          exact ⟨[], by simp⟩
  exact key _ f hf (Nat.lt_succ_self _)
theorem fu_app {t u : List Nat} {a b : Let} : fu (t ++ u) a b = match fu t a b with
    | some p => some p
    | none => fu u a b := by
  unfold fu
  rw [List.find?_append]
  cases t.find? _ <;> rfl
theorem fu_prefix {path : List Nat} {a b : Let} {p : Nat} (e : fu path a b = some p) : ∃ t u, path = t ++ p :: u ∧ (∀ q ∈ t, val a q = val b q) ∧ val a p ≠ val b p := by
  unfold fu at e
  obtain ⟨h1, t, u, h2, h3⟩ := List.find?_eq_some_iff_append.mp e
  exact ⟨t, u, h2, fun q hq => by simpa using h3 q hq, by simpa using h1⟩
theorem fu_none {path : List Nat} {a b : Let} (e : fu path a b = none) : ∀ q ∈ path, val a q = val b q := fun q hq => by
  have := List.find?_eq_none.mp e q hq
  simpa using this
theorem fu_none_of {path : List Nat} {a b : Let} (e : ∀ q ∈ path, val a q = val b q) : fu path a b = none := List.find?_eq_none.mpr fun q hq => by simpa using e q hq
section
variable {ps : Par} {ks : List Kd} {hd : List Int} {lt : Let} (g : Good ps ks) (l1 : hd.length = ps.length) (hc : lowOpen ps lt = none)
include g l1 hc
end
end Sm
end

section
set_option linter.all false
set_option maxRecDepth 10000
/-! Fr7: _law_holds of k19. -/
namespace Sm
def tk (r : List Int) (i : Nat) : List D := (r.take i).map D.int
@[simp] theorem tk_0 (r : List Int) : tk r 0 = [] := rfl
end Sm
end

section
set_option linter.all false
set_option maxRecDepth 10000
/-! Fr8: drawn values, records, letters. -/
namespace Sm
def endK (Q : D → AH → Prop) : Fl → AH → Prop := fun f h1 => match f with
  | .rt d => Q d h1
  | .nx _ => Q .non h1
  | _ => False
section
variable {Q : D → AH → Prop} {h : AH} {d : D} {e : Env}
@[simp] theorem endK_rt : endK Q (.rt d) h = Q d h := rfl
@[simp] theorem endK_nx : endK Q (.nx e) h = Q .non h := rfl
end
end Sm
end

section
set_option linter.all false
set_option maxRecDepth 10000
/-! Fr9: k19's questions. -/
namespace Sm
theorem tpn {h : AH} {o : AO} {L : AH} (t : IsTp o) : Tp (h ++ o :: L) h.length := by
  obtain ⟨c, k, rfl, hc⟩ := t
  exact ⟨c, k, by rw [get_new (Nat.le_refl _)]; simp, hc⟩
end Sm
end

section
set_option linter.all false
set_option maxRecDepth 10000
/-! Ch: what the end of a lot is (fair kinds), in plain terms. -/
namespace Sm
def rv (r : List Int) (p : Nat) : Int := iv (rec r) p
theorem rv_get {r : List Int} {p : Nat} (h : p < r.length) : rv r p = r[p] := iv_rec h
def adj (k : Kd) (v : Int) : Int := match k with
  | .down => -v
  | _ => v
structure Char (ps : Par) (ks : List Kd) (R : List (List Int)) (E : List Int) : Prop where
  len : E.length = ps.length
  a : ∀ f < ps.length, ∃ r ∈ R, ∀ p ∈ path ps f, rv r p = rv E p
  b : ∀ r ∈ R, ∀ p < ps.length, (∀ q ∈ path ps p, q ≠ p → rv r q = rv E q) → adj (kd ks p) (rv r p) ≤ adj (kd ks p) (rv E p)
/-- the rest of a path -/
theorem path_cases {ps : Par} (a : Acy ps) {f : Nat} (hf : f < ps.length) : (par ps f = none ∧ path ps f = [f]) ∨ ∃ p, p < ps.length ∧ par ps f = some p ∧ path ps f = path ps p ++ [f] := by
  cases hp : par ps f with
  | none => exact .inl ⟨rfl, path_none a hf hp⟩
  | some p => exact .inr ⟨p, par_lt a hp, rfl, path_some a hf hp⟩
theorem path_ind {ps : Par} (a : Acy ps) {C : Nat → Prop} (step : ∀ f < ps.length, (∀ p, par ps f = some p → C p) → C f) : ∀ f < ps.length, C f := by
  obtain ⟨rk, h1, h2⟩ := a.rank
  have key : ∀ (k f : Nat), f < ps.length → rk f < k → C f := by
    intro k
    induction k with
    | zero => intro f _ h; omega
    | succ k ih =>
      intro f hf hk
      exact step f hf fun p hp => by
        obtain ⟨p1, p2⟩ := h2 f p hf hp
        exact ih p p1 (by omega)
  exact fun f hf => key _ f hf (Nat.lt_succ_self _)
theorem path_nodup {ps : Par} (a : Acy ps) : ∀ f < ps.length, (path ps f).Nodup := by
  obtain ⟨rk, h1, h2⟩ := a.rank
  have up : ∀ f < ps.length, ∀ q ∈ path ps f, rk q ≤ rk f := path_ind a fun f hf ih q hq => by
    rcases path_cases a hf with ⟨_, e⟩ | ⟨p, hp, e1, e⟩
    · rw [e] at hq; simp at hq; rw [hq]; exact Nat.le_refl _
    · rw [e] at hq
      rcases List.mem_append.mp hq with hq | hq
      · have := ih p e1 q hq
        have := (h2 f p hf e1).2
        omega
      · simp at hq; rw [hq]; exact Nat.le_refl _
  refine path_ind a fun f hf ih => ?_
  rcases path_cases a hf with ⟨_, e⟩ | ⟨p, hp, e1, e⟩
  · rw [e]; simp
  · rw [e, List.nodup_append]
    refine ⟨ih p e1, by simp, fun x hx y hy => ?_⟩
    simp at hy
    subst hy
    intro z
    subst z
    have := up p hp x hx
    have := (h2 x p hf e1).2
    omega
/-- above a field -/
theorem above {ps : Par} (a : Acy ps) {f p : Nat} (hf : f < ps.length) (hp : par ps f = some p) {q : Nat} : q ∈ path ps p ↔ q ∈ path ps f ∧ q ≠ f := by
  rw [path_some a hf hp]
  have nd := path_nodup a f hf
  rw [path_some a hf hp, List.nodup_append] at nd
  constructor
  · exact fun h => ⟨List.mem_append_left _ h, nd.2.2 q h f (by simp)⟩
  · rintro ⟨h, hne⟩
    rcases List.mem_append.mp h with h | h
    · exact h
    · simp at h; exact absurd h hne
section
variable {ps : Par} {ks : List Kd} (ac : Acy ps)
include ac
theorem Char.one {r : List Int} (hr : r.length = ps.length) : Char ps ks [r] r := ⟨hr, fun f _ => ⟨r, by simp, fun _ _ => rfl⟩, fun s hs p _ _ => by simp at hs; rw [hs]; exact Int.le_refl _⟩
theorem Char.congr {R S : List (List Int)} {E : List Int} (c : Char ps ks R E) (h : ∀ r, r ∈ R ↔ r ∈ S) : Char ps ks S E := ⟨c.len, fun f hf => by obtain ⟨r, h1, h2⟩ := c.a f hf; exact ⟨r, (h r).mp h1, h2⟩, fun r hr => c.b r ((h r).mpr hr)⟩
omit ac in
theorem path_last (ac : Acy ps) {f : Nat} (hf : f < ps.length) : (path ps f).getLast? = some f := by
  rcases path_cases ac hf with ⟨_, ee⟩ | ⟨_, _, _, ee⟩ <;> rw [ee] <;> simp
/-! ### merging two -/
omit ac in
theorem fu_rv {path : List Nat} {a b : List Int} {n : Nat} (la : a.length = n) (lb : b.length = n) (pm : ∀ p ∈ path, p < n) : (fu path (rec a) (rec b) = none ↔ ∀ p ∈ path, rv a p = rv b p) ∧ ∀ p0, fu path (rec a) (rec b) = some p0 → ∃ t u, path = t ++ p0 :: u ∧ (∀ q ∈ t, rv a q = rv b q) ∧ rv a p0 ≠ rv b p0 := by
  have vv : ∀ p ∈ path, (val (rec a) p = val (rec b) p ↔ rv a p = rv b p) := fun p hp => by
    rw [val_rec (by rw [la]; exact pm p hp), val_rec (by rw [lb]; exact pm p hp), rv_get (by rw [la]; exact pm p hp), rv_get (by rw [lb]; exact pm p hp)]
    exact ⟨fun e => Option.some.inj e, fun e => by rw [e]⟩
  constructor
  · constructor
    · exact fun h p hp => (vv p hp).mp (fu_none h p hp)
    · exact fun h => fu_none_of fun p hp => (vv p hp).mpr (h p hp)
  · intro p0 h
    obtain ⟨t, u, h1, h2, h3⟩ := fu_prefix h
    refine ⟨t, u, h1, fun q hq => (vv q ?_).mp (h2 q hq), fun z => h3 ((vv p0 ?_).mpr z)⟩
    · rw [h1]; exact List.mem_append_left _ hq
    · rw [h1]; simp
def mrg (ps : Par) (ks : List Kd) (a b : List Int) : List Int := (List.range ps.length).map fun f => if sideV ps ks f (rec a) (rec b) = 0 then rv a f else rv b f
omit ac in
@[simp] theorem mrg_len (a b : List Int) : (mrg ps ks a b).length = ps.length := by simp [mrg]
variable {a b : List Int} (la : a.length = ps.length) (lb : b.length = ps.length)
include la lb
/-- above the first unlike place nothing is unlike -/
theorem before {p : Nat} (hp : p < ps.length) {p0 : Nat} (hu : fu (path ps p) (rec a) (rec b) = some p0) : ∀ q ∈ path ps p0, q ≠ p0 → rv a q = rv b q := fun q hq hne => by
  have hm := fu_mem hu
  have hp0 := path_mem ac hp p0 hm
  obtain ⟨t, ht⟩ := path_split ac hp p0 hm
  rcases path_cases ac hp0 with ⟨_, ee⟩ | ⟨pp, hpp, e1, ee⟩
  · rw [ee] at hq; simp at hq; exact absurd hq hne
  · have hq2 := (above ac hp0 e1).mpr ⟨hq, hne⟩
    have e4 : fu (path ps pp) (rec a) (rec b) = none := by
      cases hx : fu (path ps pp) (rec a) (rec b) with
      | none => rfl
      | some x =>
        have : fu (path ps p) (rec a) (rec b) = some x := by rw [ht, ee, List.append_assoc, fu_app, hx]
        rw [hu] at this
        cases this
        exact absurd rfl ((above ac hp0 e1).mp (fu_mem hx)).2
    exact (fu_rv la lb (path_mem ac hpp)).1.mp e4 q hq2
end
end Sm
end

section
set_option linter.all false
set_option maxRecDepth 10000
/-! Ch2: the sieve, and the program's end_of_row. -/
namespace Sm
def bestV (k : Kd) (p : Nat) (b : Int) : List (List Int) → Int
  | [] => b
  | r :: L => bestV k p (if bet k (rv r p) b then rv r p else b) L
def hdV (p : Nat) (L : List (List Int)) : Int := rv (L.headD []) p
def bst (k : Kd) (p : Nat) (L : List (List Int)) : Int := bestV k p (hdV p L) L
def bo (k : Kd) (p : Nat) (L : List (List Int)) : List (List Int) := L.filter fun r => decide (rv r p = bst k p L)
def sieV (ks : List Kd) (R : List (List Int)) (path : List Nat) : List (List Int) := path.foldl (fun L p => bo (kd ks p) p L) R
def sEv (ps : Par) (ks : List Kd) (R : List (List Int)) (f : Nat) : Int := hdV f (sieV ks R (path ps f))
def sEnd (ps : Par) (ks : List Kd) (R : List (List Int)) : List Int := (List.range ps.length).map (sEv ps ks R)
/-! ### the program's -/
def eR (r : List Int) : D := .tup (r.map .int)
def encL (R : List (List Int)) : List D := R.map eR
@[simp] theorem encL_len (R : List (List Int)) : (encL R).length = R.length := by simp [encL]
@[simp] theorem clo_eR (n : Nat) (r : List Int) : clo n (eR r) = true := by simp [eR]
@[simp] theorem clos_encL (n : Nat) (R : List (List Int)) : clos n (encL R) = true := by rw [clos_all]; simp [encL]
def unR : D → List Int
  | .tup xs => xs.map fun d => match d with | .int i => i | _ => 0
  | _ => []
@[simp] theorem unR_eR (r : List Int) : unR (eR r) = r := by
  show (r.map D.int).map (fun d => match d with | .int i => i | _ => 0) = r
  rw [List.map_map]
  exact List.map_id r
def svE (ks : List Kd) (R : List (List Int)) (path : List Nat) (i : Nat) : List D := encL (sieV ks R (path.take i))
end Sm
end

section
set_option linter.all false
set_option maxRecDepth 10000
/-! Ch3: bearers. -/
namespace Sm
structure SeqI (h : AH) (P : D) (xs : List D) : Prop where
  a : SeqA h P xs
  it : ∃ src, kIS P h = .ok src h ∧ (src = .lst xs ∨ ∃ l, src = .live l ∧ getL h l = some xs)
theorem SeqI.lst (xs : List D) (h : AH) : SeqI h (.lst xs) xs := ⟨(SeqD.l xs).a h, _, rfl, .inl rfl⟩
theorem SeqI.loc {h : AH} {l : Nat} {xs : List D} (e : getL h l = some xs) : SeqI h (.loc l) xs := ⟨SeqA.loc e, _, kIS_loc e, .inr ⟨l, rfl, e⟩⟩
theorem SeqA.list {h : AH} {P : D} {xs : List D} (s : SeqA h P xs) : listD true P h = .ok (.lst xs) h := by
  unfold listD; rw [s.seq]; rfl
/-! ### the checks -/
inductive BDue where
  | fair (f : Nat) | emp | rc (r : List Int) | pl (i : Int)
def exB : BDue → Ex
  | .fair f => ⟨"NotFair", ["field"], [.int f]⟩
  | .emp => ⟨"NoRecord", [], []⟩
  | .rc r => ⟨"BadRecord", ["record"], [eR r]⟩
  | .pl i => ⟨"BadPlace", ["place"], [.int i]⟩
def badRow (n : Nat) (R : List (List Int)) : Option (List Int) := R.find? fun r => !decide (r.length = n)
def rdue (n : Nat) (R : List (List Int)) : Option BDue := if R = [] then some .emp else (badRow n R).map .rc
def bdue (ks : List Kd) (R : List (List Int)) (i : Int) : Option BDue := match lowEnd ks with
  | some f => some (.fair f)
  | none => match rdue ks.length R with
    | some d => some d
    | none => if 0 ≤ i ∧ i < ks.length then none else some (.pl i)
@[simp] theorem sRaise0_def (c : String) (e : Env) (h : AH) : sRaise0 c e h = .ok (.ex ⟨c, [], []⟩ e) h := rfl
@[simp] theorem clos_exB (n : Nat) (d : BDue) : clos n (exB d).ds = true := by cases d <;> simp [exB]
theorem check_place_ok {n : Nat} (i : Int) (h : AH) : F_check_place [.int n, .int i] h = if 0 ≤ i ∧ i < n then .ok .non h else .exc (exB (.pl i)) h := by
  have t1 := trim_same (h := h) (d := .non) rfl rfl
  have t2 := trim_exc (h := h) (x := exB (.pl i)) (by simp)
  simp [exB] at t2
  refine fnT_x rfl ?_
  by_cases c1 : 0 ≤ i
  · by_cases c2 : i < n
    · simp [b_check_place, envOf, c1, c2, t1]
    · simp [b_check_place, envOf, c1, c2, t2, exB]
  · simp [b_check_place, envOf, c1, t2, exB]
/-! ### bearing -/
def ag (path : List Nat) (r E : List Int) : Bool := (fu path (rec r) (rec E)).isNone
def atR (R : List (List Int)) (i : Nat) : List Int := R.getD i []
def bearL (path : List Nat) (R : List (List Int)) (E : List Int) : List Nat := (List.range R.length).filter fun i => ag path (atR R i) E
def bears_ (ps : Par) (ks : List Kd) (R : List (List Int)) (i : Int) : List Nat := bearL (path ps i.toNat) R (sEnd ps ks R)
end Sm
end

section
set_option linter.all false
set_option maxRecDepth 10000
/-! Ch4: the laws' looks and merges. -/
namespace Sm
inductive Plain : Nat → D → Prop where
  | non (k : Nat) : Plain k .non
  | int (k : Nat) (i : Int) : Plain k (.int i)
  | str (k : Nat) (s : List Nat) : Plain k (.str s)
  | tup (k : Nat) (xs : List D) : xs.length ≤ 1000000 → (∀ x ∈ xs, Plain k x) → Plain (k + 1) (.tup xs)
  | lst (k : Nat) (xs : List D) : xs.length ≤ 1000000 → (∀ x ∈ xs, Plain k x) → Plain (k + 1) (.lst xs)
theorem same_loop {F : AF} {x y : D} {xs : List D} {h : AH} {Q : Fl → AH → Prop} (h1 : ∀ i : Int, ixD x (.int i) h = R.of (at? xs i) h) (h2 : ∀ i : Int, ixD y (.int i) h = R.of (at? xs i) h) (hF : ∀ z ∈ xs, F [z, z] h = .ok (.bl true) h) (fin : ∀ w : Option D, Q (.nx [some x, some y, w]) h) :
    wp (forN (gV 2) (sB [sIf (tNot (tV (eA F (eL [e2 ixD (eV 0) (eV 2), e2 ixD (eV 1) (eV 2)])))) (sB [sRet (eC (.bl false))]) (sB [])]) (.lst (rng 0 xs.length)) (Src.lst (rng 0 xs.length)).fuel 0 [some x, some y, none] h) Q := by
  refine for_w (I := fun i e k => (∃ w : Option D, e = [some x, some y, w]) ∧ k = h) ⟨⟨none, rfl⟩, rfl⟩ ?_ ?_
  · rintro i z e k hz ⟨⟨w, rfl⟩, rfl⟩
    obtain ⟨hil, rfl⟩ := rng_get hz
    have e1 : xs[i]? = some xs[i] := List.getElem?_eq_getElem hil
    have a1 := h1 (i : Int)
    have a2 := h2 (i : Int)
    rw [at_nat, e1] at a1 a2
    have f := hF xs[i] (List.getElem_mem hil)
    generalize xs[i] = z at a1 a2 f
    simp at a1 a2
    simp [a1, a2, f]
  · rintro e k ⟨⟨w, rfl⟩, rfl⟩
    exact fin w
end Sm
end

section
set_option linter.all false
set_option maxRecDepth 10000
/-! Ch5: merges, folds, answers. -/
namespace Sm
@[simp] theorem slT_lst (xs : List D) (lo hi : Option Int) (h : AH) : slD true (.lst xs) lo hi h = .ok (.lst (cut xs lo hi)) h := rfl
@[simp] theorem addT_lst (xs ys : List D) (h : AH) : addD true (.lst xs) (.lst ys) h = R.chk (decide (xs.length + ys.length ≤ big)) (.ok (.lst (xs ++ ys)) h) := rfl
@[simp] theorem addF_lst (xs ys : List D) (h : AH) : addD false (.lst xs) (.lst ys) h = R.chk (decide (xs.length + ys.length ≤ big)) (.ok (.loc h.length) (h ++ [.lst (xs ++ ys)])) := rfl
def pathsD (ps : Par) : List D := (List.range ps.length).map fun f => D.lst ((path ps f).map eN)
@[simp] theorem pathsD_len (ps : Par) : (pathsD ps).length = ps.length := by simp [pathsD]
@[simp] theorem clos_pathsD (n : Nat) (ps : Par) : clos n (pathsD ps) = true := by rw [clos_all]; simp [pathsD]
section
variable {ps : Par} {ks : List Kd} (g : Good ps ks) (hw : ∀ p < ps.length, (kd ks p).end_ = false)
include g hw
def foldE (ps : Par) (ks : List Kd) : List (List Int) → List Int
  | [] => []
  | r :: rs => rs.foldl (mrg ps ks) r
end
end Sm
end

section
set_option linter.all false
set_option maxRecDepth 10000
/-! Ch6: refusals. -/
namespace Sm
@[simp] theorem fam_00 (h : AH) : eqD (.lst [.bl true, .bl false, .bl false, .bl false]) (.lst [.bl true, .bl false, .bl false, .bl false]) h = .ok (.bl true) h := rfl
@[simp] theorem fam_01 (h : AH) : eqD (.lst [.bl true, .bl false, .bl false, .bl false]) (.lst [.bl false, .bl true, .bl false, .bl false]) h = .ok (.bl false) h := rfl
@[simp] theorem fam_02 (h : AH) : eqD (.lst [.bl true, .bl false, .bl false, .bl false]) (.lst [.bl false, .bl false, .bl true, .bl false]) h = .ok (.bl false) h := rfl
@[simp] theorem fam_03 (h : AH) : eqD (.lst [.bl true, .bl false, .bl false, .bl false]) (.lst [.bl false, .bl false, .bl false, .bl true]) h = .ok (.bl false) h := rfl
@[simp] theorem fam_10 (h : AH) : eqD (.lst [.bl false, .bl true, .bl false, .bl false]) (.lst [.bl true, .bl false, .bl false, .bl false]) h = .ok (.bl false) h := rfl
@[simp] theorem fam_11 (h : AH) : eqD (.lst [.bl false, .bl true, .bl false, .bl false]) (.lst [.bl false, .bl true, .bl false, .bl false]) h = .ok (.bl true) h := rfl
@[simp] theorem fam_12 (h : AH) : eqD (.lst [.bl false, .bl true, .bl false, .bl false]) (.lst [.bl false, .bl false, .bl true, .bl false]) h = .ok (.bl false) h := rfl
@[simp] theorem fam_13 (h : AH) : eqD (.lst [.bl false, .bl true, .bl false, .bl false]) (.lst [.bl false, .bl false, .bl false, .bl true]) h = .ok (.bl false) h := rfl
@[simp] theorem fam_20 (h : AH) : eqD (.lst [.bl false, .bl false, .bl true, .bl false]) (.lst [.bl true, .bl false, .bl false, .bl false]) h = .ok (.bl false) h := rfl
@[simp] theorem fam_21 (h : AH) : eqD (.lst [.bl false, .bl false, .bl true, .bl false]) (.lst [.bl false, .bl true, .bl false, .bl false]) h = .ok (.bl false) h := rfl
@[simp] theorem fam_22 (h : AH) : eqD (.lst [.bl false, .bl false, .bl true, .bl false]) (.lst [.bl false, .bl false, .bl true, .bl false]) h = .ok (.bl true) h := rfl
@[simp] theorem fam_23 (h : AH) : eqD (.lst [.bl false, .bl false, .bl true, .bl false]) (.lst [.bl false, .bl false, .bl false, .bl true]) h = .ok (.bl false) h := rfl
@[simp] theorem fam_30 (h : AH) : eqD (.lst [.bl false, .bl false, .bl false, .bl true]) (.lst [.bl true, .bl false, .bl false, .bl false]) h = .ok (.bl false) h := rfl
@[simp] theorem fam_31 (h : AH) : eqD (.lst [.bl false, .bl false, .bl false, .bl true]) (.lst [.bl false, .bl true, .bl false, .bl false]) h = .ok (.bl false) h := rfl
@[simp] theorem fam_32 (h : AH) : eqD (.lst [.bl false, .bl false, .bl false, .bl true]) (.lst [.bl false, .bl false, .bl true, .bl false]) h = .ok (.bl false) h := rfl
@[simp] theorem fam_33 (h : AH) : eqD (.lst [.bl false, .bl false, .bl false, .bl true]) (.lst [.bl false, .bl false, .bl false, .bl true]) h = .ok (.bl true) h := rfl
def encB : BDue → D
  | .fair f => .tup [.str [78, 111, 116, 70, 97, 105, 114], .int f]
  | .emp => .tup [.str [78, 111, 82, 101, 99, 111, 114, 100]]
  | .rc r => .tup [.str [66, 97, 100, 82, 101, 99, 111, 114, 100], eR r]
  | .pl i => .tup [.str [66, 97, 100, 80, 108, 97, 99, 101], .int i]
@[simp] theorem clo_encB (n : Nat) (d : BDue) : clo n (encB d) = true := by cases d <;> simp [encB]
def encBO : Option BDue → D
  | none => .non
  | some d => encB d
@[simp] theorem clo_encBO (n : Nat) (d : Option BDue) : clo n (encBO d) = true := by cases d <;> simp [encBO]
theorem nloc_encBO (d : Option BDue) : nloc (encBO d) = true := by
  cases d with
  | none => rfl
  | some d => cases d <;> rfl
/-! ### spoilt lots, spoilt kinds -/
def Rows (n : Nat) (R : List (List Int)) : Prop := R.length ≤ 1000 ∧ ∀ r ∈ R, r.length + 1 ≤ n
end Sm
end

section
set_option linter.all false
set_option maxRecDepth 10000
/-! Ch7: _law_refuses. -/
namespace Sm
end Sm
end

section
set_option linter.all false
set_option maxRecDepth 10000
/-! Ch8: what the lot laws draw. -/
namespace Sm
def e59 : Int := 100000000000000000000000000000000000000000000000000000000000
/-! ### lots -/
end Sm
end

section
set_option linter.all false
set_option maxRecDepth 10000
/-! Ch9: paths (lists of lists let go), worse records, raised records. -/
namespace Sm
theorem mapO_id {h : AH} {n k : Nat} : ∀ {xs : List D}, clos n xs = true → mapO (frzD h n k) xs = some xs
  | [], _ => rfl
  | x :: xs, hc => by
    rw [clos, Bool.and_eq_true] at hc
    unfold mapO
    have : frzD h n k x = some x := by cases k <;> (unfold frzD; rw [if_pos hc.1])
    rw [this, mapO_id hc.2]; rfl
theorem frz_loc1 {h : AH} {n k l : Nat} {xs : List D} (hn : n ≤ l) (e : getL h l = some xs) (hc : clos n xs = true) : frzD h n (k + 1) (.loc l) = some (.lst xs) := by
  unfold frzD
  have c : clo n (.loc l) = false := by rw [clo]; exact decide_eq_false (by omega)
  rw [c]
  unfold getL at e
  split at e
  · rename_i ys e2
    have e3 : ys = xs := Option.some.inj e
    subst e3
    dsimp only
    rw [e2]
    dsimp only
    rw [mapO_id hc]; rfl
  · cases e
def lastL (h : AH) (n : Nat) (i : Nat) : List D := (List.range i).map fun k => D.loc (h.length + 1 + k)
end Sm
end

section
set_option linter.all false
set_option maxRecDepth 10000
/-! Ch10: worse, raised, turned. -/
namespace Sm
def Worse (ps : Par) (ks : List Kd) (R : List (List Int)) (w : List Int) : Prop := w.length = ps.length ∧ ∀ f < ps.length, par ps f = none → ∀ r ∈ R, adj (kd ks f) (rv w f) < adj (kd ks f) (rv r f)
def bump (k : Kd) (v : Int) : Int := match k with
  | .up => v + 1
  | _ => v - 1
def tn : Kd → Kd
  | .up => .down
  | _ => .up
end Sm
end

section
set_option linter.all false
set_option maxRecDepth 10000
/-! Ch11: worse records change nothing; a raised end is the end. -/
namespace Sm
section
variable {ps : Par} {ks : List Kd} (ac : Acy ps)
include ac
end
end Sm
end

section
set_option linter.all false
set_option maxRecDepth 10000
/-! Ch12: merging two lots' ends. -/
namespace Sm
section
variable {ps : Par} {ks : List Kd} (ac : Acy ps) (hw : ∀ p < ps.length, (kd ks p).end_ = false)
include ac hw
end
end Sm
end

section
set_option linter.all false
set_option maxRecDepth 10000
/-! Sq: long bodies, a statement at a time. -/
namespace Sm
section
variable {ss : List AS} {e e2 : Env} {h h2 : AH} {Q : Fl → AH → Prop} {a : AE} {d : D} {i : Nat} {s : AS}
theorem q_st (hs : s e h = .ok (.nx e2) h2) (k : wp (sB ss e2 h2) Q) : wp (sB (s :: ss) e h) Q := by
  rw [sB_cons, hs, bind_ok, kB2_nx]; exact k
theorem q_set (ha : a e h = .ok d h2) (k : wp (sB ss (e.set i (some d)) h2) Q) : wp (sB (sSet i a :: ss) e h) Q :=
  q_st (by rw [sSet_def, ha]; rfl) k
theorem q_ex (ha : a e h = .ok d h2) (k : wp (sB ss e h2) Q) : wp (sB (sE a :: ss) e h) Q :=
  q_st (by rw [sE_def, ha]; rfl) k
theorem q_if0 {t : AB} {x : AS} (ht : t e h = .ok false h2) (k : wp (sB ss e h2) Q) : wp (sB (sIf t x (sB []) :: ss) e h) Q :=
  q_st (e2 := e) (h2 := h2) (by
    show up e (t e h) _ = _
    rw [ht]; rfl) k
theorem q_any {P : Fl → AH → Prop} (hs : wp (s e h) P) (k : ∀ f h2, P f h2 → wp (kB2 ss f h2) Q) : wp (sB (s :: ss) e h) Q := by
  rw [sB_cons]
  exact wp_bind (wp_mono hs k)
end
end Sm
end

section
set_option linter.all false
set_option maxRecDepth 10000
/-! Ch13: ends without a record. -/
namespace Sm
section
variable {ps : Par} {ks : List Kd} (g : Good ps ks) (hw : ∀ p < ps.length, (kd ks p).end_ = false)
include g hw
def runE (ps : Par) (ks : List Kd) (R : List (List Int)) (i : Nat) : List (List Int) := (List.range i).map fun j => foldE ps ks (R.take (j + 1))
omit g hw in
@[simp] theorem runE_len (R : List (List Int)) (i : Nat) : (runE ps ks R i).length = i := by simp [runE]
/-! ### the ends without each record -/
def ewL (ps : Par) (ks : List Kd) (R : List (List Int)) : List (List Int) := (List.range R.length).map fun k => sEnd ps ks (R.eraseIdx k)
omit g hw in
@[simp] theorem ewL_len (R : List (List Int)) : (ewL ps ks R).length = R.length := by simp [ewL]
/-- the ends from behind -/
def aftE (ps : Par) (ks : List Kd) (R : List (List Int)) : List (List Int) := (runE ps ks R.reverse R.length).reverse
def ewT (ps : Par) (ks : List Kd) (R : List (List Int)) (i : Nat) : List D := encL ((ewL ps ks R).take i)
def wdue (ks : List Kd) (R : List (List Int)) : Option BDue := match lowEnd ks with
  | some f => some (.fair f)
  | none => if R.length < 2 then some .emp else (badRow ks.length R).map .rc
end
end Sm
end

section
set_option linter.all false
set_option maxRecDepth 10000
/-! Ch14: refusals of ends_without; bearers and ends. -/
namespace Sm
@[simp] theorem fan_00 (h : AH) : eqD (.lst [.bl true, .bl true, .bl false, .bl false]) (.lst [.bl true, .bl true, .bl false, .bl false]) h = .ok (.bl true) h := rfl
@[simp] theorem fan_01 (h : AH) : eqD (.lst [.bl true, .bl true, .bl false, .bl false]) (.lst [.bl true, .bl false, .bl true, .bl false]) h = .ok (.bl false) h := rfl
@[simp] theorem fan_02 (h : AH) : eqD (.lst [.bl true, .bl true, .bl false, .bl false]) (.lst [.bl true, .bl false, .bl false, .bl true]) h = .ok (.bl false) h := rfl
@[simp] theorem fan_10 (h : AH) : eqD (.lst [.bl true, .bl false, .bl true, .bl false]) (.lst [.bl true, .bl true, .bl false, .bl false]) h = .ok (.bl false) h := rfl
@[simp] theorem fan_11 (h : AH) : eqD (.lst [.bl true, .bl false, .bl true, .bl false]) (.lst [.bl true, .bl false, .bl true, .bl false]) h = .ok (.bl true) h := rfl
@[simp] theorem fan_12 (h : AH) : eqD (.lst [.bl true, .bl false, .bl true, .bl false]) (.lst [.bl true, .bl false, .bl false, .bl true]) h = .ok (.bl false) h := rfl
@[simp] theorem fan_20 (h : AH) : eqD (.lst [.bl true, .bl false, .bl false, .bl true]) (.lst [.bl true, .bl true, .bl false, .bl false]) h = .ok (.bl false) h := rfl
@[simp] theorem fan_21 (h : AH) : eqD (.lst [.bl true, .bl false, .bl false, .bl true]) (.lst [.bl true, .bl false, .bl true, .bl false]) h = .ok (.bl false) h := rfl
@[simp] theorem fan_22 (h : AH) : eqD (.lst [.bl true, .bl false, .bl false, .bl true]) (.lst [.bl true, .bl false, .bl false, .bl true]) h = .ok (.bl true) h := rfl
def endKX (r : R D) : Fl → AH → Prop := fun f h1 => match f with
  | .rt d => R.ok d h1 = r
  | .nx _ => R.ok .non h1 = r
  | .ex x _ => R.exc x h1 = r
  | _ => False
section
variable {h h1 : AH} {r : R D} {d : D} {e : Env} {x : Ex}
@[simp] theorem endKX_rt : endKX r (.rt d) h1 = (R.ok d h1 = r) := rfl
@[simp] theorem endKX_nx : endKX r (.nx e) h1 = (R.ok .non h1 = r) := rfl
@[simp] theorem endKX_ex : endKX r (.ex x e) h1 = (R.exc x h1 = r) := rfl
end
/-! ### bearers and ends -/
end Sm
end

section
set_option linter.all false
set_option maxRecDepth 10000
/-! Ch15: the ends of a lot with worse records within. -/
namespace Sm
section
variable {ps : Par} {ks : List Kd} (g : Good ps ks) (hw : ∀ p < ps.length, (kd ks p).end_ = false)
include g hw
omit g hw in
theorem Worse.sub {R S : List (List Int)} {w : List Int} (wo : Worse ps ks R w) (h : ∀ r ∈ S, r ∈ R) : Worse ps ks S w := ⟨wo.1, fun f hf hp r hr => wo.2 f hf hp r (h r hr)⟩
end
end Sm
end

section
set_option linter.all false
set_option maxRecDepth 10000
/-! Ch16: k15's answers. -/
namespace Sm
@[simp] theorem sl_loc {h : AH} {l : Nat} {xs : List D} (e : getL h l = some xs) (lo hi : Option Int) : slD true (.loc l) lo hi h = .ok (.lst (cut xs lo hi)) h := by
  show (match lstH h (.loc l) with
    | some xs => mkL true (cut xs lo hi) h
    | none => R.no) = _
  rw [lstH_loc, e]; rfl
section
variable {ps : Par} {ks : List Kd} (g : Good ps ks) (hw : ∀ p < ps.length, (kd ks p).end_ = false)
include g hw
end
end Sm
end

section
set_option linter.all false
/-! k47: plain computations (printed by gen2.py) -/
namespace Sm
/- lot_end: forest, records -/
def b_lot_end : AS := sB [sE (eA (F_check_fair) (eL [eV 0])),
  sE (eA (F_check_records) (eL [e1 (fldD ["Forest"] "fields") (eV 0), eV 1])),
  sRet (eA (F_end_of_row) (eL [e1 (fldD ["Forest"] "parents") (eV 0), e1 (fldD ["Forest"] "kinds") (eV 0), eA (on1 (listD true)) (eL [eV 1])]))]
def F_lot_end : AF := fnT 2 2 b_lot_end
/- _law_ends_alike: _law_forest, _law_lots, _law_end, _law_lot_here, _law_handed -/
def b_q_ends_alike : AS := sB [sFor (iS (eV 1)) (gV 3) (sB [sSet 4 (eA (on1 (listD true)) (eL [eV 3])),
    sIf (tOr (tNot (tV (eA (F_q_same_v2 12) (eL [eA (F_lot_end) (eL [eV 0, eV 4]), eV 2])))) (tNot (tV (eA (F_q_same_v2 12) (eL [eV 4, eV 3]))))) (sB [sRet (eC (.bl false))]) (sB [])]),
  sRet (eC (.bl true))]
def F_q_ends_alike : AF := fnT 3 5 b_q_ends_alike
/- _law_grows: _law_forest, _law_kinds_here, _law_lot_here, _law_end, _law_field, _law_handed, _law_best -/
def b_q_grows : AS := sB [sSet 5 (eA (on1 (listD false)) (eL [eV 2])),
  sIf (tNot (tV (eA (F_q_same_v2 12) (eL [eA (F_lot_end) (eL [eV 0, eV 5]), eV 3])))) (sB [sRet (eC (.bl false))]) (sB []),
  sSet 6 (eA (F_q_raised) (eL [eV 1, eV 3, eV 4, eC (.int 1)])),
  sE (eM isLst (mt1 appendD) (eV 5) (eL [eV 6])),
  sIf (tNot (tV (eA (F_q_same_v2 12) (eL [eA (F_lot_end) (eL [eV 0, eV 5]), eV 6])))) (sB [sRet (eC (.bl false))]) (sB []),
  sE (eM isLst (mt0 popD) (eV 5) (eL [])),
  sRet (eA (F_q_same_v2 12) (eL [eA (F_lot_end) (eL [eV 0, eV 5]), eV 3]))]
def F_q_grows : AF := fnT 5 7 b_q_grows
/- _law_pressed: _law_tape_here, _law_paths_here, _law_kinds_here, _law_records, _law_row, _law_k, _law_place -/
def b_q_pressed : AS := sB [sSet 4 (eA (on1 (listD false)) (eL [eV 3])),
  sFor (iR1 (e2 subD (eA (on1 lenD) (eL [eV 3])) (eC (.int 1)))) (gV 5) (sB [sSet 6 (eA (F_q_take) (eL [eV 0, e2 subD (eA (on1 lenD) (eL [eV 4])) (eC (.int 1))])),
    sSub setIxD (eV 4) (eV 6) (eA (F_q_merge) (eL [eV 1, eV 2, e2 ixD (eV 4) (eV 6), e2 ixD (eV 4) (e2 (addD true) (eV 6) (eC (.int 1)))])),
    sE (eM isLst (mt1 popAtD) (eV 4) (eL [e2 (addD true) (eV 6) (eC (.int 1))]))]),
  sRet (e2 ixD (eV 4) (eC (.int 0)))]
def F_q_pressed : AF := fnT 4 7 b_q_pressed
/- _law_due: _law_kinds_here, _law_rows, _law_record_here -/
def b_q_due_v3 : AS := sB [sIf (tB1 (e1 notNonD (eA (F_q_lowest) (eL [eV 0])))) (sB [sRet (eTup (eL [eC (.str [78, 111, 116, 70, 97, 105, 114]), eA (F_q_lowest) (eL [eV 0])]))]) (sB []),
  sIf (tB1 (e2 eqD (eA (on1 lenD) (eL [eV 1])) (eC (.int 0)))) (sB [sRet (eTup (eL [eC (.str [78, 111, 82, 101, 99, 111, 114, 100])]))]) (sB []),
  sFor (iS (eV 1)) (gV 2) (sB [sIf (tB1 (e2 neD (eA (on1 lenD) (eL [eV 2])) (eA (on1 lenD) (eL [eV 0])))) (sB [sRet (eTup (eL [eC (.str [66, 97, 100, 82, 101, 99, 111, 114, 100]), eV 2]))]) (sB [])]),
  sRet (eC .non)]
def F_q_due_v3 : AF := fnT 2 3 b_q_due_v3
/- _law_told: _law_forest, _law_rows, e, _law_family -/
def b_q_told_v3 : AS := sB [sTryAs [("BadRecord", true), ("NoRecord", true), ("BadForest", true), ("NotFair", true), ("FieldsDiffer", true), ("BadNumber", true), ("BadPlace", true), ("BadSizes", true)] 2 (sB [sE (eA (F_lot_end) (eL [eV 0, eV 1]))]) (fun x => sB [sSet 3 (eLst true (eL [eXis x [("BadRecord", true), ("NoRecord", true), ("BadForest", true), ("NotFair", true), ("FieldsDiffer", true), ("BadNumber", true), ("BadPlace", true), ("BadSizes", true)], eXis x [("BadRecord", false), ("NoRecord", false), ("BadForest", false), ("NotFair", true), ("FieldsDiffer", false), ("BadNumber", false), ("BadPlace", false), ("BadSizes", false)], eXis x [("BadRecord", false), ("NoRecord", true), ("BadForest", false), ("NotFair", false), ("FieldsDiffer", false), ("BadNumber", false), ("BadPlace", false), ("BadSizes", false)], eXis x [("BadRecord", true), ("NoRecord", false), ("BadForest", false), ("NotFair", false), ("FieldsDiffer", false), ("BadNumber", false), ("BadPlace", false), ("BadSizes", false)]])),
    sIf (tV (eXis x [("BadRecord", false), ("NoRecord", false), ("BadForest", true), ("NotFair", false), ("FieldsDiffer", true), ("BadNumber", true), ("BadPlace", true), ("BadSizes", true)])) (sB [sRet (eTup (eL [eC (.str [97, 110, 111, 116, 104, 101, 114])]))]) (sB []),
    sIf (tB1 (e2 eqD (eV 3) (eLst true (eL [eC (.bl true), eC (.bl true), eC (.bl false), eC (.bl false)])))) (sB [sRet (eTup (eL [eC (.str [78, 111, 116, 70, 97, 105, 114]), eXf ["BadForest", "NotFair"] x "field"]))]) (sB []),
    sIf (tB1 (e2 eqD (eV 3) (eLst true (eL [eC (.bl true), eC (.bl false), eC (.bl true), eC (.bl false)])))) (sB [sRet (eTup (eL [eC (.str [78, 111, 82, 101, 99, 111, 114, 100])]))]) (sB []),
    sIf (tB1 (e2 eqD (eV 3) (eLst true (eL [eC (.bl true), eC (.bl false), eC (.bl false), eC (.bl true)])))) (sB [sRet (eTup (eL [eC (.str [66, 97, 100, 82, 101, 99, 111, 114, 100]), eXf ["BadRecord"] x "record"]))]) (sB []),
    sRet (eTup (eL [eC (.str [97, 110, 111, 116, 104, 101, 114])]))]),
  sRet (eC .non)]
def F_q_told_v3 : AF := fnT 2 4 b_q_told_v3
/- _law_refuses: _law_tape_here, _law_forest, _law_parents_here, _law_kinds_here, _law_lot_here, _law_spoilt, _law_rows, _law_asked, _law_handed, _law_told_here -/
def b_q_refuses_v3 : AS := sB [sSet 5 (eA (on1 (listD true)) (eL [eV 3])),
  sIf (tB1 (e2 eqD (eA (F_q_take) (eL [eV 0, eC (.int 2)])) (eC (.int 0)))) (sB [sSet 5 (eA (F_q_unfair_v2) (eL [eV 0, eV 2, eV 3]))]) (sB []),
  sSet 6 (eA (on1 (listD true)) (eL [eV 4])),
  sIf (tB1 (e2 eqD (eA (F_q_take) (eL [eV 0, eC (.int 2)])) (eC (.int 0)))) (sB [sSet 6 (eSl true (eV 4) (oN) (oS (eA (F_q_take) (eL [eV 0, eC (.int 2)]))))]) (sB []),
  sSet 6 (eA (F_q_faulty) (eL [eV 0, eV 6])),
  sSet 7 (eV 1),
  sIf (tB1 (e2 neD (eV 5) (eV 3))) (sB [sSet 7 (eA (mkI "Forest" true (F_Forest_init)) (eL [eA (on1 (listD true)) (eL [eV 2]), eA (on1 (listD true)) (eL [eV 5])]))]) (sB []),
  sSet 8 (eA (on1 (listD true)) (eL [eV 6])),
  sSet 9 (eA (F_q_told_v3) (eL [eV 7, eV 8])),
  sRet (eAnd (eA (F_q_same_v2 12) (eL [eV 9, eA (F_q_due_v3) (eL [eV 5, eV 6])])) (eA (F_q_same_v2 12) (eL [eV 8, eV 6])))]
def F_q_refuses_v3 : AF := fnT 5 10 b_q_refuses_v3
/- _law_repeated: _law_tape_here, _law_lot_here, _law_most, _law_row, _law_record_here, _law_k -/
def b_q_repeated : AS := sB [sSet 2 (eC (.int 3)),
  sIf (tAnd (tB1 (e2 eqD (eA (F_q_take) (eL [eV 0, eC (.int 8)])) (eC (.int 0)))) (tB1 (e2 ltD (eA (on1 lenD) (eL [eV 1])) (eC (.int 7))))) (sB [sSet 2 (eC (.int 12))]) (sB []),
  sSet 3 (eLst true (eL [])),
  sFor (iS (eV 1)) (gV 4) (sB [sSet 3 (e2 (addD true) (eV 3) (eLC true [5] (iR1 (e2 (addD true) (eC (.int 1)) (eA (F_q_take) (eL [eV 0, eV 2])))) (gV 5) (tYes) (eV 4)))]),
  sRet (eLC true [5] (iS (eA (F_q_turns) (eL [eV 0, eA (on1 lenD) (eL [eV 3])]))) (gV 5) (tYes) (e2 ixD (eV 3) (eV 5)))]
def F_q_repeated : AF := fnT 2 6 b_q_repeated
/- law: _law_script, _law_tape_here, _law_n, _law_parents_here, _law_count_here, _law_span_here, _law_field, _law_turn, _law_kinds_here, _law_lot_here, _law_paths_here, _law_row, _law_end, _law_forest, _law_low -/
def b_law_k47 : AS := sB [sSet 1 (eA (F_q_tape) (eL [eV 0, eC (.int 0)])),
  sSet 2 (eA (F_q_fields) (eL [eV 1])),
  sSet 3 (eA (F_q_parents) (eL [eV 1, eV 2])),
  sSet 4 (eA (F_q_count) (eL [eV 1, eC (.int 1)])),
  sSet 5 (eA (F_q_span) (eL [eV 1])),
  sSet 6 (eA (F_q_take) (eL [eV 1, eV 2])),
  sSet 7 (eA (F_q_tape) (eL [eV 0, eC (.int 1)])),
  sSet 8 (eA (F_q_kinds) (eL [eV 7, eV 3, eC (.bl true)])),
  sSet 9 (eA (F_q_lot) (eL [eV 0, eC (.int 2), eV 2, eV 4, eV 5])),
  sSet 10 (eA (F_q_paths) (eL [eV 3])),
  sSet 11 (eA (F_q_repeated) (eL [eV 7, eV 9])),
  sSet 12 (eA (F_q_pressed) (eL [eV 7, eV 10, eV 8, eV 11])),
  sSet 13 (eA (mkI "Forest" true (F_Forest_init)) (eL [eA (on1 (listD true)) (eL [eV 3]), eA (on1 (listD true)) (eL [eV 8])])),
  sIf (tNot (tV (eA (F_q_ends_alike) (eL [eV 13, eLst true (eL [eV 9, eV 11, e1 (revD true) (eV 9), e2 (addD true) (eLst true (eL [eV 12])) (eV 11), eV 9]), eV 12])))) (sB [sRet (eC (.bl false))]) (sB []),
  sIf (tNot (tV (eA (F_q_ends_alike) (eL [eV 13, eLst true (eL [eLst true (eL [e2 ixD (eV 9) (eC (.int 0))])]), e2 ixD (eV 9) (eC (.int 0))])))) (sB [sRet (eC (.bl false))]) (sB []),
  sSet 14 (eA (F_q_turned) (eL [eV 8])),
  sIf (tNot (tV (eA (F_q_ends_alike) (eL [eA (mkI "Forest" true (F_Forest_init)) (eL [eA (on1 (listD true)) (eL [eV 3]), eA (on1 (listD true)) (eL [eV 14])]), eLst true (eL [eV 9, eV 11]), eA (F_q_fold) (eL [eV 10, eV 14, eV 9])])))) (sB [sRet (eC (.bl false))]) (sB []),
  sIf (tNot (tV (eA (F_q_refuses_v3) (eL [eV 1, eV 13, eV 3, eV 8, eV 9])))) (sB [sRet (eC (.bl false))]) (sB []),
  sRet (eA (F_q_grows) (eL [eV 13, eV 8, eV 9, eV 12, eV 6]))]
def F_law_k47 : AF := fnT 1 15 b_law_k47
end Sm
end

section
set_option linter.all false
set_option maxRecDepth 10000
/-! Ch17: lot_end and its law's parts. -/
namespace Sm
def ldue (ks : List Kd) (R : List (List Int)) : Option BDue := match lowEnd ks with
  | some f => some (.fair f)
  | none => rdue ks.length R
end Sm
end

section
set_option linter.all false
set_option maxRecDepth 10000
/-! Ch18: lots written otherwise, pressed, grown. -/
namespace Sm
section
variable {ps : Par} {ks : List Kd} (g : Good ps ks) (hw : ∀ p < ps.length, (kd ks p).end_ = false)
include g hw
end
end Sm
end

section
set_option linter.all false
set_option maxRecDepth 10000
/-! Ch19: pressed and repeated lots. -/
namespace Sm
section
variable {ps : Par} {ks : List Kd} (g : Good ps ks) (hw : ∀ p < ps.length, (kd ks p).end_ = false)
include g hw
end
/-! ### repeated -/
end Sm
end

section
set_option linter.all false
/-! k53: plain computations (printed by gen2.py) -/
namespace Sm
/- is_below: forest, first, second, field, place -/
def b_is_below : AS := sB [sE (eA (F_check_fair) (eL [eV 0])),
  sE (eA (F_check_record) (eL [e1 (fldD ["Forest"] "fields") (eV 0), eV 1])),
  sE (eA (F_check_record) (eL [e1 (fldD ["Forest"] "fields") (eV 0), eV 2])),
  sFor (iR1 (e1 (fldD ["Forest"] "fields") (eV 0))) (gV 3) (sB [sSet 4 (eA (F_first_unlike_on) (eL [eA (F_path_of) (eL [e1 (fldD ["Forest"] "parents") (eV 0), eV 3]), eV 1, eV 2])),
    sIf (tAnd (tB1 (e1 notNonD (eV 4))) (tNot (tV (eA (F_better) (eL [e2 ixD (e1 (fldD ["Forest"] "kinds") (eV 0)) (eV 4), e2 ixD (eV 2) (eV 4), e2 ixD (eV 1) (eV 4)]))))) (sB [sRet (eC (.bl false))]) (sB [])]),
  sRet (eC (.bl true))]
def F_is_below : AF := fnT 3 5 b_is_below
/- _law_bounds: _law_forest, _law_lot_here, _law_further, _law_end, _law_bottom, _law_under, _law_record_here, _law_above -/
def b_q_bounds : AS := sB [sSet 5 (eLC true [6] (iS (eV 1)) (gV 6) (tYes) (eA (F_is_below) (eL [eV 0, eV 2, eV 6]))),
  sSet 7 (eLC true [6] (iS (eV 1)) (gV 6) (tYes) (eA (F_is_below) (eL [eV 0, eV 6, eV 2]))),
  sIf (tB1 (e2 neD (eA (on1 (boolsD allF)) (eL [eV 5])) (eA (F_is_below) (eL [eV 0, eV 2, eV 4])))) (sB [sRet (eC (.bl false))]) (sB []),
  sRet (e2 eqD (eA (on1 (boolsD allF)) (eL [eV 7])) (eA (F_is_below) (eL [eV 0, eV 3, eV 2])))]
def F_q_bounds : AF := fnT 5 8 b_q_bounds
/- turned_kinds: kinds, kind -/
def b_turned_kinds : AS := sB [sRet (eA (on1 tupD) (eL [eLC true [1] (iS (eV 0)) (gV 1) (tYes) (eIf (tB1 (e2 eqD (eV 1) (eC (.str [117, 112])))) (eC (.str [100, 111, 119, 110])) (eC (.str [117, 112])))]))]
def F_turned_kinds : AF := fnT 1 2 b_turned_kinds
/- meet: forest, records -/
def b_meet : AS := sB [sE (eA (F_check_fair) (eL [eV 0])),
  sE (eA (F_check_records) (eL [e1 (fldD ["Forest"] "fields") (eV 0), eV 1])),
  sRet (eA (F_end_of_row) (eL [e1 (fldD ["Forest"] "parents") (eV 0), eA (F_turned_kinds) (eL [e1 (fldD ["Forest"] "kinds") (eV 0)]), eA (on1 (listD true)) (eL [eV 1])]))]
def F_meet : AF := fnT 2 2 b_meet
/- _law_distributes: _law_forest, _law_paths_here, _law_kinds_here, _law_x, _law_y, _law_z, _law_low, _law_due_here -/
def b_q_distributes : AS := sB [sSet 6 (eA (F_q_turned) (eL [eV 2])),
  sSet 7 (eA (F_q_merge) (eL [eV 1, eV 6, eV 3, eA (F_q_merge) (eL [eV 1, eV 2, eV 4, eV 5])])),
  sIf (tNot (tV (eA (F_q_same_v2 12) (eL [eA (F_meet) (eL [eV 0, eLst true (eL [eV 3, eA (F_lot_end) (eL [eV 0, eLst true (eL [eV 4, eV 5])])])]), eV 7])))) (sB [sRet (eC (.bl false))]) (sB []),
  sIf (tNot (tV (eA (F_q_same_v2 12) (eL [eA (F_lot_end) (eL [eV 0, eLst true (eL [eA (F_meet) (eL [eV 0, eLst true (eL [eV 3, eV 4])]), eA (F_meet) (eL [eV 0, eLst true (eL [eV 3, eV 5])])])]), eV 7])))) (sB [sRet (eC (.bl false))]) (sB []),
  sSet 7 (eA (F_q_merge) (eL [eV 1, eV 2, eV 3, eA (F_q_merge) (eL [eV 1, eV 6, eV 4, eV 5])])),
  sIf (tNot (tV (eA (F_q_same_v2 12) (eL [eA (F_lot_end) (eL [eV 0, eLst true (eL [eV 3, eA (F_meet) (eL [eV 0, eLst true (eL [eV 4, eV 5])])])]), eV 7])))) (sB [sRet (eC (.bl false))]) (sB []),
  sRet (eA (F_q_same_v2 12) (eL [eA (F_meet) (eL [eV 0, eLst true (eL [eA (F_lot_end) (eL [eV 0, eLst true (eL [eV 3, eV 4])]), eA (F_lot_end) (eL [eV 0, eLst true (eL [eV 3, eV 5])])])]), eV 7]))]
def F_q_distributes : AF := fnT 6 8 b_q_distributes
/- _law_meets: _law_forest, _law_paths_here, _law_low, _law_lot_here, _law_further, _law_handed, _law_due_here -/
def b_q_meets : AS := sB [sSet 5 (eA (on1 (listD false)) (eL [eV 3])),
  sSet 6 (eA (F_q_fold) (eL [eV 1, eV 2, eV 3])),
  sIf (tOr (tNot (tV (eA (F_q_same_v2 12) (eL [eA (F_meet) (eL [eV 0, eV 5]), eV 6])))) (tNot (tV (eA (F_q_same_v2 12) (eL [eV 5, eV 3]))))) (sB [sRet (eC (.bl false))]) (sB []),
  sE (eM isLst (mt1 appendD) (eV 5) (eL [eV 4])),
  sIf (tNot (tV (eA (F_q_same_v2 12) (eL [eA (F_meet) (eL [eV 0, eV 5]), eA (F_q_merge) (eL [eV 1, eV 2, eV 6, eV 4])])))) (sB [sRet (eC (.bl false))]) (sB []),
  sE (eM isLst (mt0 popD) (eV 5) (eL [])),
  sRet (eAnd (eA (F_q_same_v2 12) (eL [eA (F_meet) (eL [eV 0, eV 5]), eV 6])) (eA (F_q_same_v2 12) (eL [eV 5, eV 3])))]
def F_q_meets : AF := fnT 5 7 b_q_meets
/- _law_below: _law_paths_here, _law_kinds_here, _law_first, _law_second, _law_path, _law_unlike, _law_place -/
def b_q_below : AS := sB [sFor (iS (eV 0)) (gV 4) (sB [sSet 5 (eLC true [6] (iS (eV 4)) (gV 6) (tB1 (e2 neD (e2 ixD (eV 2) (eV 6)) (e2 ixD (eV 3) (eV 6)))) (eV 6)),
    sIf (tAnd (tB1 (e2 gtD (eA (on1 lenD) (eL [eV 5])) (eC (.int 0)))) (tB1 (e2 neD (e2 gtD (e2 ixD (eV 3) (e2 ixD (eV 5) (eC (.int 0)))) (e2 ixD (eV 2) (e2 ixD (eV 5) (eC (.int 0))))) (e2 eqD (e2 ixD (eV 1) (e2 ixD (eV 5) (eC (.int 0)))) (eC (.str [117, 112])))))) (sB [sRet (eC (.bl false))]) (sB [])]),
  sRet (eC (.bl true))]
def F_q_below : AF := fnT 4 7 b_q_below
/- _law_ordered: _law_forest, _law_paths_here, _law_kinds_here, _law_pool, _law_first, _law_second, _law_below_here -/
def b_q_ordered : AS := sB [sFor (iS (eV 3)) (gV 4) (sB [sFor (iS (eV 3)) (gV 5) (sB [sSet 6 (eA (F_q_below) (eL [eV 1, eV 2, eV 4, eV 5])),
      sIf (tNot (tV (eA (F_q_same_v2 12) (eL [eA (F_is_below) (eL [eV 0, eV 4, eV 5]), eV 6])))) (sB [sRet (eC (.bl false))]) (sB []),
      sIf (tB1 (e2 neD (eV 6) (e2 eqD (eA (F_q_merge) (eL [eV 1, eV 2, eV 4, eV 5])) (eV 5)))) (sB [sRet (eC (.bl false))]) (sB [])])]),
  sRet (eC (.bl true))]
def F_q_ordered : AF := fnT 4 7 b_q_ordered
/- _law_below_told: _law_forest, _law_first, _law_second, e, _law_family -/
def b_q_below_told : AS := sB [sTryAs [("BadRecord", true), ("NoRecord", true), ("BadForest", true), ("NotFair", true), ("FieldsDiffer", true), ("BadNumber", true), ("BadPlace", true), ("BadSizes", true)] 3 (sB [sE (eA (F_is_below) (eL [eV 0, eV 1, eV 2]))]) (fun x => sB [sSet 4 (eLst true (eL [eXis x [("BadRecord", true), ("NoRecord", true), ("BadForest", true), ("NotFair", true), ("FieldsDiffer", true), ("BadNumber", true), ("BadPlace", true), ("BadSizes", true)], eXis x [("BadRecord", false), ("NoRecord", false), ("BadForest", false), ("NotFair", true), ("FieldsDiffer", false), ("BadNumber", false), ("BadPlace", false), ("BadSizes", false)], eXis x [("BadRecord", false), ("NoRecord", true), ("BadForest", false), ("NotFair", false), ("FieldsDiffer", false), ("BadNumber", false), ("BadPlace", false), ("BadSizes", false)], eXis x [("BadRecord", true), ("NoRecord", false), ("BadForest", false), ("NotFair", false), ("FieldsDiffer", false), ("BadNumber", false), ("BadPlace", false), ("BadSizes", false)]])),
    sIf (tV (eXis x [("BadRecord", false), ("NoRecord", false), ("BadForest", true), ("NotFair", false), ("FieldsDiffer", true), ("BadNumber", true), ("BadPlace", true), ("BadSizes", true)])) (sB [sRet (eTup (eL [eC (.str [97, 110, 111, 116, 104, 101, 114])]))]) (sB []),
    sIf (tB1 (e2 eqD (eV 4) (eLst true (eL [eC (.bl true), eC (.bl true), eC (.bl false), eC (.bl false)])))) (sB [sRet (eTup (eL [eC (.str [78, 111, 116, 70, 97, 105, 114]), eXf ["BadForest", "NotFair"] x "field"]))]) (sB []),
    sIf (tB1 (e2 eqD (eV 4) (eLst true (eL [eC (.bl true), eC (.bl false), eC (.bl true), eC (.bl false)])))) (sB [sRet (eTup (eL [eC (.str [78, 111, 82, 101, 99, 111, 114, 100])]))]) (sB []),
    sIf (tB1 (e2 eqD (eV 4) (eLst true (eL [eC (.bl true), eC (.bl false), eC (.bl false), eC (.bl true)])))) (sB [sRet (eTup (eL [eC (.str [66, 97, 100, 82, 101, 99, 111, 114, 100]), eXf ["BadRecord"] x "record"]))]) (sB []),
    sRet (eTup (eL [eC (.str [97, 110, 111, 116, 104, 101, 114])]))]),
  sRet (eC .non)]
def F_q_below_told : AF := fnT 3 5 b_q_below_told
/- _law_told: _law_forest, _law_rows, e, _law_family -/
def b_q_told_v4 : AS := sB [sTryAs [("BadRecord", true), ("NoRecord", true), ("BadForest", true), ("NotFair", true), ("FieldsDiffer", true), ("BadNumber", true), ("BadPlace", true), ("BadSizes", true)] 2 (sB [sE (eA (F_meet) (eL [eV 0, eV 1]))]) (fun x => sB [sSet 3 (eLst true (eL [eXis x [("BadRecord", true), ("NoRecord", true), ("BadForest", true), ("NotFair", true), ("FieldsDiffer", true), ("BadNumber", true), ("BadPlace", true), ("BadSizes", true)], eXis x [("BadRecord", false), ("NoRecord", false), ("BadForest", false), ("NotFair", true), ("FieldsDiffer", false), ("BadNumber", false), ("BadPlace", false), ("BadSizes", false)], eXis x [("BadRecord", false), ("NoRecord", true), ("BadForest", false), ("NotFair", false), ("FieldsDiffer", false), ("BadNumber", false), ("BadPlace", false), ("BadSizes", false)], eXis x [("BadRecord", true), ("NoRecord", false), ("BadForest", false), ("NotFair", false), ("FieldsDiffer", false), ("BadNumber", false), ("BadPlace", false), ("BadSizes", false)]])),
    sIf (tV (eXis x [("BadRecord", false), ("NoRecord", false), ("BadForest", true), ("NotFair", false), ("FieldsDiffer", true), ("BadNumber", true), ("BadPlace", true), ("BadSizes", true)])) (sB [sRet (eTup (eL [eC (.str [97, 110, 111, 116, 104, 101, 114])]))]) (sB []),
    sIf (tB1 (e2 eqD (eV 3) (eLst true (eL [eC (.bl true), eC (.bl true), eC (.bl false), eC (.bl false)])))) (sB [sRet (eTup (eL [eC (.str [78, 111, 116, 70, 97, 105, 114]), eXf ["BadForest", "NotFair"] x "field"]))]) (sB []),
    sIf (tB1 (e2 eqD (eV 3) (eLst true (eL [eC (.bl true), eC (.bl false), eC (.bl true), eC (.bl false)])))) (sB [sRet (eTup (eL [eC (.str [78, 111, 82, 101, 99, 111, 114, 100])]))]) (sB []),
    sIf (tB1 (e2 eqD (eV 3) (eLst true (eL [eC (.bl true), eC (.bl false), eC (.bl false), eC (.bl true)])))) (sB [sRet (eTup (eL [eC (.str [66, 97, 100, 82, 101, 99, 111, 114, 100]), eXf ["BadRecord"] x "record"]))]) (sB []),
    sRet (eTup (eL [eC (.str [97, 110, 111, 116, 104, 101, 114])]))]),
  sRet (eC .non)]
def F_q_told_v4 : AF := fnT 2 4 b_q_told_v4
/- _law_refuses: _law_tape_here, _law_forest, _law_parents_here, _law_kinds_here, _law_lot_here, _law_spoilt, _law_rows, _law_asked, _law_handed, _law_told_here, _law_pair -/
def b_q_refuses_v4 : AS := sB [sSet 5 (eA (on1 (listD true)) (eL [eV 3])),
  sIf (tB1 (e2 eqD (eA (F_q_take) (eL [eV 0, eC (.int 2)])) (eC (.int 0)))) (sB [sSet 5 (eA (F_q_unfair_v2) (eL [eV 0, eV 2, eV 3]))]) (sB []),
  sSet 6 (eA (on1 (listD true)) (eL [eV 4])),
  sIf (tB1 (e2 eqD (eA (F_q_take) (eL [eV 0, eC (.int 2)])) (eC (.int 0)))) (sB [sSet 6 (eSl true (eV 4) (oN) (oS (eA (F_q_take) (eL [eV 0, eC (.int 2)]))))]) (sB []),
  sSet 6 (eA (F_q_faulty) (eL [eV 0, eV 6])),
  sSet 7 (eV 1),
  sIf (tB1 (e2 neD (eV 5) (eV 3))) (sB [sSet 7 (eA (mkI "Forest" true (F_Forest_init)) (eL [eA (on1 (listD true)) (eL [eV 2]), eA (on1 (listD true)) (eL [eV 5])]))]) (sB []),
  sSet 8 (eA (on1 (listD true)) (eL [eV 6])),
  sSet 9 (eA (F_q_told_v4) (eL [eV 7, eV 8])),
  sIf (tOr (tNot (tV (eA (F_q_same_v2 12) (eL [eV 9, eA (F_q_due_v3) (eL [eV 5, eV 6])])))) (tNot (tV (eA (F_q_same_v2 12) (eL [eV 8, eV 6]))))) (sB [sRet (eC (.bl false))]) (sB []),
  sSet 10 (eA (F_q_faulty) (eL [eV 0, eLst true (eL [e2 ixD (eV 4) (eC (.int 0)), e2 ixD (eV 4) (e2 subD (eA (on1 lenD) (eL [eV 4])) (eC (.int 1)))])])),
  sRet (eA (F_q_same_v2 12) (eL [eA (F_q_below_told) (eL [eV 7, e2 ixD (eV 10) (eC (.int 0)), e2 ixD (eV 10) (eC (.int 1))]), eA (F_q_due_v3) (eL [eV 5, eV 10])]))]
def F_q_refuses_v4 : AF := fnT 5 11 b_q_refuses_v4
/- law: _law_script, _law_tape_here, _law_n, _law_parents_here, _law_count_here, _law_span_here, _law_turn, _law_kinds_here, _law_rows, _law_lot_here, _law_further, _law_paths_here, _law_low, _law_forest, _law_end, _law_bottom -/
def b_law_k53 : AS := sB [sSet 1 (eA (F_q_tape) (eL [eV 0, eC (.int 0)])),
  sSet 2 (eA (F_q_fields) (eL [eV 1])),
  sSet 3 (eA (F_q_parents) (eL [eV 1, eV 2])),
  sSet 4 (eA (F_q_count) (eL [eV 1, eC (.int 1)])),
  sSet 5 (eA (F_q_span) (eL [eV 1])),
  sSet 6 (eA (F_q_tape) (eL [eV 0, eC (.int 1)])),
  sSet 7 (eA (F_q_kinds) (eL [eV 6, eV 3, eC (.bl true)])),
  sSet 8 (eA (F_q_lot) (eL [eV 0, eC (.int 2), eV 2, e2 (addD true) (eV 4) (eC (.int 1)), eV 5])),
  sSet 9 (eSl true (eV 8) (oN) (oS (eV 4))),
  sSet 10 (e2 ixD (eV 8) (eV 4)),
  sSet 11 (eA (F_q_paths) (eL [eV 3])),
  sSet 12 (eA (F_q_turned) (eL [eV 7])),
  sSet 13 (eA (mkI "Forest" true (F_Forest_init)) (eL [eA (on1 (listD true)) (eL [eV 3]), eA (on1 (listD true)) (eL [eV 7])])),
  sIf (tNot (tV (eA (F_q_meets) (eL [eV 13, eV 11, eV 12, eV 9, eV 10])))) (sB [sRet (eC (.bl false))]) (sB []),
  sSet 14 (eA (F_q_fold) (eL [eV 11, eV 7, eV 9])),
  sSet 15 (eA (F_q_fold) (eL [eV 11, eV 12, eV 9])),
  sIf (tNot (tV (eA (F_q_same_v2 12) (eL [eA (F_lot_end) (eL [eV 13, eA (on1 (listD true)) (eL [eV 9])]), eV 14])))) (sB [sRet (eC (.bl false))]) (sB []),
  sIf (tNot (tV (eA (F_q_ordered) (eL [eV 13, eV 11, eV 7, e2 (addD true) (eSl true (eV 9) (oN) (oS (eC (.int 4)))) (eLst true (eL [eV 10, eV 14, eV 15]))])))) (sB [sRet (eC (.bl false))]) (sB []),
  sIf (tNot (tV (eA (F_q_bounds) (eL [eV 13, eV 9, eV 10, eV 14, eV 15])))) (sB [sRet (eC (.bl false))]) (sB []),
  sIf (tNot (tV (eA (F_q_refuses_v4) (eL [eV 6, eV 13, eV 3, eV 7, eV 9])))) (sB [sRet (eC (.bl false))]) (sB []),
  sIf (tNot (tV (eA (F_q_distributes) (eL [eV 13, eV 11, eV 7, e2 ixD (eV 8) (eC (.int 0)), e2 ixD (eV 8) (eC (.int 1)), eV 10])))) (sB [sRet (eC (.bl false))]) (sB []),
  sRet (eA (F_q_meets) (eL [eA (mkI "Forest" true (F_Forest_init)) (eL [eA (on1 (listD true)) (eL [eV 3]), eA (on1 (listD true)) (eL [eV 12])]), eV 11, eV 7, eV 9, eV 10]))]
def F_law_k53 : AF := fnT 1 16 b_law_k53
end Sm
end

section
set_option linter.all false
set_option maxRecDepth 10000
/-! Ch20: is_below, meet (k53), first part. -/
namespace Sm
/-- a is not above b on any path -/
def belowF (ps : Par) (ks : List Kd) (a b : List Int) (f : Nat) : Bool := match fu (path ps f) (rec a) (rec b) with
  | none => true
  | some p => bet (kd ks p) (rv b p) (rv a p)
def belowB (ps : Par) (ks : List Kd) (a b : List Int) : Bool := (List.range ps.length).all (belowF ps ks a b)
end Sm
end

section
set_option linter.all false
set_option maxRecDepth 10000
/-! Ch21: the order along a path. -/
namespace Sm
def lexLe : List Int → List Int → Bool
  | [], _ => true
  | _ :: _, [] => false
  | x :: xs, y :: ys => decide (x < y) || (decide (x = y) && lexLe xs ys)
/-- a record's values along a path, each so that more is better -/
def keyP (ks : List Kd) (path : List Nat) (r : List Int) : List Int := path.map fun p => adj (kd ks p) (rv r p)
@[simp] theorem keyP_len (ks : List Kd) (path : List Nat) (r : List Int) : (keyP ks path r).length = path.length := by simp [keyP]
def mx (x y : List Int) : List Int := if lexLe x y then y else x
def mn (x y : List Int) : List Int := if lexLe y x then y else x
end Sm
end

section
set_option linter.all false
set_option maxRecDepth 10000
/-! Ch22: records by their paths; k53's distributivity. -/
namespace Sm
section
variable {ps : Par} {ks : List Kd} (g : Good ps ks) (hw : ∀ p < ps.length, (kd ks p).end_ = false) {x y z : List Int} (lx : x.length = ps.length) (ly : y.length = ps.length) (lz : z.length = ps.length)
include g hw lx ly lz
end
end Sm
end

section
set_option linter.all false
set_option maxRecDepth 10000
/-! Au: what simp may do by itself; loops that only look. -/
namespace Sm
@[simp] theorem trim_s (h : AH) (d : D) (hc : (nloc d && clo h.length d) = true) : trim h (.ok d h) = .ok d h := by
  rw [Bool.and_eq_true] at hc
  exact trim_same hc.1 hc.2
@[simp] theorem trim_a (h L : AH) (d : D) (hc : (nloc d && clo h.length d) = true) : trim h (.ok d (h ++ L)) = .ok d h := by
  rw [Bool.and_eq_true] at hc
  exact trim_app hc.1 hc.2
@[simp] theorem nloc_eR (r : List Int) : nloc (eR r) = true := rfl
@[simp] theorem nloc_fo (ps : Par) (ks : List Kd) : nloc (fo ps ks) = true := rfl
@[simp] theorem nloc_eO (p : Option Nat) : nloc (eO p) = true := by cases p <;> rfl
@[simp] theorem nloc_eK (k : Kd) : nloc (eK k) = true := rfl
@[simp] theorem nloc_encBO' (d : Option BDue) : nloc (encBO d) = true := nloc_encBO d
section
variable {α : Type} {b : AS} {v : Nat} {ys : List α} {enc : α → D} {Q : Fl → AH → Prop} {h : AH} {e : Env}
theorem all_w (I : Env → Prop) (h0 : I e) (step : ∀ y ∈ ys, ∀ e, I e → wp (b (e.set v (some (enc y))) h) (missQ I h)) (fin : ∀ e, I e → Q (.nx e) h) : wp (forN (gV v) b (.lst (ys.map enc)) (Src.lst (ys.map enc)).fuel 0 e h) Q :=
  first_w (fun _ => false) I h0 (fun y hy e hi _ => step y hy e hi) (fun y hy e hi hp => by cases hp) fun e hi _ => fin e hi
end

section
variable (h : AH)
@[simp] theorem isNon_bl (b : Bool) : isNonD (.bl b) h = .ok (.bl false) h := by unfold isNonD; simp
@[simp] theorem isNon_str (s : List Nat) : isNonD (.str s) h = .ok (.bl false) h := by unfold isNonD; simp
@[simp] theorem isNon_tup (s : List D) : isNonD (.tup s) h = .ok (.bl false) h := by unfold isNonD; simp
@[simp] theorem isNon_lst (s : List D) : isNonD (.lst s) h = .ok (.bl false) h := by unfold isNonD; simp
@[simp] theorem isNon_loc (l : Nat) : isNonD (.loc l) h = .ok (.bl false) h := by unfold isNonD; simp
@[simp] theorem isNon_ins (c : String) (n : List String) (d : List D) : isNonD (.ins c n d) h = .ok (.bl false) h := by unfold isNonD; simp
@[simp] theorem isNon_fo (ps : Par) (ks : List Kd) : isNonD (fo ps ks) h = .ok (.bl false) h := isNon_ins h _ _ _
@[simp] theorem isNon_eR (r : List Int) : isNonD (eR r) h = .ok (.bl false) h := isNon_tup h _
@[simp] theorem notNon_bl (b : Bool) : notNonD (.bl b) h = .ok (.bl true) h := by unfold notNonD; simp
@[simp] theorem notNon_str (s : List Nat) : notNonD (.str s) h = .ok (.bl true) h := by unfold notNonD; simp
@[simp] theorem notNon_tup (s : List D) : notNonD (.tup s) h = .ok (.bl true) h := by unfold notNonD; simp
@[simp] theorem notNon_lst (s : List D) : notNonD (.lst s) h = .ok (.bl true) h := by unfold notNonD; simp
@[simp] theorem notNon_loc (l : Nat) : notNonD (.loc l) h = .ok (.bl true) h := by unfold notNonD; simp
@[simp] theorem notNon_ins (c : String) (n : List String) (d : List D) : notNonD (.ins c n d) h = .ok (.bl true) h := by unfold notNonD; simp
@[simp] theorem notNon_fo (ps : Par) (ks : List Kd) : notNonD (fo ps ks) h = .ok (.bl true) h := notNon_ins h _ _ _
@[simp] theorem notNon_eR (r : List Int) : notNonD (eR r) h = .ok (.bl true) h := notNon_tup h _
@[simp] theorem eq_bl' (a b : Bool) : eqD (.bl a) (.bl b) h = .ok (.bl (decide (a = b))) h := by cases a <;> cases b <;> rfl
@[simp] theorem ne_bl' (a b : Bool) : neD (.bl a) (.bl b) h = .ok (.bl (!decide (a = b))) h := by cases a <;> cases b <;> rfl
@[simp] theorem isTy_bl' (b : Bool) : isTy "bool" (.bl b) h = .ok (.bl true) h := rfl
@[simp] theorem isTy_lst_lst (s : List D) : isTy "list" (.lst s) h = .ok (.bl true) h := rfl
@[simp] theorem isTy_lst_tup (s : List D) : isTy "list" (.tup s) h = .ok (.bl false) h := rfl
@[simp] theorem isTy_tup_lst (s : List D) : isTy "tuple" (.lst s) h = .ok (.bl false) h := rfl
end
@[simp] theorem at_5 {α : Type} (xs : List α) : at? xs 5 = xs[5]? := at_nat xs 5
@[simp] theorem at_6 {α : Type} (xs : List α) : at? xs 6 = xs[6]? := at_nat xs 6
@[simp] theorem at_7 {α : Type} (xs : List α) : at? xs 7 = xs[7]? := at_nat xs 7
@[simp] theorem at_8 {α : Type} (xs : List α) : at? xs 8 = xs[8]? := at_nat xs 8
@[simp] theorem at_9 {α : Type} (xs : List α) : at? xs 9 = xs[9]? := at_nat xs 9
@[simp] theorem at_10 {α : Type} (xs : List α) : at? xs 10 = xs[10]? := at_nat xs 10
@[simp] theorem at_11 {α : Type} (xs : List α) : at? xs 11 = xs[11]? := at_nat xs 11
@[simp] theorem at_12 {α : Type} (xs : List α) : at? xs 12 = xs[12]? := at_nat xs 12
@[simp] theorem at_13 {α : Type} (xs : List α) : at? xs 13 = xs[13]? := at_nat xs 13
@[simp] theorem at_14 {α : Type} (xs : List α) : at? xs 14 = xs[14]? := at_nat xs 14
@[simp] theorem at_15 {α : Type} (xs : List α) : at? xs 15 = xs[15]? := at_nat xs 15
theorem if_set {t : AB} {i : Nat} {a : AE} {d : D} {e : Env} {h h1 h2 : AH} {P : Fl → AH → Prop} (ht : t e h = .ok true h1) (ha : a e h1 = .ok d h2) (q : P (.nx (e.set i (some d))) h2) : wp (sIf t (sB [sSet i a]) (sB []) e h) P := by
  rw [sIf_def, ht]
  show wp (sB [sSet i a] e h1) P
  rw [sB_cons, sSet_def, ha]
  exact q
theorem if_no {t : AB} {x : AS} {e : Env} {h h1 : AH} {P : Fl → AH → Prop} (ht : t e h = .ok false h1) (q : P (.nx e) h1) : wp (sIf t x (sB []) e h) P := by
  rw [sIf_def, ht]
  exact q
theorem if_yes {t : AB} {a b : AS} {e : Env} {h h1 : AH} {P : Fl → AH → Prop} (ht : t e h = .ok true h1) (q : wp (a e h1) P) : wp (sIf t a b e h) P := by
  rw [sIf_def, ht]
  exact q
theorem for_it {it : AI} {g : AG} {b : AS} {xs : List D} {e : Env} {h h1 : AH} {Q : Fl → AH → Prop} (hit : it e h = .ok (.lst xs) h1) (q : wp (forN g b (.lst xs) (Src.lst xs).fuel 0 e h1) Q) : wp (sFor it g b e h) Q := by
  rw [sFor_def, hit]
  exact q
theorem rng_get0 {n i : Nat} {x : D} (h : (rng 0 n)[i]? = some x) : i < n ∧ x = .int i := by
  obtain ⟨a, b⟩ := rng_get h
  rw [Int.zero_add] at b
  exact ⟨a, b⟩
end Sm
end

section
set_option linter.all false
set_option maxRecDepth 10000
/-! Rb: Forest(..) of any parents and kinds. -/
namespace Sm
theorem trim_exL {h L : AH} {x : Ex} (hc : clos h.length x.ds = true) : trim h (.exc x (h ++ L)) = .exc x h := by
  unfold trim
  dsimp only
  rw [hc, pre_app rfl (pre_refl h), List.take_left]
  simp
def bfX (f : Option Nat) : Ex := ⟨"BadForest", ["field"], [eO f]⟩
@[simp] theorem clos_bfX (n : Nat) (f : Option Nat) : clos n (bfX f).ds = true := by simp [bfX]
@[simp] theorem notNon_encOI (p : Option Int) (h : AH) : notNonD (encOI p) h = .ok (.bl p.isSome) h := by cases p <;> rfl
@[simp] theorem isNon_encOI (p : Option Int) (h : AH) : isNonD (encOI p) h = .ok (.bl p.isNone) h := by cases p <;> rfl
section
variable {h : AH} {P Q : D} {ps : Par} {X : List (Option Int)} {ks : List Kd}
theorem never_g (s : SeqA h P (encP ps)) (r : InR ps) (hn : ps.length ≤ 1000) {f : Nat} (hf : f < ps.length) : F_never_ends [P, .int f] h = .ok (.bl (itr ps ps.length (some f)).isSome) h := by
  refine fnT_eq' rfl ?_
  have hi : inI (ps.length : Int) = true := inI_nat
  have ht : ∀ b, trim h (.ok (.bl b) h) = .ok (.bl b) h := fun b => trim_same rfl rfl
  simp [b_never_ends, envOf, s.len, hi]
  refine wp_bind (for_w (I := fun i e h' => ∃ (y : Option D), e = [some P, some (.int f), some (eO (itr ps i (some f))), y] ∧ h' = h) ⟨none, rfl, rfl⟩ ?_ ?_)
  · rintro i z e h' hz ⟨y, rfl, rfl⟩
    obtain ⟨hil, rfl⟩ := rng_get hz
    cases q : itr ps i (some f) with
    | none =>
      have := itr_add ps i (some f) (ps.length - i)
      rw [show i + (ps.length - i) = ps.length by omega, q, itr_none] at this
      simp [isNonD, ht, this]
    | some k =>
      have k1 := r.itr hf i k q
      have : itr ps (i + 1) (some f) = par ps k := by rw [itr, q]; rfl
      simp [isNonD, ixPA s k1, this]
  · rintro e h' ⟨y, rfl, rfl⟩
    rw [rng_len]
    simp [ht]
theorem ixXA (s : SeqA h P (X.map encOI)) {f : Nat} (hf : f < X.length) : ixD P (.int f) h = .ok (encOI (xat X f)) h := by
  rw [s.ix, at_nat, List.getElem?_map, xat_get hf]; rfl
theorem shape_g (s : SeqA h P (X.map encOI)) (t : SeqA h Q (encK ks)) (hX : X.length ≤ 1000) : F_check_shape [P, Q] h = match flt X ks with
    | none => .ok .non h
    | some f => .exc (bfX f) h := by
  have hi : inI (X.length : Int) = true := inI_nat
  have lp : lenD P h = .ok (.int X.length) h := by have := s.len; rw [List.length_map] at this; exact this
  have lq : lenD Q h = .ok (.int ks.length) h := by have := t.len; rw [encK_len] at this; exact this
  have ht := trim_same (h := h) (d := .non) rfl rfl
  have te : ∀ f, trim h (.exc (bfX f) h) = .exc (bfX f) h := fun f => trim_exc (by simp)
  refine fnT_x rfl ?_
  rw [b_check_shape]
  simp only [envOf, List.map_cons, List.map_nil, List.length_cons, List.length_nil, List.cons_append, List.nil_append, Nat.reduceAdd, Nat.reduceSub, List.replicate_succ, List.replicate_zero]
  refine q_set (d := (.int X.length)) (h2 := h) (by simp [lp]) ?_
  simp only [List.set_cons_succ, List.set_cons_zero]
  unfold flt
  by_cases c : X.length ≠ ks.length ∨ X.length = 0 ∨ 16 < X.length
  · rw [if_pos c]
    refine q_any (P := fun fl k => ∃ e, fl = .ex (bfX none) e ∧ k = h) ?_ ?_
    · refine if_yes (h1 := h) ?_ (by simp [bfX])
      by_cases c0 : X.length = ks.length
      · have c0' : (X.length : Int) = ks.length := by omega
        by_cases c1 : X.length = 0
        · have c1' : ¬ (1 : Int) ≤ X.length := by omega
          rw [c0'] at c1'
          simp [lq, c0', c1']
        · have c1' : (1 : Int) ≤ X.length := by omega
          have c2' : ¬ (X.length : Int) ≤ 16 := by omega
          rw [c0'] at c1' c2'
          simp [lq, c0', c1', c2']
      · have c0' : ¬ (X.length : Int) = ks.length := by omega
        simp [lq, c0']
    · rintro fl k ⟨e, rfl, rfl⟩
      rw [kB2_ex]
      exact te none
  rw [if_neg c]
  have hle : X.length ≤ 16 := by omega
  refine q_if0 (h2 := h) (by
    have c0 : (X.length : Int) = ks.length := by omega
    have c1 : (1 : Int) ≤ X.length := by omega
    have c2 : (X.length : Int) ≤ 16 := by omega
    rw [c0] at c1 c2
    simp [lq, c0, c1, c2]) ?_
  have hk : ks.length = X.length := by omega
  clear c
  refine q_any (P := fun fl k => k = h ∧ ((∃ f e, flt1 X = some f ∧ fl = .ex (bfX (some f)) e) ∨ ∃ y, flt1 X = none ∧ fl = .nx [some P, some Q, some (.int X.length), y])) ?_ ?_
  · refine for_it (xs := rng 0 X.length) (h1 := h) (by simp [hi]) ?_
    rw [rng_eN]
    refine first_w (fun f => !okE X.length (xat X f)) (fun e => ∃ y, e = [some P, some Q, some (.int X.length), y]) ⟨none, rfl⟩ ?_ ?_ ?_
    · rintro f hf e ⟨y, rfl⟩ hp
      rw [List.mem_range] at hf
      have i1 := ixXA s hf
      simp at hp
      cases q : xat X f with
      | none => rw [q] at i1; simp [eN, i1]
      | some v =>
        rw [q] at i1 hp
        simp [okE] at hp
        simp [eN, i1, encOI, hp.1, hp.2]
    · rintro f hf e ⟨y, rfl⟩ hp hs
      rw [List.mem_range] at hf
      have i1 := ixXA s hf
      simp at hp
      cases q : xat X f with
      | none => rw [q] at hp; cases hp
      | some v =>
        rw [q] at i1 hp
        have fin : hitQ (fun fl k => k = h ∧ ((∃ f e, flt1 X = some f ∧ fl = .ex (bfX (some f)) e) ∨ ∃ y, flt1 X = none ∧ fl = .nx [some P, some Q, some (.int X.length), y])) (.ex (bfX (some f)) [some P, some Q, some (.int X.length), some (.int f)]) h := ⟨rfl, .inl ⟨f, _, hs, rfl⟩⟩
        unfold bfX at fin
        by_cases a1 : 0 ≤ v
        · have a2 : ¬ v < X.length := by simp [okE, a1] at hp; omega
          simpa [eN, i1, encOI, a1, a2, bfX] using fin
        · simpa [eN, i1, encOI, a1, bfX] using fin
    · rintro e ⟨y, rfl⟩ hs
      exact ⟨rfl, .inr ⟨y, hs, rfl⟩⟩
  rintro fl k ⟨rfl, ⟨f, e, hf, rfl⟩ | ⟨y, hf, rfl⟩⟩
  · rw [kB2_ex, hf]
    exact te (some f)
  rw [kB2_nx, hf]
  obtain ⟨en, ir⟩ := inR_of hf
  rw [en] at s
  have pl : (toP X).length = X.length := toP_len X
  generalize toP X = ps at *
  clear hf en
  dsimp only
  refine q_any (P := fun fl k2 => k2 = k ∧ ((∃ f e, flt2 ps = some f ∧ fl = .ex (bfX (some f)) e) ∨ ∃ y, flt2 ps = none ∧ fl = .nx [some P, some Q, some (.int X.length), y])) ?_ ?_
  · refine for_it (xs := rng 0 X.length) (h1 := k) (by simp [hi]) ?_
    rw [rng_eN, ← pl]
    refine first_w (fun f => (itr ps ps.length (some f)).isSome) (fun e => ∃ y, e = [some P, some Q, some (.int ps.length), y]) ⟨y, rfl⟩ ?_ ?_ ?_
    · rintro f hf e ⟨y, rfl⟩ hp
      rw [List.mem_range] at hf
      have nv := never_g s ir (by omega) hf
      rw [hp] at nv
      simp [eN, nv]
    · rintro f hf e ⟨y, rfl⟩ hp hs
      rw [List.mem_range] at hf
      have nv := never_g s ir (by omega) hf
      rw [hp] at nv
      have fin : hitQ (fun fl k2 => k2 = k ∧ ((∃ f e, flt2 ps = some f ∧ fl = .ex (bfX (some f)) e) ∨ ∃ y, flt2 ps = none ∧ fl = .nx [some P, some Q, some (.int ps.length), y])) (.ex (bfX (some f)) [some P, some Q, some (.int ps.length), some (.int f)]) k := ⟨rfl, .inl ⟨f, _, hs, rfl⟩⟩
      unfold bfX at fin
      simpa [eN, nv, bfX] using fin
    · rintro e ⟨y, rfl⟩ hs
      exact ⟨rfl, .inr ⟨y, hs, rfl⟩⟩
  rintro fl k2 ⟨rfl, ⟨f, e, hf, rfl⟩ | ⟨y, hf, rfl⟩⟩
  · rw [kB2_ex, hf]
    exact te (some f)
  rw [kB2_nx, hf]
  dsimp only
  refine q_any (P := fun fl k => k = k2 ∧ ((∃ f e, flt3 ps ks = some f ∧ fl = .ex (bfX (some f)) e) ∨ ∃ e, flt3 ps ks = none ∧ fl = .nx e)) ?_ ?_
  · refine for_it (xs := rng 0 X.length) (h1 := k2) (by simp [hi]) ?_
    rw [rng_eN, ← pl]
    refine first_w (fun f => (kd ks f).end_ && decide (some f ∈ ps)) (fun e => ∃ y, e = [some P, some Q, some (.int ps.length), y]) ⟨y, rfl⟩ ?_ ?_ ?_
    · rintro f hf e ⟨y, rfl⟩ hp
      rw [List.mem_range] at hf
      have i1 := ixKA t (f := f) (by omega)
      have i2 := inE' (kd ks f) k2
      have i3 := inPA s f
      cases q : (kd ks f).end_ with
      | false => rw [q] at i2; simp [eN, i1, i2]
      | true => rw [q] at i2 hp; simp at hp; simp [eN, i1, i2, i3, hp]
    · rintro f hf e ⟨y, rfl⟩ hp hs
      rw [List.mem_range] at hf
      have i1 := ixKA t (f := f) (by omega)
      have i2 := inE' (kd ks f) k2
      have i3 := inPA s f
      have fin : hitQ (fun fl k => k = k2 ∧ ((∃ f e, flt3 ps ks = some f ∧ fl = .ex (bfX (some f)) e) ∨ ∃ e, flt3 ps ks = none ∧ fl = .nx e)) (.ex (bfX (some f)) [some P, some Q, some (.int ps.length), some (.int f)]) k2 := ⟨rfl, .inl ⟨f, _, hs, rfl⟩⟩
      unfold bfX at fin
      simp at hp
      rw [hp.1] at i2
      simpa [eN, i1, i2, i3, hp.2, bfX] using fin
    · rintro e ⟨y, rfl⟩ hs
      exact ⟨rfl, .inr ⟨_, hs, rfl⟩⟩
  rintro fl k3 ⟨rfl, ⟨f, e, hf, rfl⟩ | ⟨e, hf, rfl⟩⟩
  · rw [kB2_ex, hf]
    exact te (some f)
  · rw [kB2_nx, hf]
    simp [ht]
end
theorem make_bad {P Q : D} {X : List (Option Int)} {ks : List Kd} {h : AH} {f : Option Nat} (s : ∀ o, SeqA (h ++ [o]) P (X.map encOI)) (t : ∀ o, SeqA (h ++ [o]) Q (encK ks)) (hX : X.length ≤ 1000) (e : flt X ks = some f) : mkI "Forest" true F_Forest_init [P, Q] h = .exc (bfX f) h := by
  have sh := shape_g (s (.ins "Forest" [] [])) (t _) hX
  rw [e] at sh
  have it : F_Forest_init [.loc h.length, P, Q] (h ++ [.ins "Forest" [] []]) = .exc (bfX f) (h ++ [.ins "Forest" [] []]) := by
    refine fnT_x rfl ?_
    have ht := trim_exc (h := h ++ [.ins "Forest" [] []]) (x := bfX f) (by simp)
    simp [b_Forest_init, envOf, sh, ht]
  unfold mkI mkIR
  rw [if_pos rfl, it, bind_exc]
  exact trim_exL (by simp)
theorem make_good {P Q : D} {X : List (Option Int)} {ks : List Kd} {h : AH} (s : ∀ o, SeqA (h ++ [o]) P (X.map encOI)) (t : ∀ o, SeqA (h ++ [o]) Q (encK ks)) (e : flt X ks = none) : mkI "Forest" true F_Forest_init [P, Q] h = .ok (fo (toP X) ks) h := by
  obtain ⟨e1, g⟩ := good_of e
  rw [e1] at s
  exact make_a s t g
end Sm
end

section
set_option linter.all false
set_option maxRecDepth 10000
/-! Rf: which words a change of one field changes. -/
namespace Sm
theorem par_set {ps : Par} {f : Nat} (p : Option Nat) {x : Nat} (h : x ≠ f) : par (ps.set f p) x = par ps x := by
  unfold par
  rw [List.getElem?_set_ne (Ne.symm h)]
theorem par_set_self {ps : Par} {f : Nat} (p : Option Nat) (hf : f < ps.length) : par (ps.set f p) f = p := by
  unfold par
  rw [List.getElem?_set_self hf]; rfl
theorem kd_setN {ks : List Kd} {f : Nat} (k : Kd) {x : Nat} (h : x ≠ f) : kd (ks.set f k) x = kd ks x := by
  unfold kd
  rw [List.getD_eq_getElem?_getD, List.getD_eq_getElem?_getD, List.getElem?_set_ne (Ne.symm h)]
theorem kd_setS {ks : List Kd} {f : Nat} (k : Kd) (hf : f < ks.length) : kd (ks.set f k) f = k := by
  unfold kd
  rw [List.getD_eq_getElem?_getD, List.getElem?_set_self hf]; rfl
/-- the way is the same if its parents are -/
theorem path_same {ps qs : Par} (a : Acy ps) (b : Acy qs) (hl : ps.length ≤ qs.length) : ∀ x < ps.length, (∀ p ∈ path ps x, par qs p = par ps p) → path qs x = path ps x := by
  refine path_ind a fun x hx ih h => ?_
  have hx2 : x < qs.length := by omega
  rcases path_cases a hx with ⟨e1, e2⟩ | ⟨p, hp, e1, e2⟩
  · have := h x (by rw [e2]; simp)
    rw [e1] at this
    rw [path_none b hx2 this, e2]
  · have := h x (by rw [e2]; simp)
    rw [e1] at this
    have i := ih p e1 fun y hy => h y (by rw [e2]; exact List.mem_append_left _ hy)
    rw [path_some b hx2 this, e2, i]
theorem word_same {ps qs : Par} {ks js : List Kd} (a : Acy ps) (b : Acy qs) (hl : ps.length ≤ qs.length) {x : Nat} (hx : x < ps.length) (h : ∀ p ∈ path ps x, par qs p = par ps p ∧ kd js p = kd ks p) : wordD qs js x = wordD ps ks x := by
  show (path qs x).map _ = (path ps x).map _
  rw [path_same a b hl x hx fun p hp => (h p hp).1]
  apply List.map_congr_left
  intro p hp
  rw [(h p hp).2]
theorem cut_uniq {f : Nat} : ∀ {u v s t : List Nat}, (u ++ f :: s).Nodup → u ++ f :: s = v ++ f :: t → u = v
  | [], [], _, _, _, _ => rfl
  | [], b :: v, s, t, nd, e => by
    simp at e
    obtain ⟨rfl, rfl⟩ := e
    simp at nd
  | a :: u, [], s, t, nd, e => by
    simp at e
    obtain ⟨rfl, rfl⟩ := e
    simp at nd
  | a :: u, b :: v, s, t, nd, e => by
    simp at e
    obtain ⟨rfl, e⟩ := e
    simp at nd
    rw [cut_uniq (f := f) (u := u) (v := v) (s := s) (t := t) nd.2 e]
theorem par_cut {ps : Par} (a : Acy ps) {x f : Nat} {u t : List Nat} (hx : x < ps.length) (e : path ps x = u ++ f :: t) : par ps f = u.getLast? ∧ f < ps.length := by
  have fm : f ∈ path ps x := by rw [e]; simp
  have hf := path_mem a hx f fm
  refine ⟨?_, hf⟩
  obtain ⟨s, es⟩ := path_split a hx f fm
  have nd := path_nodup a x hx
  rcases path_cases a hf with ⟨e1, e2⟩ | ⟨p, hp, e1, e2⟩
  · rw [e2, e] at es
    rw [e] at nd
    have := cut_uniq (v := []) nd es
    rw [this, e1]; rfl
  · rw [e2, e, List.append_assoc] at es
    rw [e] at nd
    have := cut_uniq (v := path ps p) nd es
    rw [this, e1, path_last a hp]
def unF : D → Nat
  | .tup [.int i, _] => i.toNat
  | _ => 0
theorem word_path {ps qs : Par} {ks js : List Kd} {x y : Nat} (e : wordD ps ks x = wordD qs js y) : path ps x = path qs y := by
  have e : (path ps x).map (fun (k : Nat) => D.tup [.int k, eK (kd ks k)]) = (path qs y).map fun (k : Nat) => D.tup [.int k, eK (kd js k)] := e
  have un : ∀ (ks : List Kd) (L : List Nat), (L.map fun (k : Nat) => D.tup [.int k, eK (kd ks k)]).map unF = L := fun ks L => by
    induction L with
    | nil => rfl
    | cons a L ih => rw [List.map_cons, List.map_cons, ih]; rfl
  have := congrArg (List.map unF) e
  rw [un, un] at this
  exact this
theorem eK_inj {a b : Kd} (h : eK a = eK b) : a = b := by
  cases a <;> cases b <;> first | rfl | exact absurd h (by decide)
theorem word_kd {ps qs : Par} {ks js : List Kd} {x y : Nat} (e : wordD ps ks x = wordD qs js y) : ∀ p ∈ path ps x, kd ks p = kd js p := by
  have ep := word_path e
  have e : (path ps x).map (fun (k : Nat) => D.tup [.int k, eK (kd ks k)]) = (path qs y).map fun (k : Nat) => D.tup [.int k, eK (kd js k)] := e
  rw [← ep] at e
  intro p hp
  obtain ⟨i, hi⟩ := List.mem_iff_getElem?.mp hp
  have := congrArg (fun l => l[i]?) e
  simp [hi] at this
  exact eK_inj this
end Sm
end

section
set_option linter.all false
set_option maxRecDepth 10000
/-! Rk: a plan of single changes: after each step there is a forest. -/
namespace Sm
def Ends (ps : Par) (x : Nat) : Prop := ∃ M, itr ps M (some x) = none
theorem ends_par {ps : Par} {x : Nat} (h : ∀ p, par ps x = some p → Ends ps p) : Ends ps x := by
  cases e : par ps x with
  | none => exact ⟨1, by rw [itr_s, Option.bind_some, e]; rfl⟩
  | some p =>
    obtain ⟨M, hM⟩ := h p e
    exact ⟨M + 1, by rw [itr_s, Option.bind_some, e]; exact hM⟩
theorem itr_any {ps : Par} (r : InR ps) {f : Nat} (hf : f < ps.length) : ∀ M, itr ps M (some f) = none → itr ps ps.length (some f) = none
  | 0, h => by cases h
  | m + 1, h => by
    by_cases c : m + 1 ≤ ps.length
    · have := itr_add ps (m + 1) (some f) (ps.length - (m + 1))
      rw [h, itr_none, show m + 1 + (ps.length - (m + 1)) = ps.length by omega] at this
      exact this
    · refine itr_any r hf m ?_
      have e := itr_add ps (m - ps.length) (some f) ps.length
      have e2 := itr_add ps (m - ps.length) (some f) (ps.length + 1)
      rw [show m - ps.length + ps.length = m by omega] at e
      rw [show m - ps.length + (ps.length + 1) = m + 1 by omega, h] at e2
      cases q : itr ps (m - ps.length) (some f) with
      | none => rw [q, itr_none] at e; exact e
      | some y =>
        rw [q] at e e2
        rw [e]
        exact itr_pig r (r.itr hf _ y q) e2.symm
theorem acy_ends {ps : Par} (r : InR ps) (h : ∀ x < ps.length, Ends ps x) : Acy ps := acy_of r fun f hf => by
  obtain ⟨M, hM⟩ := h f hf
  exact itr_any r hf M hM
section
variable {ps qs cs : Par}
/-- each field goes its old way, or stands on a way that is wholly new -/
theorem acy_mix (a : Acy ps) (b : Acy qs) (hl : qs.length = ps.length) (hc : cs.length = ps.length) (r : InR cs) (h : ∀ x < ps.length, par cs x = par ps x ∨ ∀ y ∈ path qs x, par cs y = par qs y) : Acy cs := by
  have new : ∀ x < qs.length, (∀ y ∈ path qs x, par cs y = par qs y) → Ends cs x := by
    refine path_ind b fun x hx ih hy => ends_par fun p hp => ?_
    rcases path_cases b hx with ⟨e1, e2⟩ | ⟨q, hq, e1, e2⟩
    · have := hy x (by rw [e2]; simp)
      rw [this, e1] at hp
      cases hp
    · have := hy x (by rw [e2]; simp)
      rw [this, e1] at hp
      cases hp
      exact ih p e1 fun y m => hy y (by rw [e2]; exact List.mem_append_left _ m)
  have all : ∀ x < ps.length, Ends cs x := by
    refine path_ind a fun x hx ih => ?_
    rcases h x hx with e | e
    · exact ends_par fun p hp => ih p (by rw [← e]; exact hp)
    · exact new x (by omega) e
  exact acy_ends r fun x hx => all x (by omega)
end
def diff (ps qs : Par) (ks js : List Kd) (f : Nat) : Prop := par ps f ≠ par qs f ∨ kd ks f ≠ kd js f
instance (ps qs : Par) (ks js : List Kd) (f : Nat) : Decidable (diff ps qs ks js f) := by unfold diff; infer_instance
/-- the order of a plan -/
structure Plan (ps qs : Par) (ks js : List Kd) (T : List Nat) : Prop where
  nd : T.Nodup
  mem : ∀ y, y ∈ T ↔ y < ps.length ∧ diff ps qs ks js y
  up : ∀ i f, T[i]? = some f → ∀ g ∈ path qs f, g ≠ f → diff ps qs ks js g → g ∈ T.take i
  lf : ∀ i f, T[i]? = some f → (kd js f).end_ = true → ∀ x < ps.length, par ps x = some f → diff ps qs ks js x → x ∈ T.take i
def stP (ps qs : Par) (T : List Nat) (k : Nat) : Par := (List.range ps.length).map fun y => if y ∈ T.take k then par qs y else par ps y
def stK (ps : Par) (ks js : List Kd) (T : List Nat) (k : Nat) : List Kd := (List.range ps.length).map fun y => if y ∈ T.take k then kd js y else kd ks y
section
variable {ps qs : Par} {ks js : List Kd} {T : List Nat}
@[simp] theorem stP_len (k : Nat) : (stP ps qs T k).length = ps.length := by simp [stP]
@[simp] theorem stK_len (k : Nat) : (stK ps ks js T k).length = ps.length := by simp [stK]
theorem stP_par {k x : Nat} (hx : x < ps.length) : par (stP ps qs T k) x = if x ∈ T.take k then par qs x else par ps x := by
  unfold stP
  rw [par, List.getElem?_map, List.getElem?_range hx]; rfl
theorem stK_kd {k x : Nat} (hx : x < ps.length) : kd (stK ps ks js T k) x = if x ∈ T.take k then kd js x else kd ks x := by
  unfold stK
  rw [kd, List.getD_eq_getElem?_getD, List.getElem?_map, List.getElem?_range hx]; rfl
theorem par_ext {a b : Par} (hl : a.length = b.length) (h : ∀ x < a.length, par a x = par b x) : a = b := by
  refine List.ext_getElem? fun i => ?_
  by_cases c : i < a.length
  · rw [par_get c, par_get (by omega), h i c]
  · rw [List.getElem?_eq_none (by omega), List.getElem?_eq_none (by omega)]
theorem kd_ext {a b : List Kd} (hl : a.length = b.length) (h : ∀ x < a.length, kd a x = kd b x) : a = b := by
  refine List.ext_getElem? fun i => ?_
  by_cases c : i < a.length
  · rw [kd_get c, kd_get (by omega), h i c]
  · rw [List.getElem?_eq_none (by omega), List.getElem?_eq_none (by omega)]
theorem take_mono {T : List Nat} {i k x : Nat} (h : i ≤ k) (m : x ∈ T.take i) : x ∈ T.take k := by
  rw [List.mem_take_iff_getElem] at m ⊢
  obtain ⟨j, hj, e⟩ := m
  exact ⟨j, by omega, e⟩
theorem take_at {T : List Nat} {k x : Nat} (m : x ∈ T.take k) : ∃ i < k, T[i]? = some x := by
  rw [List.mem_take_iff_getElem] at m
  obtain ⟨j, hj, e⟩ := m
  exact ⟨j, by omega, by rw [List.getElem?_eq_getElem (by omega), e]⟩
/-- after each step there is a forest -/
theorem st_good (g : Good ps ks) (g2 : Good qs js) (hl : qs.length = ps.length) (pl : Plan ps qs ks js T) (k : Nat) : Good (stP ps qs T k) (stK ps ks js T k) := by
  have hk := g.len
  have hk2 := g2.len
  have r : InR (stP ps qs T k) := fun i p e => by
    have hi : i < ps.length := by
      have := (List.getElem?_eq_some_iff.mp e).1
      simpa using this
    have e2 : par (stP ps qs T k) i = some p := by unfold par; rw [e]; rfl
    rw [stP_par hi] at e2
    rw [stP_len]
    split at e2
    · have := g2.acy.inR.par e2; omega
    · exact g.acy.inR.par e2
  have nodiff : ∀ {y}, ¬ diff ps qs ks js y → par ps y = par qs y ∧ kd ks y = kd js y := fun {y} h => by
    unfold diff at h
    exact ⟨Decidable.not_not.mp fun z => h (.inl z), Decidable.not_not.mp fun z => h (.inr z)⟩
  have ac : Acy (stP ps qs T k) := by
    refine acy_mix g.acy g2.acy hl (by simp) r fun x hx => ?_
    by_cases c : x ∈ T.take k
    · right
      intro y hy
      have hyn : y < ps.length := by have := path_mem g2.acy (by omega) y hy; omega
      rw [stP_par hyn]
      split
      · rfl
      · rename_i hn
        obtain ⟨i, hi, e⟩ := take_at c
        by_cases cy : y = x
        · rw [cy] at hn; exact absurd c hn
        · by_cases d : diff ps qs ks js y
          · exact absurd (take_mono (by omega) (pl.up i x e y hy cy d)) hn
          · exact (nodiff d).1
    · left
      rw [stP_par hx, if_neg c]
  refine ⟨by simp, by simp; exact g.pos, by simp; exact g.le, ac, fun f hf he hm => ?_⟩
  rw [stP_len] at hf
  rw [stK_kd hf] at he
  obtain ⟨x, hx⟩ := List.mem_iff_getElem?.mp hm
  have hxn : x < ps.length := by
    have := (List.getElem?_eq_some_iff.mp hx).1
    simpa using this
  have px : par (stP ps qs T k) x = some f := by unfold par; rw [hx]; rfl
  rw [stP_par hxn] at px
  have leafA : (kd ks f).end_ = true → par ps x = some f → False := fun a b => g.leaf f hf a (by rw [← b]; exact List.mem_of_getElem? (par_get hxn))
  have leafB : (kd js f).end_ = true → par qs x = some f → False := fun a b => g2.leaf f (by omega) a (by rw [← b]; exact List.mem_of_getElem? (par_get (by omega)))
  by_cases cf : f ∈ T.take k
  · rw [if_pos cf] at he
    by_cases cx : x ∈ T.take k
    · rw [if_pos cx] at px
      exact leafB he px
    · rw [if_neg cx] at px
      obtain ⟨i, hi, e⟩ := take_at cf
      by_cases d : diff ps qs ks js x
      · exact cx (take_mono (by omega) (pl.lf i f e he x hxn px d))
      · exact leafB he ((nodiff d).1 ▸ px)
  · rw [if_neg cf] at he
    by_cases cx : x ∈ T.take k
    · rw [if_pos cx] at px
      obtain ⟨i, hi, e⟩ := take_at cx
      have hfp : f ∈ path qs x ∧ f ≠ x := by
        have hx2 : x < qs.length := by omega
        have hf2 : f < qs.length := by omega
        rw [path_some g2.acy hx2 px]
        refine ⟨List.mem_append_left _ (List.mem_of_getLast? (path_last g2.acy hf2)), fun z => ?_⟩
        obtain ⟨rk, _, h2⟩ := g2.acy.rank
        have := (h2 x f hx2 px).2
        rw [z] at this
        omega
      by_cases d : diff ps qs ks js f
      · exact cf (take_mono (by omega) (pl.up i x e f hfp.1 hfp.2 d))
      · exact leafB ((nodiff d).2 ▸ he) px
    · rw [if_neg cx] at px
      exact leafA he px
/-- a word that is the same in both stays -/
theorem st_word (g : Good ps ks) (g2 : Good qs js) (hl : qs.length = ps.length) (pl : Plan ps qs ks js T) (k : Nat) {x : Nat} (hx : x < ps.length) (e : wordD ps ks x = wordD qs js x) : wordD (stP ps qs T k) (stK ps ks js T k) x = wordD ps ks x := by
  have ep := word_path e
  have ek := word_kd e
  refine word_same g.acy (st_good g g2 hl pl k).acy (by simp) hx fun p hp => ?_
  have hpn := path_mem g.acy hx p hp
  have e1 : par ps p = par qs p := by
    obtain ⟨u, t, eu⟩ := List.append_of_mem hp
    have p1 := (par_cut g.acy hx eu).1
    rw [ep] at eu
    have p2 := (par_cut g2.acy (by omega) eu).1
    rw [p1, p2]
  rw [stP_par hpn, stK_kd hpn]
  have e2 := ek p hp
  split
  · exact ⟨e1.symm, e2.symm⟩
  · exact ⟨rfl, rfl⟩
theorem st_0 (hk : ks.length = ps.length) : stP ps qs T 0 = ps ∧ stK ps ks js T 0 = ks := ⟨par_ext (by simp) fun x hx => by rw [stP_par (by simpa using hx)]; simp, kd_ext (by simp [hk]) fun x hx => by rw [stK_kd (by simpa using hx)]; simp⟩
theorem st_all (hl : qs.length = ps.length) (hk : js.length = ps.length) (pl : Plan ps qs ks js T) : stP ps qs T T.length = qs ∧ stK ps ks js T T.length = js := by
  have all : ∀ x < ps.length, (par ps x = par qs x ∧ kd ks x = kd js x) ∨ x ∈ T := fun x hx => by
    by_cases d : diff ps qs ks js x
    · exact .inr ((pl.mem x).mpr ⟨hx, d⟩)
    · unfold diff at d
      exact .inl ⟨Decidable.not_not.mp fun z => d (.inl z), Decidable.not_not.mp fun z => d (.inr z)⟩
  refine ⟨par_ext (by simp [hl]) fun x hx => ?_, kd_ext (by simp [hk]) fun x hx => ?_⟩
  · rw [stP_len] at hx
    rw [stP_par hx, List.take_length]
    split
    · rfl
    · rcases all x hx with h | h
      · exact h.1
      · rename_i z; exact absurd h z
  · rw [stK_len] at hx
    rw [stK_kd hx, List.take_length]
    split
    · rfl
    · rcases all x hx with h | h
      · exact h.2
      · rename_i z; exact absurd h z
theorem st_s {k f : Nat} (e : T[k]? = some f) (hf : f < ps.length) (hn : f ∉ T.take k) : stP ps qs T (k + 1) = (stP ps qs T k).set f (par qs f) ∧ stK ps ks js T (k + 1) = (stK ps ks js T k).set f (kd js f) := by
  have tk : ∀ x, x ∈ T.take (k + 1) ↔ x ∈ T.take k ∨ x = f := fun x => by
    rw [List.take_add_one, e]
    simp
  refine ⟨par_ext (by simp) fun x hx => ?_, kd_ext (by simp) fun x hx => ?_⟩
  · rw [stP_len] at hx
    rw [stP_par hx]
    by_cases c : x = f
    · subst c
      rw [par_set_self _ (by simpa using hx), if_pos ((tk x).mpr (.inr rfl))]
    · rw [par_set _ c, stP_par hx]
      have : x ∈ T.take (k + 1) ↔ x ∈ T.take k := by rw [tk]; simp [c]
      simp only [this]
  · rw [stK_len] at hx
    rw [stK_kd hx]
    by_cases c : x = f
    · subst c
      rw [kd_setS _ (by simpa using hx), if_pos ((tk x).mpr (.inr rfl))]
    · rw [kd_setN _ c, stK_kd hx]
      have : x ∈ T.take (k + 1) ↔ x ∈ T.take k := by rw [tk]; simp [c]
      simp only [this]
end
end Sm
end

section
set_option linter.all false
set_option maxRecDepth 10000
/-! Rl: the plan that the program makes is a good one. -/
namespace Sm
theorem lexI_of {a b : Int × Int} (h : lexI a b = false) : lexI b a = true := by
  unfold lexI at *
  simp at *
  omega
theorem lexI_tr {a b c : Int × Int} (h : lexI a b = true) (k : lexI b c = true) : lexI a c = true := by
  unfold lexI at *
  simp at *
  omega
theorem insQ_perm (x : Int × Int) : ∀ xs, (insP x xs).Perm (x :: xs)
  | [] => List.Perm.refl _
  | y :: ys => by
    unfold insP
    split
    · exact List.Perm.refl _
    · exact ((insQ_perm x ys).cons y).trans (List.Perm.swap x y ys)
theorem sortQ_perm : ∀ xs, (sortP xs).Perm xs
  | [] => List.Perm.refl _
  | x :: xs => (insQ_perm x _).trans ((sortQ_perm xs).cons x)
theorem insQ_sorted (x : Int × Int) : ∀ xs, xs.Pairwise (fun a b => lexI a b = true) → (insP x xs).Pairwise fun a b => lexI a b = true
  | [], _ => by simp [insP]
  | y :: ys, h => by
    rw [List.pairwise_cons] at h
    unfold insP
    by_cases c : lexI x y = true
    · rw [if_pos c, List.pairwise_cons]
      refine ⟨fun z hz => ?_, List.pairwise_cons.mpr h⟩
      rcases List.mem_cons.mp hz with rfl | hz
      · exact c
      · exact lexI_tr c (h.1 z hz)
    · rw [if_neg c, List.pairwise_cons]
      refine ⟨fun z hz => ?_, insQ_sorted x ys h.2⟩
      rcases List.mem_cons.mp ((insQ_perm x ys).mem_iff.mp hz) with rfl | hz
      · exact lexI_of (by simpa using c)
      · exact h.1 z hz
theorem sortQ_sorted : ∀ xs, (sortP xs).Pairwise (fun a b => lexI a b = true)
  | [] => by simp [sortP]
  | x :: xs => insQ_sorted x _ (sortQ_sorted xs)
theorem before_at {S : List (Int × Int)} (h : S.Pairwise (fun a b => lexI a b = true)) {i : Nat} {p q : Int × Int} (e : S[i]? = some p) (m : q ∈ S) (hlt : q.1 < p.1) : ∃ j < i, S[j]? = some q := by
  obtain ⟨j, hj⟩ := List.mem_iff_getElem?.mp m
  refine ⟨j, ?_, hj⟩
  obtain ⟨hi, ei⟩ := List.getElem?_eq_some_iff.mp e
  obtain ⟨hj1, ej⟩ := List.getElem?_eq_some_iff.mp hj
  rcases Nat.lt_trichotomy i j with c | c | c
  · exfalso
    have := List.pairwise_iff_getElem.mp h i j hi hj1 c
    rw [ei, ej] at this
    unfold lexI at this
    simp at this
    omega
  · exfalso
    subst c
    rw [ei] at ej
    rw [ej] at hlt
    omega
  · exact c
section
variable (ps qs : Par) (ks js : List Kd)
def earF : List Nat := (List.range ps.length).filter fun f => decide (diff ps qs ks js f) && !(kd js f).end_
def latF : List Nat := (List.range ps.length).filter fun f => decide (diff ps qs ks js f) && (kd js f).end_
def earP : List (Int × Int) := (earF ps qs ks js).map fun (f : Nat) => (((path qs f).length : Int), (f : Int))
def latP : List (Int × Int) := (latF ps qs ks js).map fun (f : Nat) => (-((path ps f).length : Int), (f : Int))
def planT : List Nat := (sortP (earP ps qs ks js)).map (fun p => p.2.toNat) ++ (sortP (latP ps qs ks js)).map fun p => p.2.toNat
end
section
variable {ps qs : Par} {ks js : List Kd}
theorem ear_mem {y : Nat} : y ∈ earF ps qs ks js ↔ y < ps.length ∧ diff ps qs ks js y ∧ (kd js y).end_ = false := by
  unfold earF; simp
theorem lat_mem {y : Nat} : y ∈ latF ps qs ks js ↔ y < ps.length ∧ diff ps qs ks js y ∧ (kd js y).end_ = true := by
  unfold latF; simp
theorem earS_perm : ((sortP (earP ps qs ks js)).map fun p => p.2.toNat).Perm (earF ps qs ks js) := by
  have := (sortQ_perm (earP ps qs ks js)).map fun p => p.2.toNat
  unfold earP at this
  rw [List.map_map] at this
  have e : (earF ps qs ks js).map ((fun p : Int × Int => p.2.toNat) ∘ fun (f : Nat) => (((path qs f).length : Int), (f : Int))) = earF ps qs ks js := by
    conv => rhs; rw [← List.map_id (earF ps qs ks js)]
    rfl
  rw [e] at this
  exact this
theorem latS_perm : ((sortP (latP ps qs ks js)).map fun p => p.2.toNat).Perm (latF ps qs ks js) := by
  have := (sortQ_perm (latP ps qs ks js)).map fun p => p.2.toNat
  unfold latP at this
  rw [List.map_map] at this
  have e : (latF ps qs ks js).map ((fun p : Int × Int => p.2.toNat) ∘ fun (f : Nat) => (-((path ps f).length : Int), (f : Int))) = latF ps qs ks js := by
    conv => rhs; rw [← List.map_id (latF ps qs ks js)]
    rfl
  rw [e] at this
  exact this
theorem ear_pair {p : Int × Int} (m : p ∈ sortP (earP ps qs ks js)) : ∃ f ∈ earF ps qs ks js, p = (((path qs f).length : Int), (f : Int)) := by
  have := (sortQ_perm _).mem_iff.mp m
  unfold earP at this
  obtain ⟨f, hf, e⟩ := List.mem_map.mp this
  exact ⟨f, hf, e.symm⟩
theorem lat_pair {p : Int × Int} (m : p ∈ sortP (latP ps qs ks js)) : ∃ f ∈ latF ps qs ks js, p = (-((path ps f).length : Int), (f : Int)) := by
  have := (sortQ_perm _).mem_iff.mp m
  unfold latP at this
  obtain ⟨f, hf, e⟩ := List.mem_map.mp this
  exact ⟨f, hf, e.symm⟩
theorem planT_ok (g : Good ps ks) (g2 : Good qs js) (hl : qs.length = ps.length) : Plan ps qs ks js (planT ps qs ks js) := by
  have memA : ∀ y, y ∈ (sortP (earP ps qs ks js)).map (fun p => p.2.toNat) ↔ y ∈ earF ps qs ks js := fun y => earS_perm.mem_iff
  have memB : ∀ y, y ∈ (sortP (latP ps qs ks js)).map (fun p => p.2.toNat) ↔ y ∈ latF ps qs ks js := fun y => latS_perm.mem_iff
  have nonend : ∀ f < qs.length, ∀ g0 ∈ path qs f, g0 ≠ f → (kd js g0).end_ = false ∧ (path qs g0).length < (path qs f).length := fun f hf g0 hg hne => by
    obtain ⟨t, et⟩ := path_split g2.acy hf g0 hg
    have hg0 := path_mem g2.acy hf g0 hg
    cases t with
    | nil =>
      exfalso
      rw [List.append_nil] at et
      have l1 := path_last g2.acy hf
      rw [et, path_last g2.acy hg0] at l1
      exact hne (Option.some.inj l1)
    | cons x t =>
      have hx : x ∈ path qs f := by rw [et]; simp
      have hxn := path_mem g2.acy hf x hx
      have px := (par_cut g2.acy hf et).1
      rw [path_last g2.acy hg0] at px
      refine ⟨?_, by rw [et]; simp⟩
      cases q : (kd js g0).end_ with
      | false => rfl
      | true => exact absurd (px ▸ List.mem_of_getElem? (par_get hxn)) (g2.leaf g0 hg0 q)
  refine ⟨?_, fun y => ?_, fun i f e g0 hg hne d => ?_, fun i f e he x hx px d => ?_⟩
  · unfold planT
    rw [List.nodup_append]
    refine ⟨earS_perm.nodup_iff.mpr (List.Pairwise.filter _ List.nodup_range), latS_perm.nodup_iff.mpr (List.Pairwise.filter _ List.nodup_range), fun a ha b hb hab => ?_⟩
    subst hab
    have h1 := (ear_mem.mp ((memA a).mp ha)).2.2
    have h2 := (lat_mem.mp ((memB a).mp hb)).2.2
    rw [h1] at h2
    cases h2
  · unfold planT
    rw [List.mem_append, memA, memB, ear_mem, lat_mem]
    cases (kd js y).end_ <;> simp
  · unfold planT at e ⊢
    generalize hA : (sortP (earP ps qs ks js)).map (fun p => p.2.toNat) = A at *
    have fT : f ∈ earF ps qs ks js ∨ f ∈ latF ps qs ks js := by
      rcases List.mem_append.mp (List.mem_of_getElem? e) with z | z
      · exact .inl ((memA f).mp z)
      · exact .inr ((memB f).mp z)
    have hf : f < qs.length := by rcases fT with z | z <;> (first | have := (ear_mem.mp z).1 | have := (lat_mem.mp z).1) <;> omega
    obtain ⟨n1, n2⟩ := nonend f hf g0 hg hne
    have hg0 := path_mem g2.acy hf g0 hg
    have gA : g0 ∈ earF ps qs ks js := ear_mem.mpr ⟨by omega, d, n1⟩
    by_cases c : i < A.length
    · rw [List.getElem?_append_left c, ← hA, List.getElem?_map] at e
      cases q : (sortP (earP ps qs ks js))[i]? with
      | none => rw [q] at e; cases e
      | some p =>
        rw [q] at e
        obtain ⟨f', _, ep⟩ := ear_pair (List.mem_of_getElem? q)
        have : f' = f := by rw [ep] at e; simpa using e
        subst this
        have mg : ((((path qs g0).length : Int), (g0 : Int)) : Int × Int) ∈ sortP (earP ps qs ks js) := (sortQ_perm _).mem_iff.mpr (List.mem_map.mpr ⟨g0, gA, rfl⟩)
        obtain ⟨j, hj, ej⟩ := before_at (sortQ_sorted _) q mg (by rw [ep]; show ((path qs g0).length : Int) < ((path qs f').length : Int); omega)
        rw [List.take_append_of_le_length (by omega)]
        have : A[j]? = some g0 := by rw [← hA, List.getElem?_map, ej]; simp
        rw [List.mem_take_iff_getElem]
        obtain ⟨h1, h2⟩ := List.getElem?_eq_some_iff.mp this
        exact ⟨j, by omega, h2⟩
    · rw [List.take_append]
      exact List.mem_append_left _ (by rw [List.take_of_length_le (by omega)]; exact (memA g0).mpr gA)
  · unfold planT at e ⊢
    generalize hA : (sortP (earP ps qs ks js)).map (fun p => p.2.toNat) = A at *
    have c : ¬ i < A.length := fun c => by
      rw [List.getElem?_append_left c] at e
      have := (ear_mem.mp ((memA f).mp (List.mem_of_getElem? e))).2.2
      rw [he] at this
      cases this
    rw [List.take_append]
    cases q : (kd js x).end_ with
    | false =>
      exact List.mem_append_left _ (by rw [List.take_of_length_le (by omega)]; exact (memA x).mpr (ear_mem.mpr ⟨hx, d, q⟩))
    | true =>
      refine List.mem_append_right _ ?_
      rw [List.getElem?_append_right (by omega), List.getElem?_map] at e
      cases q2 : (sortP (latP ps qs ks js))[i - A.length]? with
      | none => rw [q2] at e; cases e
      | some p =>
        rw [q2] at e
        obtain ⟨f', _, ep⟩ := lat_pair (List.mem_of_getElem? q2)
        have : f' = f := by rw [ep] at e; simpa using e
        subst this
        have mx : ((-((path ps x).length : Int), (x : Int)) : Int × Int) ∈ sortP (latP ps qs ks js) := (sortQ_perm _).mem_iff.mpr (List.mem_map.mpr ⟨x, lat_mem.mpr ⟨hx, d, q⟩, rfl⟩)
        have len : (path ps x).length = (path ps f').length + 1 := by rw [path_some g.acy hx px]; simp
        obtain ⟨j, hj, ej⟩ := before_at (sortQ_sorted _) q2 mx (by rw [ep]; show -((path ps x).length : Int) < -((path ps f').length : Int); omega)
        have : ((sortP (latP ps qs ks js)).map fun p => p.2.toNat)[j]? = some x := by rw [List.getElem?_map, ej]; simp
        rw [List.mem_take_iff_getElem]
        obtain ⟨h1, h2⟩ := List.getElem?_eq_some_iff.mp this
        exact ⟨j, by omega, h2⟩
end
end Sm
end

section
set_option linter.all false
/-! k05: plain computations (printed by gen2.py) -/
namespace Sm
/- _law_due: _law_parents_here, _law_kinds_here, _law_n, _law_field, _law_place, _law_k -/
def b_q_due_v4 : AS := sB [sSet 2 (eA (on1 lenD) (eL [eV 0])),
  sIf (tOr (tB1 (e2 neD (eV 2) (eA (on1 lenD) (eL [eV 1])))) (tOr (tB1 (e2 eqD (eV 2) (eC (.int 0)))) (tB1 (e2 gtD (eV 2) (eC (.int 16)))))) (sB [sRet (eLst true (eL [eC (.bl true), eC .non]))]) (sB []),
  sFor (iR1 (eV 2)) (gV 3) (sB [sIf (tAnd (tB1 (e1 notNonD (e2 ixD (eV 0) (eV 3)))) (tOr (tB1 (e2 ltD (e2 ixD (eV 0) (eV 3)) (eC (.int 0)))) (tB1 (e2 geD (e2 ixD (eV 0) (eV 3)) (eV 2))))) (sB [sRet (eLst true (eL [eC (.bl true), eV 3]))]) (sB [])]),
  sFor (iR1 (eV 2)) (gV 3) (sB [sSet 4 (eV 3),
    sFor (iR1 (e2 (addD true) (eV 2) (eC (.int 1)))) (gV 5) (sB [sIf (tB1 (e1 notNonD (eV 4))) (sB [sSet 4 (e2 ixD (eV 0) (eV 4))]) (sB [])]),
    sIf (tB1 (e1 notNonD (eV 4))) (sB [sRet (eLst true (eL [eC (.bl true), eV 3]))]) (sB [])]),
  sFor (iR1 (eV 2)) (gV 3) (sB [sIf (tAnd (tB1 (e2 inD (e2 ixD (eV 1) (eV 3)) (eLst true (eL [eC (.str [102, 105, 114, 115, 116]), eC (.str [108, 97, 115, 116])])))) (tB1 (e2 inD (eV 3) (eV 0)))) (sB [sRet (eLst true (eL [eC (.bl true), eV 3]))]) (sB [])]),
  sRet (eLst true (eL [eC (.bl false), eC .non]))]
def F_q_due_v4 : AF := fnT 2 6 b_q_due_v4
/- _law_free: _law_tape_here, _law_n, _law_parents_here, _law_k, _law_low, _law_high, _law_field -/
def b_q_free : AS := sB [sSet 2 (eLst false (eL [])),
  sFor (iR1 (eV 1)) (gV 3) (sB [sSet 4 (e2 subD (e2 subD (eC (.int 0)) (eC (.int 1))) (e2 (mulD true) (eA (F_q_take) (eL [eV 0, eC (.int 2)])) (e2 powD (eC (.int 10)) (eC (.int 20))))),
    sSet 5 (e2 (addD true) (eV 1) (e2 (mulD true) (eA (F_q_take) (eL [eV 0, eC (.int 2)])) (e2 powD (eC (.int 10)) (eC (.int 20))))),
    sSet 6 (eA (F_q_take) (eL [eV 0, eV 1])),
    sE (eM isLst (mt1 appendD) (eV 2) (eL [e2 ixD (eLst true (eL [eC .non, eC .non, eV 4, eV 5, eV 3, eV 6, eV 6, eV 6])) (eA (F_q_take) (eL [eV 0, eC (.int 8)]))]))]),
  sRet (eV 2)]
def F_q_free : AF := fnT 2 7 b_q_free
/- _law_made: _law_given, _law_parents_here, _law_kinds_here, _law_forest, _law_row -/
def b_q_made_v2 : AS := sB [sSet 3 (eA (mkI "Forest" true (F_Forest_init)) (eL [e2 ixD (eV 0) (eC (.int 0)), e2 ixD (eV 0) (eC (.int 1))])),
  sIf (tNot (tV (eA (F_q_shown) (eL [eV 3, eV 1, eV 2])))) (sB [sRet (eC (.bl false))]) (sB []),
  sFor (iS (eV 0)) (gV 4) (sB [sIf (tV (e1 (isTy "list") (eV 4))) (sB [sE (eM isLst (mt1 appendD) (eV 4) (eL [e2 ixD (eV 4) (eC (.int 0))])),
      sSub setIxD (eV 4) (eC (.int 0)) (eC (.str [108, 97, 115, 116]))]) (sB [])]),
  sRet (eA (F_q_shown) (eL [eV 3, eV 1, eV 2]))]
def F_q_made_v2 : AF := fnT 3 5 b_q_made_v2
/- _law_refusal: _law_given, e, _law_kin, _law_odd -/
def b_q_refusal_v3 : AS := sB [sTryAs [("BadRecord", false), ("BadTree", false), ("BadForest", true), ("NotFair", false), ("FieldsDiffer", false), ("WordsClash", false), ("BadNumber", false), ("BadPlace", false)] 1 (sB [sE (eA (mkI "Forest" true (F_Forest_init)) (eL [e2 ixD (eV 0) (eC (.int 0)), e2 ixD (eV 0) (eC (.int 1))]))]) (fun x => sB [sSet 2 (eAnd (eXis x [("BadForest", true)]) (eXis x [("BadForest", true)])),
    sSet 3 (eXis x [("BadForest", false)]),
    sRet (eLst true (eL [eC (.bl true), eXf ["BadTree", "BadForest", "NotFair"] x "field", eAnd (eV 2) (e1 notD (eV 3))]))]),
  sRet (eLst true (eL [eC (.bl false), eC .non, eC (.bl true)]))]
def F_q_refusal_v3 : AF := fnT 1 4 b_q_refusal_v3
/- _law_spoil: _law_tape_here, _law_parents_here, _law_kinds_here, _law_n, _law_place, _law_pick -/
def b_q_spoil : AS := sB [sSet 3 (eA (on1 lenD) (eL [eV 1])),
  sSet 4 (eA (F_q_take) (eL [eV 0, eV 3])),
  sSet 5 (eA (F_q_take) (eL [eV 0, eC (.int 6)])),
  sIf (tB1 (e2 eqD (eV 5) (eC (.int 0)))) (sB [sSub setIxD (eV 1) (eV 4) (e2 subD (e2 subD (eC (.int 0)) (eC (.int 1))) (e2 (mulD true) (eA (F_q_take) (eL [eV 0, eC (.int 2)])) (e2 powD (eC (.int 10)) (eC (.int 20)))))]) (sB []),
  sIf (tB1 (e2 eqD (eV 5) (eC (.int 1)))) (sB [sSub setIxD (eV 1) (eV 4) (e2 (addD true) (eV 3) (e2 (mulD true) (eA (F_q_take) (eL [eV 0, eC (.int 2)])) (e2 powD (eC (.int 10)) (eC (.int 20)))))]) (sB []),
  sIf (tB1 (e2 eqD (eV 5) (eC (.int 2)))) (sB [sSub setIxD (eV 1) (eV 4) (eA (F_q_take) (eL [eV 0, eV 3]))]) (sB []),
  sIf (tB1 (e2 eqD (eV 5) (eC (.int 3)))) (sB [sSub setIxD (eV 1) (eV 4) (eV 4)]) (sB []),
  sIf (tB1 (e2 eqD (eV 5) (eC (.int 4)))) (sB [sSub setIxD (eV 2) (eV 4) (eC (.str [102, 105, 114, 115, 116]))]) (sB []),
  sIf (tB1 (e2 eqD (eV 5) (eC (.int 5)))) (sB [sSub setIxD (eV 2) (eV 4) (eC (.str [108, 97, 115, 116]))]) (sB [])]
def F_q_spoil : AF := fnT 3 6 b_q_spoil
/- law: _law_script, _law_sizes, _law_words, _law_spoils, _law_way, _law_n, _law_good, _law_near, _law_parents_here, _law_kinds_here, _law_k, _law_cut, _law_due_here, _law_given, _law_before, _law_turn, _law_told -/
def b_law_k05 : AS := sB [sSet 1 (eA (F_q_tape) (eL [eV 0, eC (.int 0)])),
  sSet 2 (eA (F_q_tape) (eL [eV 0, eC (.int 1)])),
  sSet 3 (eA (F_q_tape) (eL [eV 0, eC (.int 3)])),
  sSet 4 (eA (F_q_take) (eL [eV 1, eC (.int 9)])),
  sSet 5 (e2 (addD true) (eC (.int 1)) (eA (F_q_take) (eL [eV 1, eC (.int 7)]))),
  sIf (tB1 (e2 ltD (eV 4) (eC (.int 2)))) (sB [sSet 5 (e2 (addD true) (eC (.int 16)) (eV 4))]) (sB []),
  sSet 6 (eA (F_q_parents) (eL [eV 1, eV 5])),
  sSet 7 (eA (F_q_kinds) (eL [eV 2, eV 6, eC (.bl false)])),
  sSet 8 (eA (on1 (listD false)) (eL [eV 6])),
  sSet 9 (eA (on1 (listD false)) (eL [eV 7])),
  sIf (tB1 (e2 eqD (eV 4) (eC (.int 1)))) (sB [sSet 6 (eLC true [10] (iR1 (eC (.int 16))) (gV 10) (tYes) (eC .non)),
    sSet 7 (eSl true (eV 7) (oN) (oS (eC (.int 16))))]) (sB []),
  sIf (tB1 (eChain leD ltD (eC (.int 2)) (eV 4) (eC (.int 5)))) (sB [sSet 5 (eA (F_q_take) (eL [eV 1, eC (.int 8)])),
    sSet 8 (eA (F_q_free) (eL [eA (F_q_tape) (eL [eV 0, eC (.int 2)]), eV 5])),
    sSet 9 (eLC false [10] (iR1 (eV 5)) (gV 10) (tYes) (e2 ixD (eLst true (eL [eC (.str [117, 112]), eC (.str [100, 111, 119, 110]), eC (.str [102, 105, 114, 115, 116]), eC (.str [108, 97, 115, 116])])) (eA (F_q_take) (eL [eV 2, eC (.int 4)]))))]) (sB []),
  sIf (tOr (tB1 (e2 eqD (eV 4) (eC (.int 0)))) (tB1 (e2 gtD (eV 4) (eC (.int 4))))) (sB [sFor (iR1 (eA (F_q_take) (eL [eV 3, eC (.int 3)]))) (gV 10) (sB [sE (eA (F_q_spoil) (eL [eV 3, eV 8, eV 9]))])]) (sB []),
  sSet 11 (eA (F_q_take) (eL [eV 3, eC (.int 8)])),
  sIf (tB1 (e2 eqD (eV 11) (eC (.int 0)))) (sB [sE (eM isLst (mt1 appendD) (eV 9) (eL [eC (.str [117, 112])]))]) (sB []),
  sIf (tAnd (tB1 (e2 eqD (eV 11) (eC (.int 1)))) (tB1 (e2 gtD (eA (on1 lenD) (eL [eV 9])) (eC (.int 0))))) (sB [sE (eM isLst (mt0 popD) (eV 9) (eL []))]) (sB []),
  sSet 12 (eA (F_q_due_v4) (eL [eV 8, eV 9])),
  sSet 13 (eLst false (eL [eA (on1 (listD false)) (eL [eV 8]), eA (on1 (listD false)) (eL [eV 9])])),
  sIf (tB1 (e2 eqD (eA (F_q_take) (eL [eV 1, eC (.int 2)])) (eC (.int 1)))) (sB [sSub setIxD (eV 13) (eC (.int 0)) (eA (on1 tupD) (eL [eV 8]))]) (sB []),
  sIf (tB1 (e2 eqD (eA (F_q_take) (eL [eV 1, eC (.int 2)])) (eC (.int 1)))) (sB [sSub setIxD (eV 13) (eC (.int 1)) (eA (on1 tupD) (eL [eV 9]))]) (sB []),
  sSet 14 (eA (on1 reprD) (eL [eV 13])),
  sFor (iR1 (eC (.int 2))) (gV 15) (sB [sSet 16 (eA (F_q_refusal_v3) (eL [eV 13])),
    sIf (tOr (tB1 (e2 neD (e2 ixD (eV 16) (eC (.int 0))) (e2 ixD (eV 12) (eC (.int 0))))) (tOr (tNot (tV (e2 ixD (eV 16) (eC (.int 2))))) (tNot (tV (eA (F_q_same) (eL [eTup (eL [e2 ixD (eV 16) (eC (.int 1))]), eLst true (eL [e2 ixD (eV 12) (eC (.int 1))])])))))) (sB [sRet (eC (.bl false))]) (sB [])]),
  sIf (tB1 (e2 neD (eA (on1 reprD) (eL [eV 13])) (eV 14))) (sB [sRet (eC (.bl false))]) (sB []),
  sIf (tAnd (tNot (tV (e2 ixD (eV 12) (eC (.int 0))))) (tNot (tV (eA (F_q_made_v2) (eL [eV 13, eV 8, eV 9]))))) (sB [sRet (eC (.bl false))]) (sB []),
  sRet (eA (F_q_made_v2) (eL [eLst false (eL [eA (on1 (listD false)) (eL [eV 6]), eA (on1 (listD false)) (eL [eV 7])]), eV 6, eV 7]))]
def F_law_k05 : AF := fnT 1 17 b_law_k05
end Sm
end

section
set_option linter.all false
set_option maxRecDepth 10000
/-! Rc: k05: what is due, drawn parents, spoilt ones. -/
namespace Sm
def dueD : Option (Option Nat) → D
  | none => .lst [.bl false, .non]
  | some f => .lst [.bl true, eO f]
@[simp] theorem clo_dueD (n : Nat) (o : Option (Option Nat)) : clo n (dueD o) = true := by cases o <;> simp [dueD]
@[simp] theorem nloc_dueD (o : Option (Option Nat)) : nloc (dueD o) = true := by cases o <;> rfl
section
variable {h : AH} {P Q : D} {X : List (Option Int)} {ks : List Kd}
theorem inL' (k : Kd) (h : AH) : inD (eK k) (.lst [.str [102, 105, 114, 115, 116], .str [108, 97, 115, 116]]) h = .ok (.bl k.end_) h := by cases k <;> rfl
end
end Sm
end

section
set_option linter.all false
set_option maxRecDepth 10000
/-! Oa: merges are associative, kinds first and last too. -/
namespace Sm
def sdI (k : Kd) (x y : Int) : Int := match k with
  | .first => 0
  | .last => 1
  | .up => if y < x then 0 else 1
  | .down => if y < x then 1 else 0
/-- which of two rows of values a path takes -/
def sdL (ks : List Kd) (x y : Nat → Int) : List Nat → Int
  | [] => 0
  | p :: t => if x p = y p then sdL ks x y t else sdI (kd ks p) (x p) (y p)
section
variable {ps : Par} {ks : List Kd}
/-- kinds first and last stand at the end of a path only -/
def EndOk (ks : List Kd) (L : List Nat) : Prop := ∀ t p u, L = t ++ p :: u → (kd ks p).end_ = true → u = []
end
end Sm
end

section
set_option linter.all false
/-! k29: plain computations (printed by gen2.py) -/
namespace Sm
/- follow: tree, row -/
def b_follow : AS := sB [sWhile (tNot (tV (e1 (isTy "str") (eV 0)))) (sB [sSet 0 (e2 ixD (eV 0) (e2 (addD true) (eC (.int 2)) (e2 ixD (eV 1) (e2 ixD (eV 0) (eC (.int 0))))))]),
  sRet (eV 0)]
def F_follow : AF := fnT 2 2 b_follow
/- Book.side: self, field, row -/
def b_Book_side : AS := sB [sIf (tB1 (e2 eqD (e2 ixD (eV 2) (eV 1)) (eC (.int 0)))) (sB [sRet (eC (.str [115, 97, 109, 101]))]) (sB []),
  sRet (eA (F_follow) (eL [e2 ixD (e1 (fldD ["Book"] "trees") (eV 0)) (eV 1), eV 2]))]
def F_Book_side : AF := fnT 3 3 b_Book_side
/- sign: older, newer -/
def b_sign : AS := sB [sIf (tB1 (e2 ltD (eV 0) (eV 1))) (sB [sRet (e1 negD (eC (.int 1)))]) (sB []),
  sIf (tB1 (e2 gtD (eV 0) (eV 1))) (sB [sRet (eC (.int 1))]) (sB []),
  sRet (eC (.int 0))]
def F_sign : AF := fnT 2 2 b_sign
/- signs: older, newer, field -/
def b_signs : AS := sB [sIf (tB1 (e2 neD (eA (on1 lenD) (eL [eV 0])) (eA (on1 lenD) (eL [eV 1])))) (sB [sRaise "BadRecord" ["record"] (eL [eV 1])]) (sB []),
  sRet (eA (on1 tupD) (eL [eLC true [2] (iR1 (eA (on1 lenD) (eL [eV 0]))) (gV 2) (tYes) (eA (F_sign) (eL [e2 ixD (eV 0) (eV 2), e2 ixD (eV 1) (eV 2)]))]))]
def F_signs : AF := fnT 2 3 b_signs
/- Book.__call__: self, older, newer, row, merged, field -/
def b_Book_call : AS := sB [sE (eA (F_check_record) (eL [e1 (fldD ["Book"] "fields") (eV 0), eV 1])),
  sE (eA (F_check_record) (eL [e1 (fldD ["Book"] "fields") (eV 0), eV 2])),
  sSet 3 (eA (F_signs) (eL [eV 1, eV 2])),
  sSet 4 (eLst false (eL [])),
  sFor (iR1 (e1 (fldD ["Book"] "fields") (eV 0))) (gV 5) (sB [sIf (tB1 (e2 eqD (eMth [("Book", F_Book_side)] "side" (eV 0) (eL [eV 5, eV 3])) (eC (.str [110, 101, 119, 101, 114])))) (sB [sE (eM isLst (mt1 appendD) (eV 4) (eL [e2 ixD (eV 2) (eV 5)]))]) (sB [sE (eM isLst (mt1 appendD) (eV 4) (eL [e2 ixD (eV 1) (eV 5)]))])]),
  sRet (eA (on1 tupD) (eL [eV 4]))]
def F_Book_call : AF := fnT 3 6 b_Book_call
/- _law_is: _law_actual, _law_due -/
def b_q_is : AS := sB [sRet (eAnd (eA (F_q_is_record) (eL [eV 0, eA (on1 lenD) (eL [eV 1])])) (e2 eqD (eV 0) (eV 1)))]
def F_q_is : AF := fnT 2 2 b_q_is
/- _law_rows: _law_n, _law_rows_here, _law_k, _law_longer, _law_row, _law_s -/
def b_q_rows : AS := sB [sSet 1 (eLst true (eL [eTup (eL [])])),
  sFor (iR1 (eV 0)) (gV 2) (sB [sSet 3 (eLst false (eL [])),
    sFor (iS (eV 1)) (gV 4) (sB [sFor (iS (eLst true (eL [eC (.int 0), eC (.int 1), eC (.int 2)]))) (gV 5) (sB [sE (eM isLst (mt1 appendD) (eV 3) (eL [e2 (addD true) (eV 4) (eTup (eL [e2 subD (eV 5) (eC (.int 1))]))]))])]),
    sSet 1 (eA (on1 (listD true)) (eL [eV 3]))]),
  sRet (eV 1)]
def F_q_rows : AF := fnT 1 6 b_q_rows
/- _law_three: _law_forest, _law_book, _law_parents_here, _law_kinds_here, _law_records, _law_x, _law_y, _law_z, _law_due -/
def b_q_three : AS := sB [sSet 5 (e2 ixD (eV 4) (eC (.int 0))),
  sSet 6 (e2 ixD (eV 4) (eC (.int 1))),
  sSet 7 (e2 ixD (eV 4) (eC (.int 2))),
  sSet 8 (eA (F_q_fold_v2) (eL [eV 2, eV 3, eLst true (eL [eV 5, eV 6, eV 7])])),
  sIf (tOr (tNot (tV (eA (F_q_is) (eL [eCal [("Forest", F_Forest_call)] (eV 0) (eL [eCal [("Forest", F_Forest_call)] (eV 0) (eL [eV 5, eV 6]), eV 7]), eV 8])))) (tNot (tV (eA (F_q_is) (eL [eCal [("Forest", F_Forest_call)] (eV 0) (eL [eV 5, eCal [("Forest", F_Forest_call)] (eV 0) (eL [eV 6, eV 7])]), eV 8]))))) (sB [sRet (eC (.bl false))]) (sB []),
  sIf (tOr (tNot (tV (eA (F_q_is) (eL [eCal [("Book", F_Book_call)] (eV 1) (eL [eCal [("Book", F_Book_call)] (eV 1) (eL [eV 5, eV 6]), eV 7]), eV 8])))) (tNot (tV (eA (F_q_is) (eL [eCal [("Book", F_Book_call)] (eV 1) (eL [eV 5, eCal [("Book", F_Book_call)] (eV 1) (eL [eV 6, eV 7])]), eV 8]))))) (sB [sRet (eC (.bl false))]) (sB []),
  sRet (eAnd (eA (F_q_is) (eL [eCal [("Book", F_Book_call)] (eV 1) (eL [eCal [("Forest", F_Forest_call)] (eV 0) (eL [eV 5, eV 6]), eV 7]), eV 8])) (eA (F_q_is) (eL [eCal [("Forest", F_Forest_call)] (eV 0) (eL [eV 5, eCal [("Book", F_Book_call)] (eV 1) (eL [eV 6, eV 7])]), eV 8])))]
def F_q_three : AF := fnT 5 9 b_q_three
/- _law_same_tree: _law_actual, _law_expected, _law_k -/
def b_q_same_tree (F : AF) : AS := sB [sIf (tV (e1 (isTy "str") (eV 1))) (sB [sRet (eAnd (e1 (isTy "str") (eV 0)) (e2 eqD (eV 0) (eV 1)))]) (sB []),
  sIf (tOr (tNot (tV (e1 (isTy "tuple") (eV 0)))) (tB1 (e2 neD (eA (on1 lenD) (eL [eV 0])) (eC (.int 4))))) (sB [sRet (eC (.bl false))]) (sB []),
  sIf (tOr (tNot (tV (eA (F_q_is_integer) (eL [e2 ixD (eV 0) (eC (.int 0))])))) (tB1 (e2 neD (e2 ixD (eV 0) (eC (.int 0))) (e2 ixD (eV 1) (eC (.int 0)))))) (sB [sRet (eC (.bl false))]) (sB []),
  sFor (iS (eLst true (eL [eC (.int 1), eC (.int 2), eC (.int 3)]))) (gV 2) (sB [sIf (tNot (tV (eA (F) (eL [e2 ixD (eV 0) (eV 2), e2 ixD (eV 1) (eV 2)])))) (sB [sRet (eC (.bl false))]) (sB [])]),
  sRet (eC (.bl true))]
def F_q_same_tree : Nat → AF
  | 0 => fun _ _ => .no
  | n + 1 => fnT 2 3 (b_q_same_tree (F_q_same_tree n))
/- _law_word_tree: _law_word_here, _law_tree, _law_k, _law_step -/
def b_q_word_tree : AS := sB [sSet 1 (eC (.str [111, 108, 100, 101, 114])),
  sIf (tB1 (e2 eqD (e2 ixD (e2 ixD (eV 0) (e2 subD (eA (on1 lenD) (eL [eV 0])) (eC (.int 1)))) (eC (.int 1))) (eC (.str [108, 97, 115, 116])))) (sB [sSet 1 (eC (.str [110, 101, 119, 101, 114]))]) (sB []),
  sFor (iR1 (eA (on1 lenD) (eL [eV 0]))) (gV 2) (sB [sSet 3 (e2 ixD (eV 0) (e2 subD (e2 subD (eA (on1 lenD) (eL [eV 0])) (eC (.int 1))) (eV 2))),
    sIf (tB1 (e2 eqD (e2 ixD (eV 3) (eC (.int 1))) (eC (.str [117, 112])))) (sB [sSet 1 (eTup (eL [e2 ixD (eV 3) (eC (.int 0)), eC (.str [110, 101, 119, 101, 114]), eV 1, eC (.str [111, 108, 100, 101, 114])]))]) (sB []),
    sIf (tB1 (e2 eqD (e2 ixD (eV 3) (eC (.int 1))) (eC (.str [100, 111, 119, 110])))) (sB [sSet 1 (eTup (eL [e2 ixD (eV 3) (eC (.int 0)), eC (.str [111, 108, 100, 101, 114]), eV 1, eC (.str [110, 101, 119, 101, 114])]))]) (sB [])]),
  sRet (eV 1)]
def F_q_word_tree : AF := fnT 1 4 b_q_word_tree
/- _law_trees_fit: _law_book, _law_parents_here, _law_kinds_here, _law_n, _law_field -/
def b_q_trees_fit : AS := sB [sSet 3 (eA (on1 lenD) (eL [eV 1])),
  sIf (tOr (tNot (tV (eA (F_q_is_integer) (eL [e1 (fldD ["Book"] "fields") (eV 0)])))) (tB1 (e2 neD (e1 (fldD ["Book"] "fields") (eV 0)) (eV 3)))) (sB [sRet (eC (.bl false))]) (sB []),
  sIf (tOr (tNot (tV (e1 (isTy "tuple") (e1 (fldD ["Book"] "trees") (eV 0))))) (tB1 (e2 neD (eA (on1 lenD) (eL [e1 (fldD ["Book"] "trees") (eV 0)])) (eV 3)))) (sB [sRet (eC (.bl false))]) (sB []),
  sFor (iR1 (eV 3)) (gV 4) (sB [sIf (tNot (tV (eA (F_q_same_tree 12) (eL [e2 ixD (e1 (fldD ["Book"] "trees") (eV 0)) (eV 4), eA (F_q_word_tree) (eL [eA (F_q_word) (eL [eV 1, eV 2, eV 4])])])))) (sB [sRet (eC (.bl false))]) (sB [])]),
  sRet (eC (.bl true))]
def F_q_trees_fit : AF := fnT 3 5 b_q_trees_fit
/- asked: tree, fields, left, part -/
def b_asked : AS := sB [sSet 1 (eLst false (eL [])),
  sSet 2 (eLst false (eL [eV 0])),
  sWhile (tV (eV 2)) (sB [sSet 3 (eM isLst (mt0 popD) (eV 2) (eL [])),
    sIf (tNot (tV (e1 (isTy "str") (eV 3)))) (sB [sE (eM isLst (mt1 appendD) (eV 1) (eL [e2 ixD (eV 3) (eC (.int 0))])),
      sE (eM isLst (mt1 extendD) (eV 2) (eL [eSl true (eV 3) (oS (eC (.int 1))) (oN)]))]) (sB [])]),
  sRet (eA (on1 tupD) (eL [e1 (sortedSetD true) (eV 1)]))]
def F_asked : AF := fnT 1 4 b_asked
/- Book.__init__: self, trees, field -/
def b_Book_init : AS := sB [sFldS (setFldD ["Book"] "trees") (eV 0) (eA (on1 tupD) (eL [eV 1])),
  sFldS (setFldD ["Book"] "fields") (eV 0) (eA (on1 lenD) (eL [e1 (fldD ["Book"] "trees") (eV 0)])),
  sIf (tB1 (e2 eqD (e1 (fldD ["Book"] "fields") (eV 0)) (eC (.int 0)))) (sB [sRaise "BadTree" ["field"] (eL [eC .non])]) (sB []),
  sFor (iR1 (e1 (fldD ["Book"] "fields") (eV 0))) (gV 2) (sB [sIf (tB1 (e2 geD (e1 (maxTD 0) (eA (F_asked) (eL [e2 ixD (e1 (fldD ["Book"] "trees") (eV 0)) (eV 2)]))) (e1 (fldD ["Book"] "fields") (eV 0)))) (sB [sRaise "BadTree" ["field"] (eL [eV 2])]) (sB [])])]
def F_Book_init : AF := fnT 2 3 b_Book_init
/- tree_of_steps: steps, tree, field, kind -/
def b_tree_of_steps : AS := sB [sSet 1 (eIf (tB1 (e2 eqD (e2 ixD (e2 ixD (eV 0) (e1 negD (eC (.int 1)))) (eC (.int 1))) (eC (.str [108, 97, 115, 116])))) (eC (.str [110, 101, 119, 101, 114])) (eC (.str [111, 108, 100, 101, 114]))),
  sFor (iS (e1 revTD (eV 0))) (gT [gV 2, gV 3]) (sB [sIf (tB1 (e2 eqD (eV 3) (eC (.str [117, 112])))) (sB [sSet 1 (eTup (eL [eV 2, eC (.str [110, 101, 119, 101, 114]), eV 1, eC (.str [111, 108, 100, 101, 114])]))]) (sB []),
    sIf (tB1 (e2 eqD (eV 3) (eC (.str [100, 111, 119, 110])))) (sB [sSet 1 (eTup (eL [eV 2, eC (.str [111, 108, 100, 101, 114]), eV 1, eC (.str [110, 101, 119, 101, 114])]))]) (sB [])]),
  sRet (eV 1)]
def F_tree_of_steps : AF := fnT 1 4 b_tree_of_steps
/- book_of: forest, field -/
def b_book_of : AS := sB [sRet (eA (mkI "Book" true (F_Book_init)) (eL [eLC true [1] (iR1 (e1 (fldD ["Forest"] "fields") (eV 0))) (gV 1) (tYes) (eA (F_tree_of_steps) (eL [eMth [("Forest", F_Forest_word)] "word" (eV 0) (eL [eV 1])]))]))]
def F_book_of : AF := fnT 1 2 b_book_of
/- law: _law_script, _law_sizes, _law_n, _law_parents_here, _law_kinds_here, _law_forest, _law_book, _law_records, _law_k, _law_pairs, _law_x, _law_y, _law_row, _law_s, _law_fair, _law_pair, _law_due, _law_turned -/
def b_law_k29 : AS := sB [sSet 1 (eA (F_q_tape) (eL [eV 0, eC (.int 0)])),
  sSet 2 (e2 (addD true) (eC (.int 1)) (eA (F_q_take) (eL [eV 1, eC (.int 6)]))),
  sSet 3 (eA (F_q_parents) (eL [eV 1, eV 2])),
  sSet 4 (eA (F_q_kinds) (eL [eA (F_q_tape) (eL [eV 0, eC (.int 1)]), eV 3, e2 eqD (eA (F_q_take) (eL [eV 1, eC (.int 2)])) (eC (.int 0))])),
  sSet 5 (eA (mkI "Forest" true (F_Forest_init)) (eL [eA (on1 (listD true)) (eL [eV 3]), eA (on1 (listD true)) (eL [eV 4])])),
  sSet 6 (eA (F_book_of) (eL [eV 5])),
  sIf (tOr (tNot (tV (eA (F_q_trees_fit) (eL [eV 6, eV 3, eV 4])))) (tNot (tV (eA (F_q_trees_fit) (eL [eA (F_book_of) (eL [eV 5]), eV 3, eV 4]))))) (sB [sRet (eC (.bl false))]) (sB []),
  sSet 7 (eLC true [8] (iR1 (eC (.int 3))) (gV 8) (tYes) (eA (F_q_record) (eL [eA (F_q_tape) (eL [eV 0, e2 (addD true) (eC (.int 2)) (eV 8)]), eV 2, eC (.int 3)]))),
  sSet 9 (eLst false (eL [])),
  sFor (iS (eV 7)) (gV 10) (sB [sFor (iS (eV 7)) (gV 11) (sB [sE (eM isLst (mt1 appendD) (eV 9) (eL [eLst true (eL [eV 10, eV 11])]))])]),
  sIf (tB1 (e2 ltD (eV 2) (eC (.int 5)))) (sB [sFor (iS (eA (F_q_rows) (eL [eV 2]))) (gV 12) (sB [sE (eM isLst (mt1 appendD) (eV 9) (eL [eLst true (eL [eA (on1 tupD) (eL [eLC true [13] (iS (eV 12)) (gV 13) (tYes) (eA (on1 intD) (eL [e2 gtD (eV 13) (eC (.int 0))]))]), eA (on1 tupD) (eL [eLC true [13] (iS (eV 12)) (gV 13) (tYes) (eA (on1 intD) (eL [e2 ltD (eV 13) (eC (.int 0))]))])])]))])]) (sB []),
  sSet 14 (eAnd (e2 notInD (eC (.str [102, 105, 114, 115, 116])) (eV 4)) (e2 notInD (eC (.str [108, 97, 115, 116])) (eV 4))),
  sFor (iS (eV 9)) (gV 15) (sB [sSet 16 (eA (F_q_merge_v2) (eL [eV 3, eV 4, e2 ixD (eV 15) (eC (.int 0)), e2 ixD (eV 15) (eC (.int 1))])),
    sIf (tOr (tNot (tV (eA (F_q_is) (eL [eCal [("Forest", F_Forest_call)] (eV 5) (eL [e2 ixD (eV 15) (eC (.int 0)), e2 ixD (eV 15) (eC (.int 1))]), eV 16])))) (tNot (tV (eA (F_q_is) (eL [eCal [("Book", F_Book_call)] (eV 6) (eL [e2 ixD (eV 15) (eC (.int 0)), e2 ixD (eV 15) (eC (.int 1))]), eV 16]))))) (sB [sRet (eC (.bl false))]) (sB []),
    sIf (tAnd (tV (eV 14)) (tOr (tNot (tV (eA (F_q_is) (eL [eCal [("Forest", F_Forest_call)] (eV 5) (eL [e2 ixD (eV 15) (eC (.int 1)), e2 ixD (eV 15) (eC (.int 0))]), eV 16])))) (tNot (tV (eA (F_q_is) (eL [eCal [("Book", F_Book_call)] (eV 6) (eL [e2 ixD (eV 15) (eC (.int 1)), e2 ixD (eV 15) (eC (.int 0))]), eV 16])))))) (sB [sRet (eC (.bl false))]) (sB [])]),
  sFor (iR1 (eC (.int 3))) (gV 8) (sB [sSet 17 (e2 (addD true) (eSl true (eV 7) (oS (eV 8)) (oN)) (eSl true (eV 7) (oN) (oS (eV 8)))),
    sIf (tNot (tV (eA (F_q_three) (eL [eV 5, eV 6, eV 3, eV 4, eV 17])))) (sB [sRet (eC (.bl false))]) (sB [])]),
  sRet (eA (F_q_trees_fit) (eL [eV 6, eV 3, eV 4]))]
def F_law_k29 : AF := fnT 1 18 b_law_k29
end Sm
end

section
set_option linter.all false
set_option maxRecDepth 10000
/-! Ob: the tree of a word. -/
namespace Sm
def sNew : D := .str [110, 101, 119, 101, 114]
def sOld : D := .str [111, 108, 100, 101, 114]
def stepD (ks : List Kd) (p : Nat) (t : D) : D := match kd ks p with
  | .up => .tup [.int p, sNew, t, sOld]
  | .down => .tup [.int p, sOld, t, sNew]
  | _ => t
def baseD (k : Kd) : D := if k = .last then sNew else sOld
def treeL (ks : List Kd) (b : D) (L : List Nat) : D := L.foldr (stepD ks) b
def treeD (ps : Par) (ks : List Kd) (f : Nat) : D := treeL ks (baseD (kd ks f)) (path ps f)
def wdL (ks : List Kd) (L : List Nat) : List D := L.map fun (k : Nat) => D.tup [.int k, eK (kd ks k)]
theorem clo_tree (ks : List Kd) (n : Nat) (b : D) (hb : clo n b = true) : ∀ L, clo n (treeL ks b L) = true
  | [] => hb
  | p :: L => by
    have ih := clo_tree ks n b hb L
    show clo n (stepD ks p (treeL ks b L)) = true
    unfold stepD
    cases kd ks p <;> simp [ih, sNew, sOld]
end Sm
end

section
set_option linter.all false
set_option maxRecDepth 10000
/-! Oc: following the tree of a word. -/
namespace Sm
def folL (ks : List Kd) (b : D) (sg : Nat → Int) : List Nat → D
  | [] => b
  | p :: L => match kd ks p with
    | .up => if sg p = -1 then sNew else if sg p = 0 then folL ks b sg L else sOld
    | .down => if sg p = -1 then sOld else if sg p = 0 then folL ks b sg L else sNew
    | _ => folL ks b sg L
def isEndS (d : D) : Prop := d = sNew ∨ d = sOld
end Sm
end

section
set_option linter.all false
set_option maxRecDepth 10000
/-! Od: following the tree of a word = the side its path takes. -/
namespace Sm
def sgI (x y : Int) : Int := if x < y then -1 else if x > y then 1 else 0
end Sm
end

section
set_option linter.all false
set_option maxRecDepth 10000
/-! Oe: follow. -/
namespace Sm
end Sm
end

section
set_option linter.all false
set_option maxRecDepth 10000
/-! Of: a tree is the same as itself. -/
namespace Sm
end Sm
end

section
set_option linter.all false
/-! Srt: ascending lists of ints; sorted() of our model. -/
namespace Sm
@[simp] theorem asInts_mp : ∀ ns : List Int, asInts (ns.map .int) = some ns
  | [] => rfl
  | n :: ns => by simp [asInts, asInts_mp ns]
/-! ### lists of ints, side by side -/
theorem mapO_ints {f : D → Option D} (hf : ∀ i, f (.int i) = some (.int i)) : ∀ ns : List Int, mapO f (ns.map .int) = some (ns.map .int)
  | [] => rfl
  | n :: ns => by simp [mapO, hf, mapO_ints hf ns]
theorem evs_ints : ∀ a b : List Int, evs (a.map .int) (b.map .int) = decide (a = b)
  | [], [] => rfl
  | [], y :: b => by simp [evs]
  | x :: a, [] => by simp [evs]
  | x :: a, y :: b => by
    rw [List.map_cons, List.map_cons, evs, evs_ints a b, ev, Bool.eq_iff_iff]
    simp
theorem pd_lst_ints (h : AH) (ns : List Int) : pd h 64 (.lst (ns.map .int)) = some (.lst (ns.map .int)) := by
  show (mapO (pd h 63) (ns.map .int)).map D.lst = _
  rw [mapO_ints (f := pd h 63) fun i => rfl]; rfl
@[simp] theorem ne_lst_ints (a b : List Int) (h : AH) : neD (.lst (a.map .int)) (.lst (b.map .int)) h = .ok (.bl (!decide (a = b))) h := by
  unfold neD eqH
  rw [if_neg (by simp [scal]), pd_lst_ints, pd_lst_ints]
  show (R.of (some (ev _ _)) h).bind _ = _
  rw [ev, evs_ints]; rfl
end Sm
end

section
set_option linter.all false
set_option maxRecDepth 10000
/-! Og: trees in general (from the texts of k01), and which fields a tree asks. -/
namespace Sm
inductive Tr where
  | leaf (s : List Nat) | node (f : Int) (a b c : Tr)
def Tr.enc : Tr → D
  | .leaf s => .str s
  | .node f a b c => .tup [.int f, a.enc, b.enc, c.enc]
def Tr.ok (n : Int) : Tr → Prop
  | .leaf _ => True
  | .node f a b c => 0 ≤ f ∧ f < n ∧ a.ok n ∧ b.ok n ∧ c.ok n
def Tr.dep : Tr → Nat
  | .leaf _ => 0
  | .node _ a b c => 1 + max a.dep (max b.dep c.dep)
def Tr.size : Tr → Nat
  | .leaf _ => 1
  | .node _ a b c => 1 + (a.size + b.size + c.size)
def Tr.leaves : Tr → List (List Nat)
  | .leaf s => [s]
  | .node _ a b c => a.leaves ++ (b.leaves ++ c.leaves)
def Tr.fields : Tr → List Int
  | .leaf _ => []
  | .node f a b c => f :: (a.fields ++ (b.fields ++ c.fields))
def sizes (ts : List Tr) : Nat := (ts.map Tr.size).sum
@[simp] theorem sizes_nil : sizes [] = 0 := rfl
@[simp] theorem sizes_cons (t : Tr) (ts : List Tr) : sizes (t :: ts) = t.size + sizes ts := by simp [sizes]
@[simp] theorem sizes_app (a b : List Tr) : sizes (a ++ b) = sizes a + sizes b := by simp [sizes]
end Sm
end

section
set_option linter.all false
set_option maxRecDepth 10000
/-! Oh: the fields that a path's tree asks. -/
namespace Sm
end Sm
end

section
set_option linter.all false
set_option maxRecDepth 10000
/-! Oi: Book(..) of the trees of a forest's words. -/
namespace Sm
def bkX (ps : Par) (ks : List Kd) : List D := (List.range ps.length).map (treeD ps ks)
def bk (ps : Par) (ks : List Kd) : D := .ins "Book" ["trees", "fields"] [.tup (bkX ps ks), .int ps.length]
theorem clo_treeD (n : Nat) (ps : Par) (ks : List Kd) (f : Nat) : clo n (treeD ps ks f) = true := clo_tree ks n _ (by unfold baseD; split <;> rfl) _
theorem clos_bkX (n : Nat) (ps : Par) (ks : List Kd) : clos n (bkX ps ks) = true := by
  rw [clos_all]
  simp [bkX, clo_treeD]
@[simp] theorem clo_bk (n : Nat) (ps : Par) (ks : List Kd) : clo n (bk ps ks) = true := by simp [bk, clos_bkX]
@[simp] theorem bk_fields (ps : Par) (ks : List Kd) (h : AH) : fldD ["Book"] "fields" (bk ps ks) h = .ok (.int ps.length) h := rfl
@[simp] theorem bk_trees (ps : Par) (ks : List Kd) (h : AH) : fldD ["Book"] "trees" (bk ps ks) h = .ok (.tup (bkX ps ks)) h := rfl
end Sm
end

section
set_option linter.all false
set_option maxRecDepth 10000
/-! Oj: book_of. -/
namespace Sm
end Sm
end

section
set_option linter.all false
set_option maxRecDepth 10000
/-! Ok: signs, side. -/
namespace Sm
def sgR (a b : List Int) : List Int := (List.range a.length).map fun p => sgI (rv a p) (rv b p)
end Sm
end

section
set_option linter.all false
set_option maxRecDepth 10000
/-! Ol: a forest's call, kinds first and last too. -/
namespace Sm
section
variable {ps : Par} {ks : List Kd} (g : Good ps ks)
include g
end
end Sm
end

section
set_option linter.all false
/-! k07: plain computations (printed by gen2.py) -/
namespace Sm
/- _law_unlike: _law_parents_here, _law_field, _law_first_here, _law_second, _law_place -/
def b_q_unlike : AS := sB [sFor (iS (eA (F_q_path) (eL [eV 0, eV 1]))) (gV 4) (sB [sIf (tB1 (e2 neD (e2 ixD (eV 2) (eV 4)) (e2 ixD (eV 3) (eV 4)))) (sB [sRet (eV 4)]) (sB [])]),
  sRet (eC .non)]
def F_q_unlike : AF := fnT 4 5 b_q_unlike
/- first_unlike: forest, field, first, second -/
def b_first_unlike : AS := sB [sE (eA (F_check_place) (eL [e1 (fldD ["Forest"] "fields") (eV 0), eV 1])),
  sE (eA (F_check_record) (eL [e1 (fldD ["Forest"] "fields") (eV 0), eV 2])),
  sE (eA (F_check_record) (eL [e1 (fldD ["Forest"] "fields") (eV 0), eV 3])),
  sRet (eA (F_first_unlike_on) (eL [eA (F_path_of) (eL [e1 (fldD ["Forest"] "parents") (eV 0), eV 1]), eV 2, eV 3]))]
def F_first_unlike : AF := fnT 4 4 b_first_unlike
/- _law_answers: _law_forest, _law_parents_here, _law_kinds_here, _law_older, _law_newer, _law_field, _law_told, _law_actual -/
def b_q_answers_v4 : AS := sB [sFor (iR1 (eA (on1 lenD) (eL [eV 1]))) (gV 5) (sB [sSet 6 (eA (F_first_unlike) (eL [eV 0, eV 5, eV 3, eV 4])),
    sIf (tNot (tV (eA (F_q_same) (eL [eTup (eL [eV 6]), eLst true (eL [eA (F_q_unlike) (eL [eV 1, eV 5, eV 3, eV 4])])])))) (sB [sRet (eC (.bl false))]) (sB [])]),
  sSet 7 (eCal [("Forest", F_Forest_call)] (eV 0) (eL [eV 3, eV 4])),
  sRet (eAnd (eA (F_q_is_record) (eL [eV 7, eA (on1 lenD) (eL [eV 1])])) (e2 eqD (eV 7) (eA (F_q_merge_v2) (eL [eV 1, eV 2, eV 3, eV 4]))))]
def F_q_answers_v4 : AF := fnT 5 8 b_q_answers_v4
/- _law_first: _law_forest, _law_field, _law_first_here, _law_second, _law_actual, e, _law_kin, why -/
def b_q_first : AS := sB [sTryMs [([("BadRecord", false), ("NoRecord", false), ("BadForest", false), ("BadNumber", false), ("BadPlace", true), ("Marked", true), ("BadSizes", false)], 5, fun x => sB [sSet 6 (eAnd (eXis x [("BadPlace", true), ("Marked", true)]) (eXis x [("BadPlace", true), ("Marked", true)])),
    sRet (eLst true (eL [eC (.int 1), eXf ["BadPlace", "Marked"] x "place", eAnd (eV 6) (e1 notD (eXis x [("BadPlace", false), ("Marked", true)]))]))]), ([("BadRecord", true), ("NoRecord", false), ("BadForest", false), ("BadNumber", false), ("BadPlace", false), ("Marked", false), ("BadSizes", false)], 7, fun x => sB [sSet 6 (eAnd (eXis x [("BadRecord", true)]) (eXis x [("BadRecord", true)])),
    sRet (eLst true (eL [eC (.int 2), eXf ["BadRecord"] x "record", eAnd (eV 6) (e1 notD (eXis x [("BadRecord", false)]))]))])] (sB [sSet 4 (eA (F_first_unlike) (eL [eV 0, eV 1, eV 2, eV 3]))]),
  sRet (eLst true (eL [eC (.int 0), eV 4, eC (.bl true)]))]
def F_q_first : AF := fnT 4 8 b_q_first
/- _law_merged: _law_forest, _law_older, _law_newer, _law_actual, e, _law_kin -/
def b_q_merged : AS := sB [sTryAs [("BadRecord", true), ("NoRecord", false), ("BadForest", false), ("BadNumber", false), ("BadPlace", false), ("Marked", false), ("BadSizes", false)] 4 (sB [sSet 3 (eCal [("Forest", F_Forest_call)] (eV 0) (eL [eV 1, eV 2]))]) (fun x => sB [sSet 5 (eAnd (eXis x [("BadRecord", true)]) (eXis x [("BadRecord", true)])),
    sRet (eLst true (eL [eC (.int 2), eXf ["BadRecord"] x "record", eAnd (eV 5) (e1 notD (eXis x [("BadRecord", false)]))]))]),
  sRet (eLst true (eL [eC (.int 0), eV 3, eC (.bl true)]))]
def F_q_merged : AF := fnT 3 6 b_q_merged
/- _law_refuses: _law_forest, _law_parents_here, _law_kinds_here, _law_tape_here, _law_pair, _law_n, _law_field, _law_due, _law_given, _law_record_here, _law_pick, _law_told, _law_turn -/
def b_q_refuses_v6 : AS := sB [sSet 5 (eA (on1 lenD) (eL [eV 1])),
  sSet 6 (eA (F_q_take) (eL [eV 3, eV 5])),
  sSet 7 (eLst true (eL [eC (.int 0), eC .non])),
  sSet 8 (eLst false (eL [])),
  sFor (iS (eV 4)) (gV 9) (sB [sSet 10 (eA (F_q_take) (eL [eV 3, eC (.int 4)])),
    sE (eM isLst (mt1 appendD) (eV 8) (eL [e2 ixD (eLst true (eL [eSl true (eV 9) (oN) (oS (e2 subD (eV 5) (eC (.int 1)))), e2 (addD true) (eV 9) (eTup (eL [eC (.int 0)])), eV 9, eV 9])) (eV 10)]))]),
  sIf (tB1 (e2 neD (eA (on1 lenD) (eL [e2 ixD (eV 8) (eC (.int 1))])) (eV 5))) (sB [sSet 7 (eLst true (eL [eC (.int 2), e2 ixD (eV 8) (eC (.int 1))]))]) (sB []),
  sIf (tB1 (e2 neD (eA (on1 lenD) (eL [e2 ixD (eV 8) (eC (.int 0))])) (eV 5))) (sB [sSet 7 (eLst true (eL [eC (.int 2), e2 ixD (eV 8) (eC (.int 0))]))]) (sB []),
  sSet 11 (eA (F_q_merged) (eL [eV 0, e2 ixD (eV 8) (eC (.int 0)), e2 ixD (eV 8) (eC (.int 1))])),
  sIf (tOr (tB1 (e2 neD (e2 ixD (eV 11) (eC (.int 0))) (e2 ixD (eV 7) (eC (.int 0))))) (tNot (tV (e2 ixD (eV 11) (eC (.int 2)))))) (sB [sRet (eC (.bl false))]) (sB []),
  sIf (tAnd (tB1 (e2 eqD (e2 ixD (eV 7) (eC (.int 0))) (eC (.int 2)))) (tNot (tV (eA (F_q_same) (eL [e2 ixD (eV 11) (eC (.int 1)), e2 ixD (eV 7) (eC (.int 1))]))))) (sB [sRet (eC (.bl false))]) (sB []),
  sIf (tB1 (e2 eqD (eA (F_q_take) (eL [eV 3, eC (.int 2)])) (eC (.int 1)))) (sB [sSet 6 (e2 ixD (eLst true (eL [e2 subD (eC (.int 0)) (eC (.int 1)), eV 5, e2 (addD true) (eV 5) (e2 powD (eC (.int 10)) (eC (.int 20))), e2 subD (eC (.int 0)) (e2 powD (eC (.int 10)) (eC (.int 20)))])) (eA (F_q_take) (eL [eV 3, eC (.int 4)]))),
    sSet 7 (eLst true (eL [eC (.int 1), eV 6]))]) (sB []),
  sFor (iR1 (eC (.int 2))) (gV 12) (sB [sSet 11 (eA (F_q_first) (eL [eV 0, eV 6, e2 ixD (eV 8) (eC (.int 0)), e2 ixD (eV 8) (eC (.int 1))])),
    sIf (tOr (tB1 (e2 neD (e2 ixD (eV 11) (eC (.int 0))) (e2 ixD (eV 7) (eC (.int 0))))) (tNot (tV (e2 ixD (eV 11) (eC (.int 2)))))) (sB [sRet (eC (.bl false))]) (sB []),
    sIf (tAnd (tB1 (e2 eqD (e2 ixD (eV 7) (eC (.int 0))) (eC (.int 2)))) (tNot (tV (eA (F_q_same) (eL [e2 ixD (eV 11) (eC (.int 1)), e2 ixD (eV 7) (eC (.int 1))]))))) (sB [sRet (eC (.bl false))]) (sB []),
    sIf (tAnd (tB1 (e2 eqD (e2 ixD (eV 7) (eC (.int 0))) (eC (.int 1)))) (tNot (tV (eA (F_q_same) (eL [eTup (eL [e2 ixD (eV 11) (eC (.int 1))]), eLst true (eL [eV 6])]))))) (sB [sRet (eC (.bl false))]) (sB []),
    sIf (tAnd (tB1 (e2 eqD (e2 ixD (eV 7) (eC (.int 0))) (eC (.int 0)))) (tNot (tV (eA (F_q_same) (eL [eTup (eL [e2 ixD (eV 11) (eC (.int 1))]), eLst true (eL [eA (F_q_unlike) (eL [eV 1, eV 6, e2 ixD (eV 4) (eC (.int 0)), e2 ixD (eV 4) (eC (.int 1))])])]))))) (sB [sRet (eC (.bl false))]) (sB [])]),
  sRet (eC (.bl true))]
def F_q_refuses_v6 : AF := fnT 5 13 b_q_refuses_v6
/- _law_values: _law_tape_here, _law_one, _law_two, _law_amount, _law_kind, _law_due, _law_told, _law_k, _law_sum_due -/
def b_q_values : AS := sB [sSet 1 (eA (F_q_value) (eL [eV 0, eC (.int 3)])),
  sSet 2 (eA (F_q_value) (eL [eV 0, eC (.int 3)])),
  sSet 3 (eA (F_q_value) (eL [eV 0, eC (.int 3)])),
  sFor (iS (eLst true (eL [eC (.str [117, 112]), eC (.str [100, 111, 119, 110]), eC (.str [102, 105, 114, 115, 116]), eC (.str [108, 97, 115, 116])]))) (gV 4) (sB [sSet 5 (eLst true (eL [eOr (eAnd (e2 eqD (eV 4) (eC (.str [117, 112]))) (e2 gtD (eV 1) (eV 2))) (eAnd (e2 eqD (eV 4) (eC (.str [100, 111, 119, 110]))) (e2 ltD (eV 1) (eV 2))), eC (.bl false)])),
    sSet 6 (eLst true (eL [eA (F_better) (eL [eV 4, eV 1, eV 2]), eA (F_better) (eL [eV 4, eV 1, eV 1])])),
    sFor (iR1 (eC (.int 2))) (gV 7) (sB [sIf (tOr (tNot (tV (e1 (isTy "bool") (e2 ixD (eV 6) (eV 7))))) (tB1 (e2 neD (e2 ixD (eV 6) (eV 7)) (e2 ixD (eV 5) (eV 7))))) (sB [sRet (eC (.bl false))]) (sB [])]),
    sSet 8 (e2 (addD true) (eV 1) (eV 3)),
    sIf (tB1 (e2 eqD (eV 4) (eC (.str [100, 111, 119, 110])))) (sB [sSet 8 (e2 subD (eV 1) (eV 3))]) (sB []),
    sIf (tNot (tV (eA (F_q_same) (eL [eTup (eL [eA (F_raised) (eL [eV 4, eV 1, eV 3])]), eLst true (eL [eV 8])])))) (sB [sRet (eC (.bl false))]) (sB [])]),
  sRet (eC (.bl true))]
def F_q_values : AF := fnT 1 9 b_q_values
/- law: _law_script, _law_sizes, _law_n, _law_shapes, _law_k, _law_parents_here, _law_older, _law_newer, _law_alike, _law_path_here, _law_row, _law_place, _law_forests, _law_shape, _law_pair, _law_tape_here -/
def b_law_k07 : AS := sB [sSet 1 (eA (F_q_tape) (eL [eV 0, eC (.int 0)])),
  sSet 2 (e2 (addD true) (eC (.int 1)) (eA (F_q_take) (eL [eV 1, eC (.int 6)]))),
  sIf (tB1 (e2 eqD (eA (F_q_take) (eL [eV 1, eC (.int 8)])) (eC (.int 0)))) (sB [sSet 2 (e2 (addD true) (eC (.int 7)) (eA (F_q_take) (eL [eV 1, eC (.int 2)])))]) (sB []),
  sSet 3 (eLst false (eL [])),
  sFor (iR1 (eC (.int 2))) (gV 4) (sB [sSet 5 (eA (F_q_parents) (eL [eV 1, eV 2])),
    sE (eM isLst (mt1 appendD) (eV 3) (eL [eLst true (eL [eV 5, eA (F_q_kinds) (eL [eA (F_q_tape) (eL [eV 0, e2 (addD true) (eC (.int 1)) (e2 (mulD true) (eC (.int 3)) (eV 4))]), eV 5, eC (.bl false)])])]))]),
  sSet 6 (eA (F_q_record) (eL [eA (F_q_tape) (eL [eV 0, eC (.int 2)]), eV 2, eC (.int 3)])),
  sSet 7 (eA (F_q_record) (eL [eA (F_q_tape) (eL [eV 0, eC (.int 3)]), eV 2, eC (.int 3)])),
  sSet 8 (eA (F_q_take) (eL [eV 1, eC (.int 6)])),
  sIf (tB1 (e2 ltD (eV 8) (eC (.int 2)))) (sB [sSet 9 (eA (F_q_path) (eL [e2 ixD (e2 ixD (eV 3) (eC (.int 0))) (eC (.int 0)), eA (F_q_take) (eL [eV 1, eV 2])])),
    sSet 10 (eA (on1 (listD false)) (eL [eV 7])),
    sFor (iS (eSl true (eV 9) (oN) (oS (e2 subD (eA (on1 lenD) (eL [eV 9])) (eV 8))))) (gV 11) (sB [sSub setIxD (eV 10) (eV 11) (e2 ixD (eV 6) (eV 11))]),
    sSet 7 (eA (on1 tupD) (eL [eV 10]))]) (sB []),
  sSet 12 (eLC true [13] (iS (eV 3)) (gV 13) (tYes) (eA (mkI "Forest" true (F_Forest_init)) (eL [eA (on1 (listD true)) (eL [e2 ixD (eV 13) (eC (.int 0))]), eA (on1 (listD true)) (eL [e2 ixD (eV 13) (eC (.int 1))])]))),
  sFor (iS (eLst true (eL [eLst true (eL [eV 6, eV 7]), eLst true (eL [eV 7, eV 6]), eLst true (eL [eV 6, eV 6]), eLst true (eL [eV 6, eV 7])]))) (gV 14) (sB [sFor (iR1 (eC (.int 2))) (gV 4) (sB [sIf (tNot (tV (eA (F_q_answers_v4) (eL [e2 ixD (eV 12) (eV 4), e2 ixD (e2 ixD (eV 3) (eV 4)) (eC (.int 0)), e2 ixD (e2 ixD (eV 3) (eV 4)) (eC (.int 1)), e2 ixD (eV 14) (eC (.int 0)), e2 ixD (eV 14) (eC (.int 1))])))) (sB [sRet (eC (.bl false))]) (sB [])])]),
  sSet 15 (eA (F_q_tape) (eL [eV 0, eC (.int 5)])),
  sFor (iR1 (eC (.int 2))) (gV 4) (sB [sIf (tNot (tV (eA (F_q_refuses_v6) (eL [e2 ixD (eV 12) (eV 4), e2 ixD (e2 ixD (eV 3) (eV 4)) (eC (.int 0)), e2 ixD (e2 ixD (eV 3) (eV 4)) (eC (.int 1)), eV 15, eLst true (eL [eV 6, eV 7])])))) (sB [sRet (eC (.bl false))]) (sB []),
    sIf (tNot (tV (eA (F_q_answers_v4) (eL [e2 ixD (eV 12) (eV 4), e2 ixD (e2 ixD (eV 3) (eV 4)) (eC (.int 0)), e2 ixD (e2 ixD (eV 3) (eV 4)) (eC (.int 1)), eV 6, eV 7])))) (sB [sRet (eC (.bl false))]) (sB [])]),
  sRet (eA (F_q_values) (eL [eA (F_q_tape) (eL [eV 0, eC (.int 6)])]))]
def F_law_k07 : AF := fnT 1 16 b_law_k07
end Sm
end

section
set_option linter.all false
set_option maxRecDepth 10000
/-! Pa: the first unlike field, asked; several clauses in the plain. -/
namespace Sm
section
variable {e : Env} {h : AH} {d : D} {x : Ex} {cs : List Cl3}
@[simp] theorem sTryMs_def (cs : List Cl3) (b : AS) : sTryMs cs b e h = (b e h).bind (tryKs cs) := rfl
@[simp] theorem tryKs_nx : tryKs cs (.nx e) h = .ok (.nx e) h := rfl
@[simp] theorem tryKs_rt : tryKs cs (.rt d) h = .ok (.rt d) h := rfl
end
section
variable {ps : Par} {ks : List Kd} (g : Good ps ks)
include g
end
end Sm
end

section
set_option linter.all false
set_option maxRecDepth 10000
/-! Ch23: k53: below, ordered, bounds, distributes. -/
namespace Sm
section
variable {ps : Par} {ks : List Kd} (g : Good ps ks) (hw : ∀ p < ps.length, (kd ks p).end_ = false)
include g hw
end
end Sm
end

section
set_option linter.all false
set_option maxRecDepth 10000
/-! Ch24: k53: ordered, bounds, distributes, meets. -/
namespace Sm
def hwT {ps : Par} {ks : List Kd} (g : Good ps ks) : ∀ p < ps.length, (kd (ks.map tn) p).end_ = false := fun p hp => by
  have hk := g.len
  rw [kd_map tn ks (by omega)]
  cases kd ks p <;> rfl
section
variable {ps : Par} {ks : List Kd} (g : Good ps ks) (hw : ∀ p < ps.length, (kd ks p).end_ = false)
include g hw
end
end Sm
end

section
set_option linter.all false
set_option maxRecDepth 10000
/-! Ch25: k53: refusals. -/
namespace Sm
end Sm
end

section
set_option linter.all false
set_option maxRecDepth 10000
/-! Le: the letter laws' tools. -/
namespace Sm
def lv : Kd → Kd
  | .first => .up
  | .last => .down
  | k => k
def encKt (ks : List Kd) (i : Nat) : List D := encK ((ks.map lv).take i)
def raiV (k : Kd) (v w : Int) : Int := match k with
  | .down => v - w
  | _ => v + w
end Sm
end

section
set_option linter.all false
set_option maxRecDepth 10000
/-! Lv: plain fields: what the end of a plain lot is. -/
namespace Sm
abbrev PR := List Int × List Int
def hp (ps : Par) : Option Nat → List Nat
  | none => []
  | some f => path ps f
def Ag (pa : List Nat) (r E : List Int) : Prop := ∀ p ∈ pa, rv r p = rv E p
/-- what stands in a plain field at the end E of the lot X -/
structure BV (X : List PR) (E : List Int) (pa : List Nat) (w : Nat) (c : Int) : Prop where
  ne : ∃ x ∈ X, Ag pa x.1 E
  is : (∀ x ∈ X, Ag pa x.1 E → rv x.2 w = c) ∨ (c = 0 ∧ ∃ x ∈ X, ∃ y ∈ X, Ag pa x.1 E ∧ Ag pa y.1 E ∧ rv x.2 w ≠ rv y.2 w)
theorem BV.congr {X Y : List PR} {E : List Int} {pa : List Nat} {w : Nat} {c : Int} (h : BV X E pa w c) (e : ∀ x, x ∈ X ↔ x ∈ Y) : BV Y E pa w c := by
  obtain ⟨x, hx, ax⟩ := h.ne
  refine ⟨⟨x, (e x).mp hx, ax⟩, ?_⟩
  rcases h.is with h1 | ⟨h1, u, hu, v, hv, au, av, huv⟩
  · exact .inl fun y hy ay => h1 y ((e y).mpr hy) ay
  · exact .inr ⟨h1, u, (e u).mp hu, v, (e v).mp hv, au, av, huv⟩
theorem BV.ag {X : List PR} {E F : List Int} {pa : List Nat} {w : Nat} {c : Int} (h : BV X E pa w c) (e : Ag pa E F) : BV X F pa w c := by
  have f : ∀ r, Ag pa r E ↔ Ag pa r F := fun r => ⟨fun q p hp => (q p hp).trans (e p hp), fun q p hp => (q p hp).trans (e p hp).symm⟩
  obtain ⟨x, hx, ax⟩ := h.ne
  refine ⟨⟨x, hx, (f _).mp ax⟩, ?_⟩
  rcases h.is with h1 | ⟨h1, u, hu, v, hv, au, av, huv⟩
  · exact .inl fun y hy ay => h1 y hy ((f _).mpr ay)
  · exact .inr ⟨h1, u, hu, v, hv, (f _).mp au, (f _).mp av, huv⟩
/-- both lots bear the end's path -/
theorem BV.both {X Y : List PR} {E : List Int} {pa : List Nat} {w : Nat} {c d : Int} (h : BV X E pa w c) (k : BV Y E pa w d) : BV (X ++ Y) E pa w (if c = d then c else 0) := by
  obtain ⟨x, hx, ax⟩ := h.ne
  obtain ⟨y, hy, ay⟩ := k.ne
  have L : ∀ {z}, z ∈ X → z ∈ X ++ Y := fun q => List.mem_append_left _ q
  have R : ∀ {z}, z ∈ Y → z ∈ X ++ Y := fun q => List.mem_append_right _ q
  refine ⟨⟨x, L hx, ax⟩, ?_⟩
  rcases h.is with h1 | ⟨h1, u, hu, v, hv, au, av, huv⟩
  · rcases k.is with k1 | ⟨k1, u, hu, v, hv, au, av, huv⟩
    · by_cases e : c = d
      · subst e
        rw [if_pos rfl]
        exact .inl fun z hz az => (List.mem_append.mp hz).elim (fun q => h1 z q az) fun q => k1 z q az
      · rw [if_neg e]
        exact .inr ⟨rfl, x, L hx, y, R hy, ax, ay, by rw [h1 x hx ax, k1 y hy ay]; exact e⟩
    · refine .inr ⟨?_, u, R hu, v, R hv, au, av, huv⟩
      split
      · rename_i e; rw [e, k1]
      · rfl
  · refine .inr ⟨?_, u, L hu, v, L hv, au, av, huv⟩
    split
    · exact h1
    · rfl
/-- only the one lot bears it -/
theorem BV.left {X Y : List PR} {E : List Int} {pa : List Nat} {w : Nat} {c : Int} (h : BV X E pa w c) (no : ∀ y ∈ Y, ¬ Ag pa y.1 E) : BV (X ++ Y) E pa w c := by
  obtain ⟨x, hx, ax⟩ := h.ne
  refine ⟨⟨x, List.mem_append_left _ hx, ax⟩, ?_⟩
  rcases h.is with h1 | ⟨h1, u, hu, v, hv, au, av, huv⟩
  · exact .inl fun z hz az => (List.mem_append.mp hz).elim (fun q => h1 z q az) fun q => absurd az (no z q)
  · exact .inr ⟨h1, u, List.mem_append_left _ hu, v, List.mem_append_left _ hv, au, av, huv⟩
theorem BV.right {X Y : List PR} {E : List Int} {pa : List Nat} {w : Nat} {c : Int} (h : BV Y E pa w c) (no : ∀ y ∈ X, ¬ Ag pa y.1 E) : BV (X ++ Y) E pa w c :=
  (h.left no).congr fun x => by simp [or_comm]
def pvV (ps : Par) (ks : List Kd) (g : Option Nat) (a b : PR) (w : Nat) : Int := if rv a.2 w = rv b.2 w then rv a.2 w else match g with
  | none => 0
  | some f => match fu (path ps f) (rec a.1) (rec b.1) with
    | none => 0
    | some p => if bet (kd ks p) (rv a.1 p) (rv b.1 p) then rv a.2 w else rv b.2 w
def hg (hs : List (Option Nat)) (w : Nat) : Option Nat := (hs[w]?).join
def mgV (ps : Par) (ks : List Kd) (hs : List (Option Nat)) (a b : PR) : PR := (mrg ps ks a.1 b.1, (List.range hs.length).map fun w => pvV ps ks (hg hs w) a b w)
structure PChar (ps : Par) (ks : List Kd) (hs : List (Option Nat)) (X : List PR) (E : PR) : Prop where
  c : Char ps ks (X.map (·.1)) E.1
  len : E.2.length = hs.length
  v : ∀ w < hs.length, BV X E.1 (hp ps (hg hs w)) w (rv E.2 w)
section
variable {ps : Par} {ks : List Kd} {hs : List (Option Nat)} (ac : Acy ps)
include ac
theorem PChar.congr {X Y : List PR} {E : PR} (h : PChar ps ks hs X E) (e : ∀ x, x ∈ X ↔ x ∈ Y) : PChar ps ks hs Y E :=
  ⟨h.c.congr ac fun r => by simp only [List.mem_map]; exact ⟨fun ⟨x, h1, h2⟩ => ⟨x, (e x).mp h1, h2⟩, fun ⟨x, h1, h2⟩ => ⟨x, (e x).mpr h1, h2⟩⟩, h.len, fun w hw => (h.v w hw).congr e⟩
theorem PChar.one {x : PR} (h1 : x.1.length = ps.length) (h2 : x.2.length = hs.length) : PChar ps ks hs [x] x :=
  ⟨Char.one ac h1, h2, fun w hw => ⟨⟨x, by simp, fun _ _ => rfl⟩, .inl fun y hy _ => by simp at hy; rw [hy]⟩⟩
variable (hw : ∀ p < ps.length, (kd ks p).end_ = false) (hh : ∀ f, some f ∈ hs → f < ps.length)
include hw hh
end
end Sm
end

section
set_option linter.all false
set_option maxRecDepth 10000
/-! Lf: firm fields (k59), the program's side. -/
namespace Sm
def firmB (ps : Par) (ks : List Kd) (a b : List Int) (f : Nat) : Bool := match fu (path ps f) (rec a) (rec b) with
  | none => true
  | some p => bet (kd ks p) (rv a p) (rv b p)
section
variable {ps : Par} {ks : List Kd} (g : Good ps ks) {a b : List Int} (la : a.length = ps.length) (lb : b.length = ps.length) {h : AH}
include g la lb
end
def firmL (ps : Par) (ks : List Kd) (a b : List Int) : List Nat := (List.range ps.length).filter (firmB ps ks a b)
def mdue (ks : List Kd) (a b : List Int) (i : Int) : Option BDue := match ldue ks [a, b] with
  | some d => some d
  | none => if 0 ≤ i ∧ i < ks.length then none else some (.pl i)
def movL (ks : List Kd) (a b : List Int) (f : Nat) : List Int := if rv a f = rv b f then b.set f (raiV (kd ks f) (rv b f) (-1)) else b
def ansD (r : Option BDue) (v : D) : D := match r with
  | none => .lst [v]
  | some d => .tup [encB d]
def resB (r : Option BDue) (v : D) (h : AH) : R D := match r with
  | none => .ok v h
  | some d => .exc (exB d) h
end Sm
end

section
set_option linter.all false
set_option maxRecDepth 10000
/-! Lg: firm fields, the law's side. -/
namespace Sm
section
variable {ps : Par} {ks : List Kd} (g : Good ps ks) (hw : ∀ p < ps.length, (kd ks p).end_ = false)
include g hw
end
def stepV (k : Kd) (a b : Int) : Int := if a = b then 0 else if adj k a < adj k b then 1 else -1
end Sm
end

section
set_option linter.all false
set_option maxRecDepth 10000
/-! Lh: firm fields: moves, stay firm, holds. -/
namespace Sm
section
variable {ps : Par} {ks : List Kd} (g : Good ps ks) (hw : ∀ p < ps.length, (kd ks p).end_ = false) {a b : List Int} (la : a.length = ps.length) (lb : b.length = ps.length)
include g hw la lb
omit g hw la in
@[simp] theorem mov_len (f : Nat) : (movL ks a b f).length = ps.length := by
  unfold movL
  split <;> simp [lb]
end
end Sm
end

section
set_option linter.all false
set_option maxRecDepth 10000
/-! Li: firm fields: stay firm, holds. -/
namespace Sm
def Within (ps : Par) (ks : List Kd) (b L : List Int) : Prop := L.length = ps.length ∧ ∀ p < ps.length, adj (kd ks p) (rv L p) ≤ adj (kd ks p) (rv b p)
section
variable {ps : Par} {ks : List Kd} (g : Good ps ks) (hw : ∀ p < ps.length, (kd ks p).end_ = false)
include g hw
end
end Sm
end

section
set_option linter.all false
set_option maxRecDepth 10000
/-! Lj: k59's questions. -/
namespace Sm
theorem frz_clo {h : AH} {n k : Nat} {d : D} (c : clo n d = true) : frzD h n k d = some d := by
  cases k with
  | zero => unfold frzD; rw [c]; rfl
  | succ k => unfold frzD; rw [c]; rfl
theorem frz_l {h : AH} {n k : Nat} {xs ys : List D} (e : mapO (frzD h n k) xs = some ys) : frzD h n (k + 1) (.lst xs) = some (.lst ys) := by
  by_cases c : clo n (.lst xs) = true
  · rw [frz_clo c]
    rw [clo_lst, clos_all, List.all_eq_true] at c
    have : mapO (frzD h n k) xs = some (xs.map id) := mapO_some fun x hx => frz_clo (c x hx)
    rw [this] at e
    simp at e
    rw [e]
  · have c' : clo n (.lst xs) = false := by simpa using c
    unfold frzD
    rw [c']
    dsimp only
    rw [if_neg Bool.false_ne_true, e]; rfl
def shiftL (ks : List Kd) (b : List Int) (st : List Int) : List Int := (List.range ks.length).map fun f => raiV (kd ks f) (rv b f) (rv st f)
@[simp] theorem shiftL_len (ks : List Kd) (b st : List Int) : (shiftL ks b st).length = ks.length := by simp [shiftL]
def e30 : Int := 1000000000000000000000000000000
end Sm
end

section
set_option linter.all false
/-! k58: plain computations (printed by gen2.py) -/
namespace Sm
/- _law_healed: _law_question_here, _law_n, _law_receivers -/
def b_q_healed_v2 : AS := sB [sSet 2 (e2 ixD (eV 0) (eC (.int 2))),
  sRet (eLst true (eL [e2 ixD (eV 2) (eC (.int 0)), eSl true (e2 (addD true) (e2 ixD (eV 0) (eC (.int 1))) (eTup (eL [eC (.int 0)]))) (oN) (oS (eV 1)), eV 2, e2 ixD (eV 0) (eC (.int 3))]))]
def F_q_healed_v2 : AF := fnT 2 3 b_q_healed_v2
/- winning_fields: forest, known, copy, field -/
def b_winning_fields : AS := sB [sE (eA (F_check_two) (eL [eV 0, eV 1, eV 2])),
  sRet (eA (on1 tupD) (eL [eLC true [3] (iR1 (e1 (fldD ["Forest"] "fields") (eV 0))) (gV 3) (tV (eA (F_wins) (eL [eV 0, eV 3, eV 2, eV 1]))) (eV 3)]))]
def F_winning_fields : AF := fnT 3 4 b_winning_fields
/- least_letter: forest, known, copy, needed, field, place -/
def b_least_letter : AS := sB [sSet 3 (eNewS),
  sFor (iS (eA (F_winning_fields) (eL [eV 0, eV 1, eV 2]))) (gV 4) (sB [sFor (iS (eA (F_path_of) (eL [e1 (fldD ["Forest"] "parents") (eV 0), eV 4]))) (gV 5) (sB [sE (eM isSetB (mt1 sAddD) (eV 3) (eL [eV 5]))])]),
  sRet (eA (on1 tupD) (eL [eLC true [4] (iR1 (e1 (fldD ["Forest"] "fields") (eV 0))) (gV 4) (tYes) (eIf (tB1 (e2 inSD (eV 4) (eV 3))) (e2 ixD (eV 2) (eV 4)) (eC .non))]))]
def F_least_letter : AF := fnT 3 6 b_least_letter
/- left_out_shows: forest, known, copy, field, result -/
def b_left_out_shows : AS := sB [sE (eA (F_check_two) (eL [eV 0, eV 1, eV 2])),
  sE (eA (F_check_place) (eL [e1 (fldD ["Forest"] "fields") (eV 0), eV 3])),
  sIf (tNot (tV (eA (F_wins) (eL [eV 0, eV 3, eV 2, eV 1])))) (sB [sRet (eC .non)]) (sB []),
  sSet 4 (eA (on1 (listD false)) (eL [eV 1])),
  sIf (tB1 (e2 eqD (e2 ixD (eV 1) (eV 3)) (e2 ixD (eV 2) (eV 3)))) (sB [sSub setIxD (eV 4) (eV 3) (eA (F_raised) (eL [e2 ixD (e1 (fldD ["Forest"] "kinds") (eV 0)) (eV 3), e2 ixD (eV 1) (eV 3), eC (.int 1)]))]) (sB []),
  sRet (eA (on1 tupD) (eL [eV 4]))]
def F_left_out_shows : AF := fnT 4 5 b_left_out_shows
/- _law_ask: _law_which, _law_forest, _law_known, _law_sent, _law_field, _law_found, e -/
def b_q_ask_v3 : AS := sB [sSet 5 (eLst false (eL [])),
  sTryAs [("BadRecord", true), ("BadTree", true), ("BadForest", true), ("NotFair", true), ("CannotLand", true), ("BadLetter", true), ("BadAnswer", true), ("BadPlace", true), ("Marked", true)] 6 (sB [sIf (tB1 (e2 eqD (eV 0) (eC (.int 0)))) (sB [sRet (eLst true (eL [eA (F_winning_fields) (eL [eV 1, eV 2, eV 3])]))]) (sB []),
    sIf (tB1 (e2 eqD (eV 0) (eC (.int 1)))) (sB [sRet (eLst true (eL [eA (F_least_letter) (eL [eV 1, eV 2, eV 3])]))]) (sB []),
    sRet (eLst true (eL [eA (F_left_out_shows) (eL [eV 1, eV 2, eV 3, eV 4])]))]) (fun x => sB [sIf (tOr (tNot (tV (eXis x [("BadRecord", true), ("BadTree", true), ("BadForest", true), ("NotFair", true), ("CannotLand", true), ("BadLetter", true), ("BadAnswer", true), ("BadPlace", true), ("Marked", true)]))) (tOr (tV (eXis x [("BadRecord", false), ("BadTree", false), ("BadForest", false), ("NotFair", false), ("CannotLand", false), ("BadLetter", false), ("BadAnswer", false), ("BadPlace", false), ("Marked", true)])) (tV (eXis x [("BadRecord", false), ("BadTree", false), ("BadForest", true), ("NotFair", false), ("CannotLand", false), ("BadLetter", false), ("BadAnswer", false), ("BadPlace", false), ("Marked", false)])))) (sB [sE (eM isLst (mt1 appendD) (eV 5) (eL [eTup (eL [eC (.str [97, 110, 111, 116, 104, 101, 114, 32, 99, 108, 97, 115, 115]), eC (.int 0)])]))]) (sB []),
    sIf (tV (eXis x [("BadRecord", false), ("BadTree", true), ("BadForest", false), ("NotFair", false), ("CannotLand", true), ("BadLetter", true), ("BadAnswer", true), ("BadPlace", false), ("Marked", false)])) (sB [sE (eM isLst (mt1 appendD) (eV 5) (eL [eTup (eL [eC (.str [97, 110, 111, 116, 104, 101, 114, 32, 99, 108, 97, 115, 115]), eC (.int 0)])]))]) (sB []),
    sIf (tV (eXis x [("BadRecord", false), ("BadTree", false), ("BadForest", false), ("NotFair", true), ("CannotLand", false), ("BadLetter", false), ("BadAnswer", false), ("BadPlace", false), ("Marked", false)])) (sB [sE (eM isLst (mt1 appendD) (eV 5) (eL [eTup (eL [eC (.str [78, 111, 116, 70, 97, 105, 114]), eXf ["BadTree", "BadForest", "NotFair", "CannotLand", "BadLetter", "BadAnswer"] x "field"])]))]) (sB []),
    sIf (tV (eXis x [("BadRecord", true), ("BadTree", false), ("BadForest", false), ("NotFair", false), ("CannotLand", false), ("BadLetter", false), ("BadAnswer", false), ("BadPlace", false), ("Marked", false)])) (sB [sE (eM isLst (mt1 appendD) (eV 5) (eL [eTup (eL [eC (.str [66, 97, 100, 82, 101, 99, 111, 114, 100]), eXf ["BadRecord"] x "record"])]))]) (sB []),
    sIf (tV (eXis x [("BadRecord", false), ("BadTree", false), ("BadForest", false), ("NotFair", false), ("CannotLand", false), ("BadLetter", false), ("BadAnswer", false), ("BadPlace", true), ("Marked", true)])) (sB [sE (eM isLst (mt1 appendD) (eV 5) (eL [eTup (eL [eC (.str [66, 97, 100, 80, 108, 97, 99, 101]), eXf ["BadPlace", "Marked"] x "place"])]))]) (sB [])]),
  sRet (eA (on1 tupD) (eL [eV 5]))]
def F_q_ask_v3 : AF := fnT 5 7 b_q_ask_v3
/- _law_letter: _law_parents_here, _law_sent, _law_fields, _law_letter_here, _law_field, _law_place -/
def b_q_letter : AS := sB [sSet 3 (eLC false [4] (iR1 (eA (on1 lenD) (eL [eV 0]))) (gV 4) (tYes) (eC .non)),
  sFor (iS (eV 2)) (gV 4) (sB [sFor (iS (eA (F_q_path) (eL [eV 0, eV 4]))) (gV 5) (sB [sSub setIxD (eV 3) (eV 5) (e2 ixD (eV 1) (eV 5))])]),
  sRet (eA (on1 tupD) (eL [eV 3]))]
def F_q_letter : AF := fnT 3 6 b_q_letter
/- _law_receives: _law_forest, _law_receiver, _law_letter_here, _law_end, _law_got -/
def b_q_receives : AS := sB [sSet 4 (eA (F_receive) (eL [eV 0, eV 1, eV 2])),
  sRet (eAnd (eA (F_q_is_record) (eL [eV 4, eA (on1 lenD) (eL [eV 3])])) (e2 eqD (eV 4) (eV 3)))]
def F_q_receives : AF := fnT 4 5 b_q_receives
/- _law_shows: _law_forest, _law_parents_here, _law_kinds_here, _law_known, _law_sent, _law_letter_here, _law_field, _law_told_here, _law_shown, _law_end, _law_cut, _law_place, _law_got -/
def b_q_shows : AS := sB [sIf (tOr (tNot (tV (e1 (isTy "list") (eV 7)))) (tNot (tV (eA (F_q_is_record) (eL [e2 ixD (eV 7) (eC (.int 0)), eA (on1 lenD) (eL [eV 2])]))))) (sB [sRet (eC (.bl false))]) (sB []),
  sSet 8 (e2 ixD (eV 7) (eC (.int 0))),
  sSet 9 (eA (F_q_merge_v2) (eL [eV 1, eV 2, eV 8, eV 4])),
  sIf (tOr (tB1 (e2 neD (eA (F_q_merge_v2) (eL [eV 1, eV 2, eV 3, eV 8])) (eV 8))) (tB1 (e2 eqD (e2 ixD (eV 9) (eV 6)) (e2 ixD (eV 8) (eV 6))))) (sB [sRet (eC (.bl false))]) (sB []),
  sIf (tNot (tV (eA (F_q_receives) (eL [eV 0, eV 8, eV 5, eV 9])))) (sB [sRet (eC (.bl false))]) (sB []),
  sSet 10 (eA (on1 (listD false)) (eL [eV 5])),
  sFor (iR1 (eA (on1 lenD) (eL [eV 2]))) (gV 11) (sB [sIf (tB1 (e2 inD (eV 6) (eA (F_q_path) (eL [eV 1, eV 11])))) (sB [sSub setIxD (eV 10) (eV 11) (eC .non)]) (sB [])]),
  sSet 12 (eA (F_receive) (eL [eV 0, eV 8, eA (on1 tupD) (eL [eV 10])])),
  sRet (eAnd (eA (F_q_is_record) (eL [eV 12, eA (on1 lenD) (eL [eV 2])])) (e2 eqD (e2 ixD (eV 12) (eV 6)) (e2 ixD (eV 8) (eV 6))))]
def F_q_shows : AF := fnT 8 13 b_q_shows
/- _law_told: _law_forest, _law_parents_here, _law_kinds_here, _law_question_here, _law_told_here, _law_known, _law_sent, _law_winning, _law_field, _law_letter_here, _law_receiver, _law_shown -/
def b_q_told_v5 : AS := sB [sSet 5 (e2 ixD (eV 3) (eC (.int 0))),
  sSet 6 (e2 ixD (eV 3) (eC (.int 1))),
  sSet 7 (eLC true [8] (iR1 (eA (on1 lenD) (eL [eV 2]))) (gV 8) (tB1 (e2 eqD (eA (F_q_side) (eL [eV 1, eV 2, eV 8, eV 5, eV 6])) (eC (.int 1)))) (eV 8)),
  sSet 9 (eA (F_q_letter) (eL [eV 1, eV 6, eV 7])),
  sIf (tOr (tNot (tV (e1 (isTy "list") (e2 ixD (eV 4) (eC (.int 0)))))) (tNot (tV (eA (F_q_is_ascending) (eL [e2 ixD (e2 ixD (eV 4) (eC (.int 0))) (eC (.int 0)), eA (on1 lenD) (eL [eV 2])]))))) (sB [sRet (eC (.bl false))]) (sB []),
  sIf (tOr (tB1 (e2 neD (e2 ixD (e2 ixD (eV 4) (eC (.int 0))) (eC (.int 0))) (eA (on1 tupD) (eL [eV 7])))) (tOr (tNot (tV (e1 (isTy "list") (e2 ixD (eV 4) (eC (.int 1)))))) (tNot (tV (eA (F_q_is_letter) (eL [e2 ixD (e2 ixD (eV 4) (eC (.int 1))) (eC (.int 0)), eV 9])))))) (sB [sRet (eC (.bl false))]) (sB []),
  sFor (iS (e2 ixD (eV 3) (eC (.int 2)))) (gV 10) (sB [sIf (tNot (tV (eA (F_q_receives) (eL [eV 0, eV 10, e2 ixD (e2 ixD (eV 4) (eC (.int 1))) (eC (.int 0)), eA (F_q_merge_v2) (eL [eV 1, eV 2, eV 10, eV 6])])))) (sB [sRet (eC (.bl false))]) (sB [])]),
  sFor (iR1 (eA (on1 lenD) (eL [eV 2]))) (gV 8) (sB [sSet 11 (eA (F_q_ask_v3) (eL [eC (.int 2), eV 0, eV 5, eV 6, eV 8])),
    sIf (tB1 (e2 inD (eV 8) (eV 7))) (sB [sIf (tNot (tV (eA (F_q_shows) (eL [eV 0, eV 1, eV 2, eV 5, eV 6, eV 9, eV 8, eV 11])))) (sB [sRet (eC (.bl false))]) (sB [])]) (sB [sIf (tOr (tNot (tV (e1 (isTy "list") (eV 11)))) (tB1 (e1 notNonD (e2 ixD (eV 11) (eC (.int 0)))))) (sB [sRet (eC (.bl false))]) (sB [])])]),
  sRet (eC (.bl true))]
def F_q_told_v5 : AF := fnT 5 12 b_q_told_v5
/- _law_holds: _law_forest, _law_parents_here, _law_kinds_here, _law_question_here, _law_due, _law_told_here, _law_which, _law_strange, _law_answer -/
def b_q_holds_v3 : AS := sB [sSet 4 (eA (F_q_refusal_v2) (eL [eV 2, e2 ixD (eV 3) (eC (.int 0)), e2 ixD (eV 3) (eC (.int 1))])),
  sSet 5 (eLC true [6] (iR1 (eC (.int 3))) (gV 6) (tYes) (eA (F_q_ask_v3) (eL [eV 6, eV 0, e2 ixD (eV 3) (eC (.int 0)), e2 ixD (eV 3) (eC (.int 1)), eC (.int 0)]))),
  sSet 7 (eA (F_q_ask_v3) (eL [eC (.int 2), eV 0, e2 ixD (eV 3) (eC (.int 0)), e2 ixD (eV 3) (eC (.int 1)), e2 ixD (eV 3) (eC (.int 3))])),
  sIf (tB1 (e1 isNonD (eV 4))) (sB [sIf (tNot (tV (eA (F_q_is_refusal_v2) (eL [eV 7, eTup (eL [eC (.str [66, 97, 100, 80, 108, 97, 99, 101]), e2 ixD (eV 3) (eC (.int 3))])])))) (sB [sRet (eC (.bl false))]) (sB []),
    sRet (eA (F_q_told_v5) (eL [eV 0, eV 1, eV 2, eV 3, eV 5]))]) (sB []),
  sFor (iS (e2 (addD true) (eV 5) (eLst true (eL [eV 7])))) (gV 8) (sB [sIf (tNot (tV (eA (F_q_is_refusal_v2) (eL [eV 8, eV 4])))) (sB [sRet (eC (.bl false))]) (sB [])]),
  sRet (eC (.bl true))]
def F_q_holds_v3 : AF := fnT 4 9 b_q_holds_v3
/- _law_near: _law_tape_here, _law_kinds_here, _law_record_here, _law_near_here, _law_field, _law_pick, _law_by -/
def b_q_near : AS := sB [sSet 3 (eLst false (eL [])),
  sFor (iR1 (eA (on1 lenD) (eL [eV 1]))) (gV 4) (sB [sSet 5 (eA (F_q_take) (eL [eV 0, eC (.int 6)])),
    sSet 6 (e2 (addD true) (eC (.int 1)) (eA (F_q_take) (eL [eV 0, eC (.int 3)]))),
    sIf (tB1 (e2 eqD (eV 5) (eC (.int 0)))) (sB [sE (eM isLst (mt1 appendD) (eV 3) (eL [eA (F_q_raised_v2) (eL [e2 ixD (eV 1) (eV 4), e2 ixD (eV 2) (eV 4), eV 6])]))]) (sB [sIf (tB1 (e2 eqD (eV 5) (eC (.int 1)))) (sB [sE (eM isLst (mt1 appendD) (eV 3) (eL [eA (F_q_raised_v2) (eL [e2 ixD (eV 1) (eV 4), e2 ixD (eV 2) (eV 4), e2 subD (eC (.int 0)) (eV 6)])]))]) (sB [sE (eM isLst (mt1 appendD) (eV 3) (eL [e2 ixD (eV 2) (eV 4)]))])])]),
  sRet (eA (on1 tupD) (eL [eV 3]))]
def F_q_near : AF := fnT 3 7 b_q_near
/- _law_question: _law_script, _law_turn, _law_parents_here, _law_kinds_here, _law_n, _law_known, _law_tape_here, _law_pick, _law_sent, _law_receivers, _law_many, _law_strange, _law_spoil, _law_k, _law_other -/
def b_q_question_v3 : AS := sB [sSet 4 (eA (on1 lenD) (eL [eV 3])),
  sSet 5 (eA (F_q_record) (eL [eA (F_q_tape) (eL [eV 0, e2 (addD true) (eC (.int 2)) (e2 (mulD true) (eC (.int 6)) (eV 1))]), eV 4, eC (.int 3)])),
  sSet 6 (eA (F_q_tape) (eL [eV 0, e2 (addD true) (eC (.int 3)) (e2 (mulD true) (eC (.int 6)) (eV 1))])),
  sSet 7 (eA (F_q_take) (eL [eV 6, eC (.int 3)])),
  sIf (tB1 (e2 eqD (eV 7) (eC (.int 0)))) (sB [sSet 8 (eA (F_q_record) (eL [eV 6, eV 4, eC (.int 3)]))]) (sB [sIf (tB1 (e2 eqD (eV 7) (eC (.int 1)))) (sB [sSet 8 (eA (F_q_merge_v2) (eL [eV 2, eV 3, eV 5, eA (F_q_record) (eL [eV 6, eV 4, eC (.int 3)])]))]) (sB [sSet 8 (eA (F_q_near) (eL [eV 6, eV 3, eV 5]))])]),
  sSet 9 (eLst false (eL [eV 5])),
  sSet 10 (eA (F_q_take) (eL [eV 6, eC (.int 5)])),
  sSet 11 (eA (F_q_no_field) (eL [eV 6, eV 4])),
  sSet 12 (eA (F_q_take) (eL [eV 6, eC (.int 16)])),
  sFor (iR1 (eV 10)) (gV 13) (sB [sSet 14 (eA (F_q_record) (eL [eA (F_q_tape) (eL [eV 0, e2 (addD true) (e2 (addD true) (eC (.int 4)) (e2 (mulD true) (eC (.int 6)) (eV 1))) (eV 13)]), eV 4, eC (.int 3)])),
    sE (eM isLst (mt1 appendD) (eV 9) (eL [eA (F_q_merge_v2) (eL [eV 2, eV 3, eV 5, eV 14])]))]),
  sIf (tOr (tB1 (e2 eqD (eV 12) (eC (.int 0)))) (tB1 (e2 eqD (eV 12) (eC (.int 2))))) (sB [sSet 5 (e2 (addD true) (eV 5) (eTup (eL [eC (.int 7)])))]) (sB []),
  sIf (tB1 (e2 eqD (eV 12) (eC (.int 1)))) (sB [sSet 5 (eSl true (eV 5) (oS (eC (.int 1))) (oN))]) (sB []),
  sIf (tOr (tB1 (e2 eqD (eV 12) (eC (.int 2)))) (tB1 (e2 eqD (eV 12) (eC (.int 3))))) (sB [sSet 8 (eSl true (eV 8) (oS (eC (.int 1))) (oN))]) (sB []),
  sRet (eLst true (eL [eV 5, eV 8, eV 9, eV 11]))]
def F_q_question_v3 : AF := fnT 4 15 b_q_question_v3
/- law: _law_script, _law_tape_here, _law_n, _law_parents_here, _law_fair, _law_kinds_here, _law_level_here, _law_ranks, _law_forests, _law_turns_here, _law_at, _law_question_here, _law_asked, _law_k, _law_pick -/
def b_law_k58 : AS := sB [sSet 1 (eA (F_q_tape) (eL [eV 0, eC (.int 0)])),
  sSet 2 (eA (F_q_size) (eL [eV 1])),
  sSet 3 (eA (F_q_parents) (eL [eV 1, eV 2])),
  sSet 1 (eA (F_q_tape) (eL [eV 0, eC (.int 1)])),
  sSet 4 (e2 gtD (eA (F_q_take) (eL [eV 1, eC (.int 6)])) (eC (.int 0))),
  sSet 5 (eA (F_q_kinds) (eL [eV 1, eV 3, eV 4])),
  sSet 6 (eA (F_q_level) (eL [eV 5])),
  sSet 7 (eLst true (eL [eV 5, eV 6])),
  sSet 8 (eLst true (eL [eA (mkI "Forest" true (F_Forest_init)) (eL [eA (on1 (listD true)) (eL [eV 3]), eA (on1 (listD true)) (eL [eV 5])]), eA (mkI "Forest" true (F_Forest_init)) (eL [eA (on1 (listD true)) (eL [eV 3]), eA (on1 (listD true)) (eL [eV 6])])])),
  sSet 9 (eLst true (eL [eC (.int 0), eC (.int 1), eC (.int 0)])),
  sFor (iR1 (eA (on1 lenD) (eL [eV 9]))) (gV 10) (sB [sSet 11 (eA (F_q_question_v3) (eL [eV 0, e2 ixD (eV 9) (eV 10), eV 3, eV 6])),
    sSet 12 (eLst true (eL [eV 11, eA (F_q_healed_v2) (eL [eV 11, eV 2])])),
    sFor (iR1 (eC (.int 2))) (gV 13) (sB [sSet 14 (e2 modD (eA (on1 intD) (eL [e2 (addD true) (eV 13) (eV 10)])) (eC (.int 2))),
      sIf (tNot (tV (eA (F_q_holds_v3) (eL [e2 ixD (eV 8) (eV 14), eV 3, e2 ixD (eV 7) (eV 14), e2 ixD (eV 12) (eV 13)])))) (sB [sRet (eC (.bl false))]) (sB [])])]),
  sRet (eAnd (eA (F_q_stays) (eL [e2 ixD (eV 8) (eC (.int 0)), eV 3, eV 5])) (eA (F_q_stays) (eL [e2 ixD (eV 8) (eC (.int 1)), eV 3, eV 6])))]
def F_law_k58 : AF := fnT 1 15 b_law_k58
end Sm
end

section
set_option linter.all false
set_option maxRecDepth 10000
/-! Lk: least letters (k58), the program's side. -/
namespace Sm
/-- b wins over a -/
def winE (ps : Par) (ks : List Kd) (a b : List Int) (f : Nat) : Bool := winsB ps ks f (rec b) (rec a)
section
variable {ps : Par} {ks : List Kd} (g : Good ps ks)
include g
omit g in
def winL (ps : Par) (ks : List Kd) (a b : List Int) : List Nat := (List.range ps.length).filter (winE ps ks a b)
omit g in
def inLet (ps : Par) (ws : List Nat) (f : Nat) : Bool := ws.any fun w => decide (f ∈ path ps w)
omit g in
def leastL (ps : Par) (ks : List Kd) (a b : List Int) : Let := (List.range ps.length).map fun f => if inLet ps (winL ps ks a b) f then some (rv b f) else none
omit g in
@[simp] theorem leastL_len (a b : List Int) : (leastL ps ks a b).length = ps.length := by simp [leastL]
end
end Sm
end

section
set_option linter.all false
set_option maxRecDepth 10000
/-! Lw: plain lots: the program. -/
namespace Sm
def eP (x : PR) : D := .tup [eR x.1, eR x.2]
@[simp] theorem clo_eP (n : Nat) (x : PR) : clo n (eP x) = true := by simp [eP]
@[simp] theorem nloc_eP (x : PR) : nloc (eP x) = true := rfl
@[simp] theorem eP_0 (x : PR) (h : AH) : ixD (eP x) (.int 0) h = .ok (eR x.1) h := by simp [eP]
@[simp] theorem eP_1 (x : PR) (h : AH) : ixD (eP x) (.int 1) h = .ok (eR x.2) h := by simp [eP]
def okP (ps : Par) (hs : List (Option Nat)) (x : PR) : Prop := x.1.length = ps.length ∧ x.2.length = hs.length
section
variable {ps : Par} {ks : List Kd} {hs : List (Option Nat)} (g : Good ps ks) (hw : ∀ p < ps.length, (kd ks p).end_ = false) (hh : ∀ f, some f ∈ hs → f < ps.length) (hm : hs.length ≤ 1000)
include g hw hh hm
def mgF (ps : Par) (ks : List Kd) (hs : List (Option Nat)) : List PR → PR
  | [] => ([], [])
  | x :: X => X.foldl (mgV ps ks hs) x
def plb (ps : Par) (ks : List Kd) (hs : List (Option Nat)) : D := .ins "PlainBook" ["forest", "hangs"] [fo ps ks, .tup (hs.map eO)]
@[simp] theorem nloc_plb (ps : Par) (ks : List Kd) (hs : List (Option Nat)) : nloc (plb ps ks hs) = true := rfl
end
end Sm
end

section
set_option linter.all false
set_option maxRecDepth 10000
/-! Lx: plain lots: the book, the law's own reckoning. -/
namespace Sm
def SeqP (h : AH) (P : D) (xs : List D) : Prop := P = .lst xs ∨ ∃ l, P = .loc l ∧ getL h l = some xs
theorem SeqP.i {h : AH} {P : D} {xs : List D} (s : SeqP h P xs) : SeqI h P xs := by
  rcases s with rfl | ⟨l, rfl, g⟩
  · exact SeqI.lst xs h
  · exact SeqI.loc g
theorem SeqP.cut {h : AH} {P : D} {xs : List D} (s : SeqP h P xs) (lo hi : Option Int) : slD true P lo hi h = .ok (.lst (cut xs lo hi)) h := by
  rcases s with rfl | ⟨l, rfl, g⟩
  · exact slT_lst xs lo hi h
  · exact sl_loc g lo hi
section
variable {ps : Par} {ks : List Kd} {hs : List (Option Nat)} (g : Good ps ks) (hw : ∀ p < ps.length, (kd ks p).end_ = false) (hh : ∀ f, some f ∈ hs → f < ps.length) (hm : hs.length ≤ 1000)
include g hw hh hm
/-! the law's own -/
end
end Sm
end

section
set_option linter.all false
set_option maxRecDepth 10000
/-! Ly: plain lots: merges that press a row, what is due. -/
namespace Sm
def agB (pa : List Nat) (r E : List Int) : Bool := decide (pa.map (rv r) = pa.map (rv E))
def bvs (X : List PR) (E : List Int) (pa : List Nat) (w : Nat) : List Int := (X.filter fun x => agB pa x.1 E).map fun x => rv x.2 w
def hdI (l : List Int) : Int := l.headD 0
def bvV (X : List PR) (E : List Int) (pa : List Nat) (w : Nat) : Int := if (bvs X E pa w).find? (fun v => !decide (v = hdI (bvs X E pa w))) = none then hdI (bvs X E pa w) else 0
def dueP (ps : Par) (ks : List Kd) (hs : List (Option Nat)) (X : List PR) : PR := (foldE ps ks (X.map (·.1)), (List.range hs.length).map fun w => bvV X (foldE ps ks (X.map (·.1))) (hp ps (hg hs w)) w)
section
variable {ps : Par} {ks : List Kd} {hs : List (Option Nat)} (g : Good ps ks) (hw : ∀ p < ps.length, (kd ks p).end_ = false) (hh : ∀ f, some f ∈ hs → f < ps.length) (hm : hs.length ≤ 1000)
include g hw hh hm
end
end Sm
end

section
set_option linter.all false
set_option maxRecDepth 10000
/-! Lz: plain lots: what is due, reckoned by the law. -/
namespace Sm
def unP : D → PR
  | .tup [a, b] => (unR a, unR b)
  | _ => ([], [])
@[simp] theorem unP_eP (x : PR) : unP (eP x) = x := by simp [unP, eP]
section
variable {ps : Par} {ks : List Kd} {hs : List (Option Nat)} (g : Good ps ks) (hw : ∀ p < ps.length, (kd ks p).end_ = false) (hh : ∀ f, some f ∈ hs → f < ps.length) (hm : hs.length ≤ 1000)
include g
include hw hh hm
theorem SeqP.app {h : AH} {R0 : D} {xs : List D} (sq : SeqP h R0 xs) (L : AH) : SeqP (h ++ L) R0 xs := by
  rcases sq with rfl | ⟨l, rfl, gl⟩
  · exact .inl rfl
  · exact .inr ⟨l, rfl, by
      have hl : l < h.length := by
        unfold getL at gl
        cases q : h[l]? with
        | none => rw [q] at gl; cases gl
        | some o => exact (List.getElem?_eq_some_iff.mp q).1
      rw [getL_old hl]; exact gl⟩
end
end Sm
end

section
set_option linter.all false
set_option maxRecDepth 10000
/-! Ma: plain lots: what the law draws. -/
namespace Sm
end Sm
end

section
set_option linter.all false
set_option maxRecDepth 10000
/-! Mb: plain lots: draws. -/
namespace Sm
end Sm
end

section
set_option linter.all false
set_option maxRecDepth 10000
/-! Mc: plain lots: looks, and rows pressed by the book. -/
namespace Sm
theorem same4_pl : ∀ (n k : Nat) (x : D), k < n → Plain k x → ∀ h : AH, F_q_same_v4 n [x, x] h = .ok (.bl true) h := by
  intro n
  induction n with
  | zero => intro k x hk; omega
  | succ n ih =>
    intro k x hk p h
    have ht := trim_same (h := h) (d := .bl true) rfl rfl
    show fnT 2 3 (b_q_same_v4 (F_q_same_v4 n)) [x, x] h = _
    refine fnT_x rfl ?_
    cases p with
    | non _ => simp [b_q_same_v4, envOf, ht]
    | int _ i =>
      have t2 : isTy "int" (.int i) h = .ok (.bl true) h := rfl
      have t3 : isTy "str" (.int i) h = .ok (.bl false) h := rfl
      simp [b_q_same_v4, envOf, t3, t2, q_int_ok, ht]
    | str _ s =>
      have t0 : isNonD (.str s) h = .ok (.bl false) h := rfl
      have t3 : isTy "str" (.str s) h = .ok (.bl true) h := rfl
      simp [b_q_same_v4, envOf, t0, t3, ht]
    | tup k xs hl hp =>
      have t0 : isNonD (.tup xs) h = .ok (.bl false) h := rfl
      have t2 : isTy "int" (.tup xs) h = .ok (.bl false) h := rfl
      have t3 : isTy "str" (.tup xs) h = .ok (.bl false) h := rfl
      have t4 : isTy "tuple" (.tup xs) h = .ok (.bl true) h := rfl
      have hi : inI (xs.length : Int) = true := inI_nat
      simp [b_q_same_v4, envOf, t0, t2, t3, t4, ne_bl, hi]
      exact wp_bind (same_loop (fun _ => rfl) (fun _ => rfl) (fun z hz => ih k z (by omega) (hp z hz) h) fun w => by simp [ht])
    | lst k xs hl hp =>
      have t0 : isNonD (.lst xs) h = .ok (.bl false) h := rfl
      have t2 : isTy "int" (.lst xs) h = .ok (.bl false) h := rfl
      have t3 : isTy "str" (.lst xs) h = .ok (.bl false) h := rfl
      have t4 : isTy "tuple" (.lst xs) h = .ok (.bl false) h := rfl
      have t5 : isTy "list" (.lst xs) h = .ok (.bl true) h := rfl
      have hi : inI (xs.length : Int) = true := inI_nat
      simp [b_q_same_v4, envOf, t0, t2, t3, t4, t5, ne_bl, hi]
      exact wp_bind (same_loop (fun _ => rfl) (fun _ => rfl) (fun z hz => ih k z (by omega) (hp z hz) h) fun w => by simp [ht])
def atP (X : List PR) (i : Nat) : PR := X.getD i ([], [])
section
variable {ps : Par} {ks : List Kd} {hs : List (Option Nat)} (g : Good ps ks) (hw : ∀ p < ps.length, (kd ks p).end_ = false) (hh : ∀ f, some f ∈ hs → f < ps.length) (hm : hs.length ≤ 1000)
include g hw hh hm
end
end Sm
end

section
set_option linter.all false
set_option maxRecDepth 10000
/-! Rg: change, graft; what is due of them. -/
namespace Sm
def fltD : Option (Option Nat) → D
  | none => .tup []
  | some f => .tup [eO f]
@[simp] theorem clo_fltD (n : Nat) (o : Option (Option Nat)) : clo n (fltD o) = true := by cases o <;> simp [fltD]
@[simp] theorem nloc_fltD (o : Option (Option Nat)) : nloc (fltD o) = true := by cases o <;> rfl
theorem fault_ok {h : AH} {P Q : D} {X : List (Option Int)} {ks : List Kd} (s : SeqA h P (X.map encOI)) (t : SeqA h Q (encK ks)) (hX : X.length ≤ 1000) : F_q_fault [P, Q] h = .ok (fltD (flt X ks)) h := by
  have hi : inI (X.length : Int) = true := inI_nat
  have lp : lenD P h = .ok (.int X.length) h := by have := s.len; rw [List.length_map] at this; exact this
  have lq : lenD Q h = .ok (.int ks.length) h := by have := t.len; rw [encK_len] at this; exact this
  have ht : ∀ o, trim h (.ok (fltD o) h) = .ok (fltD o) h := fun o => trim_same (by simp) (by simp)
  refine fnT_x rfl ?_
  rw [b_q_fault]
  simp only [envOf, List.map_cons, List.map_nil, List.length_cons, List.length_nil, List.cons_append, List.nil_append, Nat.reduceAdd, Nat.reduceSub, List.replicate_succ, List.replicate_zero]
  refine q_set (d := (.int X.length)) (h2 := h) (by simp [lp]) ?_
  simp only [List.set_cons_succ, List.set_cons_zero]
  unfold flt
  by_cases c : X.length ≠ ks.length ∨ X.length = 0 ∨ 16 < X.length
  · rw [if_pos c]
    refine q_any (P := fun fl k => fl = .rt (fltD (some none)) ∧ k = h) ?_ ?_
    · refine if_yes (h1 := h) ?_ (by simp [fltD])
      by_cases c1 : X.length = 0
      · have c1' : (X.length : Int) = 0 := by omega
        generalize (X.length : Int) = n at *
        simp [c1']
      · have c1' : ¬ (X.length : Int) = 0 := by omega
        by_cases c2 : 16 < X.length
        · have c2' : (16 : Int) < X.length := by omega
          generalize (X.length : Int) = n at *
          simp [c1', c2']
        · have c2' : ¬ (16 : Int) < X.length := by omega
          have c3' : ¬ (ks.length : Int) = X.length := by omega
          generalize (X.length : Int) = n at *
          generalize (ks.length : Int) = m at *
          simp [lq, c1', c2', c3']
    · rintro fl k ⟨rfl, rfl⟩
      rw [kB2_rt]
      exact ht _
  rw [if_neg c]
  have hle : X.length ≤ 16 := by omega
  refine q_if0 (h2 := h) (by
    have c0 : (ks.length : Int) = X.length := by omega
    have c1 : ¬ (X.length : Int) = 0 := by omega
    have c2 : ¬ (16 : Int) < X.length := by omega
    generalize (X.length : Int) = n at *
    generalize (ks.length : Int) = m at *
    simp [lq, c0, c1, c2]) ?_
  have hk : ks.length = X.length := by omega
  clear c
  refine q_any (P := fun fl k => k = h ∧ ((∃ f, flt1 X = some f ∧ fl = .rt (fltD (some (some f)))) ∨ ∃ y, flt1 X = none ∧ fl = .nx [some P, some Q, some (.int X.length), y, none, none])) ?_ ?_
  · refine for_it (xs := rng 0 X.length) (h1 := h) (by simp [hi]) ?_
    rw [rng_eN]
    refine first_w (fun f => !okE X.length (xat X f)) (fun e => ∃ y, e = [some P, some Q, some (.int X.length), y, none, none]) ⟨none, rfl⟩ ?_ ?_ ?_
    · rintro f hf e ⟨y, rfl⟩ hp
      rw [List.mem_range] at hf
      have i1 := ixXA s hf
      simp at hp
      cases q : xat X f with
      | none => rw [q] at i1; simp [eN, i1]
      | some v =>
        rw [q] at i1 hp
        simp [okE] at hp
        simp [eN, i1, encOI, hp.1, hp.2]
    · rintro f hf e ⟨y, rfl⟩ hp hs
      rw [List.mem_range] at hf
      have i1 := ixXA s hf
      simp at hp
      cases q : xat X f with
      | none => rw [q] at hp; cases hp
      | some v =>
        rw [q] at i1 hp
        have fin : hitQ (fun fl k => k = h ∧ ((∃ f, flt1 X = some f ∧ fl = .rt (fltD (some (some f)))) ∨ ∃ y, flt1 X = none ∧ fl = .nx [some P, some Q, some (.int X.length), y, none, none])) (.rt (fltD (some (some f)))) h := ⟨rfl, .inl ⟨f, hs, rfl⟩⟩
        unfold fltD at fin
        by_cases a1 : 0 ≤ v
        · have a2 : ¬ v < X.length := by simp [okE, a1] at hp; omega
          simpa [eN, i1, encOI, a1, a2, fltD] using fin
        · simpa [eN, i1, encOI, a1, fltD] using fin
    · rintro e ⟨y, rfl⟩ hs
      exact ⟨rfl, .inr ⟨y, hs, rfl⟩⟩
  rintro fl k ⟨rfl, ⟨f, hf, rfl⟩ | ⟨y, hf, rfl⟩⟩
  · rw [kB2_rt, hf]
    exact ht _
  rw [kB2_nx, hf]
  obtain ⟨en, ir⟩ := inR_of hf
  rw [en] at s
  have pl : (toP X).length = X.length := toP_len X
  generalize toP X = ps at *
  clear hf en
  dsimp only
  refine q_any (P := fun fl k2 => k2 = k ∧ ((∃ f, flt2 ps = some f ∧ fl = .rt (fltD (some (some f)))) ∨ ∃ y z w, flt2 ps = none ∧ fl = .nx [some P, some Q, some (.int X.length), y, z, w])) ?_ ?_
  · refine for_it (xs := rng 0 X.length) (h1 := k) (by simp [hi]) ?_
    rw [rng_eN, ← pl]
    have inner : ∀ (f : Nat) (w : Option D), f < ps.length → wp (sFor (iR1 (eV 2)) (gV 5) (sB [sIf (tB1 (Sm.e1 notNonD (eV 4))) (sB [sSet 4 (Sm.e2 ixD (eV 0) (eV 4))]) (sB [])]) [some P, some Q, some (.int ps.length), some (.int f), some (eO (par ps f)), w] k) fun fl k2 => k2 = k ∧ ∃ w, fl = .nx [some P, some Q, some (.int ps.length), some (.int f), some (eO (itr ps (ps.length + 1) (some f))), w] := fun f w hf => by
      rw [← pl] at hi
      have hs : ∀ i, itr ps (i + 1) (some f) = itr ps i (par ps f) := fun i => by rw [itr_s]; rfl
      rw [hs]
      refine for_it (xs := rng 0 ps.length) (h1 := k) (by simp [hi]) ?_
      refine for_w (I := fun i e k2 => k2 = k ∧ ∃ w, e = [some P, some Q, some (.int ps.length), some (.int f), some (eO (itr ps i (par ps f))), w]) ⟨rfl, w, rfl⟩ ?_ ?_
      · rintro i d e k2 hz ⟨rfl, w, rfl⟩
        obtain ⟨hil, rfl⟩ := rng_get0 hz
        cases q : itr ps i (par ps f) with
        | none =>
          have : itr ps (i + 1) (par ps f) = none := by rw [itr, q]; rfl
          simp [this]
        | some p =>
          have p1 := ir.itr hf (i + 1) p (by rw [hs]; exact q)
          have : itr ps (i + 1) (par ps f) = par ps p := by rw [itr, q]; rfl
          simp [ixPA s p1, this]
      · rintro e k2 ⟨rfl, w, rfl⟩
        rw [rng_len]
        exact ⟨rfl, w, rfl⟩
    refine first_w (fun f => (itr ps ps.length (some f)).isSome) (fun e => ∃ y z w, e = [some P, some Q, some (.int ps.length), y, z, w]) ⟨y, none, none, rfl⟩ ?_ ?_ ?_
    · rintro f hf e ⟨y, z, w, rfl⟩ hp
      rw [List.mem_range] at hf
      rw [← itr_up ir hf] at hp
      simp only [List.set_cons_succ, List.set_cons_zero]
      refine q_set (d := (eO (par ps f))) (h2 := k) (by simp [eN, ixPA s hf]) ?_
      simp only [List.set_cons_succ, List.set_cons_zero]
      refine q_any (inner f w hf) ?_
      rintro fl k2 ⟨rfl, w2, rfl⟩
      rw [kB2_nx]
      generalize itr ps (ps.length + 1) (some f) = o at *
      simp [hp]
    · rintro f hf e ⟨y, z, w, rfl⟩ hp hs
      rw [List.mem_range] at hf
      rw [← itr_up ir hf] at hp
      simp only [List.set_cons_succ, List.set_cons_zero]
      refine q_set (d := (eO (par ps f))) (h2 := k) (by simp [eN, ixPA s hf]) ?_
      simp only [List.set_cons_succ, List.set_cons_zero]
      refine q_any (inner f w hf) ?_
      rintro fl k2 ⟨rfl, w2, rfl⟩
      rw [kB2_nx]
      have fin : hitQ (fun fl k => k = k2 ∧ ((∃ f, flt2 ps = some f ∧ fl = .rt (fltD (some (some f)))) ∨ ∃ y z w, flt2 ps = none ∧ fl = .nx [some P, some Q, some (.int ps.length), y, z, w])) (.rt (fltD (some (some f)))) k2 := ⟨rfl, .inl ⟨f, hs, rfl⟩⟩
      unfold fltD at fin
      generalize itr ps (ps.length + 1) (some f) = o at *
      simpa [hp, fltD, eN] using fin
    · rintro e ⟨y, z, w, rfl⟩ hs
      exact ⟨rfl, .inr ⟨y, z, w, hs, rfl⟩⟩
  rintro fl k2 ⟨rfl, ⟨f, hf, rfl⟩ | ⟨y, z, w, hf, rfl⟩⟩
  · rw [kB2_rt, hf]
    exact ht _
  rw [kB2_nx, hf]
  dsimp only
  refine q_any (P := fun fl k => k = k2 ∧ ((∃ f, flt3 ps ks = some f ∧ fl = .rt (fltD (some (some f)))) ∨ ∃ e, flt3 ps ks = none ∧ fl = .nx e)) ?_ ?_
  · refine for_it (xs := rng 0 X.length) (h1 := k2) (by simp [hi]) ?_
    rw [rng_eN, ← pl]
    refine first_w (fun f => (kd ks f).end_ && decide (some f ∈ ps)) (fun e => ∃ y, e = [some P, some Q, some (.int ps.length), y, z, w]) ⟨y, rfl⟩ ?_ ?_ ?_
    · rintro f hf e ⟨y, rfl⟩ hp
      rw [List.mem_range] at hf
      have i1 := ixKA t (f := f) (by omega)
      have i2 := inL' (kd ks f) k2
      have i3 := inPA s f
      cases q : (kd ks f).end_ with
      | false => rw [q] at i2; simp [eN, i1, i2]
      | true => rw [q] at i2 hp; simp at hp; simp [eN, i1, i2, i3, hp]
    · rintro f hf e ⟨y, rfl⟩ hp hs
      rw [List.mem_range] at hf
      have i1 := ixKA t (f := f) (by omega)
      have i2 := inL' (kd ks f) k2
      have i3 := inPA s f
      have fin : hitQ (fun fl k => k = k2 ∧ ((∃ f, flt3 ps ks = some f ∧ fl = .rt (fltD (some (some f)))) ∨ ∃ e, flt3 ps ks = none ∧ fl = .nx e)) (.rt (fltD (some (some f)))) k2 := ⟨rfl, .inl ⟨f, hs, rfl⟩⟩
      unfold fltD at fin
      simp at hp
      rw [hp.1] at i2
      simpa [eN, i1, i2, i3, hp.2, fltD] using fin
    · rintro e ⟨y, rfl⟩ hs
      exact ⟨rfl, .inr ⟨_, hs, rfl⟩⟩
  rintro fl k3 ⟨rfl, ⟨f, hf, rfl⟩ | ⟨e, hf, rfl⟩⟩
  · rw [kB2_rt, hf]
    exact ht _
  · rw [kB2_nx, hf]
    have := ht none
    unfold fltD at this
    simp [this, fltD]
end Sm
end

section
set_option linter.all false
set_option maxRecDepth 10000
/-! Rd: k05: drawn parents, spoilt ones, a refusal, a making. -/
namespace Sm
def bndX (X : List (Option Int)) : Prop := ∀ v : Int, some v ∈ X → v.natAbs ≤ 1000000000000000000000
theorem bndX.set {X : List (Option Int)} (b : bndX X) {i : Nat} {o : Option Int} (ho : ∀ v, o = some v → v.natAbs ≤ 1000000000000000000000) : bndX (X.set i o) := fun v hv => by
  rcases List.mem_or_eq_of_mem_set hv with h | h
  · exact b v h
  · exact ho v h.symm
theorem bndX.app {X : List (Option Int)} (b : bndX X) {o : Option Int} (ho : ∀ v, o = some v → v.natAbs ≤ 1000000000000000000000) : bndX (X ++ [o]) := fun v hv => by
  rcases List.mem_append.mp hv with h | h
  · exact b v h
  · simp at h; exact ho v h.symm
theorem sm2 {r : Nat} (h : r < 2) : small (r : Int) = true := by
  match r, h with
  | 0, _ => rfl
  | 1, _ => rfl
@[simp] theorem clos_mapOI (n : Nat) (X : List (Option Int)) : clos n (X.map encOI) = true := by rw [clos_all]; simp
end Sm
end

section
set_option linter.all false
set_option maxRecDepth 10000
/-! Re: k05: a refusal, a making. -/
namespace Sm
theorem isTyL {h : AH} {l : Nat} {xs : List D} (e : getL h l = some xs) : isTy "list" (.loc l) h = .ok (.bl true) h := by
  unfold getL at e
  split at e
  · rename_i ys e2
    unfold isTy tyOf
    dsimp only
    rw [e2]
    rfl
  · cases e
/-- a row that was given: a tuple, or a list object -/
def Row (h : AH) (d : D) (xs : List D) : Prop := d = .tup xs ∨ ∃ l, d = .loc l ∧ getL h l = some xs
theorem Row.a {h : AH} {d : D} {xs : List D} (r : Row h d xs) : SeqA h d xs := by
  rcases r with rfl | ⟨l, rfl, e⟩
  · exact (SeqD.t xs).a h
  · exact SeqA.loc e
theorem getL_lt {h : AH} {l : Nat} {xs : List D} (e : getL h l = some xs) : l < h.length := by
  unfold getL at e
  cases q : h[l]? with
  | none => rw [q] at e; cases e
  | some o => exact (List.getElem?_eq_some_iff.mp q).1
theorem Row.app {h : AH} {d : D} {xs : List D} (r : Row h d xs) (L : AH) : Row (h ++ L) d xs := by
  rcases r with rfl | ⟨l, rfl, e⟩
  · exact .inl rfl
  · exact .inr ⟨l, rfl, by rw [getL_old (getL_lt e)]; exact e⟩
def refD : Option (Option Nat) → D
  | none => .lst [.bl false, .non, .bl true]
  | some f => .lst [.bl true, eO f, .bl true]
section
variable {h : AH} {gl : Nat} {p q : D} {X : List (Option Int)} {ks : List Kd}
section
variable {h : AH}
end
def sLast : D := .str [108, 97, 115, 116]
def effL (xs : List D) : List D := (xs ++ [xs.headD .non]).set 0 sLast
def eff (h : AH) : D → AH
  | .loc l => match getL h l with
    | some xs => h.set l (.lst (effL xs))
    | none => h
  | _ => h
end
end Sm
end

section
set_option linter.all false
set_option maxRecDepth 10000
/-! Rh: change, graft; what is due of them. -/
namespace Sm
def sLet : D := .str [108, 101, 116]
def sFor_ : D := .str [102, 111, 114, 101, 115, 116]
def sPla : D := .str [112, 108, 97, 99, 101]
theorem listFA {h : AH} {P : D} {xs : List D} (s : SeqA h P xs) : listD false P h = .ok (.loc h.length) (h ++ [.lst xs]) := by
  have := s.seq
  unfold listD
  rw [this]
  rfl
theorem frP_set (ps : Par) (f : Nat) (p : Option Int) : (encP ps).set f (encOI p) = ((frP ps).set f p).map encOI := by
  rw [List.map_set, frP_enc]
theorem encK_setN (ks : List Kd) (f : Nat) (k : Kd) : (encK ks).set f (eK k) = encK (ks.set f k) := by unfold encK; rw [List.map_set]
section
variable {ps : Par} {ks : List Kd} {p : Option Int} {k : Kd} {f : Nat}
theorem seq01 (h : AH) (A B : List D) (L : AH) : SeqA (h ++ .lst A :: .lst B :: L) (.loc h.length) A ∧ SeqA (h ++ .lst A :: .lst B :: L) (.loc (h.length + 1)) B := ⟨SeqA.loc (by rw [getL_new (Nat.le_refl _)]; simp), SeqA.loc (by rw [getL_new (by omega)]; simp [getL])⟩
theorem change_ok (g : Good ps ks) (hf : f < ps.length) (h : AH) : F_change [fo ps ks, .int f, encOI p, eK k] h = match flt ((frP ps).set f p) (ks.set f k) with
    | none => .ok (fo (toP ((frP ps).set f p)) (ks.set f k)) h
    | some e => .exc (bfX e) h := by
  have c1 := check_place_ok (n := ps.length) (f : Int) h
  rw [if_pos (by omega)] at c1
  have hle := g.le
  have hkl := g.len
  have l1 := listFA ((SeqD.t (encP ps)).a h)
  have l2 := listFA ((SeqD.t (encK ks)).a (h ++ [.lst (encP ps)]))
  have n1 : (h ++ [AO.lst (encP ps)]).length = h.length + 1 := by simp
  have e1 : h ++ [AO.lst (encP ps)] ++ [AO.lst (encK ks)] = h ++ [.lst (encP ps), .lst (encK ks)] := by simp
  rw [n1, e1] at l2
  have s1 : setIxD (.loc h.length) (.int f) (encOI p) (h ++ [.lst (encP ps), .lst (encK ks)]) = .ok .non (h ++ [.lst (((frP ps).set f p).map encOI), .lst (encK ks)]) := by
    have := setIx_ok (h := h ++ [.lst (encP ps), .lst (encK ks)]) (l := h.length) (xs := encP ps) (i := (f : Int)) (k := f) (encOI p) (by rw [getL_new (Nat.le_refl _)]; simp) (ixN_nat (by simpa using hf))
    rw [set_new (Nat.le_refl _), frP_set] at this
    simpa using this
  have s2 : setIxD (.loc (h.length + 1)) (.int f) (eK k) (h ++ [.lst (((frP ps).set f p).map encOI), .lst (encK ks)]) = .ok .non (h ++ [.lst (((frP ps).set f p).map encOI), .lst (encK (ks.set f k))]) := by
    have := setIx_ok (h := h ++ [.lst (((frP ps).set f p).map encOI), .lst (encK ks)]) (l := h.length + 1) (xs := encK ks) (i := (f : Int)) (k := f) (eK k) (by rw [getL_new (by omega)]; simp [getL]) (ixN_nat (by rw [encK_len, hkl]; exact hf))
    rw [set_new (by omega), encK_setN] at this
    simpa using this
  have hY : ((frP ps).set f p).length = ps.length := by simp
  generalize (frP ps).set f p = Y at *
  generalize ks.set f k = js at *
  have sq := fun o => seq01 h (Y.map encOI) (encK js) [o]
  have ap : ∀ o, h ++ [AO.lst (Y.map encOI), AO.lst (encK js)] ++ [o] = h ++ .lst (Y.map encOI) :: .lst (encK js) :: [o] := fun o => by simp
  have key : ∀ r : R D, mkI "Forest" true F_Forest_init [.loc h.length, .loc (h.length + 1)] (h ++ [.lst (Y.map encOI), .lst (encK js)]) = r → r ≠ .no → F_change [fo ps ks, .int f, encOI p, eK k] h = trim h r := fun r hr hn => by
    subst hr
    refine fnT_x rfl ?_
    rw [b_change]
    simp only [envOf, List.map_cons, List.map_nil, List.length_cons, List.length_nil, List.cons_append, List.nil_append, Nat.reduceAdd, Nat.reduceSub, List.replicate_succ, List.replicate_zero]
    refine q_ex (d := .non) (h2 := h) (by simp [c1]) ?_
    refine q_set (d := (.loc h.length)) (h2 := (h ++ [.lst (encP ps)])) (by simp [l1]) ?_
    simp only [List.set_cons_succ, List.set_cons_zero]
    refine q_set (d := (.loc (h.length + 1))) (h2 := (h ++ [.lst (encP ps), .lst (encK ks)])) (by
      generalize h ++ [.lst (encP ps)] = K1 at *
      simp [l2]) ?_
    simp only [List.set_cons_succ, List.set_cons_zero]
    refine q_st (e2 := [some (fo ps ks), some (.int f), some (encOI p), some (eK k), some (.loc h.length), some (.loc (h.length + 1))]) (h2 := h ++ [.lst (Y.map encOI), .lst (encK ks)]) (by
      generalize h ++ [AO.lst (encP ps), AO.lst (encK ks)] = K1 at *
      simp [s1]) ?_
    refine q_st (e2 := [some (fo ps ks), some (.int f), some (encOI p), some (eK k), some (.loc h.length), some (.loc (h.length + 1))]) (h2 := h ++ [.lst (Y.map encOI), .lst (encK js)]) (by
      generalize h ++ [AO.lst (Y.map encOI), AO.lst (encK ks)] = K1 at *
      simp [s2]) ?_
    generalize h ++ [AO.lst (Y.map encOI), AO.lst (encK js)] = K at *
    cases hm : mkI "Forest" true F_Forest_init [.loc h.length, .loc (h.length + 1)] K with
    | no => exact absurd hm hn
    | ok d k2 =>
      simp [hm]
    | exc x k2 =>
      simp [hm]
  cases e : flt Y js with
  | none =>
    have mk := make_good (h := h ++ [.lst (Y.map encOI), .lst (encK js)]) (fun o => by rw [ap]; exact (sq o).1) (fun o => by rw [ap]; exact (sq o).2) e
    rw [key _ mk (by intro z; cases z)]
    exact trim_app rfl (by simp)
  | some f' =>
    have mk := make_bad (h := h ++ [.lst (Y.map encOI), .lst (encK js)]) (fun o => by rw [ap]; exact (sq o).1) (fun o => by rw [ap]; exact (sq o).2) (by omega) e
    rw [key _ mk (by intro z; cases z)]
    exact trim_exL (by simp)
/-- what the law is told: a forest, or a refusal -/
def chgD (X : List (Option Int)) (ks : List Kd) : D := match flt X ks with
  | none => .lst [sLet, fo (toP X) ks]
  | some e => .lst [sFor_, eO e, .bl true]
@[simp] theorem clo_chgD (n : Nat) (X : List (Option Int)) (ks : List Kd) : clo n (chgD X ks) = true := by
  unfold chgD; split <;> simp [sLet, sFor_]
@[simp] theorem nloc_chgD (X : List (Option Int)) (ks : List Kd) : nloc (chgD X ks) = true := by
  unfold chgD; split <;> rfl
/-! ### what is due -/
def dueV (X : List (Option Int)) (ks : List Kd) : D := match flt X ks with
  | none => .lst [sLet, .lst (X.map encOI), .lst (encK ks)]
  | some e => .lst [sFor_, eO e]
/-! ### the same forest -/
theorem same4_fo (g : Good ps ks) {P Q : D} (s : SeqD P (encP ps)) (t : SeqD Q (encK ks)) (h : AH) : F_q_same_forest [fo ps ks, P, Q] h = .ok (.bl true) h := by
  have hle := g.le
  have hkl := g.len
  have lp : lenD P h = .ok (.int ps.length) h := by have := s.len h; rw [encP_len] at this; exact this
  have s0 := same4_pl 12 0 (.int ps.length) (by omega) (.int 0 _) h
  have s1 := same4_pl 12 1 (.tup (encP ps)) (by omega) (.tup 0 _ (by simp; omega) fun y hy => by
    obtain ⟨o, _, rfl⟩ := List.mem_map.mp hy
    cases o with
    | none => exact .non 0
    | some v => exact .int 0 _) h
  have s2 := same4_pl 12 1 (.tup (encK ks)) (by omega) (.tup 0 _ (by simp; omega) fun y hy => by
    obtain ⟨o, _, rfl⟩ := List.mem_map.mp hy
    exact .str 0 _) h
  have tp := (s.a h).tup
  have tq := (t.a h).tup
  have ic : isClsD "Forest" (fo ps ks) h = .ok (.bl true) h := rfl
  refine fnT_x rfl ?_
  simp [b_q_same_forest, envOf, ic, lp, s0, s1, s2, tp, tq]
end
end Sm
end

section
set_option linter.all false
set_option maxRecDepth 10000
/-! Ri: new parents; which words stay. -/
namespace Sm
theorem plain_word {ps : Par} {ks : List Kd} {x : Nat} (a : Acy ps) (hn : ps.length ≤ 1000) (hx : x < ps.length) : Plain 2 (.tup (wordD ps ks x)) := .tup 1 _ (by
    have := path_len (by omega) a hx
    show ((path ps x).map _).length ≤ _
    rw [List.length_map]; omega) fun y hy => by
  have hy : y ∈ (path ps x).map fun (k : Nat) => D.tup [.int k, eK (kd ks k)] := hy
  obtain ⟨p, _, rfl⟩ := List.mem_map.mp hy
  exact .tup 0 _ (by simp) fun z hz => by
    simp at hz
    rcases hz with rfl | rfl
    · exact .int 0 _
    · exact .str 0 _
theorem nb_word (ps : Par) (ks : List Kd) (x : Nat) : nb (.tup (wordD ps ks x)) = true := by
  have : nbs (wordD ps ks x) = true := by
    rw [nbs_all, List.all_eq_true]
    intro y hy
    have hy : y ∈ (path ps x).map fun (k : Nat) => D.tup [.int k, eK (kd ks k)] := hy
    obtain ⟨p, _, rfl⟩ := List.mem_map.mp hy
    cases kd ks p <;> simp [eK, kw]
  simpa using this
theorem dp_word (ps : Par) (ks : List Kd) (x : Nat) : dp (.tup (wordD ps ks x)) ≤ 2 := by
  have : dps (wordD ps ks x) ≤ 1 := dps_le fun y hy => by
    have hy : y ∈ (path ps x).map fun (k : Nat) => D.tup [.int k, eK (kd ks k)] := hy
    obtain ⟨p, _, rfl⟩ := List.mem_map.mp hy
    cases kd ks p <;> simp [eK, kw]
  simp
  omega
section
variable {ps qs : Par} {ks js : List Kd} {CH : D}
end
end Sm
end

section
set_option linter.all false
set_option maxRecDepth 10000
/-! Rm: change plans, made by the program and by the law. -/
namespace Sm
theorem eqO (a b : Option Nat) (h : AH) : eqD (eO a) (eO b) h = .ok (.bl (decide (a = b))) h := by
  cases a <;> cases b <;> first | rfl | (rename_i x y; simp only [eO, eq_int]; congr 2; exact decide_eq_decide.mpr ⟨fun z => by congr 1; omega, fun z => by cases z; rfl⟩)
theorem neO (a b : Option Nat) (h : AH) : neD (eO a) (eO b) h = .ok (.bl (!decide (a = b))) h := by
  cases a <;> cases b <;> first | rfl | (rename_i x y; simp only [eO, ne_int]; congr 3; exact decide_eq_decide.mpr ⟨fun z => by congr 1; omega, fun z => by cases z; rfl⟩)
theorem neK (a b : Kd) (h : AH) : neD (eK a) (eK b) h = .ok (.bl (!decide (a = b))) h := by cases a <;> cases b <;> rfl
theorem inUD (k : Kd) (h : AH) : inD (eK k) (.tup [.str [117, 112], .str [100, 111, 119, 110]]) h = .ok (.bl (!k.end_)) h := by cases k <;> rfl
theorem inUDl (k : Kd) (h : AH) : inD (eK k) (.lst [.str [117, 112], .str [100, 111, 119, 110]]) h = .ok (.bl (!k.end_)) h := by cases k <;> rfl
theorem asPairs : ∀ X : List (Int × Int), mapO asPair (X.map pairD) = some X
  | [] => rfl
  | x :: X => by
    simp only [List.map_cons, mapO, asPairs X]
    rfl
theorem sortedP_l {h : AH} {l : Nat} {X : List (Int × Int)} (e : getL h l = some (X.map pairD)) : sortedPD true (.loc l) h = .ok (.lst ((sortP X).map pairD)) h := by
  unfold sortedPD
  rw [show lstH h (.loc l) = some (X.map pairD) from (lstH_loc h l).trans e]
  dsimp only
  rw [asPairs]; rfl
section
variable (ps qs : Par) (ks js : List Kd)
def earI (i : Nat) : List (Int × Int) := ((List.range i).filter fun f => decide (diff ps qs ks js f) && !(kd js f).end_).map fun (f : Nat) => (((path qs f).length : Int), (f : Int))
def latI (i : Nat) : List (Int × Int) := ((List.range i).filter fun f => decide (diff ps qs ks js f) && (kd js f).end_).map fun (f : Nat) => (-((path ps f).length : Int), (f : Int))
def planD : List D := (planT ps qs ks js).map fun (f : Nat) => .tup [.int f, eO (par qs f), eK (kd js f)]
end
section
variable {ps qs : Par} {ks js : List Kd}
theorem earI_len (i : Nat) : (earI ps qs ks js i).length ≤ i := by
  unfold earI
  rw [List.length_map]
  exact range_len _ _
theorem latI_len (i : Nat) : (latI ps qs ks js i).length ≤ i := by
  unfold latI
  rw [List.length_map]
  exact range_len _ _
theorem earI_s {i : Nat} (b : Bool) (h : (decide (diff ps qs ks js i) && !(kd js i).end_) = b) : earI ps qs ks js (i + 1) = if b then earI ps qs ks js i ++ [(((path qs i).length : Int), (i : Int))] else earI ps qs ks js i := by
  unfold earI
  rw [List.range_succ, List.filter_append, List.map_append]
  cases b <;> simp [List.filter_cons, h]
theorem latI_s {i : Nat} (b : Bool) (h : (decide (diff ps qs ks js i) && (kd js i).end_) = b) : latI ps qs ks js (i + 1) = if b then latI ps qs ks js i ++ [(-((path ps i).length : Int), (i : Int))] else latI ps qs ks js i := by
  unfold latI
  rw [List.range_succ, List.filter_append, List.map_append]
  cases b <;> simp [List.filter_cons, h]
theorem plan_ints : ((sortP (earP ps qs ks js)) ++ sortP (latP ps qs ks js)).map (fun p => D.int p.2) = (planT ps qs ks js).map eN := by
  unfold planT
  rw [← List.map_append, List.map_map]
  apply List.map_congr_left
  intro p hp
  have : 0 ≤ p.2 := by
    rcases List.mem_append.mp hp with z | z
    · obtain ⟨f, _, rfl⟩ := ear_pair z
      show (0 : Int) ≤ (f : Int); omega
    · obtain ⟨f, _, rfl⟩ := lat_pair z
      show (0 : Int) ≤ (f : Int); omega
  show D.int p.2 = D.int ((p.2.toNat : Nat) : Int)
  rw [Int.toNat_of_nonneg this]
theorem planT_len : (planT ps qs ks js).length ≤ 2 * ps.length := by
  unfold planT
  rw [List.length_append, List.length_map, List.length_map, (sortQ_perm _).length_eq, (sortQ_perm _).length_eq]
  have h1 := earI_len (ps := ps) (qs := qs) (ks := ks) (js := js) ps.length
  have h2 := latI_len (ps := ps) (qs := qs) (ks := ks) (js := js) ps.length
  have e1 : earI ps qs ks js ps.length = earP ps qs ks js := rfl
  have e2 : latI ps qs ks js ps.length = latP ps qs ks js := rfl
  rw [e1] at h1
  rw [e2] at h2
  omega
theorem planT_lt {f : Nat} (h : f ∈ planT ps qs ks js) : f < ps.length := by
  unfold planT at h
  rcases List.mem_append.mp h with z | z
  · exact (ear_mem.mp (earS_perm.mem_iff.mp z)).1
  · exact (lat_mem.mp (latS_perm.mem_iff.mp z)).1
theorem change_plan_ok (g : Good ps ks) (g2 : Good qs js) (hl : qs.length = ps.length) (h : AH) : F_change_plan [fo ps ks, fo qs js] h = .ok (.loc (h.length + 2)) (h ++ [.lst ((earP ps qs ks js).map pairD), .lst ((latP ps qs ks js).map pairD), .lst (planD ps qs ks js)]) := by
  have hle := g.le
  have hk := g.len
  have hk2 := g2.len
  have hi : inI (ps.length : Int) = true := inI_nat
  have hTl := planT_len (ps := ps) (qs := qs) (ks := ks) (js := js)
  have chk : F_check_same_fields [fo ps ks, fo qs js] h = .ok .non h := by
    have ht := trim_same (h := h) (d := .non) rfl rfl
    refine fnT_x rfl ?_
    simp [b_check_same_fields, envOf, hl, ht]
  have key : wp (b_change_plan (envOf 7 [fo ps ks, fo qs js]) h) fun fl k => fl = .rt (.loc (h.length + 2)) ∧ k = h ++ [.lst ((earP ps qs ks js).map pairD), .lst ((latP ps qs ks js).map pairD), .lst (planD ps qs ks js)] := by
    rw [b_change_plan]
    simp only [envOf, List.map_cons, List.map_nil, List.length_cons, List.length_nil, List.cons_append, List.nil_append, Nat.reduceAdd, Nat.reduceSub, List.replicate_succ, List.replicate_zero]
    refine q_ex (d := .non) (h2 := h) (by simp [chk]) ?_
    refine q_set (d := (.loc h.length)) (h2 := (h ++ [.lst []])) (by simp) ?_
    simp only [List.set_cons_succ, List.set_cons_zero]
    refine q_set (d := (.loc (h.length + 1))) (h2 := (h ++ [.lst [], .lst []])) (by simp) ?_
    simp only [List.set_cons_succ, List.set_cons_zero]
    refine q_any (P := fun fl k => ∃ z, fl = .nx [some (fo ps ks), some (fo qs js), some (.loc h.length), some (.loc (h.length + 1)), z, none, none] ∧ k = h ++ [.lst ((earI ps qs ks js ps.length).map pairD), .lst ((latI ps qs ks js ps.length).map pairD)]) ?_ ?_
    · refine for_it (xs := rng 0 ps.length) (h1 := h ++ [.lst [], .lst []]) (by simp [hi]) ?_
      refine for_w (I := fun i e k => ∃ z, e = [some (fo ps ks), some (fo qs js), some (.loc h.length), some (.loc (h.length + 1)), z, none, none] ∧ k = h ++ [.lst ((earI ps qs ks js i).map pairD), .lst ((latI ps qs ks js i).map pairD)]) ⟨none, rfl, rfl⟩ ?_ ?_
      · rintro i d e k hz ⟨z, rfl, rfl⟩
        obtain ⟨hil, rfl⟩ := rng_get0 hz
        have e1 := earI_len (ps := ps) (qs := qs) (ks := ks) (js := js) i
        have e2 := latI_len (ps := ps) (qs := qs) (ks := ks) (js := js) i
        have se := earI_s (ps := ps) (qs := qs) (ks := ks) (js := js) (i := i) _ rfl
        have sl := latI_s (ps := ps) (qs := qs) (ks := ks) (js := js) (i := i) _ rfl
        generalize hE : earI ps qs ks js i = E at *
        generalize hL : latI ps qs ks js i = L at *
        obtain ⟨K, hK⟩ : ∃ K, K = h ++ [AO.lst (E.map pairD), AO.lst (L.map pairD)] := ⟨_, rfl⟩
        have g0 : getL K h.length = some (E.map pairD) := by rw [hK, getL_new (Nat.le_refl _)]; simp
        have g1 : getL K (h.length + 1) = some (L.map pairD) := by rw [hK, getL_new (by omega)]; simp [getL]
        have il0 := isL g0
        have il1 := isL g1
        have ap0 := append_ok (pairD (((path qs i).length : Int), (i : Int))) g0 (by rw [bigv, List.length_map]; omega)
        have ap1 := append_ok (pairD (-((path ps i).length : Int), (i : Int))) g1 (by rw [bigv, List.length_map]; omega)
        have s0 : K.set h.length (.lst (E.map pairD ++ [pairD (((path qs i).length : Int), (i : Int))])) = h ++ [.lst ((E ++ [(((path qs i).length : Int), (i : Int))]).map pairD), .lst (L.map pairD)] := by rw [hK, set_new (Nat.le_refl _)]; simp
        have s1 : K.set (h.length + 1) (.lst (L.map pairD ++ [pairD (-((path ps i).length : Int), (i : Int))])) = h ++ [.lst (E.map pairD), .lst ((L ++ [(-((path ps i).length : Int), (i : Int))]).map pairD)] := by rw [hK, set_new (by omega)]; simp
        rw [s0] at ap0
        rw [s1] at ap1
        have p1 := ixP (SeqD.t (encP ps)) hil K
        have p2 := ixP (SeqD.t (encP qs)) (f := i) (by omega) K
        have k1 := ixK (SeqD.t (encK ks)) (f := i) (by omega) K
        have k2 := ixK (SeqD.t (encK js)) (f := i) (by omega) K
        simp only [ix_tup, at_nat] at p1 p2 k1 k2
        have q1 := eqO (par ps i) (par qs i) K
        have q2 := eq_eK (kd ks i) (kd js i) K
        have iu := inUD (kd js i) K
        have w1 := fpath_ok (ks := ks) (h := K) (by omega) g.acy hil
        have w2 := fpath_ok (ks := js) (h := K) (by omega) g2.acy (f := i) (by omega)
        have m1 := fun (as : AA) (e0 : Env) (ha : as e0 K = .ok [.int i] K) => mth_fo (ps := ps) (ks := ks) (m := "path") (as := as) (e := e0) (xs := [.int i]) rfl ha w1
        have m2 := fun (as : AA) (e0 : Env) (ha : as e0 K = .ok [.int i] K) => mth_fo (ps := qs) (ks := js) (m := "path") (as := as) (e := e0) (xs := [.int i]) rfl ha w2
        rw [← hK]
        rw [show pairD (((path qs i).length : Int), (i : Int)) = .tup [.int (path qs i).length, .int i] from rfl] at ap0
        rw [show pairD (-((path ps i).length : Int), (i : Int)) = .tup [.int (-((path ps i).length : Int)), .int i] from rfl] at ap1
        by_cases d : diff ps qs ks js i
        · have nd : ¬ (par ps i = par qs i ∧ kd ks i = kd js i) := fun z => by unfold diff at d; rcases d with d | d; exact d z.1; exact d z.2
          cases q : (kd js i).end_ with
          | false =>
            rw [q] at iu
            rw [if_pos (by simp [d, q])] at se
            rw [if_neg (by simp [q])] at sl
            refine wp_mono (P := fun fl k => fl = .nx [some (fo ps ks), some (fo qs js), some (.loc h.length), some (.loc (h.length + 1)), some (.int i), none, none] ∧ k = h ++ [AO.lst ((E ++ [(((path qs i).length : Int), (i : Int))]).map pairD), AO.lst (L.map pairD)]) ?_ (by
              rintro fl k ⟨rfl, rfl⟩
              exact ⟨_, rfl, by rw [se, sl]⟩)
            generalize h ++ [AO.lst ((E ++ [(((path qs i).length : Int), (i : Int))]).map pairD), AO.lst (L.map pairD)] = K2 at *
            by_cases a1 : par ps i = par qs i
            · have a2 : ¬ kd ks i = kd js i := fun z => nd ⟨a1, z⟩
              rw [decide_eq_true a1] at q1
              rw [decide_eq_false a2] at q2
              simp [p1, p2, k1, k2, q1, q2, iu, il0, m2, ap0]
            · rw [decide_eq_false a1] at q1
              simp [p1, p2, k1, k2, q1, iu, il0, m2, ap0]
          | true =>
            rw [q] at iu
            rw [if_neg (by simp [q])] at se
            rw [if_pos (by simp [d, q])] at sl
            refine wp_mono (P := fun fl k => fl = .nx [some (fo ps ks), some (fo qs js), some (.loc h.length), some (.loc (h.length + 1)), some (.int i), none, none] ∧ k = h ++ [AO.lst (E.map pairD), AO.lst ((L ++ [(-((path ps i).length : Int), (i : Int))]).map pairD)]) ?_ (by
              rintro fl k ⟨rfl, rfl⟩
              exact ⟨_, rfl, by rw [se, sl]⟩)
            generalize h ++ [AO.lst (E.map pairD), AO.lst ((L ++ [(-((path ps i).length : Int), (i : Int))]).map pairD)] = K2 at *
            by_cases a1 : par ps i = par qs i
            · have a2 : ¬ kd ks i = kd js i := fun z => nd ⟨a1, z⟩
              rw [decide_eq_true a1] at q1
              rw [decide_eq_false a2] at q2
              simp [p1, p2, k1, k2, q1, q2, iu, il1, m1, ap1]
            · rw [decide_eq_false a1] at q1
              simp [p1, p2, k1, k2, q1, iu, il1, m1, ap1]
        · have nd : par ps i = par qs i ∧ kd ks i = kd js i := by
            unfold diff at d
            exact ⟨Decidable.not_not.mp fun z => d (.inl z), Decidable.not_not.mp fun z => d (.inr z)⟩
          rw [if_neg (by simp [d])] at se sl
          refine wp_mono (P := fun fl k => fl = .ct [some (fo ps ks), some (fo qs js), some (.loc h.length), some (.loc (h.length + 1)), some (.int i), none, none] ∧ k = K) ?_ (by
            rintro fl k ⟨rfl, rfl⟩
            exact ⟨_, rfl, by rw [se, sl]; exact hK⟩)
          rw [decide_eq_true nd.1] at q1
          rw [decide_eq_true nd.2] at q2
          simp [p1, p2, k1, k2, q1, q2]
      · rintro e k ⟨z, rfl, rfl⟩
        rw [rng_len]
        exact ⟨z, rfl, rfl⟩
    rintro fl k ⟨z, rfl, rfl⟩
    rw [kB2_nx, show earI ps qs ks js ps.length = earP ps qs ks js from rfl, show latI ps qs ks js ps.length = latP ps qs ks js from rfl]
    obtain ⟨K, hK⟩ : ∃ K, K = h ++ [AO.lst ((earP ps qs ks js).map pairD), AO.lst ((latP ps qs ks js).map pairD)] := ⟨_, rfl⟩
    have g0 : getL K h.length = some ((earP ps qs ks js).map pairD) := by rw [hK, getL_new (Nat.le_refl _)]; simp
    have g1 : getL K (h.length + 1) = some ((latP ps qs ks js).map pairD) := by rw [hK, getL_new (by omega)]; simp [getL]
    have s0 := sortedP_l g0
    have s1 := sortedP_l g1
    have hb : (((sortP (earP ps qs ks js)) ++ sortP (latP ps qs ks js)).map pairD).length ≤ 16777216 := by
      have := congrArg List.length (plan_ints (ps := ps) (qs := qs) (ks := ks) (js := js))
      rw [List.length_map, List.length_map] at this
      rw [List.length_map, this]
      omega
    have e1 : (sortP (earP ps qs ks js)).map pairD ++ (sortP (latP ps qs ks js)).map pairD = ((sortP (earP ps qs ks js)) ++ sortP (latP ps qs ks js)).map pairD := by rw [List.map_append]
    have lc : lcN (gV 6) tYes (Sm.e2 ixD (eV 6) (eC (.int 1))) [some (fo ps ks), some (fo qs js), some (.loc h.length), some (.loc (h.length + 1)), z, none, none] (.lst (((sortP (earP ps qs ks js)) ++ sortP (latP ps qs ks js)).map pairD)) (Src.lst (((sortP (earP ps qs ks js)) ++ sortP (latP ps qs ks js)).map pairD)).fuel 0 [] K = .ok ((planT ps qs ks js).map eN) K := by
      have := lc_map (v := 6) (a := Sm.e2 ixD (eV 6) (eC (.int 1))) (e0 := [some (fo ps ks), some (fo qs js), some (.loc h.length), some (.loc (h.length + 1)), z, none, none]) (xs := ((sortP (earP ps qs ks js)) ++ sortP (latP ps qs ks js)).map pairD) (h := K) (f := fun x => match x with | .tup [_, y] => y | x => x) (by rw [bigv]; exact hb) (fun x hx => by
        obtain ⟨p, _, rfl⟩ := List.mem_map.mp hx
        simp [pairD])
      rw [this, List.map_map, ← plan_ints]
      rfl
    rw [← hK]
    have hb2 : (sortP (earP ps qs ks js)).length + (sortP (latP ps qs ks js)).length ≤ 16777216 := by rw [List.length_map, List.length_append] at hb; exact hb
    refine q_set (d := (.lst ((planT ps qs ks js).map eN))) (h2 := K) (by
      generalize sortP (earP ps qs ks js) = S1 at *
      generalize sortP (latP ps qs ks js) = S2 at *
      generalize (planT ps qs ks js).map eN = PT at *
      have ad : addD true (.lst (S1.map pairD)) (.lst (S2.map pairD)) K = .ok (.lst ((S1 ++ S2).map pairD)) K := by
        rw [← e1]
        simp [bigv, hb2]
      generalize (S1 ++ S2).map pairD = SS at *
      generalize S1.map pairD = D1 at *
      generalize S2.map pairD = D2 at *
      simp [s0, s1, ad, wipeE, lc, mkL]) ?_
    simp only [List.set_cons_succ, List.set_cons_zero]
    have lc2 := lc_map (v := 4) (a := eTup (eL [eV 4, Sm.e2 ixD (Sm.e1 (fldD ["Forest"] "parents") (eV 1)) (eV 4), Sm.e2 ixD (Sm.e1 (fldD ["Forest"] "kinds") (eV 1)) (eV 4)])) (e0 := [some (fo ps ks), some (fo qs js), some (.loc h.length), some (.loc (h.length + 1)), none, some (.lst ((planT ps qs ks js).map eN)), none]) (xs := (planT ps qs ks js).map eN) (h := K) (f := fun x => match x with | .int i => .tup [.int i, eO (par qs i.toNat), eK (kd js i.toNat)] | x => x) (by rw [bigv, List.length_map]; omega) (fun x hx => by
      obtain ⟨p, hp, rfl⟩ := List.mem_map.mp hx
      have hpn := planT_lt hp
      have p2 := ixP (SeqD.t (encP qs)) (f := p) (by omega) K
      have k2 := ixK (SeqD.t (encK js)) (f := p) (by omega) K
      simp only [ix_tup, at_nat] at p2 k2
      simp [eN, p2, k2])
    have e2 : ((planT ps qs ks js).map eN).map (fun x => match x with | .int i => D.tup [.int i, eO (par qs i.toNat), eK (kd js i.toNat)] | x => x) = planD ps qs ks js := by
      unfold planD
      rw [List.map_map]
      apply List.map_congr_left
      intro p _
      simp [eN]
    rw [e2] at lc2
    have eK2 : K ++ [AO.lst (planD ps qs ks js)] = h ++ [.lst ((earP ps qs ks js).map pairD), .lst ((latP ps qs ks js).map pairD), .lst (planD ps qs ks js)] := by rw [hK]; simp
    have lK : K.length = h.length + 2 := by rw [hK]; simp
    rw [← eK2]
    generalize planD ps qs ks js = PD at *
    generalize (planT ps qs ks js).map eN = PT at *
    simp [wipeE, lc2, mkL, lK]
  obtain ⟨fl, k, e, rfl, rfl⟩ := wp_iff.mp key
  unfold F_change_plan fnK
  rw [e]
  rfl
end
end Sm
end

section
set_option linter.all false
set_option maxRecDepth 10000
/-! Rn: what the law k62 is told of plans; the steps. -/
namespace Sm
def sDif : D := .str [100, 105, 102, 102, 101, 114]
theorem plain_planD (ps qs : Par) (ks js : List Kd) : ∀ y ∈ planD ps qs ks js, Plain 1 y := fun y hy => by
  unfold planD at hy
  obtain ⟨f, _, rfl⟩ := List.mem_map.mp hy
  exact .tup 0 _ (by simp) fun z hz => by
    simp at hz
    rcases hz with rfl | rfl | rfl
    · exact .int 0 _
    · cases par qs f with
      | none => exact .non 0
      | some v => exact .int 0 _
    · exact .str 0 _
theorem planD_len {ps qs : Par} {ks js : List Kd} : (planD ps qs ks js).length ≤ 2 * ps.length := by
  unfold planD
  rw [List.length_map]
  exact planT_len
theorem same4_loc {h : AH} {l : Nat} {xs : List D} (e : getL h l = some xs) (hl : xs.length ≤ 1000) (hp : ∀ y ∈ xs, Plain 1 y) : F_q_same_v4 12 [.loc l, .lst xs] h = .ok (.bl true) h := by
  have ht := trim_same (h := h) (d := .bl true) rfl rfl
  show fnT 2 3 (b_q_same_v4 (F_q_same_v4 11)) [.loc l, .lst xs] h = _
  refine fnT_x rfl ?_
  have t0 : isNonD (.lst xs) h = .ok (.bl false) h := rfl
  have t2 : isTy "int" (.lst xs) h = .ok (.bl false) h := rfl
  have t3 : isTy "str" (.lst xs) h = .ok (.bl false) h := rfl
  have t4 : isTy "tuple" (.lst xs) h = .ok (.bl false) h := rfl
  have t5 := isTyL e
  have ll := lenL e
  have hi : inI (xs.length : Int) = true := inI_nat
  simp [b_q_same_v4, envOf, t0, t2, t3, t4, t5, ll, ne_bl, hi]
  exact wp_bind (same_loop (fun i => ixL i e) (fun _ => rfl) (fun z hz => same4_pl 11 1 z (by omega) (hp z hz) h) fun w => by simp [ht])
section
variable {ps qs : Par} {ks js : List Kd}
theorem same4_foA {h : AH} {P Q : D} (g : Good ps ks) (s : SeqA h P (encP ps)) (t : SeqA h Q (encK ks)) : F_q_same_forest [fo ps ks, P, Q] h = .ok (.bl true) h := by
  have hle := g.le
  have hkl := g.len
  have lp : lenD P h = .ok (.int ps.length) h := by have := s.len; rw [encP_len] at this; exact this
  have s0 := same4_pl 12 0 (.int ps.length) (by omega) (.int 0 _) h
  have s1 := same4_pl 12 1 (.tup (encP ps)) (by omega) (.tup 0 _ (by simp; omega) fun y hy => by
    obtain ⟨o, _, rfl⟩ := List.mem_map.mp hy
    cases o with
    | none => exact .non 0
    | some v => exact .int 0 _) h
  have s2 := same4_pl 12 1 (.tup (encK ks)) (by omega) (.tup 0 _ (by simp; omega) fun y hy => by
    obtain ⟨o, _, rfl⟩ := List.mem_map.mp hy
    exact .str 0 _) h
  have tp := s.tup
  have tq := t.tup
  have ic : isClsD "Forest" (fo ps ks) h = .ok (.bl true) h := rfl
  refine fnT_x rfl ?_
  simp [b_q_same_forest, envOf, ic, lp, s0, s1, s2, tp, tq]
theorem qplan_ok (g : Good ps ks) (g2 : Good qs js) (hl : qs.length = ps.length) (h : AH) : F_q_plan [fo ps ks, fo qs js] h = .ok (.loc (h.length + 3)) (h ++ [.lst ((earP ps qs ks js).map pairD), .lst ((latP ps qs ks js).map pairD), .lst (planD ps qs ks js), .lst [sLet, .loc (h.length + 2)]]) := by
  have cp := change_plan_ok g g2 hl h
  have e1 : h ++ [AO.lst ((earP ps qs ks js).map pairD), AO.lst ((latP ps qs ks js).map pairD), AO.lst (planD ps qs ks js)] ++ [AO.lst [sLet, .loc (h.length + 2)]] = h ++ [.lst ((earP ps qs ks js).map pairD), .lst ((latP ps qs ks js).map pairD), .lst (planD ps qs ks js), .lst [sLet, .loc (h.length + 2)]] := by simp
  have n1 : (h ++ [AO.lst ((earP ps qs ks js).map pairD), AO.lst ((latP ps qs ks js).map pairD), AO.lst (planD ps qs ks js)]).length = h.length + 3 := by simp
  rw [← e1]
  generalize h ++ [AO.lst ((earP ps qs ks js).map pairD), AO.lst ((latP ps qs ks js).map pairD), AO.lst (planD ps qs ks js)] = K at *
  have key : wp (b_q_plan (envOf 5 [fo ps ks, fo qs js]) h) fun fl k => fl = .rt (.loc (h.length + 3)) ∧ k = K ++ [AO.lst [sLet, .loc (h.length + 2)]] := by
    simp [b_q_plan, envOf, cp, n1, sLet]
  obtain ⟨fl, k, e, rfl, rfl⟩ := wp_iff.mp key
  unfold F_q_plan fnK
  rw [e]
  rfl
theorem qplan_differ (hl : ps.length ≠ qs.length) (h : AH) : F_q_plan [fo ps ks, fo qs js] h = .ok (.loc h.length) (h ++ [.lst [sDif, .tup [.int ps.length, .int qs.length], .bl true]]) := by
  have hl' : ¬ (ps.length : Int) = qs.length := by omega
  obtain ⟨X, hX⟩ : ∃ X : Ex, X = ⟨"FieldsDiffer", ["second", "first"], [.int qs.length, .int ps.length]⟩ := ⟨_, rfl⟩
  have te := trim_exc (h := h) (x := X) (by rw [hX]; simp)
  have chk : F_check_same_fields [fo ps ks, fo qs js] h = .exc X h := by
    refine fnT_x rfl ?_
    rw [hX] at te ⊢
    simp [b_check_same_fields, envOf, hl', te]
  have cp : F_change_plan [fo ps ks, fo qs js] h = .exc X h := by
    have key : wp (b_change_plan (envOf 7 [fo ps ks, fo qs js]) h) fun fl k => ∃ e, fl = .ex X e ∧ k = h := by
      simp [b_change_plan, envOf, chk]
    obtain ⟨fl, k, e, e0, rfl, rfl⟩ := wp_iff.mp key
    unfold F_change_plan fnK
    rw [e]
    rfl
  have key : wp (b_q_plan (envOf 5 [fo ps ks, fo qs js]) h) fun fl k => fl = .rt (.loc h.length) ∧ k = h ++ [.lst [sDif, .tup [.int ps.length, .int qs.length], .bl true]] := by
    rw [hX] at cp
    simp [b_q_plan, envOf, cp, tryK_ex, lookB, look1, sDif]
  obtain ⟨fl, k, e, rfl, rfl⟩ := wp_iff.mp key
  unfold F_q_plan fnK
  rw [e]
  rfl
theorem is_differ_ok {h : AH} {l n m : Nat} (e : getL h l = some [sDif, .tup [.int n, .int m], .bl true]) : F_q_is_differ [.loc l, .int n, .int m] h = .ok (.bl true) h := by
  have i0 := ixL 0 e
  have i1 := ixL 1 e
  have i2 := ixL 2 e
  simp [sDif] at i0 i1 i2
  have s := same4_pl 12 1 (.tup [.int n, .int m]) (by omega) (.tup 0 _ (by simp) fun z hz => by
    simp at hz
    rcases hz with rfl | rfl <;> exact .int 0 _) h
  refine fnT_x rfl ?_
  simp [b_q_is_differ, envOf, i0, i1, i2, s]
theorem due_plan_ok (g : Good ps ks) (g2 : Good qs js) (hl : qs.length = ps.length) (h : AH) : F_q_due_plan [.lst [.lst (encP ps), .lst (encK ks)], .lst [.lst (encP qs), .lst (encK js)]] h = .ok (.lst (planD ps qs ks js)) h := by
  have hle := g.le
  have hk := g.len
  have hk2 := g2.len
  have hi : inI (ps.length : Int) = true := inI_nat
  have hTl := planT_len (ps := ps) (qs := qs) (ks := ks) (js := js)
  refine fnT_x rfl ?_
  rw [b_q_due_plan]
  simp only [envOf, List.map_cons, List.map_nil, List.length_cons, List.length_nil, List.cons_append, List.nil_append, Nat.reduceAdd, Nat.reduceSub, List.replicate_succ, List.replicate_zero]
  refine q_set (d := (.loc h.length)) (h2 := (h ++ [.lst []])) (by simp) ?_
  simp only [List.set_cons_succ, List.set_cons_zero]
  refine q_set (d := (.loc (h.length + 1))) (h2 := (h ++ [.lst [], .lst []])) (by simp) ?_
  simp only [List.set_cons_succ, List.set_cons_zero]
  refine q_any (P := fun fl k => ∃ z, fl = .nx [some (.lst [.lst (encP ps), .lst (encK ks)]), some (.lst [.lst (encP qs), .lst (encK js)]), some (.loc h.length), some (.loc (h.length + 1)), z, none, none] ∧ k = h ++ [.lst ((earI ps qs ks js ps.length).map pairD), .lst ((latI ps qs ks js ps.length).map pairD)]) ?_ ?_
  · refine for_it (xs := rng 0 ps.length) (h1 := h ++ [.lst [], .lst []]) (by simp [hi]) ?_
    refine for_w (I := fun i e k => ∃ z, e = [some (.lst [.lst (encP ps), .lst (encK ks)]), some (.lst [.lst (encP qs), .lst (encK js)]), some (.loc h.length), some (.loc (h.length + 1)), z, none, none] ∧ k = h ++ [.lst ((earI ps qs ks js i).map pairD), .lst ((latI ps qs ks js i).map pairD)]) ⟨none, rfl, rfl⟩ ?_ ?_
    · rintro i d e k hz ⟨z, rfl, rfl⟩
      obtain ⟨hil, rfl⟩ := rng_get0 hz
      have e1 := earI_len (ps := ps) (qs := qs) (ks := ks) (js := js) i
      have e2 := latI_len (ps := ps) (qs := qs) (ks := ks) (js := js) i
      have se := earI_s (ps := ps) (qs := qs) (ks := ks) (js := js) (i := i) _ rfl
      have sl := latI_s (ps := ps) (qs := qs) (ks := ks) (js := js) (i := i) _ rfl
      generalize hE : earI ps qs ks js i = E at *
      generalize hL : latI ps qs ks js i = L at *
      obtain ⟨K, hK⟩ : ∃ K, K = h ++ [AO.lst (E.map pairD), AO.lst (L.map pairD)] := ⟨_, rfl⟩
      have g0 : getL K h.length = some (E.map pairD) := by rw [hK, getL_new (Nat.le_refl _)]; simp
      have g1 : getL K (h.length + 1) = some (L.map pairD) := by rw [hK, getL_new (by omega)]; simp [getL]
      have il0 := isL g0
      have il1 := isL g1
      have ap0 := append_ok (pairD (((path qs i).length : Int), (i : Int))) g0 (by rw [bigv, List.length_map]; omega)
      have ap1 := append_ok (pairD (-((path ps i).length : Int), (i : Int))) g1 (by rw [bigv, List.length_map]; omega)
      have s0 : K.set h.length (.lst (E.map pairD ++ [pairD (((path qs i).length : Int), (i : Int))])) = h ++ [.lst ((E ++ [(((path qs i).length : Int), (i : Int))]).map pairD), .lst (L.map pairD)] := by rw [hK, set_new (Nat.le_refl _)]; simp
      have s1 : K.set (h.length + 1) (.lst (L.map pairD ++ [pairD (-((path ps i).length : Int), (i : Int))])) = h ++ [.lst (E.map pairD), .lst ((L ++ [(-((path ps i).length : Int), (i : Int))]).map pairD)] := by rw [hK, set_new (by omega)]; simp
      rw [s0] at ap0
      rw [s1] at ap1
      have p1 := ixP (SeqD.l (encP ps)) hil K
      have p2 := ixP (SeqD.l (encP qs)) (f := i) (by omega) K
      have k1 := ixK (SeqD.l (encK ks)) (f := i) (by omega) K
      have k2 := ixK (SeqD.l (encK js)) (f := i) (by omega) K
      simp only [ix_lst, at_nat] at p1 p2 k1 k2
      have q1 := neO (par ps i) (par qs i) K
      have q2 := neK (kd ks i) (kd js i) K
      have iu := inUDl (kd js i) K
      have w1 := q_path_ok (SeqD.l (encP ps)) g.acy (by omega) hil K
      have w2 := q_path_ok (SeqD.l (encP qs)) g2.acy (by omega) (f := i) (by omega) K
      rw [← hK]
      rw [show pairD (((path qs i).length : Int), (i : Int)) = .tup [.int (path qs i).length, .int i] from rfl] at ap0
      rw [show pairD (-((path ps i).length : Int), (i : Int)) = .tup [.int (-((path ps i).length : Int)), .int i] from rfl] at ap1
      by_cases d : diff ps qs ks js i
      · have nd : ¬ (par ps i = par qs i ∧ kd ks i = kd js i) := fun z => by unfold diff at d; rcases d with d | d; exact d z.1; exact d z.2
        cases q : (kd js i).end_ with
        | false =>
          rw [q] at iu
          rw [if_pos (by simp [d, q])] at se
          rw [if_neg (by simp [q])] at sl
          refine wp_mono (P := fun fl k => fl = .nx [some (.lst [.lst (encP ps), .lst (encK ks)]), some (.lst [.lst (encP qs), .lst (encK js)]), some (.loc h.length), some (.loc (h.length + 1)), some (.int i), none, none] ∧ k = h ++ [AO.lst ((E ++ [(((path qs i).length : Int), (i : Int))]).map pairD), AO.lst (L.map pairD)]) ?_ (by
            rintro fl k ⟨rfl, rfl⟩
            exact ⟨_, rfl, by rw [se, sl]⟩)
          generalize h ++ [AO.lst ((E ++ [(((path qs i).length : Int), (i : Int))]).map pairD), AO.lst (L.map pairD)] = K2 at *
          by_cases a1 : par ps i = par qs i
          · have a2 : ¬ kd ks i = kd js i := fun z => nd ⟨a1, z⟩
            rw [decide_eq_true a1] at q1
            rw [decide_eq_false a2] at q2
            simp [p1, p2, k1, k2, q1, q2, iu, il0, w2, ap0]
          · rw [decide_eq_false a1] at q1
            simp [p1, p2, k1, k2, q1, iu, il0, w2, ap0]
        | true =>
          rw [q] at iu
          rw [if_neg (by simp [q])] at se
          rw [if_pos (by simp [d, q])] at sl
          refine wp_mono (P := fun fl k => fl = .nx [some (.lst [.lst (encP ps), .lst (encK ks)]), some (.lst [.lst (encP qs), .lst (encK js)]), some (.loc h.length), some (.loc (h.length + 1)), some (.int i), none, none] ∧ k = h ++ [AO.lst (E.map pairD), AO.lst ((L ++ [(-((path ps i).length : Int), (i : Int))]).map pairD)]) ?_ (by
            rintro fl k ⟨rfl, rfl⟩
            exact ⟨_, rfl, by rw [se, sl]⟩)
          generalize h ++ [AO.lst (E.map pairD), AO.lst ((L ++ [(-((path ps i).length : Int), (i : Int))]).map pairD)] = K2 at *
          by_cases a1 : par ps i = par qs i
          · have a2 : ¬ kd ks i = kd js i := fun z => nd ⟨a1, z⟩
            rw [decide_eq_true a1] at q1
            rw [decide_eq_false a2] at q2
            simp [p1, p2, k1, k2, q1, q2, iu, il1, w1, ap1]
          · rw [decide_eq_false a1] at q1
            simp [p1, p2, k1, k2, q1, iu, il1, w1, ap1]
      · have nd : par ps i = par qs i ∧ kd ks i = kd js i := by
          unfold diff at d
          exact ⟨Decidable.not_not.mp fun z => d (.inl z), Decidable.not_not.mp fun z => d (.inr z)⟩
        rw [if_neg (by simp [d])] at se sl
        refine wp_mono (P := fun fl k => fl = .nx [some (.lst [.lst (encP ps), .lst (encK ks)]), some (.lst [.lst (encP qs), .lst (encK js)]), some (.loc h.length), some (.loc (h.length + 1)), some (.int i), none, none] ∧ k = K) ?_ (by
          rintro fl k ⟨rfl, rfl⟩
          exact ⟨_, rfl, by rw [se, sl]; exact hK⟩)
        rw [decide_eq_true nd.1] at q1
        rw [decide_eq_true nd.2] at q2
        simp [p1, p2, k1, k2, q1, q2]
    · rintro e k ⟨z, rfl, rfl⟩
      rw [rng_len]
      exact ⟨z, rfl, rfl⟩
  rintro fl k ⟨z, rfl, rfl⟩
  rw [kB2_nx, show earI ps qs ks js ps.length = earP ps qs ks js from rfl, show latI ps qs ks js ps.length = latP ps qs ks js from rfl]
  have tr : ∀ d, nloc d = true → clo h.length d = true → trim h (.ok d (h ++ [AO.lst ((earP ps qs ks js).map pairD), AO.lst ((latP ps qs ks js).map pairD)])) = .ok d h := fun d a b => trim_app a b
  obtain ⟨K, hK⟩ : ∃ K, K = h ++ [AO.lst ((earP ps qs ks js).map pairD), AO.lst ((latP ps qs ks js).map pairD)] := ⟨_, rfl⟩
  have g0 : getL K h.length = some ((earP ps qs ks js).map pairD) := by rw [hK, getL_new (Nat.le_refl _)]; simp
  have g1 : getL K (h.length + 1) = some ((latP ps qs ks js).map pairD) := by rw [hK, getL_new (by omega)]; simp [getL]
  have s0 := sortedP_l g0
  have s1 := sortedP_l g1
  have hb : (((sortP (earP ps qs ks js)) ++ sortP (latP ps qs ks js)).map pairD).length ≤ 16777216 := by
    have := congrArg List.length (plan_ints (ps := ps) (qs := qs) (ks := ks) (js := js))
    rw [List.length_map, List.length_map] at this
    rw [List.length_map, this]
    omega
  have e1 : (sortP (earP ps qs ks js)).map pairD ++ (sortP (latP ps qs ks js)).map pairD = ((sortP (earP ps qs ks js)) ++ sortP (latP ps qs ks js)).map pairD := by rw [List.map_append]
  have lc : lcN (gV 6) tYes (Sm.e2 ixD (eV 6) (eC (.int 1))) [some (.lst [.lst (encP ps), .lst (encK ks)]), some (.lst [.lst (encP qs), .lst (encK js)]), some (.loc h.length), some (.loc (h.length + 1)), z, none, none] (.lst (((sortP (earP ps qs ks js)) ++ sortP (latP ps qs ks js)).map pairD)) (Src.lst (((sortP (earP ps qs ks js)) ++ sortP (latP ps qs ks js)).map pairD)).fuel 0 [] K = .ok ((planT ps qs ks js).map eN) K := by
    have := lc_map (v := 6) (a := Sm.e2 ixD (eV 6) (eC (.int 1))) (e0 := [some (.lst [.lst (encP ps), .lst (encK ks)]), some (.lst [.lst (encP qs), .lst (encK js)]), some (.loc h.length), some (.loc (h.length + 1)), z, none, none]) (xs := ((sortP (earP ps qs ks js)) ++ sortP (latP ps qs ks js)).map pairD) (h := K) (f := fun x => match x with | .tup [_, y] => y | x => x) (by rw [bigv]; exact hb) (fun x hx => by
      obtain ⟨p, _, rfl⟩ := List.mem_map.mp hx
      simp [pairD])
    rw [this, List.map_map, ← plan_ints]
    rfl
  rw [← hK] at tr ⊢
  have hb2 : (sortP (earP ps qs ks js)).length + (sortP (latP ps qs ks js)).length ≤ 16777216 := by rw [List.length_map, List.length_append] at hb; exact hb
  refine q_set (d := (.lst ((planT ps qs ks js).map eN))) (h2 := K) (by
    generalize sortP (earP ps qs ks js) = S1 at *
    generalize sortP (latP ps qs ks js) = S2 at *
    generalize (planT ps qs ks js).map eN = PT at *
    have ad : addD true (.lst (S1.map pairD)) (.lst (S2.map pairD)) K = .ok (.lst ((S1 ++ S2).map pairD)) K := by
      rw [← e1]
      simp [bigv, hb2]
    generalize (S1 ++ S2).map pairD = SS at *
    generalize S1.map pairD = D1 at *
    generalize S2.map pairD = D2 at *
    simp [s0, s1, ad, wipeE, lc, mkL]) ?_
  simp only [List.set_cons_succ, List.set_cons_zero]
  have lc2 := lc_map (v := 4) (a := eTup (eL [eV 4, Sm.e2 ixD (Sm.e2 ixD (eV 1) (eC (.int 0))) (eV 4), Sm.e2 ixD (Sm.e2 ixD (eV 1) (eC (.int 1))) (eV 4)])) (e0 := [some (.lst [.lst (encP ps), .lst (encK ks)]), some (.lst [.lst (encP qs), .lst (encK js)]), some (.loc h.length), some (.loc (h.length + 1)), none, some (.lst ((planT ps qs ks js).map eN)), none]) (xs := (planT ps qs ks js).map eN) (h := K) (f := fun x => match x with | .int i => .tup [.int i, eO (par qs i.toNat), eK (kd js i.toNat)] | x => x) (by rw [bigv, List.length_map]; omega) (fun x hx => by
    obtain ⟨p, hp, rfl⟩ := List.mem_map.mp hx
    have hpn := planT_lt hp
    have p2 := ixP (SeqD.l (encP qs)) (f := p) (by omega) K
    have k2 := ixK (SeqD.l (encK js)) (f := p) (by omega) K
    simp only [ix_lst, at_nat] at p2 k2
    simp [eN, p2, k2])
  have e2 : ((planT ps qs ks js).map eN).map (fun x => match x with | .int i => D.tup [.int i, eO (par qs i.toNat), eK (kd js i.toNat)] | x => x) = planD ps qs ks js := by
    unfold planD
    rw [List.map_map]
    apply List.map_congr_left
    intro p _
    simp [eN]
  rw [e2] at lc2
  have cl : clo h.length (.lst (planD ps qs ks js)) = true := by
    rw [clo_lst, clos_all, List.all_eq_true]
    intro y hy
    unfold planD at hy
    obtain ⟨f, _, rfl⟩ := List.mem_map.mp hy
    simp
  have ht := tr (.lst (planD ps qs ks js)) rfl cl
  generalize planD ps qs ks js = PD at *
  generalize (planT ps qs ks js).map eN = PT at *
  simp [wipeE, lc2, mkL, ht]
end
end Sm
end

section
set_option linter.all false
set_option maxRecDepth 10000
/-! Ro: the steps of a plan, one after the other. -/
namespace Sm
def opI (p : Option Nat) : Option Int := p.map Int.ofNat
theorem encOI_op (p : Option Nat) : encOI (opI p) = eO p := by cases p <;> rfl
theorem frP_set_op (cs : Par) (f : Nat) (p : Option Nat) : (frP cs).set f (opI p) = frP (cs.set f p) := by
  unfold frP opI; rw [List.map_set]
theorem eq_word (ps qs : Par) (ks js : List Kd) (x y : Nat) (h : AH) : eqD (.tup (wordD ps ks x)) (.tup (wordD qs js y)) h = .ok (.bl (decide (wordD ps ks x = wordD qs js y))) h := by
  have e := eq_nb (h := h) (x := .tup (wordD ps ks x)) (y := .tup (wordD qs js y)) (nb_word _ _ _) (nb_word _ _ _) (by have := dp_word ps ks x; omega) (by have := dp_word qs js y; omega)
  rw [e]
  have : (D.tup (wordD ps ks x) = D.tup (wordD qs js y)) ↔ wordD ps ks x = wordD qs js y := ⟨fun z => by injection z, fun z => by rw [z]⟩
  rw [decide_eq_decide.mpr this]
section
variable {ps qs : Par} {ks js : List Kd}
def alikeL (ps qs : Par) (ks js : List Kd) : List Nat := (List.range ps.length).filter fun x => decide (wordD ps ks x = wordD qs js x)
def wordsL (ps : Par) (ks : List Kd) : List D := (List.range ps.length).map fun x => .tup (wordD ps ks x)
theorem steps_right_ok (g : Good ps ks) (g2 : Good qs js) (hl : qs.length = ps.length) {H : AH} {pl : Nat} (gp : getL H pl = some (planD ps qs ks js)) : F_q_steps_right [fo ps ks, .lst [.lst (encP ps), .lst (encK ks)], .lst [.lst (encP qs), .lst (encK js)], .loc pl] H = .ok (.bl true) H := by
  have hle := g.le
  have hle2 := g2.le
  have hk := g.len
  have hk2 := g2.len
  have hi : inI (ps.length : Int) = true := inI_nat
  have pT := planT_ok g g2 hl
  have hTl := planT_len (ps := ps) (qs := qs) (ks := ks) (js := js)
  have hpl := getL_lt gp
  have wd := fun (k : AH) {x : Nat} (hx : x < ps.length) => q_word_ok (ps := ps) (ks := ks) (h := k) (by omega) g.acy g.len (SeqD.l _) (SeqD.l _) hx
  have wd2 := fun (k : AH) {x : Nat} (hx : x < ps.length) => q_word_ok (ps := qs) (ks := js) (h := k) (by omega) g2.acy g2.len (SeqD.l _) (SeqD.l _) (f := x) (by omega)
  refine fnT_x rfl ?_
  rw [b_q_steps_right]
  simp only [envOf, List.map_cons, List.map_nil, List.length_cons, List.length_nil, List.cons_append, List.nil_append, Nat.reduceAdd, Nat.reduceSub, List.replicate_succ, List.replicate_zero]
  refine q_set (d := (.int ps.length)) (h2 := H) (by simp) ?_
  simp only [List.set_cons_succ, List.set_cons_zero]
  have lc1 := lc_rngm (v := 6) (a := eA (F_q_word) (eL [Sm.e2 ixD (eV 1) (eC (.int 0)), Sm.e2 ixD (eV 1) (eC (.int 1)), eV 6])) (e0 := [some (fo ps ks), some (.lst [.lst (encP ps), .lst (encK ks)]), some (.lst [.lst (encP qs), .lst (encK js)]), some (.loc pl), some (.int ps.length), none, none, none, none, none, none, none]) (n := ps.length) (h := H) (f := fun x => .tup (wordD ps ks x)) (by rw [bigv]; omega) (fun x hx => by
    have w := wd H hx
    simp [w])
  refine q_set (d := (.lst (wordsL ps ks))) (h2 := H) (by
    unfold wordsL
    generalize (List.range ps.length).map (fun x => D.tup (wordD ps ks x)) = WL at *
    simp [hi, wipeE, lc1, mkL]) ?_
  simp only [List.set_cons_succ, List.set_cons_zero]
  have wix : ∀ x < ps.length, (wordsL ps ks)[x]? = some (.tup (wordD ps ks x)) := fun x hx => by
    unfold wordsL
    rw [List.getElem?_map, List.getElem?_range hx]; rfl
  have lc2 := lc_rng (v := 6) (t := tB1 (Sm.e2 eqD (Sm.e2 ixD (eV 5) (eV 6)) (eA (F_q_word) (eL [Sm.e2 ixD (eV 2) (eC (.int 0)), Sm.e2 ixD (eV 2) (eC (.int 1)), eV 6])))) (a := eV 6) (e0 := [some (fo ps ks), some (.lst [.lst (encP ps), .lst (encK ks)]), some (.lst [.lst (encP qs), .lst (encK js)]), some (.loc pl), some (.int ps.length), some (.lst (wordsL ps ks)), none, none, none, none, none, none]) (n := ps.length) (h := H) (p := fun x => decide (wordD ps ks x = wordD qs js x)) (f := eN) (by rw [bigv]; omega) (fun x hx => by
    have w := wd2 H hx
    have wi := wix x hx
    have eq := eq_word ps qs ks js x x H
    generalize wordsL ps ks = WL at *
    simp [w, wi, eq]) (fun x hx _ => rfl)
  have alen : (alikeL ps qs ks js).length ≤ ps.length := by unfold alikeL; exact range_len _ _
  have amem : ∀ x ∈ alikeL ps qs ks js, x < ps.length ∧ wordD ps ks x = wordD qs js x := fun x hx => by
    unfold alikeL at hx
    simpa using hx
  refine q_set (d := (.lst ((alikeL ps qs ks js).map eN))) (h2 := H) (by
    unfold alikeL
    generalize wordsL ps ks = WL at *
    generalize ((List.range ps.length).filter fun x => decide (wordD ps ks x = wordD qs js x)).map eN = AL at *
    simp [hi, wipeE, lc2, mkL]) ?_
  simp only [List.set_cons_succ, List.set_cons_zero]
  generalize alikeL ps qs ks js = AL at *
  generalize wordsL ps ks = WL at *
  clear lc1 lc2
  refine q_set (d := (fo ps ks)) (h2 := H) (by simp) ?_
  simp only [List.set_cons_succ, List.set_cons_zero]
  refine q_set (d := (.loc H.length)) (h2 := (H ++ [.lst (encP ps)])) (by simp) ?_
  simp only [List.set_cons_succ, List.set_cons_zero]
  refine q_set (d := (.loc (H.length + 1))) (h2 := (H ++ [.lst (encP ps), .lst (encK ks)])) (by simp) ?_
  simp only [List.set_cons_succ, List.set_cons_zero]
  refine q_any (P := fun fl k => ∃ z y, fl = .nx [some (fo ps ks), some (.lst [.lst (encP ps), .lst (encK ks)]), some (.lst [.lst (encP qs), .lst (encK js)]), some (.loc pl), some (.int ps.length), some (.lst WL), z, some (.lst (AL.map eN)), some (fo qs js), some (.loc H.length), some (.loc (H.length + 1)), y] ∧ k = H ++ [.lst (encP qs), .lst (encK js)]) ?_ ?_
  · have gp2 : ∀ A B : List D, getL (H ++ [.lst A, .lst B]) pl = some (planD ps qs ks js) := fun A B => by rw [getL_old hpl]; exact gp
    have fi : iS (eV 3) [some (fo ps ks), some (.lst [.lst (encP ps), .lst (encK ks)]), some (.lst [.lst (encP qs), .lst (encK js)]), some (.loc pl), some (.int ps.length), some (.lst WL), none, some (.lst (AL.map eN)), some (fo ps ks), some (.loc H.length), some (.loc (H.length + 1)), none] (H ++ [.lst (encP ps), .lst (encK ks)]) = .ok (.live pl) (H ++ [.lst (encP ps), .lst (encK ks)]) := by simp [kIS_loc (gp2 _ _)]
    rw [sFor_def, fi]
    show wp (forN _ _ (.live pl) (Src.live pl).fuel 0 _ _) _
    refine live_w (xs := planD ps qs ks js) (I := fun i e k => ∃ z y, e = [some (fo ps ks), some (.lst [.lst (encP ps), .lst (encK ks)]), some (.lst [.lst (encP qs), .lst (encK js)]), some (.loc pl), some (.int ps.length), some (.lst WL), z, some (.lst (AL.map eN)), some (fo (stP ps qs (planT ps qs ks js) i) (stK ps ks js (planT ps qs ks js) i)), some (.loc H.length), some (.loc (H.length + 1)), y] ∧ k = H ++ [.lst (encP (stP ps qs (planT ps qs ks js) i)), .lst (encK (stK ps ks js (planT ps qs ks js) i))]) (by have := planD_len (ps := ps) (qs := qs) (ks := ks) (js := js); rw [bigv]; omega) ?_ ?_ ?_ ?_
    · rintro i e k ⟨z, y, rfl, rfl⟩
      exact gp2 _ _
    · obtain ⟨a0, b0⟩ := st_0 (ps := ps) (qs := qs) (ks := ks) (js := js) (T := planT ps qs ks js) hk
      exact ⟨none, none, by rw [a0, b0], by rw [a0, b0]⟩
    · rintro i d e k hz ⟨z, y, rfl, rfl⟩
      unfold planD at hz
      rw [List.getElem?_map] at hz
      cases hf : (planT ps qs ks js)[i]? with
      | none => rw [hf] at hz; cases hz
      | some f =>
        rw [hf] at hz
        cases hz
        have hfn : f < ps.length := planT_lt (List.mem_of_getElem? hf)
        have hnt : f ∉ (planT ps qs ks js).take i := fun m => by
          obtain ⟨j, hj, e⟩ := take_at m
          have nd := pT.nd
          obtain ⟨a1, a2⟩ := List.getElem?_eq_some_iff.mp hf
          obtain ⟨b1, b2⟩ := List.getElem?_eq_some_iff.mp e
          have := (List.getElem_inj nd (h₀ := a1) (h₁ := b1)).mp (by rw [a2, b2])
          omega
        obtain ⟨s1, s2⟩ := st_s (ps := ps) (qs := qs) (ks := ks) (js := js) hf hfn hnt
        have gi := st_good g g2 hl pT i
        have gj := st_good g g2 hl pT (i + 1)
        have ws := fun {x : Nat} (hx : x < ps.length) (e : wordD ps ks x = wordD qs js x) => st_word g g2 hl pT (i + 1) hx e
        have hcl : (stP ps qs (planT ps qs ks js) i).length = ps.length := stP_len i
        have hcl2 : (stP ps qs (planT ps qs ks js) (i + 1)).length = ps.length := stP_len (i + 1)
        have hcj : (stK ps ks js (planT ps qs ks js) i).length = ps.length := stK_len i
        generalize hcs2 : stP ps qs (planT ps qs ks js) (i + 1) = cs2 at *
        generalize hcj2 : stK ps ks js (planT ps qs ks js) (i + 1) = cj2 at *
        generalize stP ps qs (planT ps qs ks js) i = cs at *
        generalize stK ps ks js (planT ps qs ks js) i = cj at *
        have ch := fun K => change_ok (p := opI (par qs f)) (k := kd js f) gi (f := f) (by omega) K
        have fl0 := flt_good gj
        rw [s1, s2] at fl0
        rw [frP_set_op, fl0, toP_frP, ← s1, ← s2, encOI_op] at ch
        rw [s1, s2] at gj
        have hs1 : setIxD (.loc H.length) (.int f) (eO (par qs f)) (H ++ [.lst (encP cs), .lst (encK cj)]) = .ok .non (H ++ [.lst (encP cs2), .lst (encK cj)]) := by
          have := setIx_ok (h := H ++ [.lst (encP cs), .lst (encK cj)]) (l := H.length) (xs := encP cs) (i := (f : Int)) (k := f) (eO (par qs f)) (by rw [getL_new (Nat.le_refl _)]; simp) (ixN_nat (by rw [encP_len]; omega))
          have e9 : (encP cs).set f (eO (par qs f)) = encP cs2 := by rw [s1]; unfold encP; rw [List.map_set]
          rw [set_new (Nat.le_refl _), e9] at this
          simpa using this
        have hs2 : setIxD (.loc (H.length + 1)) (.int f) (eK (kd js f)) (H ++ [.lst (encP cs2), .lst (encK cj)]) = .ok .non (H ++ [.lst (encP cs2), .lst (encK cj2)]) := by
          have := setIx_ok (h := H ++ [.lst (encP cs2), .lst (encK cj)]) (l := H.length + 1) (xs := encK cj) (i := (f : Int)) (k := f) (eK (kd js f)) (by rw [getL_new (by omega)]; simp [getL]) (ixN_nat (by rw [encK_len]; omega))
          rw [set_new (by omega), encK_setN, ← s2] at this
          simpa using this
        rw [← s1, ← s2] at gj
        have sq := seq01 H (encP cs2) (encK cj2) []
        have ft := fault_ok (X := frP cs2) (ks := cj2) (by rw [frP_enc]; exact sq.1) sq.2 (by rw [frP_len]; omega)
        rw [flt_good gj] at ft
        have sf := same4_foA gj sq.1 sq.2
        have ch := ch (H ++ [.lst (encP cs), .lst (encK cj)])
        rw [gV_def, bind_ok]
        simp only [List.set_cons_succ, List.set_cons_zero]
        refine q_set (d := (fo cs2 cj2)) (h2 := (H ++ [.lst (encP cs), .lst (encK cj)])) (by
          generalize H ++ [AO.lst (encP cs), AO.lst (encK cj)] = K at *
          simp [ch]) ?_
        simp only [List.set_cons_succ, List.set_cons_zero]
        refine q_st (e2 := [some (fo ps ks), some (.lst [.lst (encP ps), .lst (encK ks)]), some (.lst [.lst (encP qs), .lst (encK js)]), some (.loc pl), some (.int ps.length), some (.lst WL), z, some (.lst (AL.map eN)), some (fo cs2 cj2), some (.loc H.length), some (.loc (H.length + 1)), some (.tup [.int f, eO (par qs f), eK (kd js f)])]) (h2 := H ++ [.lst (encP cs2), .lst (encK cj)]) (by
          generalize H ++ [AO.lst (encP cs), AO.lst (encK cj)] = K at *
          simp [hs1]) ?_
        refine q_st (e2 := [some (fo ps ks), some (.lst [.lst (encP ps), .lst (encK ks)]), some (.lst [.lst (encP qs), .lst (encK js)]), some (.loc pl), some (.int ps.length), some (.lst WL), z, some (.lst (AL.map eN)), some (fo cs2 cj2), some (.loc H.length), some (.loc (H.length + 1)), some (.tup [.int f, eO (par qs f), eK (kd js f)])]) (h2 := H ++ [.lst (encP cs2), .lst (encK cj2)]) (by
          generalize H ++ [AO.lst (encP cs2), AO.lst (encK cj)] = K at *
          simp [hs2]) ?_
        clear hs1 hs2 ch
        obtain ⟨K, hK⟩ : ∃ K, K = H ++ [AO.lst (encP cs2), AO.lst (encK cj2)] := ⟨_, rfl⟩
        rw [← hK] at ft sf ⊢
        refine q_if0 (h2 := K) (by simp [ft, fltD, sf]) ?_
        refine q_any (P := fun fl k => ∃ z, fl = .nx [some (fo ps ks), some (.lst [.lst (encP ps), .lst (encK ks)]), some (.lst [.lst (encP qs), .lst (encK js)]), some (.loc pl), some (.int ps.length), some (.lst WL), z, some (.lst (AL.map eN)), some (fo cs2 cj2), some (.loc H.length), some (.loc (H.length + 1)), some (.tup [.int f, eO (par qs f), eK (kd js f)])] ∧ k = K) ?_ ?_
        · refine for_it (xs := AL.map eN) (h1 := K) (by simp) ?_
          refine all_w (fun e => ∃ z, e = [some (fo ps ks), some (.lst [.lst (encP ps), .lst (encK ks)]), some (.lst [.lst (encP qs), .lst (encK js)]), some (.loc pl), some (.int ps.length), some (.lst WL), z, some (.lst (AL.map eN)), some (fo cs2 cj2), some (.loc H.length), some (.loc (H.length + 1)), some (.tup [.int f, eO (par qs f), eK (kd js f)])]) ⟨z, rfl⟩ ?_ ?_
          · rintro x hx e ⟨z, rfl⟩
            obtain ⟨hxn, hxe⟩ := amem x hx
            have w := fword_ok (ps := cs2) (ks := cj2) (h := K) (by omega) gj.acy gj.len (f := x) (by omega)
            have m := fun (as : AA) (e0 : Env) (ha : as e0 K = .ok [.int x] K) => mth_fo (ps := cs2) (ks := cj2) (m := "word") (as := as) (e := e0) (xs := [.int x]) rfl ha w
            rw [ws hxn hxe] at m
            have wi := wix x hxn
            have sm := same4_pl 12 2 _ (by omega) (plain_word (ks := ks) g.acy (by omega) hxn) K
            simp [eN, m, wi, sm]
          · rintro e ⟨z, rfl⟩
            exact ⟨z, rfl, rfl⟩
        rintro fl k ⟨z, rfl, rfl⟩
        rw [kB2_nx, sB_nil]
        exact ⟨z, _, by rw [hcs2, hcj2], by rw [hcs2, hcj2]; exact hK⟩
    · rintro e k ⟨z, y, rfl, rfl⟩
      have hlen : (planD ps qs ks js).length = (planT ps qs ks js).length := by unfold planD; rw [List.length_map]
      obtain ⟨a0, b0⟩ := st_all (ps := ps) (qs := qs) (ks := ks) (js := js) hl (by omega) pT
      rw [hlen]
      exact ⟨z, y, by rw [a0, b0], by rw [a0, b0]⟩
  rintro fl k ⟨z, y, rfl, rfl⟩
  rw [kB2_nx]
  have sf := same4_fo g2 (SeqD.l (encP qs)) (SeqD.l (encK js)) (H ++ [.lst (encP qs), .lst (encK js)])
  have ht := trim_app (h := H) (L := [.lst (encP qs), .lst (encK js)]) (d := .bl true) rfl rfl
  generalize H ++ [AO.lst (encP qs), AO.lst (encK js)] = K at *
  simp [sf, ht]
theorem plan_right_ok (g : Good ps ks) (g2 : Good qs js) (hl : qs.length = ps.length) (h : AH) : F_q_plan_right [fo ps ks, fo qs js, .lst [.lst (encP ps), .lst (encK ks)], .lst [.lst (encP qs), .lst (encK js)]] h = .ok (.bl true) h := by
  have hle := g.le
  have du := due_plan_ok g g2 hl h
  have qp := qplan_ok g g2 hl h
  have pl := planD_len (ps := ps) (qs := qs) (ks := ks) (js := js)
  have pp := plain_planD ps qs ks js
  generalize hA : (earP ps qs ks js).map pairD = A at *
  generalize hB : (latP ps qs ks js).map pairD = B at *
  have gE : ∀ (W : List D) (L : AH), getL (h ++ .lst A :: .lst B :: .lst W :: .lst [sLet, .loc (h.length + 2)] :: L) (h.length + 2) = some W := fun W L => by rw [getL_new (by omega)]; simp [getL]
  have gT : ∀ (W : List D) (L : AH), getL (h ++ .lst A :: .lst B :: .lst W :: .lst [sLet, .loc (h.length + 2)] :: L) (h.length + 3) = some [sLet, .loc (h.length + 2)] := fun W L => by rw [getL_new (by omega)]; simp [getL]
  have i0 := ixL 0 (gT (planD ps qs ks js) [])
  have i1 := ixL 1 (gT (planD ps qs ks js) [])
  simp [sLet] at i0 i1
  have sm := same4_loc (gE (planD ps qs ks js) []) (by omega) pp
  have il := isL (gE (planD ps qs ks js) [])
  have ap := append_ok (.tup [.int 0, .non, .str [117, 112]]) (gE (planD ps qs ks js) []) (by rw [bigv]; omega)
  have s1 : (h ++ AO.lst A :: AO.lst B :: AO.lst (planD ps qs ks js) :: AO.lst [sLet, D.loc (h.length + 2)] :: []).set (h.length + 2) (AO.lst (planD ps qs ks js ++ [D.tup [D.int 0, .non, D.str [117, 112]]])) = h ++ .lst A :: .lst B :: .lst (planD ps qs ks js ++ [.tup [.int 0, .non, .str [117, 112]]]) :: .lst [sLet, .loc (h.length + 2)] :: [] := by rw [set_new (by omega)]; simp
  rw [s1] at ap
  refine fnT_x rfl ?_
  rw [b_q_plan_right]
  simp only [envOf, List.map_cons, List.map_nil, List.length_cons, List.length_nil, List.cons_append, List.nil_append, Nat.reduceAdd, Nat.reduceSub, List.replicate_succ, List.replicate_zero]
  refine q_set (d := (.lst (planD ps qs ks js))) (h2 := h) (by simp [du]) ?_
  simp only [List.set_cons_succ, List.set_cons_zero]
  refine q_set (d := (.loc (h.length + 3))) (h2 := (h ++ [.lst A, .lst B, .lst (planD ps qs ks js), .lst [sLet, .loc (h.length + 2)]])) (by
    generalize h ++ [AO.lst A, .lst B, .lst (planD ps qs ks js), .lst [sLet, .loc (h.length + 2)]] = K at *
    simp [qp]) ?_
  simp only [List.set_cons_succ, List.set_cons_zero]
  refine q_if0 (h2 := (h ++ [.lst A, .lst B, .lst (planD ps qs ks js), .lst [sLet, .loc (h.length + 2)]])) (by
    unfold sLet at sm ⊢
    generalize h ++ [AO.lst A, .lst B, .lst (planD ps qs ks js), .lst [.str [108, 101, 116], .loc (h.length + 2)]] = K at *
    simp [i0, i1, sm]) ?_
  obtain ⟨K2, hK2⟩ : ∃ K2, K2 = h ++ .lst A :: .lst B :: .lst (planD ps qs ks js ++ [.tup [.int 0, .non, .str [117, 112]]]) :: .lst [sLet, .loc (h.length + 2)] :: [] := ⟨_, rfl⟩
  rw [← hK2] at ap
  refine q_ex (d := .non) (h2 := K2) (by
    unfold sLet at il ap ⊢
    generalize h ++ [AO.lst A, .lst B, .lst (planD ps qs ks js), .lst [.str [108, 101, 116], .loc (h.length + 2)]] = K at *
    simp [i1, il, ap]) ?_
  have qp2 := qplan_ok g g2 hl K2
  rw [hA, hB] at qp2
  have gE2 : getL (K2 ++ [.lst A, .lst B, .lst (planD ps qs ks js), .lst [sLet, .loc (K2.length + 2)]]) (K2.length + 2) = some (planD ps qs ks js) := by rw [getL_new (by omega)]; simp [getL]
  have gT2 : getL (K2 ++ [.lst A, .lst B, .lst (planD ps qs ks js), .lst [sLet, .loc (K2.length + 2)]]) (K2.length + 3) = some [sLet, .loc (K2.length + 2)] := by rw [getL_new (by omega)]; simp [getL]
  have j0 := ixL 0 gT2
  have j1 := ixL 1 gT2
  simp [sLet] at j0 j1
  have sm2 := same4_loc gE2 (by omega) pp
  have st := steps_right_ok g g2 hl gE2
  have ht : trim h (.ok (.bl true) (K2 ++ [.lst A, .lst B, .lst (planD ps qs ks js), .lst [sLet, .loc (K2.length + 2)]])) = .ok (.bl true) h := by
    rw [hK2, List.append_assoc]
    exact trim_app rfl rfl
  unfold sLet at qp2 st sm2 ht
  obtain ⟨K3, hK3⟩ : ∃ K3, K3 = K2 ++ [.lst A, .lst B, .lst (planD ps qs ks js), .lst [.str [108, 101, 116], .loc (K2.length + 2)]] := ⟨_, rfl⟩
  rw [← hK3] at qp2 st sm2 ht j0 j1
  have f1 := same4_fo g (SeqD.l (encP ps)) (SeqD.l (encK ks)) K3
  have f2 := same4_fo g2 (SeqD.l (encP qs)) (SeqD.l (encK js)) K3
  generalize K2.length = N at *
  clear hK3 hK2
  refine q_set (d := (.loc (N + 3))) (h2 := K3) (by simp [qp2]) ?_
  simp only [List.set_cons_succ, List.set_cons_zero]
  refine q_if0 (h2 := K3) (by simp [j0, j1, sm2]) ?_
  refine q_if0 (h2 := K3) (by simp [j1, st]) ?_
  simp [f1, f2, ht]
end
end Sm
end

section
set_option linter.all false
set_option maxRecDepth 10000
/-! Rp: k62: a second forest, near or far. -/
namespace Sm
theorem size4_ok {h : AH} {l : Nat} (t : Tp h l) : ∃ (n : Nat) (o : AO), 0 < n ∧ n ≤ 8 ∧ IsTp o ∧ F_q_size_v4 [.loc l] h = .ok (.int n) (h.set l o) := by
  have hl := t.lt
  obtain ⟨r8, o3, hr8, ho3, e3⟩ := takeN (n := 8) t (by omega) (by omega)
  obtain ⟨r2', o4, hr2', ho4, e4⟩ := takeN (n := 2) (Tp.set ho3 (by simpa using hl)) (by omega) (by omega)
  obtain ⟨r6, o5, hr6, ho5, e5⟩ := takeN (n := 6) (Tp.set ho3 (by simpa using hl)) (by omega) (by omega)
  simp only [List.set_set] at e4 e5
  simp at e3 e4 e5
  have ht : ∀ (o : AO) (n : Nat), IsTp o → trim h (.ok (.int n) (h.set l o)) = .ok (.int n) (h.set l o) := fun o n ho => trim_set0 ho rfl rfl
  by_cases c8 : r8 = 0
  · subst c8
    have t1 := ht o4 (7 + r2') ho4
    refine ⟨7 + r2', o4, by omega, by omega, ho4, fnT_x rfl ?_⟩
    simp at t1
    simp [b_q_size_v4, envOf, e3, e4, t1]
  · have c8' : ¬ (r8 : Int) = 0 := by omega
    have t1 := ht o5 (1 + r6) ho5
    refine ⟨1 + r6, o5, by omega, by omega, ho5, fnT_x rfl ?_⟩
    simp at t1
    simp [b_q_size_v4, envOf, e3, c8, c8', e5, t1]
/-- a list: a value, or an object made since b -/
def NewL (b : Nat) (h : AH) (d : D) (xs : List D) : Prop := d = .lst xs ∨ ∃ l, d = .loc l ∧ b ≤ l ∧ getL h l = some xs
theorem NewL.a {b : Nat} {h : AH} {d : D} {xs : List D} (r : NewL b h d xs) : SeqA h d xs := by
  rcases r with rfl | ⟨l, rfl, _, e⟩
  · exact (SeqD.l xs).a h
  · exact SeqA.loc e
theorem NewL.app {b : Nat} {h : AH} {d : D} {xs : List D} (r : NewL b h d xs) (L : AH) : NewL b (h ++ L) d xs := by
  rcases r with rfl | ⟨l, rfl, b1, e⟩
  · exact .inl rfl
  · exact .inr ⟨l, rfl, b1, by rw [getL_old (getL_lt e)]; exact e⟩
theorem NewL.set {b : Nat} {h : AH} {d : D} {xs : List D} (r : NewL b h d xs) {l : Nat} (hl : l < b) (o : AO) : NewL b (h.set l o) d xs := by
  rcases r with rfl | ⟨m, rfl, b1, e⟩
  · exact .inl rfl
  · exact .inr ⟨m, rfl, b1, by rw [getL_set_ne (by omega)]; exact e⟩
theorem NewL.frz {n k : Nat} {h : AH} {d : D} {xs : List D} (r : NewL n h d xs) (hc : clos n xs = true) : frzD h n (k + 1) d = some (.lst xs) := by
  rcases r with rfl | ⟨l, rfl, b1, e⟩
  · exact frz_clo (by rw [clo_lst]; exact hc)
  · exact frz_loc1 b1 e hc
theorem trim_new2 {h h1 : AH} {A B : D} {xs ys : List D} {l : Nat} {o : AO} {L : AH} (e : h1 = h.set l o ++ L) (ho : IsTp o) (ra : NewL h.length h1 A xs) (rb : NewL h.length h1 B ys) (ca : clos h.length xs = true) (cb : clos h.length ys = true) : trim h (.ok (.lst [A, B]) h1) = .ok (.lst [.lst xs, .lst ys]) (h.set l o) := by
  have fz : frz h.length h1 (.lst [A, B]) = some (.lst [.lst xs, .lst ys]) := by
    show (if clo h.length (D.lst [A, B]) = true then _ else frzD _ _ 8 _) = _
    have f8 : frzD h1 h.length 8 (.lst [A, B]) = some (.lst [.lst xs, .lst ys]) := frz_l (by
      simp only [mapO, ra.frz ca, rb.frz cb]
      rfl)
    split
    · rename_i c
      rw [frz_clo c] at f8
      exact f8
    · exact f8
  unfold trim
  dsimp only
  rw [fz]
  dsimp only
  have : pre h.length h h1 = true := by rw [e]; exact pre_app (by simp) (pre_set (ho.clo _))
  rw [this, chk_true, e, List.take_left' (by simp)]
theorem near2_ok {ps : Par} {ks : List Kd} (g : Good ps ks) {h : AH} {l : Nat} (t : Tp h l) : ∃ (qs : Par) (js : List Kd) (o : AO), qs.length = ps.length ∧ Good qs js ∧ IsTp o ∧ F_q_near_v2 [.loc l, .lst (encP ps), .lst (encK ks)] h = .ok (.lst [.lst (encP qs), .lst (encK js)]) (h.set l o) := by
  have hlh := t.lt
  have hle := g.le
  have hpos := g.pos
  obtain ⟨r6, o1, hr6, ho1, e1⟩ := takeN (n := 6) t (by omega) (by omega)
  simp at e1
  have i7 : inI (1 + (r6 : Int)) = true := by
    have := inI_nat (n := 1 + r6) (by omega)
    simpa using this
  have key : wp (F_q_near_v2 [.loc l, .lst (encP ps), .lst (encK ks)] h) fun d k => ∃ (qs : Par) (js : List Kd) (o : AO), qs.length = ps.length ∧ Good qs js ∧ IsTp o ∧ d = .lst [.lst (encP qs), .lst (encK js)] ∧ k = h.set l o := by
    refine fnT_w rfl ?_
    rw [b_q_near_v2]
    simp only [envOf, List.map_cons, List.map_nil, List.length_cons, List.length_nil, List.cons_append, List.nil_append, Nat.reduceAdd, Nat.reduceSub, List.replicate_succ, List.replicate_zero]
    refine q_set (d := (.int ps.length)) (h2 := h) (by simp) ?_
    simp only [List.set_cons_succ, List.set_cons_zero]
    refine q_set (d := (.lst [.lst (encP ps), .lst (encK ks)])) (h2 := h) (by simp) ?_
    simp only [List.set_cons_succ, List.set_cons_zero]
    refine q_any (P := fun fl k => ∃ (qs : Par) (js : List Kd) (A B : D) (o : AO) (L : AH) (a b c d e : Option D), fl = .nx [some (.loc l), some (.lst (encP ps)), some (.lst (encK ks)), some (.int ps.length), some (.lst [A, B]), a, b, c, d, e] ∧ k = h.set l o ++ L ∧ IsTp o ∧ qs.length = ps.length ∧ Good qs js ∧ NewL h.length k A (encP qs) ∧ NewL h.length k B (encK js)) ?_ ?_
    · refine for_it (xs := rng 0 (1 + (r6 : Int)).toNat) (h1 := h.set l o1) (by simp [e1, i7]) ?_
      refine for_w (I := fun i e k => ∃ (qs : Par) (js : List Kd) (A B : D) (o : AO) (L : AH) (a b c d e' : Option D), e = [some (.loc l), some (.lst (encP ps)), some (.lst (encK ks)), some (.int ps.length), some (.lst [A, B]), a, b, c, d, e'] ∧ k = h.set l o ++ L ∧ IsTp o ∧ qs.length = ps.length ∧ Good qs js ∧ NewL h.length k A (encP qs) ∧ NewL h.length k B (encK js)) ⟨ps, ks, _, _, o1, [], none, none, none, none, none, rfl, by simp, ho1, rfl, g, .inl rfl, .inl rfl⟩ ?_ ?_
      · rintro i z e k hz ⟨qs, js, A, B, o, L, a, b, c, d, e', rfl, hk, ho, hq, gq, ra, rb⟩
        obtain ⟨hil, rfl⟩ := rng_get0 hz
        have hkl : k.length = h.length + L.length := by rw [hk]; simp
        have tk : Tp k l := by rw [hk]; exact (Tp.set ho hlh).app
        have sk : ∀ o2 : AO, k.set l o2 = h.set l o2 ++ L := fun o2 => by rw [hk, set_old (by simpa using hlh), List.set_set]
        obtain ⟨fl, q1, hfl, hq1, f1⟩ := takeN (n := ps.length) tk (by omega) (by omega)
        obtain ⟨pk, q2, hpk, hq2, f2⟩ := takeN (n := 2 * ps.length + 2) (Tp.set hq1 tk.lt) (by omega) (by omega)
        rw [List.set_set] at f2
        rw [sk q1] at f1
        rw [sk q1, sk q2] at f2
        have cc : ((2 * ps.length + 2 : Nat) : Int) = 2 * (ps.length : Int) + 2 := by omega
        rw [cc] at f2
        have sm : (small 2 || small (ps.length : Int)) = true := by rw [show small 2 = true from rfl]; rfl
        -- the heap behind the draws
        obtain ⟨K, hK⟩ : ∃ K, K = h.set l q2 ++ L := ⟨_, rfl⟩
        have hKl : K.length = h.length + L.length := by rw [hK]; simp
        have raK : NewL h.length K A (encP qs) := by rw [hK, ← sk]; exact ra.set hlh q2
        have rbK : NewL h.length K B (encK js) := by rw [hK, ← sk]; exact rb.set hlh q2
        have l1 := listFA raK.a
        obtain ⟨w, hw⟩ : ∃ X : List (Option Int), X = (if pk < ps.length then (frP qs).set fl (some pk) else if pk = ps.length then (frP qs).set fl none else frP qs) := ⟨_, rfl⟩
        have hwl : w.length = ps.length := by rw [hw]; split <;> (try split) <;> simp [hq]
        have tK : Tp (K ++ [.lst (w.map encOI), .lst (encK js)]) l := by rw [hK]; exact ((Tp.set hq2 hlh).app).app
        obtain ⟨r4, q3, hr4, hq3, f3⟩ := takeN (n := 4) tK (by omega) (by omega)
        have hlK : l < K.length := by omega
        rw [set_old hlK] at f3
        obtain ⟨kx, hkx⟩ : ∃ kx : Kd, ([.str [117, 112], .str [100, 111, 119, 110], .str [102, 105, 114, 115, 116], .str [108, 97, 115, 116]] : List D)[r4]? = some (eK kx) := by
          match r4, hr4 with
          | 0, _ => exact ⟨.up, rfl⟩
          | 1, _ => exact ⟨.down, rfl⟩
          | 2, _ => exact ⟨.first, rfl⟩
          | 3, _ => exact ⟨.last, rfl⟩
        have l2 := listFA (rbK.app [.lst (w.map encOI)]).a
        have n1 : (K ++ [AO.lst (w.map encOI)]).length = K.length + 1 := by simp
        have e9 : K ++ [AO.lst (w.map encOI)] ++ [AO.lst (encK js)] = K ++ [.lst (w.map encOI), .lst (encK js)] := by simp
        rw [n1, e9] at l2
        obtain ⟨K3, hK3⟩ : ∃ K3, K3 = K.set l q3 := ⟨_, rfl⟩
        have hK3l : K3.length = K.length := by rw [hK3]; simp
        rw [← hK3] at f3
        have s3 : setIxD (.loc (K.length + 1)) (.int fl) (eK kx) (K3 ++ [.lst (w.map encOI), .lst (encK js)]) = .ok .non (K3 ++ [.lst (w.map encOI), .lst (encK (js.set fl kx))]) := by
          have := setIx_ok (h := K3 ++ [.lst (w.map encOI), .lst (encK js)]) (l := K3.length + 1) (xs := encK js) (i := (fl : Int)) (k := fl) (eK kx) (by rw [getL_new (by omega)]; simp [getL]) (ixN_nat (by rw [encK_len, gq.len]; omega))
          rw [set_new (by omega), encK_setN, hK3l] at this
          simpa using this
        have sq := seq01 K3 (w.map encOI) (encK (js.set fl kx)) []
        have ft := fault_ok sq.1 sq.2 (by omega)
        rw [hK3l] at ft
        simp at f1 f2 f3
        have f1 := f1
        rw [gV_def, bind_ok]
        simp only [List.set_cons_succ, List.set_cons_zero]
        refine q_set (d := (.int fl)) (h2 := (h.set l q1 ++ L)) (by simp [f1]) ?_
        simp only [List.set_cons_succ, List.set_cons_zero]
        refine q_set (d := (.int pk)) (h2 := K) (by
          rw [hK]
          generalize h.set l q1 ++ L = KA at *
          simp [sm, f2]) ?_
        simp only [List.set_cons_succ, List.set_cons_zero]
        refine q_set (d := (.loc K.length)) (h2 := (K ++ [.lst (encP qs)])) (by simp [l1]) ?_
        simp only [List.set_cons_succ, List.set_cons_zero]
        have six : ∀ v : Option Int, setIxD (.loc K.length) (.int fl) (encOI v) (K ++ [.lst (encP qs)]) = .ok .non (K ++ [.lst (((frP qs).set fl v).map encOI)]) := fun v => by
          have := setIx_ok (h := K ++ [.lst (encP qs)]) (l := K.length) (xs := encP qs) (i := (fl : Int)) (k := fl) (encOI v) (by rw [getL_new (Nat.le_refl _)]; simp) (ixN_nat (by rw [encP_len]; omega))
          rw [set_new (Nat.le_refl _), frP_set] at this
          simpa using this
        refine q_any (P := fun f k => f = .nx [some (.loc l), some (.lst (encP ps)), some (.lst (encK ks)), some (.int ps.length), some (.lst [A, B]), some (.int i), some (.int fl), some (.int pk), some (.loc K.length), e'] ∧ k = K ++ [.lst ((if pk < ps.length then (frP qs).set fl (some (pk : Int)) else frP qs).map encOI)]) ?_ ?_
        · have s1 := six (some pk)
          by_cases c : pk < ps.length
          · have c' : (pk : Int) < ps.length := by omega
            rw [if_pos c]
            refine if_yes (h1 := K ++ [.lst (encP qs)]) (by simp [c']) ?_
            generalize K ++ [AO.lst (((frP qs).set fl (some (pk : Int))).map encOI)] = KB at *
            generalize K ++ [AO.lst (encP qs)] = KA at *
            simp only [encOI] at s1
            simp [s1]
          · have c' : ¬ (pk : Int) < ps.length := by omega
            rw [if_neg c, frP_enc]
            exact if_no (h1 := K ++ [.lst (encP qs)]) (by simp [c']) ⟨rfl, rfl⟩
        rintro f k ⟨rfl, rfl⟩
        rw [kB2_nx]
        refine q_any (P := fun f k => f = .nx [some (.loc l), some (.lst (encP ps)), some (.lst (encK ks)), some (.int ps.length), some (.lst [A, B]), some (.int i), some (.int fl), some (.int pk), some (.loc K.length), e'] ∧ k = K ++ [.lst (w.map encOI)]) ?_ ?_
        · have s1 := six none
          by_cases c : pk < ps.length
          · have c' : ¬ (pk : Int) = ps.length := by omega
            have c2 : ¬ pk = ps.length := by omega
            rw [if_pos c] at hw ⊢
            rw [hw]
            exact if_no (h1 := K ++ [.lst (((frP qs).set fl (some (pk : Int))).map encOI)]) (by simp [c', c2]) ⟨rfl, rfl⟩
          · rw [if_neg c] at hw ⊢
            by_cases c2 : pk = ps.length
            · have c' : (pk : Int) = ps.length := by omega
              rw [if_pos c2] at hw
              rw [hw]
              rw [frP_enc]
              refine if_yes (h1 := K ++ [.lst (encP qs)]) (by simp [c']) ?_
              generalize K ++ [AO.lst (((frP qs).set fl none).map encOI)] = KB at *
              generalize K ++ [AO.lst (encP qs)] = KA at *
              simp only [encOI] at s1
              simp [s1]
            · have c' : ¬ (pk : Int) = ps.length := by omega
              rw [if_neg c2] at hw
              rw [hw]
              exact if_no (h1 := K ++ [.lst ((frP qs).map encOI)]) (by simp [c', c2]) ⟨rfl, rfl⟩
        rintro f k ⟨rfl, rfl⟩
        rw [kB2_nx]
        refine q_set (d := (.loc (K.length + 1))) (h2 := (K ++ [.lst (w.map encOI), .lst (encK js)])) (by
          generalize K ++ [AO.lst (w.map encOI)] = KA at *
          simp [l2]) ?_
        simp only [List.set_cons_succ, List.set_cons_zero]
        refine q_st (e2 := [some (.loc l), some (.lst (encP ps)), some (.lst (encK ks)), some (.int ps.length), some (.lst [A, B]), some (.int i), some (.int fl), some (.int pk), some (.loc K.length), some (.loc (K.length + 1))]) (h2 := K3 ++ [.lst (w.map encOI), .lst (encK (js.set fl kx))]) (by
          generalize K ++ [AO.lst (w.map encOI), .lst (encK js)] = KA at *
          generalize K3 ++ [AO.lst (w.map encOI), .lst (encK js)] = KB at *
          simp [f3, hkx, s3]) ?_
        clear six f1 f2 f3 s3 l1 l2
        have hKh : K3 = h.set l q3 ++ L := by rw [hK3, hK, set_old (by simpa using hlh), List.set_set]
        have raS : NewL h.length K3 A (encP qs) := by rw [hK3]; exact raK.set hlh q3
        have rbS : NewL h.length K3 B (encK js) := by rw [hK3]; exact rbK.set hlh q3
        cases hfl0 : flt w (js.set fl kx) with
        | none =>
          obtain ⟨en, gn⟩ := good_of hfl0
          rw [hfl0] at ft
          refine q_any (P := fun f k => f = .nx [some (.loc l), some (.lst (encP ps)), some (.lst (encK ks)), some (.int ps.length), some (.lst [.loc K.length, .loc (K.length + 1)]), some (.int i), some (.int fl), some (.int pk), some (.loc K.length), some (.loc (K.length + 1))] ∧ k = K3 ++ [.lst (w.map encOI), .lst (encK (js.set fl kx))]) ?_ ?_
          · refine if_yes (h1 := K3 ++ [.lst (w.map encOI), .lst (encK (js.set fl kx))]) (by
              generalize K3 ++ [AO.lst (w.map encOI), .lst (encK (js.set fl kx))] = KA at *
              simp [ft, fltD]) ?_
            simp
          rintro f k ⟨rfl, rfl⟩
          rw [kB2_nx, sB_nil]
          refine ⟨toP w, js.set fl kx, _, _, q3, L ++ [.lst (w.map encOI), .lst (encK (js.set fl kx))], _, _, _, _, _, rfl, by rw [hKh, List.append_assoc], hq3, by rw [toP_len]; exact hwl, gn, .inr ⟨K.length, rfl, by omega, ?_⟩, .inr ⟨K.length + 1, rfl, by omega, ?_⟩⟩
          · rw [← hK3l, getL_new (Nat.le_refl _), en]; simp
          · rw [← hK3l, getL_new (by omega)]; simp [getL]
        | some e9 =>
          rw [hfl0] at ft
          refine q_any (P := fun f k => f = .nx [some (.loc l), some (.lst (encP ps)), some (.lst (encK ks)), some (.int ps.length), some (.lst [A, B]), some (.int i), some (.int fl), some (.int pk), some (.loc K.length), some (.loc (K.length + 1))] ∧ k = K3 ++ [.lst (w.map encOI), .lst (encK (js.set fl kx))]) ?_ ?_
          · exact if_no (h1 := K3 ++ [.lst (w.map encOI), .lst (encK (js.set fl kx))]) (by
              generalize K3 ++ [AO.lst (w.map encOI), .lst (encK (js.set fl kx))] = KA at *
              simp [ft, fltD]) ⟨rfl, rfl⟩
          rintro f k ⟨rfl, rfl⟩
          rw [kB2_nx, sB_nil]
          exact ⟨qs, js, A, B, q3, L ++ [.lst (w.map encOI), .lst (encK (js.set fl kx))], _, _, _, _, _, rfl, by rw [hKh, List.append_assoc], hq3, hq, gq, raS.app _, rbS.app _⟩
      · rintro e k ⟨qs, js, A, B, o, L, a, b, c, d, e', rfl, hk, ho, hq, gq, ra, rb⟩
        exact ⟨qs, js, A, B, o, L, a, b, c, d, e', rfl, hk, ho, hq, gq, ra, rb⟩
    rintro fl k ⟨qs, js, A, B, o, L, a, b, c, d, e', rfl, hk, ho, hq, gq, ra, rb⟩
    rw [kB2_nx]
    have ht := trim_new2 hk ho ra rb (by simp) (by simp)
    simp [ht]
    exact ⟨qs, hq, js, gq, o, ho, ⟨rfl, rfl⟩, rfl⟩
  obtain ⟨d, k, e, qs, js, o, w1, w2, w3, rfl, rfl⟩ := wp_iff.mp key
  exact ⟨qs, js, o, w1, w2, w3, e⟩
theorem second_ok {ns : List Int} {ps : Par} {ks : List Kd} (g : Good ps ks) (h : AH) : ∃ (qs : Par) (js : List Kd), qs.length = ps.length ∧ Good qs js ∧ F_q_second [.scr (ns.map .int), .lst (encP ps), .lst (encK ks)] h = .ok (.lst [.lst (encP qs), .lst (encK js)]) h := by
  have hle := g.le
  have hpos := g.pos
  obtain ⟨o1, ho1, e1⟩ := tape_ok (xs := ns) (k := 2) (h := h)
  obtain ⟨r8, o2, hr8, ho2, e2⟩ := takeN (n := 8) (tpn (h := h) (L := []) ho1) (by omega) (by omega)
  rw [set_new (Nat.le_refl _)] at e2
  simp only [Nat.sub_self, List.set_cons_zero] at e2
  simp at e1 e2
  by_cases c : r8 < 4
  · obtain ⟨qs, o3, hqs, hac, ho3, e3⟩ := parents_ok (n := ps.length) (tpn (h := h) (L := []) ho2) (by omega)
    rw [set_new (Nat.le_refl _)] at e3
    simp only [Nat.sub_self, List.set_cons_zero] at e3
    obtain ⟨p1, hp1, e4⟩ := tape_ok (xs := ns) (k := 3) (h := h ++ [o3])
    obtain ⟨js, p2, hjs, hok, hp2, e5⟩ := kinds_ok (SeqD.l (encP qs)) (tpn (h := h ++ [o3]) (L := []) hp1) (by omega) false
    rw [set_new (Nat.le_refl _)] at e5
    simp only [Nat.sub_self, List.set_cons_zero] at e5
    have g2 : Good qs js := .of (by omega) (by omega) hac hjs hok
    have ht : trim h (.ok (.lst [.lst (encP qs), .lst (encK js)]) (h ++ [o3] ++ [p2])) = .ok (.lst [.lst (encP qs), .lst (encK js)]) h := by rw [List.append_assoc]; exact trim_app rfl (by simp)
    refine ⟨qs, js, hqs, g2, fnT_x rfl ?_⟩
    have c' : (r8 : Int) < 4 := by omega
    try simp at e3
    generalize h ++ [o3] = K at *
    generalize K ++ [p2] = K2 at *
    try simp at e4
    try simp at e5
    simp [b_q_second, envOf, e1, e2, c', e3, e4, e5, ht]
  · have c' : ¬ (r8 : Int) < 4 := by omega
    by_cases c4 : r8 = 4
    · have c4' : (r8 : Int) = 4 := by omega
      have ht := trim_app (h := h) (L := [o2]) (d := .lst [.lst (encP ps), .lst (encK ks)]) rfl (by simp)
      refine ⟨ps, ks, rfl, g, fnT_x rfl ?_⟩
      simp [b_q_second, envOf, e1, e2, c4', ht]
    · have c4' : ¬ (r8 : Int) = 4 := by omega
      obtain ⟨qs, js, o3, hq, g2, ho3, e3⟩ := near2_ok g (tpn (h := h) (L := []) ho2)
      rw [set_new (Nat.le_refl _)] at e3
      simp only [Nat.sub_self, List.set_cons_zero] at e3
      have ht := trim_app (h := h) (L := [o3]) (d := .lst [.lst (encP qs), .lst (encK js)]) rfl (by simp)
      refine ⟨qs, js, hq, g2, fnT_x rfl ?_⟩
      simp [b_q_second, envOf, e1, e2, c, c', c4, c4', e3, ht]
end Sm
end

section
set_option Elab.async false
set_option linter.all false
set_option maxRecDepth 100000
set_option maxHeartbeats 2000000
namespace Sm.K62
open PySem PySem.Spec PyProof.Rows L2 Sm
def topS (i : Nat) : Stmt := PySem.Challenge.pw_fieldrides_k62_whole_change_plans.main.body.getD i (.Pass ⟨0, 0, 0, 0⟩)
abbrev s_never_ends : Stmt := topS 17
theorem S_never_ends : FnScope ["parents", "field", "place", "_"] ["parents", "field"] (defScope s_never_ends) := ⟨rfl, rfl, rfl, by decide +kernel, rfl, by decide +kernel, by decide +kernel⟩
abbrev s_check_shape : Stmt := topS 18
theorem S_check_shape : FnScope ["parents", "kinds", "fields", "field"] ["parents", "kinds"] (defScope s_check_shape) := ⟨rfl, rfl, rfl, by decide +kernel, rfl, by decide +kernel, by decide +kernel⟩
abbrev s_Forest_init : Stmt := inClass (topS 19) 0
theorem S_Forest_init : FnScope ["self", "parents", "kinds"] ["self", "parents", "kinds"] (defScope s_Forest_init) := ⟨rfl, rfl, rfl, by decide +kernel, rfl, by decide +kernel, by decide +kernel⟩
abbrev s_q_is_integer : Stmt := topS 32
theorem S_q_is_integer : FnScope ["_law_actual"] ["_law_actual"] (defScope s_q_is_integer) := ⟨rfl, rfl, rfl, by decide +kernel, rfl, by decide +kernel, by decide +kernel⟩
abbrev s_q_same : Stmt := topS 33
theorem S_q_same : FnScope ["_law_actual", "_law_due", "_law_k"] ["_law_actual", "_law_due"] (defScope s_q_same) := ⟨rfl, rfl, rfl, by decide +kernel, rfl, by decide +kernel, by decide +kernel⟩
abbrev s_q_is_differ : Stmt := topS 40
theorem S_q_is_differ : FnScope ["_law_actual", "_law_first", "_law_second_here"] ["_law_actual", "_law_first", "_law_second_here"] (defScope s_q_is_differ) := ⟨rfl, rfl, rfl, by decide +kernel, rfl, by decide +kernel, by decide +kernel⟩
abbrev s_q_take : Stmt := topS 26
theorem S_q_take : FnScope ["_law_tape_here", "_law_size_here", "_law_cell", "_law_k", "_law_mixed"] ["_law_tape_here", "_law_size_here"] (defScope s_q_take) := ⟨rfl, rfl, rfl, by decide +kernel, rfl, by decide +kernel, by decide +kernel⟩
abbrev s_q_kinds : Stmt := topS 29
theorem S_q_kinds : FnScope ["_law_tape_here", "_law_parents_here", "_law_fair", "_law_kinds_here", "_law_field", "_law_pick"] ["_law_tape_here", "_law_parents_here", "_law_fair"] (defScope s_q_kinds) := ⟨rfl, rfl, rfl, by decide +kernel, rfl, by decide +kernel, by decide +kernel⟩
abbrev s_q_turns : Stmt := topS 27
theorem S_q_turns : FnScope ["_law_tape_here", "_law_n", "_law_left", "_law_turns_here", "_law_k"] ["_law_tape_here", "_law_n"] (defScope s_q_turns) := ⟨rfl, rfl, rfl, by decide +kernel, rfl, by decide +kernel, by decide +kernel⟩
abbrev s_q_parents : Stmt := topS 28
theorem S_q_parents : FnScope ["_law_tape_here", "_law_n", "_law_turns_here", "_law_bend", "_law_parents_here", "_law_k", "_law_pick"] ["_law_tape_here", "_law_n"] (defScope s_q_parents) := ⟨rfl, rfl, rfl, by decide +kernel, rfl, by decide +kernel, by decide +kernel⟩
abbrev s_path_of : Stmt := topS 10
theorem S_path_of : FnScope ["parents", "field", "path"] ["parents", "field"] (defScope s_path_of) := ⟨rfl, rfl, rfl, by decide +kernel, rfl, by decide +kernel, by decide +kernel⟩
abbrev s_Forest_path : Stmt := inClass (topS 19) 5
theorem S_Forest_path : FnScope ["self", "field"] ["self", "field"] (defScope s_Forest_path) := ⟨rfl, rfl, rfl, by decide +kernel, rfl, by decide +kernel, by decide +kernel⟩
abbrev s_check_same_fields : Stmt := topS 21
theorem S_check_same_fields : FnScope ["first", "second"] ["first", "second"] (defScope s_check_same_fields) := ⟨rfl, rfl, rfl, by decide +kernel, rfl, by decide +kernel, by decide +kernel⟩
abbrev s_change_plan : Stmt := topS 23
theorem S_change_plan : FnScope ["first", "second", "early", "late", "field", "turns", "place"] ["first", "second"] (defScope s_change_plan) := ⟨rfl, rfl, rfl, by decide +kernel, rfl, by decide +kernel, by decide +kernel⟩
abbrev s_q_plan : Stmt := topS 39
theorem S_q_plan : FnScope ["_law_first", "_law_second_here", "_law_actual", "e", "_law_alone"] ["_law_first", "_law_second_here"] (defScope s_q_plan) := ⟨rfl, rfl, rfl, by decide +kernel, rfl, by decide +kernel, by decide +kernel⟩
abbrev s_q_path : Stmt := topS 30
theorem S_q_path : FnScope ["_law_parents_here", "_law_field", "_law_path_here", "_law_k"] ["_law_parents_here", "_law_field"] (defScope s_q_path) := ⟨rfl, rfl, rfl, by decide +kernel, rfl, by decide +kernel, by decide +kernel⟩
abbrev s_q_due_plan : Stmt := topS 41
theorem S_q_due_plan : FnScope ["_law_one", "_law_two", "_law_early", "_law_late", "_law_field", "_law_turns_here", "_law_place"] ["_law_one", "_law_two"] (defScope s_q_due_plan) := ⟨rfl, rfl, rfl, by decide +kernel, rfl, by decide +kernel, by decide +kernel⟩
abbrev s_q_same_forest : Stmt := topS 34
theorem S_q_same_forest : FnScope ["_law_actual", "_law_parents_here", "_law_kinds_here"] ["_law_actual", "_law_parents_here", "_law_kinds_here"] (defScope s_q_same_forest) := ⟨rfl, rfl, rfl, by decide +kernel, rfl, by decide +kernel, by decide +kernel⟩
abbrev s_Forest_word : Stmt := inClass (topS 19) 6
theorem S_Forest_word : FnScope ["self", "field", "place"] ["self", "field"] (defScope s_Forest_word) := ⟨rfl, rfl, rfl, by decide +kernel, rfl, by decide +kernel, by decide +kernel⟩
abbrev s_q_fault : Stmt := topS 35
theorem S_q_fault : FnScope ["_law_parents_here", "_law_kinds_here", "_law_n", "_law_field", "_law_place", "_law_k"] ["_law_parents_here", "_law_kinds_here"] (defScope s_q_fault) := ⟨rfl, rfl, rfl, by decide +kernel, rfl, by decide +kernel, by decide +kernel⟩
abbrev s_q_word : Stmt := topS 31
theorem S_q_word : FnScope ["_law_parents_here", "_law_kinds_here", "_law_field", "_law_place"] ["_law_parents_here", "_law_kinds_here", "_law_field"] (defScope s_q_word) := ⟨rfl, rfl, rfl, by decide +kernel, rfl, by decide +kernel, by decide +kernel⟩
abbrev s_check_place : Stmt := topS 14
theorem S_check_place : FnScope ["fields", "place"] ["fields", "place"] (defScope s_check_place) := ⟨rfl, rfl, rfl, by decide +kernel, rfl, by decide +kernel, by decide +kernel⟩
abbrev s_change : Stmt := topS 22
theorem S_change : FnScope ["forest", "field", "parent", "kind", "parents", "kinds"] ["forest", "field", "parent", "kind"] (defScope s_change) := ⟨rfl, rfl, rfl, by decide +kernel, rfl, by decide +kernel, by decide +kernel⟩
abbrev s_q_steps_right : Stmt := topS 42
theorem S_q_steps_right : FnScope ["_law_first", "_law_one", "_law_two", "_law_plan_here", "_law_n", "_law_words", "_law_field", "_law_alike", "_law_forest", "_law_parents_here", "_law_kinds_here", "_law_step"] ["_law_first", "_law_one", "_law_two", "_law_plan_here"] (defScope s_q_steps_right) := ⟨rfl, rfl, rfl, by decide +kernel, rfl, by decide +kernel, by decide +kernel⟩
abbrev s_q_plan_right : Stmt := topS 43
theorem S_q_plan_right : FnScope ["_law_first", "_law_second_here", "_law_one", "_law_two", "_law_due", "_law_actual", "_law_again"] ["_law_first", "_law_second_here", "_law_one", "_law_two"] (defScope s_q_plan_right) := ⟨rfl, rfl, rfl, by decide +kernel, rfl, by decide +kernel, by decide +kernel⟩
abbrev s_q_near : Stmt := topS 37
theorem S_q_near : FnScope ["_law_tape_here", "_law_parents_here", "_law_kinds_here", "_law_n", "_law_near_here", "_law_k", "_law_field", "_law_pick", "_law_moved", "_law_turned"] ["_law_tape_here", "_law_parents_here", "_law_kinds_here"] (defScope s_q_near) := ⟨rfl, rfl, rfl, by decide +kernel, rfl, by decide +kernel, by decide +kernel⟩
abbrev s_q_tape : Stmt := topS 25
theorem S_q_tape : FnScope ["_law_script", "_law_k"] ["_law_script", "_law_k"] (defScope s_q_tape) := ⟨rfl, rfl, rfl, by decide +kernel, rfl, by decide +kernel, by decide +kernel⟩
abbrev s_q_second : Stmt := topS 38
theorem S_q_second : FnScope ["_law_script", "_law_parents_here", "_law_kinds_here", "_law_tape_here", "_law_pick", "_law_free"] ["_law_script", "_law_parents_here", "_law_kinds_here"] (defScope s_q_second) := ⟨rfl, rfl, rfl, by decide +kernel, rfl, by decide +kernel, by decide +kernel⟩
abbrev s_q_size : Stmt := topS 36
theorem S_q_size : FnScope ["_law_tape_here"] ["_law_tape_here"] (defScope s_q_size) := ⟨rfl, rfl, rfl, by decide +kernel, rfl, by decide +kernel, by decide +kernel⟩
abbrev s_law : Stmt := topS 44
theorem S_law : FnScope ["_law_script", "_law_tape_here", "_law_n", "_law_other", "_law_parents_here", "_law_one", "_law_two", "_law_first", "_law_second_here", "_law_third", "_law_k", "_law_same_here"] ["_law_script"] (defScope s_law) := ⟨rfl, rfl, rfl, by decide +kernel, rfl, by decide +kernel, by decide +kernel⟩
abbrev s_ex_BadForest : Stmt := inClass (topS 4) 0
abbrev s_ex_BadPlace : Stmt := inClass (topS 7) 0
abbrev s_ex_FieldsDiffer : Stmt := inClass (topS 5) 0
/-- what the top has written -/
structure Gd (K : PySem.W.Frag) (mg : Str → Option Value) where
  c_Forest : Addr
  mC_Forest : mg "Forest" = some (.ref c_Forest)
  cl_Forest : Cls K c_Forest
  ic_Forest : IsC K c_Forest
  na_Forest_fields : NoAttr K c_Forest "fields"
  na_Forest_kinds : NoAttr K c_Forest "kinds"
  na_Forest_parents : NoAttr K c_Forest "parents"
  a_never_ends : Addr
  d_never_ends : FuncData
  F_never_ends : Fun K "never_ends" "never_ends" s_never_ends a_never_ends d_never_ends
  b_never_ends : Binds K d_never_ends ["parents", "field"] []
  m_never_ends : mg "never_ends" = some (.ref a_never_ends)
  a_check_shape : Addr
  d_check_shape : FuncData
  F_check_shape : Fun K "check_shape" "check_shape" s_check_shape a_check_shape d_check_shape
  b_check_shape : Binds K d_check_shape ["parents", "kinds"] []
  m_check_shape : mg "check_shape" = some (.ref a_check_shape)
  a_Forest_init : Addr
  d_Forest_init : FuncData
  F_Forest_init : Fun K "__init__" "Forest.__init__" s_Forest_init a_Forest_init d_Forest_init
  b_Forest_init : Binds K d_Forest_init ["self", "parents", "kinds"] []
  mk_Forest : Mk K c_Forest a_Forest_init
  a_q_is_integer : Addr
  d_q_is_integer : FuncData
  F_q_is_integer : Fun K "_law_is_integer" "_law_is_integer" s_q_is_integer a_q_is_integer d_q_is_integer
  b_q_is_integer : Binds K d_q_is_integer ["_law_actual"] []
  m_q_is_integer : mg "_law_is_integer" = some (.ref a_q_is_integer)
  a_q_same : Addr
  d_q_same : FuncData
  F_q_same : Fun K "_law_same" "_law_same" s_q_same a_q_same d_q_same
  b_q_same : Binds K d_q_same ["_law_actual", "_law_due"] []
  m_q_same : mg "_law_same" = some (.ref a_q_same)
  a_q_is_differ : Addr
  d_q_is_differ : FuncData
  F_q_is_differ : Fun K "_law_is_differ" "_law_is_differ" s_q_is_differ a_q_is_differ d_q_is_differ
  b_q_is_differ : Binds K d_q_is_differ ["_law_actual", "_law_first", "_law_second_here"] []
  m_q_is_differ : mg "_law_is_differ" = some (.ref a_q_is_differ)
  a_q_take : Addr
  d_q_take : FuncData
  F_q_take : Fun K "_law_take" "_law_take" s_q_take a_q_take d_q_take
  b_q_take : Binds K d_q_take ["_law_tape_here", "_law_size_here"] []
  m_q_take : mg "_law_take" = some (.ref a_q_take)
  a_q_kinds : Addr
  d_q_kinds : FuncData
  F_q_kinds : Fun K "_law_kinds" "_law_kinds" s_q_kinds a_q_kinds d_q_kinds
  b_q_kinds : Binds K d_q_kinds ["_law_tape_here", "_law_parents_here", "_law_fair"] []
  m_q_kinds : mg "_law_kinds" = some (.ref a_q_kinds)
  a_q_turns : Addr
  d_q_turns : FuncData
  F_q_turns : Fun K "_law_turns" "_law_turns" s_q_turns a_q_turns d_q_turns
  b_q_turns : Binds K d_q_turns ["_law_tape_here", "_law_n"] []
  m_q_turns : mg "_law_turns" = some (.ref a_q_turns)
  a_q_parents : Addr
  d_q_parents : FuncData
  F_q_parents : Fun K "_law_parents" "_law_parents" s_q_parents a_q_parents d_q_parents
  b_q_parents : Binds K d_q_parents ["_law_tape_here", "_law_n"] []
  m_q_parents : mg "_law_parents" = some (.ref a_q_parents)
  a_path_of : Addr
  d_path_of : FuncData
  F_path_of : Fun K "path_of" "path_of" s_path_of a_path_of d_path_of
  b_path_of : Binds K d_path_of ["parents", "field"] []
  m_path_of : mg "path_of" = some (.ref a_path_of)
  a_Forest_path : Addr
  d_Forest_path : FuncData
  F_Forest_path : Fun K "path" "Forest.path" s_Forest_path a_Forest_path d_Forest_path
  b_Forest_path : Binds K d_Forest_path ["self", "field"] []
  me_Forest_path : Meth K c_Forest "path" a_Forest_path
  a_check_same_fields : Addr
  d_check_same_fields : FuncData
  F_check_same_fields : Fun K "check_same_fields" "check_same_fields" s_check_same_fields a_check_same_fields d_check_same_fields
  b_check_same_fields : Binds K d_check_same_fields ["first", "second"] []
  m_check_same_fields : mg "check_same_fields" = some (.ref a_check_same_fields)
  a_change_plan : Addr
  d_change_plan : FuncData
  F_change_plan : Fun K "change_plan" "change_plan" s_change_plan a_change_plan d_change_plan
  b_change_plan : Binds K d_change_plan ["first", "second"] []
  m_change_plan : mg "change_plan" = some (.ref a_change_plan)
  a_q_plan : Addr
  d_q_plan : FuncData
  F_q_plan : Fun K "_law_plan" "_law_plan" s_q_plan a_q_plan d_q_plan
  b_q_plan : Binds K d_q_plan ["_law_first", "_law_second_here"] []
  m_q_plan : mg "_law_plan" = some (.ref a_q_plan)
  a_q_path : Addr
  d_q_path : FuncData
  F_q_path : Fun K "_law_path" "_law_path" s_q_path a_q_path d_q_path
  b_q_path : Binds K d_q_path ["_law_parents_here", "_law_field"] []
  m_q_path : mg "_law_path" = some (.ref a_q_path)
  a_q_due_plan : Addr
  d_q_due_plan : FuncData
  F_q_due_plan : Fun K "_law_due_plan" "_law_due_plan" s_q_due_plan a_q_due_plan d_q_due_plan
  b_q_due_plan : Binds K d_q_due_plan ["_law_one", "_law_two"] []
  m_q_due_plan : mg "_law_due_plan" = some (.ref a_q_due_plan)
  a_q_same_forest : Addr
  d_q_same_forest : FuncData
  F_q_same_forest : Fun K "_law_same_forest" "_law_same_forest" s_q_same_forest a_q_same_forest d_q_same_forest
  b_q_same_forest : Binds K d_q_same_forest ["_law_actual", "_law_parents_here", "_law_kinds_here"] []
  m_q_same_forest : mg "_law_same_forest" = some (.ref a_q_same_forest)
  a_Forest_word : Addr
  d_Forest_word : FuncData
  F_Forest_word : Fun K "word" "Forest.word" s_Forest_word a_Forest_word d_Forest_word
  b_Forest_word : Binds K d_Forest_word ["self", "field"] []
  me_Forest_word : Meth K c_Forest "word" a_Forest_word
  a_q_fault : Addr
  d_q_fault : FuncData
  F_q_fault : Fun K "_law_fault" "_law_fault" s_q_fault a_q_fault d_q_fault
  b_q_fault : Binds K d_q_fault ["_law_parents_here", "_law_kinds_here"] []
  m_q_fault : mg "_law_fault" = some (.ref a_q_fault)
  a_q_word : Addr
  d_q_word : FuncData
  F_q_word : Fun K "_law_word" "_law_word" s_q_word a_q_word d_q_word
  b_q_word : Binds K d_q_word ["_law_parents_here", "_law_kinds_here", "_law_field"] []
  m_q_word : mg "_law_word" = some (.ref a_q_word)
  a_check_place : Addr
  d_check_place : FuncData
  F_check_place : Fun K "check_place" "check_place" s_check_place a_check_place d_check_place
  b_check_place : Binds K d_check_place ["fields", "place"] []
  m_check_place : mg "check_place" = some (.ref a_check_place)
  a_change : Addr
  d_change : FuncData
  F_change : Fun K "change" "change" s_change a_change d_change
  b_change : Binds K d_change ["forest", "field", "parent", "kind"] []
  m_change : mg "change" = some (.ref a_change)
  a_q_steps_right : Addr
  d_q_steps_right : FuncData
  F_q_steps_right : Fun K "_law_steps_right" "_law_steps_right" s_q_steps_right a_q_steps_right d_q_steps_right
  b_q_steps_right : Binds K d_q_steps_right ["_law_first", "_law_one", "_law_two", "_law_plan_here"] []
  m_q_steps_right : mg "_law_steps_right" = some (.ref a_q_steps_right)
  a_q_plan_right : Addr
  d_q_plan_right : FuncData
  F_q_plan_right : Fun K "_law_plan_right" "_law_plan_right" s_q_plan_right a_q_plan_right d_q_plan_right
  b_q_plan_right : Binds K d_q_plan_right ["_law_first", "_law_second_here", "_law_one", "_law_two"] []
  m_q_plan_right : mg "_law_plan_right" = some (.ref a_q_plan_right)
  a_q_near : Addr
  d_q_near : FuncData
  F_q_near : Fun K "_law_near" "_law_near" s_q_near a_q_near d_q_near
  b_q_near : Binds K d_q_near ["_law_tape_here", "_law_parents_here", "_law_kinds_here"] []
  m_q_near : mg "_law_near" = some (.ref a_q_near)
  a_q_tape : Addr
  d_q_tape : FuncData
  F_q_tape : Fun K "_law_tape" "_law_tape" s_q_tape a_q_tape d_q_tape
  b_q_tape : Binds K d_q_tape ["_law_script", "_law_k"] []
  m_q_tape : mg "_law_tape" = some (.ref a_q_tape)
  a_q_second : Addr
  d_q_second : FuncData
  F_q_second : Fun K "_law_second" "_law_second" s_q_second a_q_second d_q_second
  b_q_second : Binds K d_q_second ["_law_script", "_law_parents_here", "_law_kinds_here"] []
  m_q_second : mg "_law_second" = some (.ref a_q_second)
  a_q_size : Addr
  d_q_size : FuncData
  F_q_size : Fun K "_law_size" "_law_size" s_q_size a_q_size d_q_size
  b_q_size : Binds K d_q_size ["_law_tape_here"] []
  m_q_size : mg "_law_size" = some (.ref a_q_size)
  a_law : Addr
  d_law : FuncData
  F_law : Fun K "law" "law" s_law a_law d_law
  b_law : Binds K d_law ["_law_script"] []
  m_law : mg "law" = some (.ref a_law)
  z_ValueError : mg "ValueError" = none
  z_abs : mg "abs" = none
  z_bool : mg "bool" = none
  z_int : mg "int" = none
  z_isinstance : mg "isinstance" = none
  z_len : mg "len" = none
  z_list : mg "list" = none
  z_range : mg "range" = none
  z_sorted : mg "sorted" = none
  z_str : mg "str" = none
  z_tuple : mg "tuple" = none
  g_MOST_FIELDS : ∃ t : Tok, mg "MOST_FIELDS" = some (.int 16 t)
  c_BadForest : Addr
  mE_BadForest : mg "BadForest" = some (.ref c_BadForest)
  e_BadForest : ErrC K c_BadForest
  c_BadPlace : Addr
  mE_BadPlace : mg "BadPlace" = some (.ref c_BadPlace)
  e_BadPlace : ErrC K c_BadPlace
  c_BadRecord : Addr
  mE_BadRecord : mg "BadRecord" = some (.ref c_BadRecord)
  e_BadRecord : ErrC K c_BadRecord
  c_FieldridesError : Addr
  mE_FieldridesError : mg "FieldridesError" = some (.ref c_FieldridesError)
  e_FieldridesError : ErrC K c_FieldridesError
  c_FieldsDiffer : Addr
  mE_FieldsDiffer : mg "FieldsDiffer" = some (.ref c_FieldsDiffer)
  e_FieldsDiffer : ErrC K c_FieldsDiffer
  c_WordsClash : Addr
  mE_WordsClash : mg "WordsClash" = some (.ref c_WordsClash)
  e_WordsClash : ErrC K c_WordsClash
  su_BadForest_FieldsDiffer : PySem.W.subIn K (.ref c_BadForest) (.ref c_FieldsDiffer) = some false
  su_BadPlace_FieldsDiffer : PySem.W.subIn K (.ref c_BadPlace) (.ref c_FieldsDiffer) = some false
  su_BadRecord_FieldsDiffer : PySem.W.subIn K (.ref c_BadRecord) (.ref c_FieldsDiffer) = some false
  su_FieldsDiffer_BadForest : PySem.W.subIn K (.ref c_FieldsDiffer) (.ref c_BadForest) = some false
  su_FieldsDiffer_BadPlace : PySem.W.subIn K (.ref c_FieldsDiffer) (.ref c_BadPlace) = some false
  su_FieldsDiffer_FieldridesError : PySem.W.subIn K (.ref c_FieldsDiffer) (.ref c_FieldridesError) = some true
  su_FieldsDiffer_FieldsDiffer : PySem.W.subIn K (.ref c_FieldsDiffer) (.ref c_FieldsDiffer) = some true
  su_FieldsDiffer_WordsClash : PySem.W.subIn K (.ref c_FieldsDiffer) (.ref c_WordsClash) = some false
  sv_FieldsDiffer : PySem.W.subIn K (.ref c_FieldsDiffer) (.type "ValueError") = some true
  su_WordsClash_FieldsDiffer : PySem.W.subIn K (.ref c_WordsClash) (.ref c_FieldsDiffer) = some false
  n_BadForest_field : PySem.W.findIn K (.ref c_BadForest) "field" = some none
  n_BadPlace_place : PySem.W.findIn K (.ref c_BadPlace) "place" = some none
  n_FieldsDiffer_first : PySem.W.findIn K (.ref c_FieldsDiffer) "first" = some none
  n_FieldsDiffer_second : PySem.W.findIn K (.ref c_FieldsDiffer) "second" = some none
  n_WordsClash_first : PySem.W.findIn K (.ref c_WordsClash) "first" = some none
  n_WordsClash_second : PySem.W.findIn K (.ref c_WordsClash) "second" = some none
  ox_BadForest : oexB K c_BadForest = true
  aI_BadForest : Addr
  iC_BadForest : PySem.W.findIn K (.ref c_BadForest) "__init__" = some (some (.ref aI_BadForest))
  tI_BadForest : PySem.W.typeIn K (.ref aI_BadForest) = some (.type "function")
  dI_BadForest : FuncData
  cc_BadForest : Addr
  ca_BadForest : Addr
  D_BadForest : Addr
  LI_BadForest : ∃ oc od sl kV dc pm an ct, K.lookup aI_BadForest = some ⟨oc, od, .func (PySem.W.fnX "__init__" "BadForest.__init__" (defArgs s_ex_BadForest) (defBody s_ex_BadForest) (defScope s_ex_BadForest) [("__class__", cc_BadForest)] .none kV dc pm an (.ref ca_BadForest) ct), sl⟩ ∧ dI_BadForest = PySem.W.fnX "__init__" "BadForest.__init__" (defArgs s_ex_BadForest) (defBody s_ex_BadForest) (defScope s_ex_BadForest) [("__class__", cc_BadForest)] .none kV dc pm an (.ref ca_BadForest) ct ∧ PySem.W.codeIn K (.ref ca_BadForest) "BadForest.__init__" = true
  sc_BadForest : SupC PySem.Challenge.rw_fieldrides_k62_whole_change_plans.prog K c_BadForest D_BadForest cc_BadForest ca_BadForest
  bE_BadForest : Binds K dI_BadForest ["self", "field"] []
  ox_BadPlace : oexB K c_BadPlace = true
  aI_BadPlace : Addr
  iC_BadPlace : PySem.W.findIn K (.ref c_BadPlace) "__init__" = some (some (.ref aI_BadPlace))
  tI_BadPlace : PySem.W.typeIn K (.ref aI_BadPlace) = some (.type "function")
  dI_BadPlace : FuncData
  cc_BadPlace : Addr
  ca_BadPlace : Addr
  D_BadPlace : Addr
  LI_BadPlace : ∃ oc od sl kV dc pm an ct, K.lookup aI_BadPlace = some ⟨oc, od, .func (PySem.W.fnX "__init__" "BadPlace.__init__" (defArgs s_ex_BadPlace) (defBody s_ex_BadPlace) (defScope s_ex_BadPlace) [("__class__", cc_BadPlace)] .none kV dc pm an (.ref ca_BadPlace) ct), sl⟩ ∧ dI_BadPlace = PySem.W.fnX "__init__" "BadPlace.__init__" (defArgs s_ex_BadPlace) (defBody s_ex_BadPlace) (defScope s_ex_BadPlace) [("__class__", cc_BadPlace)] .none kV dc pm an (.ref ca_BadPlace) ct ∧ PySem.W.codeIn K (.ref ca_BadPlace) "BadPlace.__init__" = true
  sc_BadPlace : SupC PySem.Challenge.rw_fieldrides_k62_whole_change_plans.prog K c_BadPlace D_BadPlace cc_BadPlace ca_BadPlace
  bE_BadPlace : Binds K dI_BadPlace ["self", "place"] []
  ox_FieldsDiffer : oexB K c_FieldsDiffer = true
  aI_FieldsDiffer : Addr
  iC_FieldsDiffer : PySem.W.findIn K (.ref c_FieldsDiffer) "__init__" = some (some (.ref aI_FieldsDiffer))
  tI_FieldsDiffer : PySem.W.typeIn K (.ref aI_FieldsDiffer) = some (.type "function")
  dI_FieldsDiffer : FuncData
  cc_FieldsDiffer : Addr
  ca_FieldsDiffer : Addr
  D_FieldsDiffer : Addr
  LI_FieldsDiffer : ∃ oc od sl kV dc pm an ct, K.lookup aI_FieldsDiffer = some ⟨oc, od, .func (PySem.W.fnX "__init__" "FieldsDiffer.__init__" (defArgs s_ex_FieldsDiffer) (defBody s_ex_FieldsDiffer) (defScope s_ex_FieldsDiffer) [("__class__", cc_FieldsDiffer)] .none kV dc pm an (.ref ca_FieldsDiffer) ct), sl⟩ ∧ dI_FieldsDiffer = PySem.W.fnX "__init__" "FieldsDiffer.__init__" (defArgs s_ex_FieldsDiffer) (defBody s_ex_FieldsDiffer) (defScope s_ex_FieldsDiffer) [("__class__", cc_FieldsDiffer)] .none kV dc pm an (.ref ca_FieldsDiffer) ct ∧ PySem.W.codeIn K (.ref ca_FieldsDiffer) "FieldsDiffer.__init__" = true
  sc_FieldsDiffer : SupC PySem.Challenge.rw_fieldrides_k62_whole_change_plans.prog K c_FieldsDiffer D_FieldsDiffer cc_FieldsDiffer ca_FieldsDiffer
  bE_FieldsDiffer : Binds K dI_FieldsDiffer ["self", "first", "second"] []
  z_super : mg "super" = none
section
variable {w : World} {K : PySem.W.Frag} {mg : Str → Option Value} {base : Heap}
theorem ok_ex_BadForest (G : Gd K mg) : FnOk PySem.Challenge.rw_fieldrides_k62_whole_change_plans.prog w K mg base (L2.CX PySem.Challenge.rw_fieldrides_k62_whole_change_plans.prog w) 1 G.aI_BadForest G.dI_BadForest ["self", "field"] (spEx G.c_BadForest (["field"].map Str.ofString)) := by
  obtain ⟨oc, od, sl, kV, dc, pm, an, ct, lk, e, hcd⟩ := G.LI_BadForest
  rw [e]
  have S : NdefX.NScope ["self", "field", "__class__"] ["self", "field"] ["__class__"] (defScope s_ex_BadForest) := NdefX.nscope_by (by decide +kernel)
  refine fn_sup (k := 0) lk hcd S G.sc_BadForest G.z_super rfl rfl (by decide +kernel) (fun L => ⟨_, rfl⟩) (fun L => rfl) (fun L => rfl) (fun vs H Q E h => ?_) (fun vs H Q E h => ?_) (fun F A outer s H vs Q E hF h => ?_)
  · obtain ⟨a, xs, rfl, hl, _⟩ := h
    simp [hl]
  · obtain ⟨a, xs, rfl, _, ha, _⟩ := h
    exact ⟨a, xs, rfl, ha⟩
  · obtain ⟨a, xs, rfl, hl, ha, q⟩ := h
    match xs, hl, q with
    | [x], _, q => exact ex_body1 rfl rfl (.inl (by show List.lookup _ F.scope.names = _; rw [hF]; decide +kernel)) (.inl (by show List.lookup _ F.scope.names = _; rw [hF]; decide +kernel)) G.sc_BadForest.oex G.n_BadForest_field (by decide) (by decide) (by decide) (by decide) (by rfl) rfl rfl ha q
theorem ok_ex_BadPlace (G : Gd K mg) : FnOk PySem.Challenge.rw_fieldrides_k62_whole_change_plans.prog w K mg base (L2.CX PySem.Challenge.rw_fieldrides_k62_whole_change_plans.prog w) 1 G.aI_BadPlace G.dI_BadPlace ["self", "place"] (spEx G.c_BadPlace (["place"].map Str.ofString)) := by
  obtain ⟨oc, od, sl, kV, dc, pm, an, ct, lk, e, hcd⟩ := G.LI_BadPlace
  rw [e]
  have S : NdefX.NScope ["self", "place", "__class__"] ["self", "place"] ["__class__"] (defScope s_ex_BadPlace) := NdefX.nscope_by (by decide +kernel)
  refine fn_sup (k := 0) lk hcd S G.sc_BadPlace G.z_super rfl rfl (by decide +kernel) (fun L => ⟨_, rfl⟩) (fun L => rfl) (fun L => rfl) (fun vs H Q E h => ?_) (fun vs H Q E h => ?_) (fun F A outer s H vs Q E hF h => ?_)
  · obtain ⟨a, xs, rfl, hl, _⟩ := h
    simp [hl]
  · obtain ⟨a, xs, rfl, _, ha, _⟩ := h
    exact ⟨a, xs, rfl, ha⟩
  · obtain ⟨a, xs, rfl, hl, ha, q⟩ := h
    match xs, hl, q with
    | [x], _, q => exact ex_body1 rfl rfl (.inl (by show List.lookup _ F.scope.names = _; rw [hF]; decide +kernel)) (.inl (by show List.lookup _ F.scope.names = _; rw [hF]; decide +kernel)) G.sc_BadPlace.oex G.n_BadPlace_place (by decide) (by decide) (by decide) (by decide) (by rfl) rfl rfl ha q
theorem ok_ex_FieldsDiffer (G : Gd K mg) : FnOk PySem.Challenge.rw_fieldrides_k62_whole_change_plans.prog w K mg base (L2.CX PySem.Challenge.rw_fieldrides_k62_whole_change_plans.prog w) 1 G.aI_FieldsDiffer G.dI_FieldsDiffer ["self", "first", "second"] (spEx G.c_FieldsDiffer (["first", "second"].map Str.ofString)) := by
  obtain ⟨oc, od, sl, kV, dc, pm, an, ct, lk, e, hcd⟩ := G.LI_FieldsDiffer
  rw [e]
  have S : NdefX.NScope ["self", "first", "second", "__class__"] ["self", "first", "second"] ["__class__"] (defScope s_ex_FieldsDiffer) := NdefX.nscope_by (by decide +kernel)
  refine fn_sup (k := 0) lk hcd S G.sc_FieldsDiffer G.z_super rfl rfl (by decide +kernel) (fun L => ⟨_, rfl⟩) (fun L => rfl) (fun L => rfl) (fun vs H Q E h => ?_) (fun vs H Q E h => ?_) (fun F A outer s H vs Q E hF h => ?_)
  · obtain ⟨a, xs, rfl, hl, _⟩ := h
    simp [hl]
  · obtain ⟨a, xs, rfl, _, ha, _⟩ := h
    exact ⟨a, xs, rfl, ha⟩
  · obtain ⟨a, xs, rfl, hl, ha, q⟩ := h
    match xs, hl, q with
    | [x, y], _, q => exact ex_body2 rfl rfl rfl (.inl (by show List.lookup _ F.scope.names = _; rw [hF]; decide +kernel)) (.inl (by show List.lookup _ F.scope.names = _; rw [hF]; decide +kernel)) (.inl (by show List.lookup _ F.scope.names = _; rw [hF]; decide +kernel)) G.sc_FieldsDiffer.oex G.n_FieldsDiffer_first G.n_FieldsDiffer_second (by decide) (by decide) (by decide) (by decide) (by decide) (by decide) (by rfl) (by rfl) rfl rfl rfl ha q
theorem len_never_ends : ∀ ds h, ds.length ≠ 2 → F_never_ends ds h = .no := fun ds h e => fnT_len (n := 4) (b := b_never_ends) ds h e
theorem ok_never_ends (G : Gd K mg) : FnG PySem.Challenge.rw_fieldrides_k62_whole_change_plans.prog w K mg base (L2.CX PySem.Challenge.rw_fieldrides_k62_whole_change_plans.prog w) 1 G.a_never_ends G.d_never_ends ["parents", "field"] (spF ⟨K, mg, none, w⟩ 2 F_never_ends) :=
  fn_okT (k := 0) (N := ["parents", "field", "place", "_"]) (ps := ["parents", "field"]) (b := b_never_ends) G.F_never_ends S_never_ends fun cdv A outer s H E hr => by
    have S := S_never_ends
    unfold b_never_ends
    exact (z_cons (zs 2 S.nd (sv 1))
  (z_cons (z_for (vs := [3]) passB rfl (i_rng1 rfl (by rfl) G.z_range (c_len G.z_len (a_cons (sv 0) (a_nil)))) (gn 3 S.nd)
    (z_cons (z_if (t_isN (sv 2))
      (z_cons (z_ret (s_bl))
      (z_nil))
      (z_nil))
    (z_cons (zs 2 S.nd (s_ix (sv 0) (sv 2) (fun _ _ => rfl)))
    (z_nil))))
  (z_cons (z_ret (s_notN (sv 2)))
  (z_nil))))
theorem len_check_shape : ∀ ds h, ds.length ≠ 2 → F_check_shape ds h = .no := fun ds h e => fnT_len (n := 4) (b := b_check_shape) ds h e
theorem ok_check_shape (G : Gd K mg) : FnG PySem.Challenge.rw_fieldrides_k62_whole_change_plans.prog w K mg base (L2.CX PySem.Challenge.rw_fieldrides_k62_whole_change_plans.prog w) 3 G.a_check_shape G.d_check_shape ["parents", "kinds"] (spF ⟨K, mg, none, w⟩ 2 F_check_shape) :=
  fn_okT (k := 2) (N := ["parents", "kinds", "fields", "field"]) (ps := ["parents", "kinds"]) (b := b_check_shape) G.F_check_shape S_check_shape fun cdv A outer s H E hr => by
    have S := S_check_shape
    unfold b_check_shape
    exact (z_cons (zs 2 S.nd (c_len G.z_len (a_cons (sv 0) (a_nil))))
  (z_cons (z_if (t_of (w_or (t_cmp (op_ne.or (op_neD hr.units)) o2_ne (sv 2) (c_len G.z_len (a_cons (sv 1) (a_nil))) (nomark _)) (w_or1 (t_not (t_chain op_le o2_cmpI op_le o2_cmpI (s_int) (sv 2) (s_glob rfl G.g_MOST_FIELDS.choose_spec (.int 16) ⟨_, rfl⟩ (fun _ _ _ => by rw [Rep])))))))
    (z_cons (z_raise (cn := "BadForest") (ns := ["field"]) (oexB_ok G.ox_BadForest) G.iC_BadForest G.tI_BadForest (ok_ex_BadForest G) (hr.mono (by omega)) G.bE_BadForest rfl takesB G.mE_BadForest (a_cons (s_non) (a_nil)))
    (z_nil))
    (z_nil))
  (z_cons (z_for (vs := [3]) passB rfl (i_rng1 rfl (by rfl) G.z_range (sv 2)) (gn 3 S.nd)
    (z_cons (z_if (t_of (w_and (t_notN (s_ix (sv 0) (sv 3) (fun _ _ => rfl))) (w_and1 (t_not (t_chain op_le o2_cmpI (op_lt.or (op_ltT hr.units0)) o2_lt (s_int) (s_ix (sv 0) (sv 3) (fun _ _ => rfl)) (sv 2))))))
      (z_cons (z_raise (cn := "BadForest") (ns := ["field"]) (oexB_ok G.ox_BadForest) G.iC_BadForest G.tI_BadForest (ok_ex_BadForest G) (hr.mono (by omega)) G.bE_BadForest rfl takesB G.mE_BadForest (a_cons (sv 3) (a_nil)))
      (z_nil))
      (z_nil))
    (z_nil)))
  (z_cons (z_for (vs := [3]) passB rfl (i_rng1 rfl (by rfl) G.z_range (sv 2)) (gn 3 S.nd)
    (z_cons (z_if (t_val (s_call (ok_never_ends G) len_never_ends (hr.mono (by omega)) (by rfl) G.m_never_ends G.F_never_ends.kp G.b_never_ends takesB (a_cons (sv 0) (a_cons (sv 3) (a_nil)))))
      (z_cons (z_raise (cn := "BadForest") (ns := ["field"]) (oexB_ok G.ox_BadForest) G.iC_BadForest G.tI_BadForest (ok_ex_BadForest G) (hr.mono (by omega)) G.bE_BadForest rfl takesB G.mE_BadForest (a_cons (sv 3) (a_nil)))
      (z_nil))
      (z_nil))
    (z_nil)))
  (z_cons (z_for (vs := [3]) passB rfl (i_rng1 rfl (by rfl) G.z_range (sv 2)) (gn 3 S.nd)
    (z_cons (z_if (t_of (w_and (t_cmp op_in_seq o2_in (s_ix (sv 1) (sv 3) (fun _ _ => rfl)) (s_tup (a_cons (s_str (by rfl)) (a_cons (s_str (by rfl)) (a_nil)))) (by rfl)) (w_and1 (t_cmp op_in_seq o2_in (sv 3) (sv 0) (by rfl)))))
      (z_cons (z_raise (cn := "BadForest") (ns := ["field"]) (oexB_ok G.ox_BadForest) G.iC_BadForest G.tI_BadForest (ok_ex_BadForest G) (hr.mono (by omega)) G.bE_BadForest rfl takesB G.mE_BadForest (a_cons (sv 3) (a_nil)))
      (z_nil))
      (z_nil))
    (z_nil)))
  (z_nil))))))
theorem len_Forest_init : ∀ ds h, ds.length ≠ 3 → F_Forest_init ds h = .no := fun ds h e => fnT_len (n := 3) (b := b_Forest_init) ds h e
theorem ok_Forest_init (G : Gd K mg) : FnG PySem.Challenge.rw_fieldrides_k62_whole_change_plans.prog w K mg base (L2.CX PySem.Challenge.rw_fieldrides_k62_whole_change_plans.prog w) 4 G.a_Forest_init G.d_Forest_init ["self", "parents", "kinds"] (spF ⟨K, mg, none, w⟩ 3 F_Forest_init) :=
  fn_okT (k := 3) (N := ["self", "parents", "kinds"]) (ps := ["self", "parents", "kinds"]) (b := b_Forest_init) G.F_Forest_init S_Forest_init fun cdv A outer s H E hr => by
    have S := S_Forest_init
    unfold b_Forest_init
    exact (z_cons (z_expr (s_call (ok_check_shape G) len_check_shape (hr.mono (by omega)) (by rfl) G.m_check_shape G.F_check_shape.kp G.b_check_shape takesB (a_cons (sv 1) (a_cons (sv 2) (a_nil)))))
  (z_cons (z_fld "fields" (cn_cons G.mC_Forest G.cl_Forest G.na_Forest_fields (cn_nil)) (sv 0) (c_len G.z_len (a_cons (sv 1) (a_nil))))
  (z_cons (z_fld "parents" (cn_cons G.mC_Forest G.cl_Forest G.na_Forest_parents (cn_nil)) (sv 0) (c_tuple G.z_tuple (a_cons (sv 1) (a_nil))))
  (z_cons (z_fld "kinds" (cn_cons G.mC_Forest G.cl_Forest G.na_Forest_kinds (cn_nil)) (sv 0) (c_tuple G.z_tuple (a_cons (sv 2) (a_nil))))
  (z_nil)))))
theorem len_q_is_integer : ∀ ds h, ds.length ≠ 1 → F_q_is_integer ds h = .no := fun ds h e => fnT_len (n := 1) (b := b_q_is_integer) ds h e
theorem ok_q_is_integer (G : Gd K mg) : FnG PySem.Challenge.rw_fieldrides_k62_whole_change_plans.prog w K mg base (L2.CX PySem.Challenge.rw_fieldrides_k62_whole_change_plans.prog w) 1 G.a_q_is_integer G.d_q_is_integer ["_law_actual"] (spF ⟨K, mg, none, w⟩ 1 F_q_is_integer) :=
  fn_okT (k := 0) (N := ["_law_actual"]) (ps := ["_law_actual"]) (b := b_q_is_integer) G.F_q_is_integer S_q_is_integer fun cdv A outer s H E hr => by
    have S := S_q_is_integer
    unfold b_q_is_integer
    exact (z_cons (z_ret (s_and (s_isTy (by decide) rfl (by decide +kernel) (by decide) (by decide) (by rfl) G.z_isinstance (by rfl) G.z_int (sv 0)) (s_one (s_not (s_isTy (by decide) rfl (by decide +kernel) (by decide) (by decide) (by rfl) G.z_isinstance (by rfl) G.z_bool (sv 0))))))
  (z_nil))
theorem len_q_same : ∀ n ds h, ds.length ≠ 2 → F_q_same_v4 n ds h = .no
  | 0, _, _, _ => rfl
  | n + 1, ds, h, e => fnT_len (n := 3) (b := b_q_same_v4 (F_q_same_v4 n)) ds h e
theorem ok_q_same (G : Gd K mg) : ∀ n : Nat, FnG PySem.Challenge.rw_fieldrides_k62_whole_change_plans.prog w K mg base (L2.CX PySem.Challenge.rw_fieldrides_k62_whole_change_plans.prog w) (2 + n) G.a_q_same G.d_q_same ["_law_actual", "_law_due"] (spF ⟨K, mg, none, w⟩ 2 (F_q_same_v4 n))
  | 0 => fn_no fun _ _ => rfl
  | n + 1 => fn_okT (k := 2 + n) (N := ["_law_actual", "_law_due", "_law_k"]) (ps := ["_law_actual", "_law_due"]) (b := b_q_same_v4 (F_q_same_v4 n)) G.F_q_same S_q_same fun cdv A outer s H E hr => by
    have hF := ok_q_same G n
    have hG := len_q_same n
    have S := S_q_same
    generalize F_q_same_v4 n = F at hF hG ⊢
    unfold b_q_same_v4
    exact (z_cons (z_if (t_isN (sv 1))
    (z_cons (z_ret (s_isN (sv 0)))
    (z_nil))
    (z_nil))
  (z_cons (z_if (t_val (s_isTy (by decide) rfl (by decide +kernel) (by decide) (by decide) (by rfl) G.z_isinstance (by rfl) G.z_str (sv 1)))
    (z_cons (z_ret (s_and (s_isTy (by decide) rfl (by decide +kernel) (by decide) (by decide) (by rfl) G.z_isinstance (by rfl) G.z_str (sv 0)) (s_one (s_cmp (op_eq.or (op_eqD hr.units)) o2_eq (sv 0) (sv 1) (nomark _)))))
    (z_nil))
    (z_nil))
  (z_cons (z_if (t_val (s_isTy (by decide) rfl (by decide +kernel) (by decide) (by decide) (by rfl) G.z_isinstance (by rfl) G.z_int (sv 1)))
    (z_cons (z_ret (s_and (s_call (ok_q_is_integer G) len_q_is_integer (hr.mono (by omega)) (by rfl) G.m_q_is_integer G.F_q_is_integer.kp G.b_q_is_integer takesB (a_cons (sv 0) (a_nil))) (s_one (s_cmp (op_eq.or (op_eqD hr.units)) o2_eq (sv 0) (sv 1) (nomark _)))))
    (z_nil))
    (z_nil))
  (z_cons (z_if (t_val (s_isTy (by decide) rfl (by decide +kernel) (by decide) (by decide) (by rfl) G.z_isinstance (by rfl) G.z_tuple (sv 1)))
    (z_cons (z_if (t_of (w_or (t_not (t_val (s_isTy (by decide) rfl (by decide +kernel) (by decide) (by decide) (by rfl) G.z_isinstance (by rfl) G.z_tuple (sv 0)))) (w_or1 (t_cmp (op_ne.or (op_neD hr.units)) o2_ne (c_len G.z_len (a_cons (sv 0) (a_nil))) (c_len G.z_len (a_cons (sv 1) (a_nil))) (nomark _)))))
      (z_cons (z_ret (s_bl))
      (z_nil))
      (z_nil))
    (z_nil))
    (z_cons (z_if (t_of (w_or (t_not (t_val (s_isTy (by decide) rfl (by decide +kernel) (by decide) (by decide) (by rfl) G.z_isinstance (by rfl) G.z_list (sv 0)))) (w_or1 (t_cmp (op_ne.or (op_neD hr.units)) o2_ne (c_len G.z_len (a_cons (sv 0) (a_nil))) (c_len G.z_len (a_cons (sv 1) (a_nil))) (nomark _)))))
      (z_cons (z_ret (s_bl))
      (z_nil))
      (z_nil))
    (z_nil)))
  (z_cons (z_for (vs := [2]) passB rfl (i_rng1 rfl (by rfl) G.z_range (c_len G.z_len (a_cons (sv 1) (a_nil)))) (gn 2 S.nd)
    (z_cons (z_if (t_not (t_val (s_call hF hG hr (by rfl) G.m_q_same G.F_q_same.kp G.b_q_same takesB (a_cons (s_ix (sv 0) (sv 2) (fun _ _ => rfl)) (a_cons (s_ix (sv 1) (sv 2) (fun _ _ => rfl)) (a_nil))))))
      (z_cons (z_ret (s_bl))
      (z_nil))
      (z_nil))
    (z_nil)))
  (z_cons (z_ret (s_bl))
  (z_nil)))))))
theorem len_q_is_differ : ∀ ds h, ds.length ≠ 3 → F_q_is_differ ds h = .no := fun ds h e => fnT_len (n := 3) (b := b_q_is_differ) ds h e
theorem ok_q_is_differ (G : Gd K mg) : FnG PySem.Challenge.rw_fieldrides_k62_whole_change_plans.prog w K mg base (L2.CX PySem.Challenge.rw_fieldrides_k62_whole_change_plans.prog w) 15 G.a_q_is_differ G.d_q_is_differ ["_law_actual", "_law_first", "_law_second_here"] (spF ⟨K, mg, none, w⟩ 3 F_q_is_differ) :=
  fn_okT (k := 14) (N := ["_law_actual", "_law_first", "_law_second_here"]) (ps := ["_law_actual", "_law_first", "_law_second_here"]) (b := b_q_is_differ) G.F_q_is_differ S_q_is_differ fun cdv A outer s H E hr => by
    have S := S_q_is_differ
    unfold b_q_is_differ
    exact (z_cons (z_ret (s_and (s_cmp (op_eq.or (op_eqD hr.units)) o2_eq (s_ix (sv 0) (s_int) (fun _ _ => rfl)) (s_str (by rfl)) (nomark _)) (s_and (s_call (ok_q_same G 12) (len_q_same 12) (hr.mono (by omega)) (by rfl) G.m_q_same G.F_q_same.kp G.b_q_same takesB (a_cons (s_ix (sv 0) (s_int) (fun _ _ => rfl)) (a_cons (s_tup (a_cons (sv 1) (a_cons (sv 2) (a_nil)))) (a_nil)))) (s_one (s_ix (sv 0) (s_int) (fun _ _ => rfl))))))
  (z_nil))
theorem len_q_take : ∀ ds h, ds.length ≠ 2 → F_q_take ds h = .no := fun ds h e => fnT_len (n := 5) (b := b_q_take) ds h e
theorem ok_q_take (G : Gd K mg) : FnG PySem.Challenge.rw_fieldrides_k62_whole_change_plans.prog w K mg base (L2.CX PySem.Challenge.rw_fieldrides_k62_whole_change_plans.prog w) 1 G.a_q_take G.d_q_take ["_law_tape_here", "_law_size_here"] (spF ⟨K, mg, none, w⟩ 2 F_q_take) :=
  fn_okT (k := 0) (N := ["_law_tape_here", "_law_size_here", "_law_cell", "_law_k", "_law_mixed"]) (ps := ["_law_tape_here", "_law_size_here"]) (b := b_q_take) G.F_q_take S_q_take fun cdv A outer s H E hr => by
    have S := S_q_take
    unfold b_q_take
    exact (z_cons (zs 2 S.nd (s_ix (sv 0) (s_int) (fun _ _ => rfl)))
  (z_cons (z_sub set_list set3_list (sv 0) (s_int) (s_add (s_ix (sv 0) (s_int) (fun _ _ => rfl)) (s_int)) (ha := fun _ => rfl))
  (z_cons (zs 3 S.nd (s_ix (sv 0) (s_int) (fun _ _ => rfl)))
  (z_cons (z_if (t_cmp op_ge o2_cmpI (sv 2) (s_pow (s_int) (s_int)) (nomark _))
    (z_cons (z_sub set_list set3_list (sv 0) (s_int) (s_fdiv (sv 2) (sv 1)) (ha := fun _ => rfl))
    (z_cons (z_ret (s_mod (c_int G.z_int (a_cons (sv 2) (a_nil))) (sv 1)))
    (z_nil)))
    (z_nil))
  (z_cons (zs 4 S.nd (s_mod (c_int G.z_int (a_cons (s_add (s_add (sv 2) (s_mul (s_int) (sv 3))) (s_int)) (a_nil))) (s_int)))
  (z_cons (zs 4 S.nd (s_mod (c_int G.z_int (a_cons (s_mul (sv 4) (s_add (sv 4) (s_int))) (a_nil))) (s_int)))
  (z_cons (zs 4 S.nd (s_mod (c_int G.z_int (a_cons (s_add (s_mul (sv 4) (s_add (sv 4) (s_int))) (s_mul (s_int) (sv 3))) (a_nil))) (s_int)))
  (z_cons (z_ret (s_mod (c_int G.z_int (a_cons (s_fdiv (sv 4) (s_int)) (a_nil))) (sv 1)))
  (z_nil)))))))))
theorem len_q_kinds : ∀ ds h, ds.length ≠ 3 → F_q_kinds ds h = .no := fun ds h e => fnT_len (n := 6) (b := b_q_kinds) ds h e
theorem ok_q_kinds (G : Gd K mg) : FnG PySem.Challenge.rw_fieldrides_k62_whole_change_plans.prog w K mg base (L2.CX PySem.Challenge.rw_fieldrides_k62_whole_change_plans.prog w) 2 G.a_q_kinds G.d_q_kinds ["_law_tape_here", "_law_parents_here", "_law_fair"] (spF ⟨K, mg, none, w⟩ 3 F_q_kinds) :=
  fn_okT (k := 1) (N := ["_law_tape_here", "_law_parents_here", "_law_fair", "_law_kinds_here", "_law_field", "_law_pick"]) (ps := ["_law_tape_here", "_law_parents_here", "_law_fair"]) (b := b_q_kinds) G.F_q_kinds S_q_kinds fun cdv A outer s H E hr => by
    have S := S_q_kinds
    unfold b_q_kinds
    exact (z_cons (zs 3 S.nd (s_lst (a_nil)))
  (z_cons (z_for (vs := [4]) passB rfl (i_rng1 rfl (by rfl) G.z_range (c_len G.z_len (a_cons (sv 1) (a_nil)))) (gn 4 S.nd)
    (z_cons (zs 5 S.nd (s_call (ok_q_take G) len_q_take (hr.mono (by omega)) (by rfl) G.m_q_take G.F_q_take.kp G.b_q_take takesB (a_cons (sv 0) (a_cons (s_int) (a_nil)))))
    (z_cons (z_if (t_of (w_or (t_val (sv 2)) (w_or1 (t_cmp op_in_seq o2_in (sv 4) (sv 1) (by rfl)))))
      (z_cons (zs 5 S.nd (s_mod (c_int G.z_int (a_cons (sv 5) (a_nil))) (s_int)))
      (z_nil))
      (z_nil))
    (z_cons (z_expr (mm_append (sv 3) (a_cons (s_ix (s_lst (a_cons (s_str (by rfl)) (a_cons (s_str (by rfl)) (a_cons (s_str (by rfl)) (a_cons (s_str (by rfl)) (a_nil)))))) (sv 5) (fun _ _ => rfl)) (a_nil))))
    (z_nil)))))
  (z_cons (z_ret (sv 3))
  (z_nil))))
theorem len_q_turns : ∀ ds h, ds.length ≠ 2 → F_q_turns ds h = .no := fun ds h e => fnT_len (n := 5) (b := b_q_turns) ds h e
theorem ok_q_turns (G : Gd K mg) : FnG PySem.Challenge.rw_fieldrides_k62_whole_change_plans.prog w K mg base (L2.CX PySem.Challenge.rw_fieldrides_k62_whole_change_plans.prog w) 2 G.a_q_turns G.d_q_turns ["_law_tape_here", "_law_n"] (spF ⟨K, mg, none, w⟩ 2 F_q_turns) :=
  fn_okT (k := 1) (N := ["_law_tape_here", "_law_n", "_law_left", "_law_turns_here", "_law_k"]) (ps := ["_law_tape_here", "_law_n"]) (b := b_q_turns) G.F_q_turns S_q_turns fun cdv A outer s H E hr => by
    have S := S_q_turns
    unfold b_q_turns
    exact (z_cons (zs 2 S.nd (s_listRg1 rfl rfl rfl (by rfl) G.z_list (by rfl) G.z_range (sv 1)))
  (z_cons (zs 3 S.nd (s_lst (a_nil)))
  (z_cons (z_for (vs := [4]) passB rfl (i_rng1 rfl (by rfl) G.z_range (sv 1)) (gn 4 S.nd)
    (z_cons (z_expr (mm_append (sv 3) (a_cons (mm_popAt (sv 2) (a_cons (s_call (ok_q_take G) len_q_take (hr.mono (by omega)) (by rfl) G.m_q_take G.F_q_take.kp G.b_q_take takesB (a_cons (sv 0) (a_cons (c_len G.z_len (a_cons (sv 2) (a_nil))) (a_nil)))) (a_nil))) (a_nil))))
    (z_nil)))
  (z_cons (z_ret (sv 3))
  (z_nil)))))
theorem len_q_parents : ∀ ds h, ds.length ≠ 2 → F_q_parents ds h = .no := fun ds h e => fnT_len (n := 7) (b := b_q_parents) ds h e
theorem ok_q_parents (G : Gd K mg) : FnG PySem.Challenge.rw_fieldrides_k62_whole_change_plans.prog w K mg base (L2.CX PySem.Challenge.rw_fieldrides_k62_whole_change_plans.prog w) 3 G.a_q_parents G.d_q_parents ["_law_tape_here", "_law_n"] (spF ⟨K, mg, none, w⟩ 2 F_q_parents) :=
  fn_okT (k := 2) (N := ["_law_tape_here", "_law_n", "_law_turns_here", "_law_bend", "_law_parents_here", "_law_k", "_law_pick"]) (ps := ["_law_tape_here", "_law_n"]) (b := b_q_parents) G.F_q_parents S_q_parents fun cdv A outer s H E hr => by
    have S := S_q_parents
    unfold b_q_parents
    exact (z_cons (zs 2 S.nd (s_call (ok_q_turns G) len_q_turns (hr.mono (by omega)) (by rfl) G.m_q_turns G.F_q_turns.kp G.b_q_turns takesB (a_cons (sv 0) (a_cons (sv 1) (a_nil)))))
  (z_cons (zs 3 S.nd (s_call (ok_q_take G) len_q_take (hr.mono (by omega)) (by rfl) G.m_q_take G.F_q_take.kp G.b_q_take takesB (a_cons (sv 0) (a_cons (s_int) (a_nil)))))
  (z_cons (z_setLc (i := 4) (own := [("_law_k", 5)]) rfl S.nd (by rfl) (by rfl) (by rfl) (by rfl) (by rfl) (i_rng1 rfl (by rfl) G.z_range (sv 1)) (by rfl) (fun _ _ _ _ _ => gn 5 S.nd) (fun _ _ _ _ _ => ts_nil) (fun _ _ _ _ _ => s_non))
  (z_cons (z_for (vs := [5]) passB rfl (i_rng2 rfl (by rfl) G.z_range (s_int) (sv 1)) (gn 5 S.nd)
    (z_cons (zs 6 S.nd (s_call (ok_q_take G) len_q_take (hr.mono (by omega)) (by rfl) G.m_q_take G.F_q_take.kp G.b_q_take takesB (a_cons (sv 0) (a_cons (s_add (sv 5) (s_int)) (a_nil)))))
    (z_cons (z_if (t_cmp (op_eq.or (op_eqD hr.units)) o2_eq (sv 3) (s_int) (nomark _))
      (z_cons (zs 6 S.nd (sv 5))
      (z_nil))
      (z_nil))
    (z_cons (z_if (t_cmp (op_eq.or (op_eqD hr.units)) o2_eq (sv 3) (s_int) (nomark _))
      (z_cons (zs 6 S.nd (s_int))
      (z_nil))
      (z_nil))
    (z_cons (z_if (t_cmp op_gt o2_cmpI (sv 6) (s_int) (nomark _))
      (z_cons (z_sub set_list set3_list (sv 4) (s_ix (sv 2) (sv 5) (fun _ _ => rfl)) (s_ix (sv 2) (s_sub (sv 6) (s_int)) (fun _ _ => rfl)) (ha := fun _ => rfl))
      (z_nil))
      (z_nil))
    (z_nil))))))
  (z_cons (z_ret (sv 4))
  (z_nil))))))
theorem len_path_of : ∀ ds h, ds.length ≠ 2 → F_path_of ds h = .no := fun ds h e => fnT_len (n := 3) (b := b_path_of) ds h e
theorem ok_path_of (G : Gd K mg) : FnG PySem.Challenge.rw_fieldrides_k62_whole_change_plans.prog w K mg base (L2.CX PySem.Challenge.rw_fieldrides_k62_whole_change_plans.prog w) 1 G.a_path_of G.d_path_of ["parents", "field"] (spF ⟨K, mg, none, w⟩ 2 F_path_of) :=
  fn_okT (k := 0) (N := ["parents", "field", "path"]) (ps := ["parents", "field"]) (b := b_path_of) G.F_path_of S_path_of fun cdv A outer s H E hr => by
    have S := S_path_of
    unfold b_path_of
    exact (z_cons (zs 2 S.nd (s_lst (a_cons (sv 1) (a_nil))))
  (z_cons (z_while passB (t_notN (s_ix (sv 0) (s_ix (sv 2) (s_neg (s_int)) (fun _ _ => rfl)) (fun _ _ => rfl)))
    (z_cons (z_expr (mm_append (sv 2) (a_cons (s_ix (sv 0) (s_ix (sv 2) (s_neg (s_int)) (fun _ _ => rfl)) (fun _ _ => rfl)) (a_nil))))
    (z_nil)))
  (z_cons (z_ret (c_tuple G.z_tuple (a_cons (s_rev (sv 2)) (a_nil))))
  (z_nil))))
theorem len_Forest_path : ∀ ds h, ds.length ≠ 2 → F_Forest_path ds h = .no := fun ds h e => fnT_len (n := 2) (b := b_Forest_path) ds h e
theorem ok_Forest_path (G : Gd K mg) : FnG PySem.Challenge.rw_fieldrides_k62_whole_change_plans.prog w K mg base (L2.CX PySem.Challenge.rw_fieldrides_k62_whole_change_plans.prog w) 2 G.a_Forest_path G.d_Forest_path ["self", "field"] (spF ⟨K, mg, none, w⟩ 2 F_Forest_path) :=
  fn_okT (k := 1) (N := ["self", "field"]) (ps := ["self", "field"]) (b := b_Forest_path) G.F_Forest_path S_Forest_path fun cdv A outer s H E hr => by
    have S := S_Forest_path
    unfold b_Forest_path
    exact (z_cons (z_ret (s_call (ok_path_of G) len_path_of (hr.mono (by omega)) (by rfl) G.m_path_of G.F_path_of.kp G.b_path_of takesB (a_cons (s_fld "parents" (cn_cons G.mC_Forest G.cl_Forest G.na_Forest_parents (cn_nil)) (sv 0)) (a_cons (sv 1) (a_nil)))))
  (z_nil))
theorem len_check_same_fields : ∀ ds h, ds.length ≠ 2 → F_check_same_fields ds h = .no := fun ds h e => fnT_len (n := 2) (b := b_check_same_fields) ds h e
theorem ok_check_same_fields (G : Gd K mg) : FnG PySem.Challenge.rw_fieldrides_k62_whole_change_plans.prog w K mg base (L2.CX PySem.Challenge.rw_fieldrides_k62_whole_change_plans.prog w) 3 G.a_check_same_fields G.d_check_same_fields ["first", "second"] (spF ⟨K, mg, none, w⟩ 2 F_check_same_fields) :=
  fn_okT (k := 2) (N := ["first", "second"]) (ps := ["first", "second"]) (b := b_check_same_fields) G.F_check_same_fields S_check_same_fields fun cdv A outer s H E hr => by
    have S := S_check_same_fields
    unfold b_check_same_fields
    exact (z_cons (z_if (t_cmp (op_ne.or (op_neD hr.units)) o2_ne (s_fld "fields" (cn_cons G.mC_Forest G.cl_Forest G.na_Forest_fields (cn_nil)) (sv 0)) (s_fld "fields" (cn_cons G.mC_Forest G.cl_Forest G.na_Forest_fields (cn_nil)) (sv 1)) (nomark _))
    (z_cons (z_raise (cn := "FieldsDiffer") (ns := ["first", "second"]) (oexB_ok G.ox_FieldsDiffer) G.iC_FieldsDiffer G.tI_FieldsDiffer (ok_ex_FieldsDiffer G) (hr.mono (by omega)) G.bE_FieldsDiffer rfl takesB G.mE_FieldsDiffer (a_cons (s_fld "fields" (cn_cons G.mC_Forest G.cl_Forest G.na_Forest_fields (cn_nil)) (sv 0)) (a_cons (s_fld "fields" (cn_cons G.mC_Forest G.cl_Forest G.na_Forest_fields (cn_nil)) (sv 1)) (a_nil))))
    (z_nil))
    (z_nil))
  (z_nil))
theorem len_change_plan : ∀ ds h, ds.length ≠ 2 → F_change_plan ds h = .no := fun ds h e => fnK_len (n := 7) (b := b_change_plan) ds h e
theorem ok_change_plan (G : Gd K mg) : FnG PySem.Challenge.rw_fieldrides_k62_whole_change_plans.prog w K mg base (L2.CX PySem.Challenge.rw_fieldrides_k62_whole_change_plans.prog w) 4 G.a_change_plan G.d_change_plan ["first", "second"] (spF ⟨K, mg, none, w⟩ 2 F_change_plan) :=
  fn_okK (k := 3) (N := ["first", "second", "early", "late", "field", "turns", "place"]) (ps := ["first", "second"]) (b := b_change_plan) G.F_change_plan S_change_plan fun cdv A outer s H E hr => by
    have S := S_change_plan
    unfold b_change_plan
    exact (z_cons (z_expr (s_call (ok_check_same_fields G) len_check_same_fields (hr.mono (by omega)) (by rfl) G.m_check_same_fields G.F_check_same_fields.kp G.b_check_same_fields takesB (a_cons (sv 0) (a_cons (sv 1) (a_nil)))))
  (z_cons (zs 2 S.nd (s_lst (a_nil)))
  (z_cons (zs 3 S.nd (s_lst (a_nil)))
  (z_cons (z_for (vs := [4]) passB rfl (i_rng1 rfl (by rfl) G.z_range (s_fld "fields" (cn_cons G.mC_Forest G.cl_Forest G.na_Forest_fields (cn_nil)) (sv 0))) (gn 4 S.nd)
    (z_cons (z_if (t_of (w_and (t_cmp (op_eq.or (op_eqD hr.units)) o2_eq (s_ix (s_fld "parents" (cn_cons G.mC_Forest G.cl_Forest G.na_Forest_parents (cn_nil)) (sv 0)) (sv 4) (fun _ _ => rfl)) (s_ix (s_fld "parents" (cn_cons G.mC_Forest G.cl_Forest G.na_Forest_parents (cn_nil)) (sv 1)) (sv 4) (fun _ _ => rfl)) (nomark _)) (w_and1 (t_cmp (op_eq.or (op_eqD hr.units)) o2_eq (s_ix (s_fld "kinds" (cn_cons G.mC_Forest G.cl_Forest G.na_Forest_kinds (cn_nil)) (sv 0)) (sv 4) (fun _ _ => rfl)) (s_ix (s_fld "kinds" (cn_cons G.mC_Forest G.cl_Forest G.na_Forest_kinds (cn_nil)) (sv 1)) (sv 4) (fun _ _ => rfl)) (nomark _)))))
      (z_cons (z_cont)
      (z_nil))
      (z_nil))
    (z_cons (z_if (t_cmp op_in_seq o2_in (s_ix (s_fld "kinds" (cn_cons G.mC_Forest G.cl_Forest G.na_Forest_kinds (cn_nil)) (sv 1)) (sv 4) (fun _ _ => rfl)) (s_tup (a_cons (s_str (by rfl)) (a_cons (s_str (by rfl)) (a_nil)))) (by rfl))
      (z_cons (z_expr (mm_append (sv 2) (a_cons (s_tup (a_cons (c_len G.z_len (a_cons (s_mth (m := "path") (mf_cons G.mC_Forest G.cl_Forest G.me_Forest_path (ok_Forest_path G) len_Forest_path (hr.mono (by omega)) G.b_Forest_path (mf_nil)) takesB (sv 1) (a_cons (sv 4) (a_nil))) (a_nil))) (a_cons (sv 4) (a_nil)))) (a_nil))))
      (z_nil))
      (z_cons (z_expr (mm_append (sv 3) (a_cons (s_tup (a_cons (s_neg (c_len G.z_len (a_cons (s_mth (m := "path") (mf_cons G.mC_Forest G.cl_Forest G.me_Forest_path (ok_Forest_path G) len_Forest_path (hr.mono (by omega)) G.b_Forest_path (mf_nil)) takesB (sv 0) (a_cons (sv 4) (a_nil))) (a_nil)))) (a_cons (sv 4) (a_nil)))) (a_nil))))
      (z_nil)))
    (z_nil))))
  (z_cons (z_setLc (i := 5) (own := [("place", 6)]) rfl S.nd (by rfl) (by rfl) (by rfl) (by rfl) (by rfl) (i_seq (s_add (c_sortedP G.z_sorted (a_cons (sv 2) (a_nil))) (c_sortedP G.z_sorted (a_cons (sv 3) (a_nil))))) (by rfl) (fun _ _ _ _ _ => gn 6 S.nd) (fun _ _ _ _ _ => ts_nil) (fun _ _ _ _ _ => s_ix (sv 6) (s_int) (fun _ _ => rfl)))
  (z_cons (z_ret (s_lc (own := [("field", 4)]) rfl S.nd (i_seq (sv 5)) (by rfl) (fun _ _ _ _ _ => gn 4 S.nd) (fun _ _ _ _ _ => ts_nil) (fun _ _ _ _ _ => s_tup (a_cons (sv 4) (a_cons (s_ix (s_fld "parents" (cn_cons G.mC_Forest G.cl_Forest G.na_Forest_parents (cn_nil)) (sv 1)) (sv 4) (fun _ _ => rfl)) (a_cons (s_ix (s_fld "kinds" (cn_cons G.mC_Forest G.cl_Forest G.na_Forest_kinds (cn_nil)) (sv 1)) (sv 4) (fun _ _ => rfl)) (a_nil)))))))
  (z_nil)))))))
theorem len_q_plan : ∀ ds h, ds.length ≠ 2 → F_q_plan ds h = .no := fun ds h e => fnK_len (n := 5) (b := b_q_plan) ds h e
theorem ok_q_plan (G : Gd K mg) : FnG PySem.Challenge.rw_fieldrides_k62_whole_change_plans.prog w K mg base (L2.CX PySem.Challenge.rw_fieldrides_k62_whole_change_plans.prog w) 5 G.a_q_plan G.d_q_plan ["_law_first", "_law_second_here"] (spF ⟨K, mg, none, w⟩ 2 F_q_plan) :=
  fn_okK (k := 4) (N := ["_law_first", "_law_second_here", "_law_actual", "e", "_law_alone"]) (ps := ["_law_first", "_law_second_here"]) (b := b_q_plan) G.F_q_plan S_q_plan fun cdv A outer s H E hr => by
    have S := S_q_plan
    unfold b_q_plan
    exact (z_cons (z_tryAs (i := 3) rfl rfl S.nd (by rfl) (by rfl) ⟨by rfl, by decide, .inl G.mE_FieldsDiffer⟩ (em_cons G.mE_BadRecord (exm_of G.e_FieldsDiffer G.su_BadRecord_FieldsDiffer) (em_cons G.mE_BadForest (exm_of G.e_FieldsDiffer G.su_BadForest_FieldsDiffer) (em_cons G.mE_FieldsDiffer (exm_of G.e_FieldsDiffer G.su_FieldsDiffer_FieldsDiffer) (em_cons G.mE_WordsClash (exm_of G.e_FieldsDiffer G.su_WordsClash_FieldsDiffer) (em_cons G.mE_BadPlace (exm_of G.e_FieldsDiffer G.su_BadPlace_FieldsDiffer) (em_nil)))))) takesB (fun W1 pn1 xe1 tk1 pb1 => z_cons (zs 2 S.nd (s_call (ok_change_plan G) len_change_plan (hr.mono (by omega)) (by rfl) G.m_change_plan G.F_change_plan.kp G.b_change_plan tk1 (a_cons (sv 0) (a_cons (sv 1) (a_nil)))))
    (z_nil))
    (fun av oe cls d pn x hz hd => z_cons (zs 4 S.nd (s_and (s_xis1 (i := 3) hz hd rfl G.z_isinstance (pc_own G.mE_FieldridesError (pc_nil)) (kt_cons G.mE_FieldsDiffer G.e_FieldsDiffer (kitAny_t (kit_ref G.e_FieldsDiffer G.e_FieldridesError G.su_FieldsDiffer_FieldridesError)) (kt_nil))) (s_one (s_xis1 (i := 3) hz hd rfl G.z_isinstance (pc_ty G.z_ValueError (by decide +kernel) (pc_nil)) (kt_cons G.mE_FieldsDiffer G.e_FieldsDiffer (kitAny_t (kit_ve G.sv_FieldsDiffer)) (kt_nil))))))
    (z_cons (z_ret (s_lst (a_cons (s_str (by rfl)) (a_cons (s_tup (a_cons (s_xf (i := 3) "first" hz hd (xt_cons G.mE_FieldsDiffer G.e_FieldsDiffer G.n_FieldsDiffer_first (xt_cons G.mE_WordsClash G.e_WordsClash G.n_WordsClash_first (xt_nil)))) (a_cons (s_xf (i := 3) "second" hz hd (xt_cons G.mE_FieldsDiffer G.e_FieldsDiffer G.n_FieldsDiffer_second (xt_cons G.mE_WordsClash G.e_WordsClash G.n_WordsClash_second (xt_nil)))) (a_nil)))) (a_cons (s_and (sv 4) (s_one (s_not (s_xisT (i := 3) hz hd rfl G.z_isinstance (pc_own G.mE_BadForest (pc_own G.mE_BadPlace (pc_own G.mE_WordsClash (pc_nil)))) (Nat.le_of_ble_eq_true rfl) (kt_cons G.mE_FieldsDiffer G.e_FieldsDiffer (kitAny_f (kit_ref G.e_FieldsDiffer G.e_BadForest G.su_FieldsDiffer_BadForest) (kitAny_f (kit_ref G.e_FieldsDiffer G.e_BadPlace G.su_FieldsDiffer_BadPlace) (kitAny_f (kit_ref G.e_FieldsDiffer G.e_WordsClash G.su_FieldsDiffer_WordsClash) (kitAny_nil)))) (kt_nil)))))) (a_nil))))))
    (z_nil))))
  (z_cons (z_ret (s_lst (a_cons (s_str (by rfl)) (a_cons (sv 2) (a_nil)))))
  (z_nil)))
theorem len_q_path : ∀ ds h, ds.length ≠ 2 → F_q_path ds h = .no := fun ds h e => fnT_len (n := 4) (b := b_q_path) ds h e
theorem ok_q_path (G : Gd K mg) : FnG PySem.Challenge.rw_fieldrides_k62_whole_change_plans.prog w K mg base (L2.CX PySem.Challenge.rw_fieldrides_k62_whole_change_plans.prog w) 1 G.a_q_path G.d_q_path ["_law_parents_here", "_law_field"] (spF ⟨K, mg, none, w⟩ 2 F_q_path) :=
  fn_okT (k := 0) (N := ["_law_parents_here", "_law_field", "_law_path_here", "_law_k"]) (ps := ["_law_parents_here", "_law_field"]) (b := b_q_path) G.F_q_path S_q_path fun cdv A outer s H E hr => by
    have S := S_q_path
    unfold b_q_path
    exact (z_cons (zs 2 S.nd (s_lst (a_cons (sv 1) (a_nil))))
  (z_cons (z_for (vs := [3]) passB rfl (i_rng1 rfl (by rfl) G.z_range (c_len G.z_len (a_cons (sv 0) (a_nil)))) (gn 3 S.nd)
    (z_cons (z_if (t_notN (s_ix (sv 0) (s_ix (sv 2) (s_int) (fun _ _ => rfl)) (fun _ _ => rfl)))
      (z_cons (z_expr (mm_insert (sv 2) (a_cons (s_int) (a_cons (s_ix (sv 0) (s_ix (sv 2) (s_int) (fun _ _ => rfl)) (fun _ _ => rfl)) (a_nil)))))
      (z_nil))
      (z_nil))
    (z_nil)))
  (z_cons (z_ret (sv 2))
  (z_nil))))
theorem len_q_due_plan : ∀ ds h, ds.length ≠ 2 → F_q_due_plan ds h = .no := fun ds h e => fnT_len (n := 7) (b := b_q_due_plan) ds h e
theorem ok_q_due_plan (G : Gd K mg) : FnG PySem.Challenge.rw_fieldrides_k62_whole_change_plans.prog w K mg base (L2.CX PySem.Challenge.rw_fieldrides_k62_whole_change_plans.prog w) 2 G.a_q_due_plan G.d_q_due_plan ["_law_one", "_law_two"] (spF ⟨K, mg, none, w⟩ 2 F_q_due_plan) :=
  fn_okT (k := 1) (N := ["_law_one", "_law_two", "_law_early", "_law_late", "_law_field", "_law_turns_here", "_law_place"]) (ps := ["_law_one", "_law_two"]) (b := b_q_due_plan) G.F_q_due_plan S_q_due_plan fun cdv A outer s H E hr => by
    have S := S_q_due_plan
    unfold b_q_due_plan
    exact (z_cons (zs 2 S.nd (s_lst (a_nil)))
  (z_cons (zs 3 S.nd (s_lst (a_nil)))
  (z_cons (z_for (vs := [4]) passB rfl (i_rng1 rfl (by rfl) G.z_range (c_len G.z_len (a_cons (s_ix (sv 0) (s_int) (fun _ _ => rfl)) (a_nil)))) (gn 4 S.nd)
    (z_cons (z_if (t_of (w_or (t_cmp (op_ne.or (op_neD hr.units)) o2_ne (s_ix (s_ix (sv 0) (s_int) (fun _ _ => rfl)) (sv 4) (fun _ _ => rfl)) (s_ix (s_ix (sv 1) (s_int) (fun _ _ => rfl)) (sv 4) (fun _ _ => rfl)) (nomark _)) (w_or1 (t_cmp (op_ne.or (op_neD hr.units)) o2_ne (s_ix (s_ix (sv 0) (s_int) (fun _ _ => rfl)) (sv 4) (fun _ _ => rfl)) (s_ix (s_ix (sv 1) (s_int) (fun _ _ => rfl)) (sv 4) (fun _ _ => rfl)) (nomark _)))))
      (z_cons (z_if (t_cmp op_in_seq o2_in (s_ix (s_ix (sv 1) (s_int) (fun _ _ => rfl)) (sv 4) (fun _ _ => rfl)) (s_lst (a_cons (s_str (by rfl)) (a_cons (s_str (by rfl)) (a_nil)))) (by rfl))
        (z_cons (z_expr (mm_append (sv 2) (a_cons (s_tup (a_cons (c_len G.z_len (a_cons (s_call (ok_q_path G) len_q_path (hr.mono (by omega)) (by rfl) G.m_q_path G.F_q_path.kp G.b_q_path takesB (a_cons (s_ix (sv 1) (s_int) (fun _ _ => rfl)) (a_cons (sv 4) (a_nil)))) (a_nil))) (a_cons (sv 4) (a_nil)))) (a_nil))))
        (z_nil))
        (z_cons (z_expr (mm_append (sv 3) (a_cons (s_tup (a_cons (s_sub (s_int) (c_len G.z_len (a_cons (s_call (ok_q_path G) len_q_path (hr.mono (by omega)) (by rfl) G.m_q_path G.F_q_path.kp G.b_q_path takesB (a_cons (s_ix (sv 0) (s_int) (fun _ _ => rfl)) (a_cons (sv 4) (a_nil)))) (a_nil)))) (a_cons (sv 4) (a_nil)))) (a_nil))))
        (z_nil)))
      (z_nil))
      (z_nil))
    (z_nil)))
  (z_cons (z_setLc (i := 5) (own := [("_law_place", 6)]) rfl S.nd (by rfl) (by rfl) (by rfl) (by rfl) (by rfl) (i_seq (s_add (c_sortedP G.z_sorted (a_cons (sv 2) (a_nil))) (c_sortedP G.z_sorted (a_cons (sv 3) (a_nil))))) (by rfl) (fun _ _ _ _ _ => gn 6 S.nd) (fun _ _ _ _ _ => ts_nil) (fun _ _ _ _ _ => s_ix (sv 6) (s_int) (fun _ _ => rfl)))
  (z_cons (z_ret (s_lc (own := [("_law_field", 4)]) rfl S.nd (i_seq (sv 5)) (by rfl) (fun _ _ _ _ _ => gn 4 S.nd) (fun _ _ _ _ _ => ts_nil) (fun _ _ _ _ _ => s_tup (a_cons (sv 4) (a_cons (s_ix (s_ix (sv 1) (s_int) (fun _ _ => rfl)) (sv 4) (fun _ _ => rfl)) (a_cons (s_ix (s_ix (sv 1) (s_int) (fun _ _ => rfl)) (sv 4) (fun _ _ => rfl)) (a_nil)))))))
  (z_nil))))))
theorem len_q_same_forest : ∀ ds h, ds.length ≠ 3 → F_q_same_forest ds h = .no := fun ds h e => fnT_len (n := 3) (b := b_q_same_forest) ds h e
theorem ok_q_same_forest (G : Gd K mg) : FnG PySem.Challenge.rw_fieldrides_k62_whole_change_plans.prog w K mg base (L2.CX PySem.Challenge.rw_fieldrides_k62_whole_change_plans.prog w) 15 G.a_q_same_forest G.d_q_same_forest ["_law_actual", "_law_parents_here", "_law_kinds_here"] (spF ⟨K, mg, none, w⟩ 3 F_q_same_forest) :=
  fn_okT (k := 14) (N := ["_law_actual", "_law_parents_here", "_law_kinds_here"]) (ps := ["_law_actual", "_law_parents_here", "_law_kinds_here"]) (b := b_q_same_forest) G.F_q_same_forest S_q_same_forest fun cdv A outer s H E hr => by
    have S := S_q_same_forest
    unfold b_q_same_forest
    exact (z_cons (z_if (t_not (t_val (s_isCls (cn := "Forest") G.ic_Forest G.cl_Forest G.mC_Forest G.z_isinstance (sv 0))))
    (z_cons (z_ret (s_bl))
    (z_nil))
    (z_nil))
  (z_cons (z_if (t_of (w_or (t_not (t_val (s_call (ok_q_same G 12) (len_q_same 12) (hr.mono (by omega)) (by rfl) G.m_q_same G.F_q_same.kp G.b_q_same takesB (a_cons (s_fld "fields" (cn_cons G.mC_Forest G.cl_Forest G.na_Forest_fields (cn_nil)) (sv 0)) (a_cons (c_len G.z_len (a_cons (sv 1) (a_nil))) (a_nil)))))) (w_or1 (t_not (t_val (s_call (ok_q_same G 12) (len_q_same 12) (hr.mono (by omega)) (by rfl) G.m_q_same G.F_q_same.kp G.b_q_same takesB (a_cons (s_fld "parents" (cn_cons G.mC_Forest G.cl_Forest G.na_Forest_parents (cn_nil)) (sv 0)) (a_cons (c_tuple G.z_tuple (a_cons (sv 1) (a_nil))) (a_nil)))))))))
    (z_cons (z_ret (s_bl))
    (z_nil))
    (z_nil))
  (z_cons (z_ret (s_call (ok_q_same G 12) (len_q_same 12) (hr.mono (by omega)) (by rfl) G.m_q_same G.F_q_same.kp G.b_q_same takesB (a_cons (s_fld "kinds" (cn_cons G.mC_Forest G.cl_Forest G.na_Forest_kinds (cn_nil)) (sv 0)) (a_cons (c_tuple G.z_tuple (a_cons (sv 2) (a_nil))) (a_nil)))))
  (z_nil))))
theorem len_Forest_word : ∀ ds h, ds.length ≠ 2 → F_Forest_word ds h = .no := fun ds h e => fnT_len (n := 3) (b := b_Forest_word) ds h e
theorem ok_Forest_word (G : Gd K mg) : FnG PySem.Challenge.rw_fieldrides_k62_whole_change_plans.prog w K mg base (L2.CX PySem.Challenge.rw_fieldrides_k62_whole_change_plans.prog w) 2 G.a_Forest_word G.d_Forest_word ["self", "field"] (spF ⟨K, mg, none, w⟩ 2 F_Forest_word) :=
  fn_okT (k := 1) (N := ["self", "field", "place"]) (ps := ["self", "field"]) (b := b_Forest_word) G.F_Forest_word S_Forest_word fun cdv A outer s H E hr => by
    have S := S_Forest_word
    unfold b_Forest_word
    exact (z_cons (z_ret (c_tuple G.z_tuple (a_cons (s_lc (own := [("place", 2)]) rfl S.nd (i_seq (s_call (ok_path_of G) len_path_of (hr.mono (by omega)) (by rfl) G.m_path_of G.F_path_of.kp G.b_path_of takesB (a_cons (s_fld "parents" (cn_cons G.mC_Forest G.cl_Forest G.na_Forest_parents (cn_nil)) (sv 0)) (a_cons (sv 1) (a_nil))))) (by rfl) (fun _ _ _ _ _ => gn 2 S.nd) (fun _ _ _ _ _ => ts_nil) (fun _ _ _ _ _ => s_tup (a_cons (sv 2) (a_cons (s_ix (s_fld "kinds" (cn_cons G.mC_Forest G.cl_Forest G.na_Forest_kinds (cn_nil)) (sv 0)) (sv 2) (fun _ _ => rfl)) (a_nil))))) (a_nil))))
  (z_nil))
theorem len_q_fault : ∀ ds h, ds.length ≠ 2 → F_q_fault ds h = .no := fun ds h e => fnT_len (n := 6) (b := b_q_fault) ds h e
theorem ok_q_fault (G : Gd K mg) : FnG PySem.Challenge.rw_fieldrides_k62_whole_change_plans.prog w K mg base (L2.CX PySem.Challenge.rw_fieldrides_k62_whole_change_plans.prog w) 1 G.a_q_fault G.d_q_fault ["_law_parents_here", "_law_kinds_here"] (spF ⟨K, mg, none, w⟩ 2 F_q_fault) :=
  fn_okT (k := 0) (N := ["_law_parents_here", "_law_kinds_here", "_law_n", "_law_field", "_law_place", "_law_k"]) (ps := ["_law_parents_here", "_law_kinds_here"]) (b := b_q_fault) G.F_q_fault S_q_fault fun cdv A outer s H E hr => by
    have S := S_q_fault
    unfold b_q_fault
    exact (z_cons (zs 2 S.nd (c_len G.z_len (a_cons (sv 0) (a_nil))))
  (z_cons (z_if (t_of (w_or (t_cmp (op_eq.or (op_eqD hr.units)) o2_eq (sv 2) (s_int) (nomark _)) (w_or (t_cmp op_gt o2_cmpI (sv 2) (s_int) (nomark _)) (w_or1 (t_cmp (op_ne.or (op_neD hr.units)) o2_ne (c_len G.z_len (a_cons (sv 1) (a_nil))) (sv 2) (nomark _))))))
    (z_cons (z_ret (s_tup (a_cons (s_non) (a_nil))))
    (z_nil))
    (z_nil))
  (z_cons (z_for (vs := [3]) passB rfl (i_rng1 rfl (by rfl) G.z_range (sv 2)) (gn 3 S.nd)
    (z_cons (z_if (t_of (w_and (t_notN (s_ix (sv 0) (sv 3) (fun _ _ => rfl))) (w_and1 (t_not (t_chain op_le o2_cmpI (op_lt.or (op_ltT hr.units0)) o2_lt (s_int) (s_ix (sv 0) (sv 3) (fun _ _ => rfl)) (sv 2))))))
      (z_cons (z_ret (s_tup (a_cons (sv 3) (a_nil))))
      (z_nil))
      (z_nil))
    (z_nil)))
  (z_cons (z_for (vs := [3]) passB rfl (i_rng1 rfl (by rfl) G.z_range (sv 2)) (gn 3 S.nd)
    (z_cons (zs 4 S.nd (s_ix (sv 0) (sv 3) (fun _ _ => rfl)))
    (z_cons (z_for (vs := [5]) passB rfl (i_rng1 rfl (by rfl) G.z_range (sv 2)) (gn 5 S.nd)
      (z_cons (z_if (t_notN (sv 4))
        (z_cons (zs 4 S.nd (s_ix (sv 0) (sv 4) (fun _ _ => rfl)))
        (z_nil))
        (z_nil))
      (z_nil)))
    (z_cons (z_if (t_notN (sv 4))
      (z_cons (z_ret (s_tup (a_cons (sv 3) (a_nil))))
      (z_nil))
      (z_nil))
    (z_nil)))))
  (z_cons (z_for (vs := [3]) passB rfl (i_rng1 rfl (by rfl) G.z_range (sv 2)) (gn 3 S.nd)
    (z_cons (z_if (t_of (w_and (t_cmp op_in_seq o2_in (s_ix (sv 1) (sv 3) (fun _ _ => rfl)) (s_lst (a_cons (s_str (by rfl)) (a_cons (s_str (by rfl)) (a_nil)))) (by rfl)) (w_and1 (t_cmp op_in_seq o2_in (sv 3) (sv 0) (by rfl)))))
      (z_cons (z_ret (s_tup (a_cons (sv 3) (a_nil))))
      (z_nil))
      (z_nil))
    (z_nil)))
  (z_cons (z_ret (s_tup (a_nil)))
  (z_nil)))))))
theorem len_q_word : ∀ ds h, ds.length ≠ 3 → F_q_word ds h = .no := fun ds h e => fnT_len (n := 4) (b := b_q_word) ds h e
theorem ok_q_word (G : Gd K mg) : FnG PySem.Challenge.rw_fieldrides_k62_whole_change_plans.prog w K mg base (L2.CX PySem.Challenge.rw_fieldrides_k62_whole_change_plans.prog w) 2 G.a_q_word G.d_q_word ["_law_parents_here", "_law_kinds_here", "_law_field"] (spF ⟨K, mg, none, w⟩ 3 F_q_word) :=
  fn_okT (k := 1) (N := ["_law_parents_here", "_law_kinds_here", "_law_field", "_law_place"]) (ps := ["_law_parents_here", "_law_kinds_here", "_law_field"]) (b := b_q_word) G.F_q_word S_q_word fun cdv A outer s H E hr => by
    have S := S_q_word
    unfold b_q_word
    exact (z_cons (z_ret (c_tuple G.z_tuple (a_cons (s_lc (own := [("_law_place", 3)]) rfl S.nd (i_seq (s_call (ok_q_path G) len_q_path (hr.mono (by omega)) (by rfl) G.m_q_path G.F_q_path.kp G.b_q_path takesB (a_cons (sv 0) (a_cons (sv 2) (a_nil))))) (by rfl) (fun _ _ _ _ _ => gn 3 S.nd) (fun _ _ _ _ _ => ts_nil) (fun _ _ _ _ _ => s_tup (a_cons (sv 3) (a_cons (s_ix (sv 1) (sv 3) (fun _ _ => rfl)) (a_nil))))) (a_nil))))
  (z_nil))
theorem len_check_place : ∀ ds h, ds.length ≠ 2 → F_check_place ds h = .no := fun ds h e => fnT_len (n := 2) (b := b_check_place) ds h e
theorem ok_check_place (G : Gd K mg) : FnG PySem.Challenge.rw_fieldrides_k62_whole_change_plans.prog w K mg base (L2.CX PySem.Challenge.rw_fieldrides_k62_whole_change_plans.prog w) 3 G.a_check_place G.d_check_place ["fields", "place"] (spF ⟨K, mg, none, w⟩ 2 F_check_place) :=
  fn_okT (k := 2) (N := ["fields", "place"]) (ps := ["fields", "place"]) (b := b_check_place) G.F_check_place S_check_place fun cdv A outer s H E hr => by
    have S := S_check_place
    unfold b_check_place
    exact (z_cons (z_if (t_not (t_chain op_le o2_cmpI (op_lt.or (op_ltT hr.units0)) o2_lt (s_int) (sv 1) (sv 0)))
    (z_cons (z_raise (cn := "BadPlace") (ns := ["place"]) (oexB_ok G.ox_BadPlace) G.iC_BadPlace G.tI_BadPlace (ok_ex_BadPlace G) (hr.mono (by omega)) G.bE_BadPlace rfl takesB G.mE_BadPlace (a_cons (sv 1) (a_nil)))
    (z_nil))
    (z_nil))
  (z_nil))
theorem len_change : ∀ ds h, ds.length ≠ 4 → F_change ds h = .no := fun ds h e => fnT_len (n := 6) (b := b_change) ds h e
theorem ok_change (G : Gd K mg) : FnG PySem.Challenge.rw_fieldrides_k62_whole_change_plans.prog w K mg base (L2.CX PySem.Challenge.rw_fieldrides_k62_whole_change_plans.prog w) 6 G.a_change G.d_change ["forest", "field", "parent", "kind"] (spF ⟨K, mg, none, w⟩ 4 F_change) :=
  fn_okT (k := 5) (N := ["forest", "field", "parent", "kind", "parents", "kinds"]) (ps := ["forest", "field", "parent", "kind"]) (b := b_change) G.F_change S_change fun cdv A outer s H E hr => by
    have S := S_change
    unfold b_change
    exact (z_cons (z_expr (s_call (ok_check_place G) len_check_place (hr.mono (by omega)) (by rfl) G.m_check_place G.F_check_place.kp G.b_check_place takesB (a_cons (s_fld "fields" (cn_cons G.mC_Forest G.cl_Forest G.na_Forest_fields (cn_nil)) (sv 0)) (a_cons (sv 1) (a_nil)))))
  (z_cons (zs 4 S.nd (c_list G.z_list (a_cons (s_fld "parents" (cn_cons G.mC_Forest G.cl_Forest G.na_Forest_parents (cn_nil)) (sv 0)) (a_nil))))
  (z_cons (zs 5 S.nd (c_list G.z_list (a_cons (s_fld "kinds" (cn_cons G.mC_Forest G.cl_Forest G.na_Forest_kinds (cn_nil)) (sv 0)) (a_nil))))
  (z_cons (z_sub set_list set3_list (sv 4) (sv 1) (sv 2) (ha := fun _ => rfl))
  (z_cons (z_sub set_list set3_list (sv 5) (sv 1) (sv 3) (ha := fun _ => rfl))
  (z_cons (z_ret (s_make (cn := "Forest") (fz := true) G.mk_Forest (ok_Forest_init G) len_Forest_init (hr.mono (by omega)) (by rfl) G.mC_Forest G.b_Forest_init takesB (a_cons (sv 4) (a_cons (sv 5) (a_nil)))))
  (z_nil)))))))
theorem len_q_steps_right : ∀ ds h, ds.length ≠ 4 → F_q_steps_right ds h = .no := fun ds h e => fnT_len (n := 12) (b := b_q_steps_right) ds h e
theorem ok_q_steps_right (G : Gd K mg) : FnG PySem.Challenge.rw_fieldrides_k62_whole_change_plans.prog w K mg base (L2.CX PySem.Challenge.rw_fieldrides_k62_whole_change_plans.prog w) 16 G.a_q_steps_right G.d_q_steps_right ["_law_first", "_law_one", "_law_two", "_law_plan_here"] (spF ⟨K, mg, none, w⟩ 4 F_q_steps_right) :=
  fn_okT (k := 15) (N := ["_law_first", "_law_one", "_law_two", "_law_plan_here", "_law_n", "_law_words", "_law_field", "_law_alike", "_law_forest", "_law_parents_here", "_law_kinds_here", "_law_step"]) (ps := ["_law_first", "_law_one", "_law_two", "_law_plan_here"]) (b := b_q_steps_right) G.F_q_steps_right S_q_steps_right fun cdv A outer s H E hr => by
    have S := S_q_steps_right
    unfold b_q_steps_right
    exact (z_cons (zs 4 S.nd (c_len G.z_len (a_cons (s_ix (sv 1) (s_int) (fun _ _ => rfl)) (a_nil))))
  (z_cons (zs 5 S.nd (s_lc (own := [("_law_field", 6)]) rfl S.nd (i_rng1 rfl (by rfl) G.z_range (sv 4)) (by rfl) (fun _ _ _ _ _ => gn 6 S.nd) (fun _ _ _ _ _ => ts_nil) (fun _ _ _ _ _ => s_call (ok_q_word G) len_q_word (hr.mono (by omega)) (by rfl) G.m_q_word G.F_q_word.kp G.b_q_word (takes0) (a_cons (s_ix (sv 1) (s_int) (fun _ _ => rfl)) (a_cons (s_ix (sv 1) (s_int) (fun _ _ => rfl)) (a_cons (sv 6) (a_nil)))))))
  (z_cons (z_setLc (i := 7) (own := [("_law_field", 6)]) rfl S.nd (by rfl) (by rfl) (by rfl) (by rfl) (by rfl) (i_rng1 rfl (by rfl) G.z_range (sv 4)) (by rfl) (fun _ _ _ _ _ => gn 6 S.nd) (fun _ _ _ _ _ => ts_one (t_cmp (op_eq.or (op_eqD hr.units)) o2_eq (s_ix (sv 5) (sv 6) (fun _ _ => rfl)) (s_call (ok_q_word G) len_q_word (hr.mono (by omega)) (by rfl) G.m_q_word G.F_q_word.kp G.b_q_word (takes0) (a_cons (s_ix (sv 2) (s_int) (fun _ _ => rfl)) (a_cons (s_ix (sv 2) (s_int) (fun _ _ => rfl)) (a_cons (sv 6) (a_nil))))) (nomark _))) (fun _ _ _ _ _ => sv 6))
  (z_cons (zs 8 S.nd (sv 0))
  (z_cons (zs 9 S.nd (c_list G.z_list (a_cons (s_ix (sv 1) (s_int) (fun _ _ => rfl)) (a_nil))))
  (z_cons (zs 10 S.nd (c_list G.z_list (a_cons (s_ix (sv 1) (s_int) (fun _ _ => rfl)) (a_nil))))
  (z_cons (z_for (vs := [11]) passB rfl (i_seq (sv 3)) (gn 11 S.nd)
    (z_cons (zs 8 S.nd (s_call (ok_change G) len_change (hr.mono (by omega)) (by rfl) G.m_change G.F_change.kp G.b_change takesB (a_cons (sv 8) (a_cons (s_ix (sv 11) (s_int) (fun _ _ => rfl)) (a_cons (s_ix (sv 11) (s_int) (fun _ _ => rfl)) (a_cons (s_ix (sv 11) (s_int) (fun _ _ => rfl)) (a_nil)))))))
    (z_cons (z_sub set_list set3_list (sv 9) (s_ix (sv 11) (s_int) (fun _ _ => rfl)) (s_ix (sv 11) (s_int) (fun _ _ => rfl)) (ha := fun _ => rfl))
    (z_cons (z_sub set_list set3_list (sv 10) (s_ix (sv 11) (s_int) (fun _ _ => rfl)) (s_ix (sv 11) (s_int) (fun _ _ => rfl)) (ha := fun _ => rfl))
    (z_cons (z_if (t_of (w_or (t_cmp op_gt o2_cmpI (c_len G.z_len (a_cons (s_call (ok_q_fault G) len_q_fault (hr.mono (by omega)) (by rfl) G.m_q_fault G.F_q_fault.kp G.b_q_fault takesB (a_cons (sv 9) (a_cons (sv 10) (a_nil)))) (a_nil))) (s_int) (nomark _)) (w_or1 (t_not (t_val (s_call (ok_q_same_forest G) len_q_same_forest (hr.mono (by omega)) (by rfl) G.m_q_same_forest G.F_q_same_forest.kp G.b_q_same_forest takesB (a_cons (sv 8) (a_cons (sv 9) (a_cons (sv 10) (a_nil))))))))))
      (z_cons (z_ret (s_bl))
      (z_nil))
      (z_nil))
    (z_cons (z_for (vs := [6]) passB rfl (i_seq (sv 7)) (gn 6 S.nd)
      (z_cons (z_if (t_not (t_val (s_call (ok_q_same G 12) (len_q_same 12) (hr.mono (by omega)) (by rfl) G.m_q_same G.F_q_same.kp G.b_q_same takesB (a_cons (s_mth (m := "word") (mf_cons G.mC_Forest G.cl_Forest G.me_Forest_word (ok_Forest_word G) len_Forest_word (hr.mono (by omega)) G.b_Forest_word (mf_nil)) takesB (sv 8) (a_cons (sv 6) (a_nil))) (a_cons (s_ix (sv 5) (sv 6) (fun _ _ => rfl)) (a_nil))))))
        (z_cons (z_ret (s_bl))
        (z_nil))
        (z_nil))
      (z_nil)))
    (z_nil)))))))
  (z_cons (z_ret (s_call (ok_q_same_forest G) len_q_same_forest (hr.mono (by omega)) (by rfl) G.m_q_same_forest G.F_q_same_forest.kp G.b_q_same_forest takesB (a_cons (sv 8) (a_cons (s_ix (sv 2) (s_int) (fun _ _ => rfl)) (a_cons (s_ix (sv 2) (s_int) (fun _ _ => rfl)) (a_nil))))))
  (z_nil)))))))))
theorem len_q_plan_right : ∀ ds h, ds.length ≠ 4 → F_q_plan_right ds h = .no := fun ds h e => fnT_len (n := 7) (b := b_q_plan_right) ds h e
theorem ok_q_plan_right (G : Gd K mg) : FnG PySem.Challenge.rw_fieldrides_k62_whole_change_plans.prog w K mg base (L2.CX PySem.Challenge.rw_fieldrides_k62_whole_change_plans.prog w) 17 G.a_q_plan_right G.d_q_plan_right ["_law_first", "_law_second_here", "_law_one", "_law_two"] (spF ⟨K, mg, none, w⟩ 4 F_q_plan_right) :=
  fn_okT (k := 16) (N := ["_law_first", "_law_second_here", "_law_one", "_law_two", "_law_due", "_law_actual", "_law_again"]) (ps := ["_law_first", "_law_second_here", "_law_one", "_law_two"]) (b := b_q_plan_right) G.F_q_plan_right S_q_plan_right fun cdv A outer s H E hr => by
    have S := S_q_plan_right
    unfold b_q_plan_right
    exact (z_cons (zs 4 S.nd (s_call (ok_q_due_plan G) len_q_due_plan (hr.mono (by omega)) (by rfl) G.m_q_due_plan G.F_q_due_plan.kp G.b_q_due_plan takesB (a_cons (sv 2) (a_cons (sv 3) (a_nil)))))
  (z_cons (zs 5 S.nd (s_call (ok_q_plan G) len_q_plan (hr.mono (by omega)) (by rfl) G.m_q_plan G.F_q_plan.kp G.b_q_plan takesB (a_cons (sv 0) (a_cons (sv 1) (a_nil)))))
  (z_cons (z_if (t_of (w_or (t_cmp (op_ne.or (op_neD hr.units)) o2_ne (s_ix (sv 5) (s_int) (fun _ _ => rfl)) (s_str (by rfl)) (nomark _)) (w_or1 (t_not (t_val (s_call (ok_q_same G 12) (len_q_same 12) (hr.mono (by omega)) (by rfl) G.m_q_same G.F_q_same.kp G.b_q_same takesB (a_cons (s_ix (sv 5) (s_int) (fun _ _ => rfl)) (a_cons (sv 4) (a_nil)))))))))
    (z_cons (z_ret (s_bl))
    (z_nil))
    (z_nil))
  (z_cons (z_expr (mm_append (s_ix (sv 5) (s_int) (fun _ _ => rfl)) (a_cons (s_tup (a_cons (s_int) (a_cons (s_non) (a_cons (s_str (by rfl)) (a_nil))))) (a_nil))))
  (z_cons (zs 6 S.nd (s_call (ok_q_plan G) len_q_plan (hr.mono (by omega)) (by rfl) G.m_q_plan G.F_q_plan.kp G.b_q_plan takesB (a_cons (sv 0) (a_cons (sv 1) (a_nil)))))
  (z_cons (z_if (t_of (w_or (t_cmp (op_ne.or (op_neD hr.units)) o2_ne (s_ix (sv 6) (s_int) (fun _ _ => rfl)) (s_str (by rfl)) (nomark _)) (w_or1 (t_not (t_val (s_call (ok_q_same G 12) (len_q_same 12) (hr.mono (by omega)) (by rfl) G.m_q_same G.F_q_same.kp G.b_q_same takesB (a_cons (s_ix (sv 6) (s_int) (fun _ _ => rfl)) (a_cons (sv 4) (a_nil)))))))))
    (z_cons (z_ret (s_bl))
    (z_nil))
    (z_nil))
  (z_cons (z_if (t_not (t_val (s_call (ok_q_steps_right G) len_q_steps_right (hr.mono (by omega)) (by rfl) G.m_q_steps_right G.F_q_steps_right.kp G.b_q_steps_right takesB (a_cons (sv 0) (a_cons (sv 2) (a_cons (sv 3) (a_cons (s_ix (sv 6) (s_int) (fun _ _ => rfl)) (a_nil))))))))
    (z_cons (z_ret (s_bl))
    (z_nil))
    (z_nil))
  (z_cons (z_ret (s_and (s_call (ok_q_same_forest G) len_q_same_forest (hr.mono (by omega)) (by rfl) G.m_q_same_forest G.F_q_same_forest.kp G.b_q_same_forest takesB (a_cons (sv 0) (a_cons (s_ix (sv 2) (s_int) (fun _ _ => rfl)) (a_cons (s_ix (sv 2) (s_int) (fun _ _ => rfl)) (a_nil))))) (s_one (s_call (ok_q_same_forest G) len_q_same_forest (hr.mono (by omega)) (by rfl) G.m_q_same_forest G.F_q_same_forest.kp G.b_q_same_forest takesB (a_cons (sv 1) (a_cons (s_ix (sv 3) (s_int) (fun _ _ => rfl)) (a_cons (s_ix (sv 3) (s_int) (fun _ _ => rfl)) (a_nil))))))))
  (z_nil)))))))))
theorem len_q_near : ∀ ds h, ds.length ≠ 3 → F_q_near_v2 ds h = .no := fun ds h e => fnT_len (n := 10) (b := b_q_near_v2) ds h e
theorem ok_q_near (G : Gd K mg) : FnG PySem.Challenge.rw_fieldrides_k62_whole_change_plans.prog w K mg base (L2.CX PySem.Challenge.rw_fieldrides_k62_whole_change_plans.prog w) 2 G.a_q_near G.d_q_near ["_law_tape_here", "_law_parents_here", "_law_kinds_here"] (spF ⟨K, mg, none, w⟩ 3 F_q_near_v2) :=
  fn_okT (k := 1) (N := ["_law_tape_here", "_law_parents_here", "_law_kinds_here", "_law_n", "_law_near_here", "_law_k", "_law_field", "_law_pick", "_law_moved", "_law_turned"]) (ps := ["_law_tape_here", "_law_parents_here", "_law_kinds_here"]) (b := b_q_near_v2) G.F_q_near S_q_near fun cdv A outer s H E hr => by
    have S := S_q_near
    unfold b_q_near_v2
    exact (z_cons (zs 3 S.nd (c_len G.z_len (a_cons (sv 1) (a_nil))))
  (z_cons (zs 4 S.nd (s_lst (a_cons (c_list G.z_list (a_cons (sv 1) (a_nil))) (a_cons (c_list G.z_list (a_cons (sv 2) (a_nil))) (a_nil)))))
  (z_cons (z_for (vs := [5]) passB rfl (i_rng1 rfl (by rfl) G.z_range (s_add (s_int) (s_call (ok_q_take G) len_q_take (hr.mono (by omega)) (by rfl) G.m_q_take G.F_q_take.kp G.b_q_take takesB (a_cons (sv 0) (a_cons (s_int) (a_nil)))))) (gn 5 S.nd)
    (z_cons (zs 6 S.nd (s_call (ok_q_take G) len_q_take (hr.mono (by omega)) (by rfl) G.m_q_take G.F_q_take.kp G.b_q_take takesB (a_cons (sv 0) (a_cons (sv 3) (a_nil)))))
    (z_cons (zs 7 S.nd (s_call (ok_q_take G) len_q_take (hr.mono (by omega)) (by rfl) G.m_q_take G.F_q_take.kp G.b_q_take takesB (a_cons (sv 0) (a_cons (s_add (s_mul (s_int) (sv 3)) (s_int)) (a_nil)))))
    (z_cons (zs 8 S.nd (c_list G.z_list (a_cons (s_ix (sv 4) (s_int) (fun _ _ => rfl)) (a_nil))))
    (z_cons (z_if (t_cmp (op_lt.or (op_ltT hr.units0)) o2_lt (sv 7) (sv 3) (nomark _))
      (z_cons (z_sub set_list set3_list (sv 8) (sv 6) (sv 7) (ha := fun _ => rfl))
      (z_nil))
      (z_nil))
    (z_cons (z_if (t_cmp (op_eq.or (op_eqD hr.units)) o2_eq (sv 7) (sv 3) (nomark _))
      (z_cons (z_sub set_list set3_list (sv 8) (sv 6) (s_non) (ha := fun _ => rfl))
      (z_nil))
      (z_nil))
    (z_cons (zs 9 S.nd (c_list G.z_list (a_cons (s_ix (sv 4) (s_int) (fun _ _ => rfl)) (a_nil))))
    (z_cons (z_sub set_list set3_list (sv 9) (sv 6) (s_ix (s_lst (a_cons (s_str (by rfl)) (a_cons (s_str (by rfl)) (a_cons (s_str (by rfl)) (a_cons (s_str (by rfl)) (a_nil)))))) (s_call (ok_q_take G) len_q_take (hr.mono (by omega)) (by rfl) G.m_q_take G.F_q_take.kp G.b_q_take takesB (a_cons (sv 0) (a_cons (s_int) (a_nil)))) (fun _ _ => rfl)) (ha := fun _ => rfl))
    (z_cons (z_if (t_cmp (op_eq.or (op_eqD hr.units)) o2_eq (c_len G.z_len (a_cons (s_call (ok_q_fault G) len_q_fault (hr.mono (by omega)) (by rfl) G.m_q_fault G.F_q_fault.kp G.b_q_fault takesB (a_cons (sv 8) (a_cons (sv 9) (a_nil)))) (a_nil))) (s_int) (nomark _))
      (z_cons (zs 4 S.nd (s_lst (a_cons (sv 8) (a_cons (sv 9) (a_nil)))))
      (z_nil))
      (z_nil))
    (z_nil))))))))))
  (z_cons (z_ret (sv 4))
  (z_nil)))))
theorem len_q_tape : ∀ ds h, ds.length ≠ 2 → F_q_tape ds h = .no := fun ds h e => fnK_len (n := 2) (b := b_q_tape) ds h e
theorem ok_q_tape (G : Gd K mg) : FnG PySem.Challenge.rw_fieldrides_k62_whole_change_plans.prog w K mg base (L2.CX PySem.Challenge.rw_fieldrides_k62_whole_change_plans.prog w) 1 G.a_q_tape G.d_q_tape ["_law_script", "_law_k"] (spF ⟨K, mg, none, w⟩ 2 F_q_tape) :=
  fn_okK (k := 0) (N := ["_law_script", "_law_k"]) (ps := ["_law_script", "_law_k"]) (b := b_q_tape) G.F_q_tape S_q_tape fun cdv A outer s H E hr => by
    have S := S_q_tape
    unfold b_q_tape
    exact (z_cons (z_if (t_cmp (op_lt.or (op_ltT hr.units0)) o2_lt (sv 1) (c_len G.z_len (a_cons (sv 0) (a_nil))) (nomark _))
    (z_cons (z_ret (s_lst (a_cons (c_abs G.z_abs (a_cons (s_ix (sv 0) (sv 1) (fun _ _ => rfl)) (a_nil))) (a_cons (s_int) (a_nil)))))
    (z_nil))
    (z_nil))
  (z_cons (z_ret (s_lst (a_cons (sv 1) (a_cons (s_int) (a_nil)))))
  (z_nil)))
theorem len_q_second : ∀ ds h, ds.length ≠ 3 → F_q_second ds h = .no := fun ds h e => fnT_len (n := 6) (b := b_q_second) ds h e
theorem ok_q_second (G : Gd K mg) : FnG PySem.Challenge.rw_fieldrides_k62_whole_change_plans.prog w K mg base (L2.CX PySem.Challenge.rw_fieldrides_k62_whole_change_plans.prog w) 4 G.a_q_second G.d_q_second ["_law_script", "_law_parents_here", "_law_kinds_here"] (spF ⟨K, mg, none, w⟩ 3 F_q_second) :=
  fn_okT (k := 3) (N := ["_law_script", "_law_parents_here", "_law_kinds_here", "_law_tape_here", "_law_pick", "_law_free"]) (ps := ["_law_script", "_law_parents_here", "_law_kinds_here"]) (b := b_q_second) G.F_q_second S_q_second fun cdv A outer s H E hr => by
    have S := S_q_second
    unfold b_q_second
    exact (z_cons (zs 3 S.nd (s_call (ok_q_tape G) len_q_tape (hr.mono (by omega)) (by rfl) G.m_q_tape G.F_q_tape.kp G.b_q_tape takesB (a_cons (sv 0) (a_cons (s_int) (a_nil)))))
  (z_cons (zs 4 S.nd (s_call (ok_q_take G) len_q_take (hr.mono (by omega)) (by rfl) G.m_q_take G.F_q_take.kp G.b_q_take takesB (a_cons (sv 3) (a_cons (s_int) (a_nil)))))
  (z_cons (z_if (t_cmp (op_lt.or (op_ltT hr.units0)) o2_lt (sv 4) (s_int) (nomark _))
    (z_cons (zs 5 S.nd (s_call (ok_q_parents G) len_q_parents (hr.mono (by omega)) (by rfl) G.m_q_parents G.F_q_parents.kp G.b_q_parents takesB (a_cons (sv 3) (a_cons (c_len G.z_len (a_cons (sv 1) (a_nil))) (a_nil)))))
    (z_cons (z_ret (s_lst (a_cons (sv 5) (a_cons (s_call (ok_q_kinds G) len_q_kinds (hr.mono (by omega)) (by rfl) G.m_q_kinds G.F_q_kinds.kp G.b_q_kinds takesB (a_cons (s_call (ok_q_tape G) len_q_tape (hr.mono (by omega)) (by rfl) G.m_q_tape G.F_q_tape.kp G.b_q_tape takesB (a_cons (sv 0) (a_cons (s_int) (a_nil)))) (a_cons (sv 5) (a_cons (s_bl) (a_nil))))) (a_nil)))))
    (z_nil)))
    (z_nil))
  (z_cons (z_if (t_cmp (op_eq.or (op_eqD hr.units)) o2_eq (sv 4) (s_int) (nomark _))
    (z_cons (z_ret (s_lst (a_cons (c_list G.z_list (a_cons (sv 1) (a_nil))) (a_cons (c_list G.z_list (a_cons (sv 2) (a_nil))) (a_nil)))))
    (z_nil))
    (z_nil))
  (z_cons (z_ret (s_call (ok_q_near G) len_q_near (hr.mono (by omega)) (by rfl) G.m_q_near G.F_q_near.kp G.b_q_near takesB (a_cons (sv 3) (a_cons (sv 1) (a_cons (sv 2) (a_nil))))))
  (z_nil))))))
theorem len_q_size : ∀ ds h, ds.length ≠ 1 → F_q_size_v4 ds h = .no := fun ds h e => fnT_len (n := 1) (b := b_q_size_v4) ds h e
theorem ok_q_size (G : Gd K mg) : FnG PySem.Challenge.rw_fieldrides_k62_whole_change_plans.prog w K mg base (L2.CX PySem.Challenge.rw_fieldrides_k62_whole_change_plans.prog w) 2 G.a_q_size G.d_q_size ["_law_tape_here"] (spF ⟨K, mg, none, w⟩ 1 F_q_size_v4) :=
  fn_okT (k := 1) (N := ["_law_tape_here"]) (ps := ["_law_tape_here"]) (b := b_q_size_v4) G.F_q_size S_q_size fun cdv A outer s H E hr => by
    have S := S_q_size
    unfold b_q_size_v4
    exact (z_cons (z_if (t_cmp (op_eq.or (op_eqD hr.units)) o2_eq (s_call (ok_q_take G) len_q_take (hr.mono (by omega)) (by rfl) G.m_q_take G.F_q_take.kp G.b_q_take takesB (a_cons (sv 0) (a_cons (s_int) (a_nil)))) (s_int) (nomark _))
    (z_cons (z_ret (s_add (s_int) (s_call (ok_q_take G) len_q_take (hr.mono (by omega)) (by rfl) G.m_q_take G.F_q_take.kp G.b_q_take takesB (a_cons (sv 0) (a_cons (s_int) (a_nil))))))
    (z_nil))
    (z_nil))
  (z_cons (z_ret (s_add (s_int) (s_call (ok_q_take G) len_q_take (hr.mono (by omega)) (by rfl) G.m_q_take G.F_q_take.kp G.b_q_take takesB (a_cons (sv 0) (a_cons (s_int) (a_nil))))))
  (z_nil)))
theorem len_law : ∀ ds h, ds.length ≠ 1 → F_law_k62 ds h = .no := fun ds h e => fnT_len (n := 12) (b := b_law_k62) ds h e
theorem ok_law (G : Gd K mg) : FnG PySem.Challenge.rw_fieldrides_k62_whole_change_plans.prog w K mg base (L2.CX PySem.Challenge.rw_fieldrides_k62_whole_change_plans.prog w) 18 G.a_law G.d_law ["_law_script"] (spF ⟨K, mg, none, w⟩ 1 F_law_k62) :=
  fn_okT (k := 17) (N := ["_law_script", "_law_tape_here", "_law_n", "_law_other", "_law_parents_here", "_law_one", "_law_two", "_law_first", "_law_second_here", "_law_third", "_law_k", "_law_same_here"]) (ps := ["_law_script"]) (b := b_law_k62) G.F_law S_law fun cdv A outer s H E hr => by
    have S := S_law
    unfold b_law_k62
    exact (z_cons (zs 1 S.nd (s_call (ok_q_tape G) len_q_tape (hr.mono (by omega)) (by rfl) G.m_q_tape G.F_q_tape.kp G.b_q_tape takesB (a_cons (sv 0) (a_cons (s_int) (a_nil)))))
  (z_cons (zs 2 S.nd (s_call (ok_q_size G) len_q_size (hr.mono (by omega)) (by rfl) G.m_q_size G.F_q_size.kp G.b_q_size takesB (a_cons (sv 1) (a_nil))))
  (z_cons (zs 3 S.nd (s_add (s_int) (s_call (ok_q_take G) len_q_take (hr.mono (by omega)) (by rfl) G.m_q_take G.F_q_take.kp G.b_q_take takesB (a_cons (sv 1) (a_cons (s_int) (a_nil))))))
  (z_cons (z_if (t_cmp op_ge o2_cmpI (sv 3) (sv 2) (nomark _))
    (z_cons (zs 3 S.nd (s_add (sv 3) (s_int)))
    (z_nil))
    (z_nil))
  (z_cons (zs 4 S.nd (s_call (ok_q_parents G) len_q_parents (hr.mono (by omega)) (by rfl) G.m_q_parents G.F_q_parents.kp G.b_q_parents takesB (a_cons (sv 1) (a_cons (sv 2) (a_nil)))))
  (z_cons (zs 5 S.nd (s_lst (a_cons (sv 4) (a_cons (s_call (ok_q_kinds G) len_q_kinds (hr.mono (by omega)) (by rfl) G.m_q_kinds G.F_q_kinds.kp G.b_q_kinds takesB (a_cons (s_call (ok_q_tape G) len_q_tape (hr.mono (by omega)) (by rfl) G.m_q_tape G.F_q_tape.kp G.b_q_tape takesB (a_cons (sv 0) (a_cons (s_int) (a_nil)))) (a_cons (sv 4) (a_cons (s_bl) (a_nil))))) (a_nil)))))
  (z_cons (zs 6 S.nd (s_call (ok_q_second G) len_q_second (hr.mono (by omega)) (by rfl) G.m_q_second G.F_q_second.kp G.b_q_second takesB (a_cons (sv 0) (a_cons (s_ix (sv 5) (s_int) (fun _ _ => rfl)) (a_cons (s_ix (sv 5) (s_int) (fun _ _ => rfl)) (a_nil))))))
  (z_cons (zs 7 S.nd (s_make (cn := "Forest") (fz := true) G.mk_Forest (ok_Forest_init G) len_Forest_init (hr.mono (by omega)) (by rfl) G.mC_Forest G.b_Forest_init takesB (a_cons (c_list G.z_list (a_cons (s_ix (sv 5) (s_int) (fun _ _ => rfl)) (a_nil))) (a_cons (c_list G.z_list (a_cons (s_ix (sv 5) (s_int) (fun _ _ => rfl)) (a_nil))) (a_nil)))))
  (z_cons (zs 8 S.nd (s_make (cn := "Forest") (fz := true) G.mk_Forest (ok_Forest_init G) len_Forest_init (hr.mono (by omega)) (by rfl) G.mC_Forest G.b_Forest_init takesB (a_cons (c_list G.z_list (a_cons (s_ix (sv 6) (s_int) (fun _ _ => rfl)) (a_nil))) (a_cons (c_list G.z_list (a_cons (s_ix (sv 6) (s_int) (fun _ _ => rfl)) (a_nil))) (a_nil)))))
  (z_cons (zs 9 S.nd (s_make (cn := "Forest") (fz := true) G.mk_Forest (ok_Forest_init G) len_Forest_init (hr.mono (by omega)) (by rfl) G.mC_Forest G.b_Forest_init takesB (a_cons (s_lc (own := [("_law_k", 10)]) rfl S.nd (i_rng1 rfl (by rfl) G.z_range (sv 3)) (by rfl) (fun _ _ _ _ _ => gn 10 S.nd) (fun _ _ _ _ _ => ts_nil) (fun _ _ _ _ _ => s_non)) (a_cons (s_lc (own := [("_law_k", 10)]) rfl S.nd (i_rng1 rfl (by rfl) G.z_range (sv 3)) (by rfl) (fun _ _ _ _ _ => gn 10 S.nd) (fun _ _ _ _ _ => ts_nil) (fun _ _ _ _ _ => s_str (by rfl))) (a_nil)))))
  (z_cons (z_if (t_of (w_or (t_not (t_val (s_call (ok_q_is_differ G) len_q_is_differ (hr.mono (by omega)) (by rfl) G.m_q_is_differ G.F_q_is_differ.kp G.b_q_is_differ takesB (a_cons (s_call (ok_q_plan G) len_q_plan (hr.mono (by omega)) (by rfl) G.m_q_plan G.F_q_plan.kp G.b_q_plan takesB (a_cons (sv 7) (a_cons (sv 9) (a_nil)))) (a_cons (sv 2) (a_cons (sv 3) (a_nil))))))) (w_or1 (t_not (t_val (s_call (ok_q_is_differ G) len_q_is_differ (hr.mono (by omega)) (by rfl) G.m_q_is_differ G.F_q_is_differ.kp G.b_q_is_differ takesB (a_cons (s_call (ok_q_plan G) len_q_plan (hr.mono (by omega)) (by rfl) G.m_q_plan G.F_q_plan.kp G.b_q_plan takesB (a_cons (sv 9) (a_cons (sv 8) (a_nil)))) (a_cons (sv 3) (a_cons (sv 2) (a_nil))))))))))
    (z_cons (z_ret (s_bl))
    (z_nil))
    (z_nil))
  (z_cons (z_if (t_of (w_or (t_not (t_val (s_call (ok_q_plan_right G) len_q_plan_right (hr.mono (by omega)) (by rfl) G.m_q_plan_right G.F_q_plan_right.kp G.b_q_plan_right takesB (a_cons (sv 7) (a_cons (sv 8) (a_cons (sv 5) (a_cons (sv 6) (a_nil)))))))) (w_or1 (t_not (t_val (s_call (ok_q_plan_right G) len_q_plan_right (hr.mono (by omega)) (by rfl) G.m_q_plan_right G.F_q_plan_right.kp G.b_q_plan_right takesB (a_cons (sv 8) (a_cons (sv 7) (a_cons (sv 6) (a_cons (sv 5) (a_nil)))))))))))
    (z_cons (z_ret (s_bl))
    (z_nil))
    (z_nil))
  (z_cons (zs 11 S.nd (s_call (ok_q_plan G) len_q_plan (hr.mono (by omega)) (by rfl) G.m_q_plan G.F_q_plan.kp G.b_q_plan takesB (a_cons (sv 7) (a_cons (sv 7) (a_nil)))))
  (z_cons (z_ret (s_and (s_cmp (op_eq.or (op_eqD hr.units)) o2_eq (s_ix (sv 11) (s_int) (fun _ _ => rfl)) (s_str (by rfl)) (nomark _)) (s_one (s_call (ok_q_same G 12) (len_q_same 12) (hr.mono (by omega)) (by rfl) G.m_q_same G.F_q_same.kp G.b_q_same takesB (a_cons (s_ix (sv 11) (s_int) (fun _ _ => rfl)) (a_cons (s_lst (a_nil)) (a_nil)))))))
  (z_nil)))))))))))))))
end
end Sm.K62
namespace Sm.K62
open PySem PySem.Spec PyProof.Rows L2 Sm
theorem mk_Gd {K : PySem.W.Frag} {h : Heap} {mg : Str → Option Value} (X : K.In h) (G : h.Ns mainGlobals mg)
    {C_Forest f_never_ends f_check_shape f_Forest_init f_q_is_integer f_q_same f_q_is_differ f_q_take f_q_kinds f_q_turns f_q_parents f_path_of f_Forest_path f_check_same_fields f_change_plan f_q_plan f_q_path f_q_due_plan f_q_same_forest f_Forest_word f_q_fault f_q_word f_check_place f_change f_q_steps_right f_q_plan_right f_q_near f_q_tape f_q_second f_q_size f_law E_BadForest E_BadPlace E_BadRecord E_FieldridesError E_FieldsDiffer E_WordsClash fI_BadForest cc_BadForest ca_BadForest D_BadForest fI_BadPlace cc_BadPlace ca_BadPlace D_BadPlace fI_FieldsDiffer cc_FieldsDiffer ca_FieldsDiffer D_FieldsDiffer : Addr}
    {od_never_ends an_never_ends od_check_shape an_check_shape od_Forest_init an_Forest_init od_q_is_integer an_q_is_integer od_q_same an_q_same od_q_is_differ an_q_is_differ od_q_take an_q_take od_q_kinds an_q_kinds od_q_turns an_q_turns od_q_parents an_q_parents od_path_of an_path_of od_Forest_path an_Forest_path od_check_same_fields an_check_same_fields od_change_plan an_change_plan od_q_plan an_q_plan od_q_path an_q_path od_q_due_plan an_q_due_plan od_q_same_forest an_q_same_forest od_Forest_word an_Forest_word od_q_fault an_q_fault od_q_word an_q_word od_check_place an_check_place od_change an_change od_q_steps_right an_q_steps_right od_q_plan_right an_q_plan_right od_q_near an_q_near od_q_tape an_q_tape od_q_second an_q_second od_q_size an_q_size od_law an_law od_ex_BadForest an_ex_BadForest cld_ex_BadForest cdd_ex_BadForest od_ex_BadPlace an_ex_BadPlace cld_ex_BadPlace cdd_ex_BadPlace od_ex_FieldsDiffer an_ex_FieldsDiffer cld_ex_FieldsDiffer cdd_ex_FieldsDiffer : Option Addr}
    {sl_never_ends sl_check_shape sl_Forest_init sl_q_is_integer sl_q_same sl_q_is_differ sl_q_take sl_q_kinds sl_q_turns sl_q_parents sl_path_of sl_Forest_path sl_check_same_fields sl_change_plan sl_q_plan sl_q_path sl_q_due_plan sl_q_same_forest sl_Forest_word sl_q_fault sl_q_word sl_check_place sl_change sl_q_steps_right sl_q_plan_right sl_q_near sl_q_tape sl_q_second sl_q_size sl_law sl_ex_BadForest csl_ex_BadForest ccs_ex_BadForest sl_ex_BadPlace csl_ex_BadPlace ccs_ex_BadPlace sl_ex_FieldsDiffer csl_ex_FieldsDiffer ccs_ex_FieldsDiffer : Array (Option Value)}
    {oc_never_ends kV_never_ends dc_never_ends pm_never_ends cd_never_ends ct_never_ends oc_check_shape kV_check_shape dc_check_shape pm_check_shape cd_check_shape ct_check_shape oc_Forest_init kV_Forest_init dc_Forest_init pm_Forest_init cd_Forest_init ct_Forest_init oc_q_is_integer kV_q_is_integer dc_q_is_integer pm_q_is_integer cd_q_is_integer ct_q_is_integer oc_q_same kV_q_same dc_q_same pm_q_same cd_q_same ct_q_same oc_q_is_differ kV_q_is_differ dc_q_is_differ pm_q_is_differ cd_q_is_differ ct_q_is_differ oc_q_take kV_q_take dc_q_take pm_q_take cd_q_take ct_q_take oc_q_kinds kV_q_kinds dc_q_kinds pm_q_kinds cd_q_kinds ct_q_kinds oc_q_turns kV_q_turns dc_q_turns pm_q_turns cd_q_turns ct_q_turns oc_q_parents kV_q_parents dc_q_parents pm_q_parents cd_q_parents ct_q_parents oc_path_of kV_path_of dc_path_of pm_path_of cd_path_of ct_path_of oc_Forest_path kV_Forest_path dc_Forest_path pm_Forest_path cd_Forest_path ct_Forest_path oc_check_same_fields kV_check_same_fields dc_check_same_fields pm_check_same_fields cd_check_same_fields ct_check_same_fields oc_change_plan kV_change_plan dc_change_plan pm_change_plan cd_change_plan ct_change_plan oc_q_plan kV_q_plan dc_q_plan pm_q_plan cd_q_plan ct_q_plan oc_q_path kV_q_path dc_q_path pm_q_path cd_q_path ct_q_path oc_q_due_plan kV_q_due_plan dc_q_due_plan pm_q_due_plan cd_q_due_plan ct_q_due_plan oc_q_same_forest kV_q_same_forest dc_q_same_forest pm_q_same_forest cd_q_same_forest ct_q_same_forest oc_Forest_word kV_Forest_word dc_Forest_word pm_Forest_word cd_Forest_word ct_Forest_word oc_q_fault kV_q_fault dc_q_fault pm_q_fault cd_q_fault ct_q_fault oc_q_word kV_q_word dc_q_word pm_q_word cd_q_word ct_q_word oc_check_place kV_check_place dc_check_place pm_check_place cd_check_place ct_check_place oc_change kV_change dc_change pm_change cd_change ct_change oc_q_steps_right kV_q_steps_right dc_q_steps_right pm_q_steps_right cd_q_steps_right ct_q_steps_right oc_q_plan_right kV_q_plan_right dc_q_plan_right pm_q_plan_right cd_q_plan_right ct_q_plan_right oc_q_near kV_q_near dc_q_near pm_q_near cd_q_near ct_q_near oc_q_tape kV_q_tape dc_q_tape pm_q_tape cd_q_tape ct_q_tape oc_q_second kV_q_second dc_q_second pm_q_second cd_q_second ct_q_second oc_q_size kV_q_size dc_q_size pm_q_size cd_q_size ct_q_size oc_law kV_law dc_law pm_law cd_law ct_law oc_ex_BadForest kV_ex_BadForest dc_ex_BadForest pm_ex_BadForest ct_ex_BadForest cl_ex_BadForest ccl_ex_BadForest oc_ex_BadPlace kV_ex_BadPlace dc_ex_BadPlace pm_ex_BadPlace ct_ex_BadPlace cl_ex_BadPlace ccl_ex_BadPlace oc_ex_FieldsDiffer kV_ex_FieldsDiffer dc_ex_FieldsDiffer pm_ex_FieldsDiffer ct_ex_FieldsDiffer cl_ex_FieldsDiffer ccl_ex_FieldsDiffer : Value}
    {t_MOST_FIELDS : Tok}
    {cvs_ex_BadForest cvs_ex_BadPlace cvs_ex_FieldsDiffer : Array Value}
    (p1 : PySem.W.nsIn K mainGlobals "Forest" = some (some (.ref C_Forest)))
    (p2 : PySem.W.plainGet K C_Forest Str.empty = true)
    (p3 : PySem.W.hasDictIn K C_Forest = true)
    (p4 : PySem.W.plainOver K C_Forest = true)
    (p5 : PySem.W.findIn K (.ref C_Forest) "__setattr__" = some (some (.builtin "object.__setattr__")))
    (p6 : PySem.W.findIn K (.ref C_Forest) "__class__" = some (some (.builtin "object.__class__")))
    (p7 : PySem.W.specialIn K (.builtin "object.__class__") "__get__" = some (some (.builtin "getset_descriptor.__get__")))
    (p8 : PySem.W.takesIn K (.builtin "object.__class__") = some true)
    (p9 : PySem.W.mroIn K C_Forest (.type "object") = some true)
    (p10 : PySem.W.findIn K (.ref C_Forest) "fields" = some none)
    (p11 : PySem.W.findIn K (.ref C_Forest) "kinds" = some none)
    (p12 : PySem.W.findIn K (.ref C_Forest) "parents" = some none)
    (p13 : PySem.W.nsIn K mainGlobals "never_ends" = some (some (.ref f_never_ends)))
    (p14 : K.lookup f_never_ends = some ⟨oc_never_ends, od_never_ends, .func (PySem.W.fnOf "never_ends" "never_ends" (defArgs s_never_ends) (defBody s_never_ends) (defScope s_never_ends) .none kV_never_ends dc_never_ends pm_never_ends an_never_ends cd_never_ends ct_never_ends), sl_never_ends⟩)
    (p15 : PySem.W.codeIn K cd_never_ends "never_ends" = true)
    (p16 : PySem.W.keepIn K (.ref f_never_ends) = true)
    (p17 : PySem.W.nsIn K mainGlobals "check_shape" = some (some (.ref f_check_shape)))
    (p18 : K.lookup f_check_shape = some ⟨oc_check_shape, od_check_shape, .func (PySem.W.fnOf "check_shape" "check_shape" (defArgs s_check_shape) (defBody s_check_shape) (defScope s_check_shape) .none kV_check_shape dc_check_shape pm_check_shape an_check_shape cd_check_shape ct_check_shape), sl_check_shape⟩)
    (p19 : PySem.W.codeIn K cd_check_shape "check_shape" = true)
    (p20 : PySem.W.keepIn K (.ref f_check_shape) = true)
    (p21 : PySem.W.findIn K (.ref C_Forest) "__init__" = some (some (.ref f_Forest_init)))
    (p22 : PySem.W.isFn K (.ref f_Forest_init) = true)
    (p23 : K.lookup f_Forest_init = some ⟨oc_Forest_init, od_Forest_init, .func (PySem.W.fnOf "__init__" "Forest.__init__" (defArgs s_Forest_init) (defBody s_Forest_init) (defScope s_Forest_init) .none kV_Forest_init dc_Forest_init pm_Forest_init an_Forest_init cd_Forest_init ct_Forest_init), sl_Forest_init⟩)
    (p24 : PySem.W.codeIn K cd_Forest_init "Forest.__init__" = true)
    (p25 : PySem.W.keepIn K (.ref f_Forest_init) = true)
    (p26 : PySem.W.makesIn K C_Forest = true)
    (p27 : PySem.W.keepIn K (.ref C_Forest) = true)
    (p28 : PySem.W.nsIn K mainGlobals "_law_is_integer" = some (some (.ref f_q_is_integer)))
    (p29 : K.lookup f_q_is_integer = some ⟨oc_q_is_integer, od_q_is_integer, .func (PySem.W.fnOf "_law_is_integer" "_law_is_integer" (defArgs s_q_is_integer) (defBody s_q_is_integer) (defScope s_q_is_integer) .none kV_q_is_integer dc_q_is_integer pm_q_is_integer an_q_is_integer cd_q_is_integer ct_q_is_integer), sl_q_is_integer⟩)
    (p30 : PySem.W.codeIn K cd_q_is_integer "_law_is_integer" = true)
    (p31 : PySem.W.keepIn K (.ref f_q_is_integer) = true)
    (p32 : PySem.W.nsIn K mainGlobals "_law_same" = some (some (.ref f_q_same)))
    (p33 : K.lookup f_q_same = some ⟨oc_q_same, od_q_same, .func (PySem.W.fnOf "_law_same" "_law_same" (defArgs s_q_same) (defBody s_q_same) (defScope s_q_same) .none kV_q_same dc_q_same pm_q_same an_q_same cd_q_same ct_q_same), sl_q_same⟩)
    (p34 : PySem.W.codeIn K cd_q_same "_law_same" = true)
    (p35 : PySem.W.keepIn K (.ref f_q_same) = true)
    (p36 : PySem.W.nsIn K mainGlobals "_law_is_differ" = some (some (.ref f_q_is_differ)))
    (p37 : K.lookup f_q_is_differ = some ⟨oc_q_is_differ, od_q_is_differ, .func (PySem.W.fnOf "_law_is_differ" "_law_is_differ" (defArgs s_q_is_differ) (defBody s_q_is_differ) (defScope s_q_is_differ) .none kV_q_is_differ dc_q_is_differ pm_q_is_differ an_q_is_differ cd_q_is_differ ct_q_is_differ), sl_q_is_differ⟩)
    (p38 : PySem.W.codeIn K cd_q_is_differ "_law_is_differ" = true)
    (p39 : PySem.W.keepIn K (.ref f_q_is_differ) = true)
    (p40 : PySem.W.nsIn K mainGlobals "_law_take" = some (some (.ref f_q_take)))
    (p41 : K.lookup f_q_take = some ⟨oc_q_take, od_q_take, .func (PySem.W.fnOf "_law_take" "_law_take" (defArgs s_q_take) (defBody s_q_take) (defScope s_q_take) .none kV_q_take dc_q_take pm_q_take an_q_take cd_q_take ct_q_take), sl_q_take⟩)
    (p42 : PySem.W.codeIn K cd_q_take "_law_take" = true)
    (p43 : PySem.W.keepIn K (.ref f_q_take) = true)
    (p44 : PySem.W.nsIn K mainGlobals "_law_kinds" = some (some (.ref f_q_kinds)))
    (p45 : K.lookup f_q_kinds = some ⟨oc_q_kinds, od_q_kinds, .func (PySem.W.fnOf "_law_kinds" "_law_kinds" (defArgs s_q_kinds) (defBody s_q_kinds) (defScope s_q_kinds) .none kV_q_kinds dc_q_kinds pm_q_kinds an_q_kinds cd_q_kinds ct_q_kinds), sl_q_kinds⟩)
    (p46 : PySem.W.codeIn K cd_q_kinds "_law_kinds" = true)
    (p47 : PySem.W.keepIn K (.ref f_q_kinds) = true)
    (p48 : PySem.W.nsIn K mainGlobals "_law_turns" = some (some (.ref f_q_turns)))
    (p49 : K.lookup f_q_turns = some ⟨oc_q_turns, od_q_turns, .func (PySem.W.fnOf "_law_turns" "_law_turns" (defArgs s_q_turns) (defBody s_q_turns) (defScope s_q_turns) .none kV_q_turns dc_q_turns pm_q_turns an_q_turns cd_q_turns ct_q_turns), sl_q_turns⟩)
    (p50 : PySem.W.codeIn K cd_q_turns "_law_turns" = true)
    (p51 : PySem.W.keepIn K (.ref f_q_turns) = true)
    (p52 : PySem.W.nsIn K mainGlobals "_law_parents" = some (some (.ref f_q_parents)))
    (p53 : K.lookup f_q_parents = some ⟨oc_q_parents, od_q_parents, .func (PySem.W.fnOf "_law_parents" "_law_parents" (defArgs s_q_parents) (defBody s_q_parents) (defScope s_q_parents) .none kV_q_parents dc_q_parents pm_q_parents an_q_parents cd_q_parents ct_q_parents), sl_q_parents⟩)
    (p54 : PySem.W.codeIn K cd_q_parents "_law_parents" = true)
    (p55 : PySem.W.keepIn K (.ref f_q_parents) = true)
    (p56 : PySem.W.nsIn K mainGlobals "path_of" = some (some (.ref f_path_of)))
    (p57 : K.lookup f_path_of = some ⟨oc_path_of, od_path_of, .func (PySem.W.fnOf "path_of" "path_of" (defArgs s_path_of) (defBody s_path_of) (defScope s_path_of) .none kV_path_of dc_path_of pm_path_of an_path_of cd_path_of ct_path_of), sl_path_of⟩)
    (p58 : PySem.W.codeIn K cd_path_of "path_of" = true)
    (p59 : PySem.W.keepIn K (.ref f_path_of) = true)
    (p60 : PySem.W.findIn K (.ref C_Forest) "path" = some (some (.ref f_Forest_path)))
    (p61 : PySem.W.isFn K (.ref f_Forest_path) = true)
    (p62 : K.lookup f_Forest_path = some ⟨oc_Forest_path, od_Forest_path, .func (PySem.W.fnOf "path" "Forest.path" (defArgs s_Forest_path) (defBody s_Forest_path) (defScope s_Forest_path) .none kV_Forest_path dc_Forest_path pm_Forest_path an_Forest_path cd_Forest_path ct_Forest_path), sl_Forest_path⟩)
    (p63 : PySem.W.codeIn K cd_Forest_path "Forest.path" = true)
    (p64 : PySem.W.keepIn K (.ref f_Forest_path) = true)
    (p65 : PySem.W.nsIn K mainGlobals "check_same_fields" = some (some (.ref f_check_same_fields)))
    (p66 : K.lookup f_check_same_fields = some ⟨oc_check_same_fields, od_check_same_fields, .func (PySem.W.fnOf "check_same_fields" "check_same_fields" (defArgs s_check_same_fields) (defBody s_check_same_fields) (defScope s_check_same_fields) .none kV_check_same_fields dc_check_same_fields pm_check_same_fields an_check_same_fields cd_check_same_fields ct_check_same_fields), sl_check_same_fields⟩)
    (p67 : PySem.W.codeIn K cd_check_same_fields "check_same_fields" = true)
    (p68 : PySem.W.keepIn K (.ref f_check_same_fields) = true)
    (p69 : PySem.W.nsIn K mainGlobals "change_plan" = some (some (.ref f_change_plan)))
    (p70 : K.lookup f_change_plan = some ⟨oc_change_plan, od_change_plan, .func (PySem.W.fnOf "change_plan" "change_plan" (defArgs s_change_plan) (defBody s_change_plan) (defScope s_change_plan) .none kV_change_plan dc_change_plan pm_change_plan an_change_plan cd_change_plan ct_change_plan), sl_change_plan⟩)
    (p71 : PySem.W.codeIn K cd_change_plan "change_plan" = true)
    (p72 : PySem.W.keepIn K (.ref f_change_plan) = true)
    (p73 : PySem.W.nsIn K mainGlobals "_law_plan" = some (some (.ref f_q_plan)))
    (p74 : K.lookup f_q_plan = some ⟨oc_q_plan, od_q_plan, .func (PySem.W.fnOf "_law_plan" "_law_plan" (defArgs s_q_plan) (defBody s_q_plan) (defScope s_q_plan) .none kV_q_plan dc_q_plan pm_q_plan an_q_plan cd_q_plan ct_q_plan), sl_q_plan⟩)
    (p75 : PySem.W.codeIn K cd_q_plan "_law_plan" = true)
    (p76 : PySem.W.keepIn K (.ref f_q_plan) = true)
    (p77 : PySem.W.nsIn K mainGlobals "_law_path" = some (some (.ref f_q_path)))
    (p78 : K.lookup f_q_path = some ⟨oc_q_path, od_q_path, .func (PySem.W.fnOf "_law_path" "_law_path" (defArgs s_q_path) (defBody s_q_path) (defScope s_q_path) .none kV_q_path dc_q_path pm_q_path an_q_path cd_q_path ct_q_path), sl_q_path⟩)
    (p79 : PySem.W.codeIn K cd_q_path "_law_path" = true)
    (p80 : PySem.W.keepIn K (.ref f_q_path) = true)
    (p81 : PySem.W.nsIn K mainGlobals "_law_due_plan" = some (some (.ref f_q_due_plan)))
    (p82 : K.lookup f_q_due_plan = some ⟨oc_q_due_plan, od_q_due_plan, .func (PySem.W.fnOf "_law_due_plan" "_law_due_plan" (defArgs s_q_due_plan) (defBody s_q_due_plan) (defScope s_q_due_plan) .none kV_q_due_plan dc_q_due_plan pm_q_due_plan an_q_due_plan cd_q_due_plan ct_q_due_plan), sl_q_due_plan⟩)
    (p83 : PySem.W.codeIn K cd_q_due_plan "_law_due_plan" = true)
    (p84 : PySem.W.keepIn K (.ref f_q_due_plan) = true)
    (p85 : PySem.W.nsIn K mainGlobals "_law_same_forest" = some (some (.ref f_q_same_forest)))
    (p86 : K.lookup f_q_same_forest = some ⟨oc_q_same_forest, od_q_same_forest, .func (PySem.W.fnOf "_law_same_forest" "_law_same_forest" (defArgs s_q_same_forest) (defBody s_q_same_forest) (defScope s_q_same_forest) .none kV_q_same_forest dc_q_same_forest pm_q_same_forest an_q_same_forest cd_q_same_forest ct_q_same_forest), sl_q_same_forest⟩)
    (p87 : PySem.W.codeIn K cd_q_same_forest "_law_same_forest" = true)
    (p88 : PySem.W.keepIn K (.ref f_q_same_forest) = true)
    (p89 : PySem.W.findIn K (.ref C_Forest) "word" = some (some (.ref f_Forest_word)))
    (p90 : PySem.W.isFn K (.ref f_Forest_word) = true)
    (p91 : K.lookup f_Forest_word = some ⟨oc_Forest_word, od_Forest_word, .func (PySem.W.fnOf "word" "Forest.word" (defArgs s_Forest_word) (defBody s_Forest_word) (defScope s_Forest_word) .none kV_Forest_word dc_Forest_word pm_Forest_word an_Forest_word cd_Forest_word ct_Forest_word), sl_Forest_word⟩)
    (p92 : PySem.W.codeIn K cd_Forest_word "Forest.word" = true)
    (p93 : PySem.W.keepIn K (.ref f_Forest_word) = true)
    (p94 : PySem.W.nsIn K mainGlobals "_law_fault" = some (some (.ref f_q_fault)))
    (p95 : K.lookup f_q_fault = some ⟨oc_q_fault, od_q_fault, .func (PySem.W.fnOf "_law_fault" "_law_fault" (defArgs s_q_fault) (defBody s_q_fault) (defScope s_q_fault) .none kV_q_fault dc_q_fault pm_q_fault an_q_fault cd_q_fault ct_q_fault), sl_q_fault⟩)
    (p96 : PySem.W.codeIn K cd_q_fault "_law_fault" = true)
    (p97 : PySem.W.keepIn K (.ref f_q_fault) = true)
    (p98 : PySem.W.nsIn K mainGlobals "_law_word" = some (some (.ref f_q_word)))
    (p99 : K.lookup f_q_word = some ⟨oc_q_word, od_q_word, .func (PySem.W.fnOf "_law_word" "_law_word" (defArgs s_q_word) (defBody s_q_word) (defScope s_q_word) .none kV_q_word dc_q_word pm_q_word an_q_word cd_q_word ct_q_word), sl_q_word⟩)
    (p100 : PySem.W.codeIn K cd_q_word "_law_word" = true)
    (p101 : PySem.W.keepIn K (.ref f_q_word) = true)
    (p102 : PySem.W.nsIn K mainGlobals "check_place" = some (some (.ref f_check_place)))
    (p103 : K.lookup f_check_place = some ⟨oc_check_place, od_check_place, .func (PySem.W.fnOf "check_place" "check_place" (defArgs s_check_place) (defBody s_check_place) (defScope s_check_place) .none kV_check_place dc_check_place pm_check_place an_check_place cd_check_place ct_check_place), sl_check_place⟩)
    (p104 : PySem.W.codeIn K cd_check_place "check_place" = true)
    (p105 : PySem.W.keepIn K (.ref f_check_place) = true)
    (p106 : PySem.W.nsIn K mainGlobals "change" = some (some (.ref f_change)))
    (p107 : K.lookup f_change = some ⟨oc_change, od_change, .func (PySem.W.fnOf "change" "change" (defArgs s_change) (defBody s_change) (defScope s_change) .none kV_change dc_change pm_change an_change cd_change ct_change), sl_change⟩)
    (p108 : PySem.W.codeIn K cd_change "change" = true)
    (p109 : PySem.W.keepIn K (.ref f_change) = true)
    (p110 : PySem.W.nsIn K mainGlobals "_law_steps_right" = some (some (.ref f_q_steps_right)))
    (p111 : K.lookup f_q_steps_right = some ⟨oc_q_steps_right, od_q_steps_right, .func (PySem.W.fnOf "_law_steps_right" "_law_steps_right" (defArgs s_q_steps_right) (defBody s_q_steps_right) (defScope s_q_steps_right) .none kV_q_steps_right dc_q_steps_right pm_q_steps_right an_q_steps_right cd_q_steps_right ct_q_steps_right), sl_q_steps_right⟩)
    (p112 : PySem.W.codeIn K cd_q_steps_right "_law_steps_right" = true)
    (p113 : PySem.W.keepIn K (.ref f_q_steps_right) = true)
    (p114 : PySem.W.nsIn K mainGlobals "_law_plan_right" = some (some (.ref f_q_plan_right)))
    (p115 : K.lookup f_q_plan_right = some ⟨oc_q_plan_right, od_q_plan_right, .func (PySem.W.fnOf "_law_plan_right" "_law_plan_right" (defArgs s_q_plan_right) (defBody s_q_plan_right) (defScope s_q_plan_right) .none kV_q_plan_right dc_q_plan_right pm_q_plan_right an_q_plan_right cd_q_plan_right ct_q_plan_right), sl_q_plan_right⟩)
    (p116 : PySem.W.codeIn K cd_q_plan_right "_law_plan_right" = true)
    (p117 : PySem.W.keepIn K (.ref f_q_plan_right) = true)
    (p118 : PySem.W.nsIn K mainGlobals "_law_near" = some (some (.ref f_q_near)))
    (p119 : K.lookup f_q_near = some ⟨oc_q_near, od_q_near, .func (PySem.W.fnOf "_law_near" "_law_near" (defArgs s_q_near) (defBody s_q_near) (defScope s_q_near) .none kV_q_near dc_q_near pm_q_near an_q_near cd_q_near ct_q_near), sl_q_near⟩)
    (p120 : PySem.W.codeIn K cd_q_near "_law_near" = true)
    (p121 : PySem.W.keepIn K (.ref f_q_near) = true)
    (p122 : PySem.W.nsIn K mainGlobals "_law_tape" = some (some (.ref f_q_tape)))
    (p123 : K.lookup f_q_tape = some ⟨oc_q_tape, od_q_tape, .func (PySem.W.fnOf "_law_tape" "_law_tape" (defArgs s_q_tape) (defBody s_q_tape) (defScope s_q_tape) .none kV_q_tape dc_q_tape pm_q_tape an_q_tape cd_q_tape ct_q_tape), sl_q_tape⟩)
    (p124 : PySem.W.codeIn K cd_q_tape "_law_tape" = true)
    (p125 : PySem.W.keepIn K (.ref f_q_tape) = true)
    (p126 : PySem.W.nsIn K mainGlobals "_law_second" = some (some (.ref f_q_second)))
    (p127 : K.lookup f_q_second = some ⟨oc_q_second, od_q_second, .func (PySem.W.fnOf "_law_second" "_law_second" (defArgs s_q_second) (defBody s_q_second) (defScope s_q_second) .none kV_q_second dc_q_second pm_q_second an_q_second cd_q_second ct_q_second), sl_q_second⟩)
    (p128 : PySem.W.codeIn K cd_q_second "_law_second" = true)
    (p129 : PySem.W.keepIn K (.ref f_q_second) = true)
    (p130 : PySem.W.nsIn K mainGlobals "_law_size" = some (some (.ref f_q_size)))
    (p131 : K.lookup f_q_size = some ⟨oc_q_size, od_q_size, .func (PySem.W.fnOf "_law_size" "_law_size" (defArgs s_q_size) (defBody s_q_size) (defScope s_q_size) .none kV_q_size dc_q_size pm_q_size an_q_size cd_q_size ct_q_size), sl_q_size⟩)
    (p132 : PySem.W.codeIn K cd_q_size "_law_size" = true)
    (p133 : PySem.W.keepIn K (.ref f_q_size) = true)
    (p134 : PySem.W.nsIn K mainGlobals "law" = some (some (.ref f_law)))
    (p135 : K.lookup f_law = some ⟨oc_law, od_law, .func (PySem.W.fnOf "law" "law" (defArgs s_law) (defBody s_law) (defScope s_law) .none kV_law dc_law pm_law an_law cd_law ct_law), sl_law⟩)
    (p136 : PySem.W.codeIn K cd_law "law" = true)
    (p137 : PySem.W.keepIn K (.ref f_law) = true)
    (p138 : PySem.W.nsIn K mainGlobals "ValueError" = some none)
    (p139 : PySem.W.nsIn K mainGlobals "abs" = some none)
    (p140 : PySem.W.nsIn K mainGlobals "bool" = some none)
    (p141 : PySem.W.nsIn K mainGlobals "int" = some none)
    (p142 : PySem.W.nsIn K mainGlobals "isinstance" = some none)
    (p143 : PySem.W.nsIn K mainGlobals "len" = some none)
    (p144 : PySem.W.nsIn K mainGlobals "list" = some none)
    (p145 : PySem.W.nsIn K mainGlobals "range" = some none)
    (p146 : PySem.W.nsIn K mainGlobals "sorted" = some none)
    (p147 : PySem.W.nsIn K mainGlobals "str" = some none)
    (p148 : PySem.W.nsIn K mainGlobals "tuple" = some none)
    (p149 : PySem.W.nsIn K mainGlobals "MOST_FIELDS" = some (some (.int 16 t_MOST_FIELDS)))
    (p150 : PySem.W.nsIn K mainGlobals "BadForest" = some (some (.ref E_BadForest)))
    (p151 : errB K E_BadForest = true)
    (p152 : PySem.W.nsIn K mainGlobals "BadPlace" = some (some (.ref E_BadPlace)))
    (p153 : errB K E_BadPlace = true)
    (p154 : PySem.W.nsIn K mainGlobals "BadRecord" = some (some (.ref E_BadRecord)))
    (p155 : errB K E_BadRecord = true)
    (p156 : PySem.W.nsIn K mainGlobals "FieldridesError" = some (some (.ref E_FieldridesError)))
    (p157 : errB K E_FieldridesError = true)
    (p158 : PySem.W.nsIn K mainGlobals "FieldsDiffer" = some (some (.ref E_FieldsDiffer)))
    (p159 : errB K E_FieldsDiffer = true)
    (p160 : PySem.W.nsIn K mainGlobals "WordsClash" = some (some (.ref E_WordsClash)))
    (p161 : errB K E_WordsClash = true)
    (p162 : PySem.W.subIn K (.ref E_BadForest) (.ref E_FieldsDiffer) = some false)
    (p163 : PySem.W.subIn K (.ref E_BadPlace) (.ref E_FieldsDiffer) = some false)
    (p164 : PySem.W.subIn K (.ref E_BadRecord) (.ref E_FieldsDiffer) = some false)
    (p165 : PySem.W.subIn K (.ref E_FieldsDiffer) (.ref E_BadForest) = some false)
    (p166 : PySem.W.subIn K (.ref E_FieldsDiffer) (.ref E_BadPlace) = some false)
    (p167 : PySem.W.subIn K (.ref E_FieldsDiffer) (.ref E_FieldridesError) = some true)
    (p168 : PySem.W.subIn K (.ref E_FieldsDiffer) (.ref E_FieldsDiffer) = some true)
    (p169 : PySem.W.subIn K (.ref E_FieldsDiffer) (.ref E_WordsClash) = some false)
    (p170 : PySem.W.subIn K (.ref E_FieldsDiffer) (.type "ValueError") = some true)
    (p171 : PySem.W.subIn K (.ref E_WordsClash) (.ref E_FieldsDiffer) = some false)
    (p172 : PySem.W.findIn K (.ref E_BadForest) "field" = some none)
    (p173 : PySem.W.findIn K (.ref E_BadPlace) "place" = some none)
    (p174 : PySem.W.findIn K (.ref E_FieldsDiffer) "first" = some none)
    (p175 : PySem.W.findIn K (.ref E_FieldsDiffer) "second" = some none)
    (p176 : PySem.W.findIn K (.ref E_WordsClash) "first" = some none)
    (p177 : PySem.W.findIn K (.ref E_WordsClash) "second" = some none)
    (p178 : oexB K E_BadForest = true)
    (p179 : PySem.W.findIn K (.ref E_BadForest) "__init__" = some (some (.ref fI_BadForest)))
    (p180 : PySem.W.typeIn K (.ref fI_BadForest) = some (.type "function"))
    (p181 : K.lookup fI_BadForest = some ⟨oc_ex_BadForest, od_ex_BadForest, .func (PySem.W.fnX "__init__" "BadForest.__init__" (defArgs s_ex_BadForest) (defBody s_ex_BadForest) (defScope s_ex_BadForest) [("__class__", cc_BadForest)] .none kV_ex_BadForest dc_ex_BadForest pm_ex_BadForest an_ex_BadForest (.ref ca_BadForest) ct_ex_BadForest), sl_ex_BadForest⟩)
    (p182 : PySem.W.codeIn K (.ref ca_BadForest) "BadForest.__init__" = true)
    (p183 : K.lookup cc_BadForest = some ⟨cl_ex_BadForest, cld_ex_BadForest, .cell (some (.ref D_BadForest)), csl_ex_BadForest⟩)
    (p184 : K.lookup ca_BadForest = some ⟨ccl_ex_BadForest, cdd_ex_BadForest, .fields cvs_ex_BadForest, ccs_ex_BadForest⟩)
    (p185 : supB K E_BadForest D_BadForest (PySem.Challenge.pw_fieldrides_k62_whole_change_plans.main.file) cvs_ex_BadForest = true)
    (p186 : oexB K E_BadPlace = true)
    (p187 : PySem.W.findIn K (.ref E_BadPlace) "__init__" = some (some (.ref fI_BadPlace)))
    (p188 : PySem.W.typeIn K (.ref fI_BadPlace) = some (.type "function"))
    (p189 : K.lookup fI_BadPlace = some ⟨oc_ex_BadPlace, od_ex_BadPlace, .func (PySem.W.fnX "__init__" "BadPlace.__init__" (defArgs s_ex_BadPlace) (defBody s_ex_BadPlace) (defScope s_ex_BadPlace) [("__class__", cc_BadPlace)] .none kV_ex_BadPlace dc_ex_BadPlace pm_ex_BadPlace an_ex_BadPlace (.ref ca_BadPlace) ct_ex_BadPlace), sl_ex_BadPlace⟩)
    (p190 : PySem.W.codeIn K (.ref ca_BadPlace) "BadPlace.__init__" = true)
    (p191 : K.lookup cc_BadPlace = some ⟨cl_ex_BadPlace, cld_ex_BadPlace, .cell (some (.ref D_BadPlace)), csl_ex_BadPlace⟩)
    (p192 : K.lookup ca_BadPlace = some ⟨ccl_ex_BadPlace, cdd_ex_BadPlace, .fields cvs_ex_BadPlace, ccs_ex_BadPlace⟩)
    (p193 : supB K E_BadPlace D_BadPlace (PySem.Challenge.pw_fieldrides_k62_whole_change_plans.main.file) cvs_ex_BadPlace = true)
    (p194 : oexB K E_FieldsDiffer = true)
    (p195 : PySem.W.findIn K (.ref E_FieldsDiffer) "__init__" = some (some (.ref fI_FieldsDiffer)))
    (p196 : PySem.W.typeIn K (.ref fI_FieldsDiffer) = some (.type "function"))
    (p197 : K.lookup fI_FieldsDiffer = some ⟨oc_ex_FieldsDiffer, od_ex_FieldsDiffer, .func (PySem.W.fnX "__init__" "FieldsDiffer.__init__" (defArgs s_ex_FieldsDiffer) (defBody s_ex_FieldsDiffer) (defScope s_ex_FieldsDiffer) [("__class__", cc_FieldsDiffer)] .none kV_ex_FieldsDiffer dc_ex_FieldsDiffer pm_ex_FieldsDiffer an_ex_FieldsDiffer (.ref ca_FieldsDiffer) ct_ex_FieldsDiffer), sl_ex_FieldsDiffer⟩)
    (p198 : PySem.W.codeIn K (.ref ca_FieldsDiffer) "FieldsDiffer.__init__" = true)
    (p199 : K.lookup cc_FieldsDiffer = some ⟨cl_ex_FieldsDiffer, cld_ex_FieldsDiffer, .cell (some (.ref D_FieldsDiffer)), csl_ex_FieldsDiffer⟩)
    (p200 : K.lookup ca_FieldsDiffer = some ⟨ccl_ex_FieldsDiffer, cdd_ex_FieldsDiffer, .fields cvs_ex_FieldsDiffer, ccs_ex_FieldsDiffer⟩)
    (p201 : supB K E_FieldsDiffer D_FieldsDiffer (PySem.Challenge.pw_fieldrides_k62_whole_change_plans.main.file) cvs_ex_FieldsDiffer = true)
    (p202 : PySem.W.nsIn K mainGlobals "super" = some none)
    (op : PySem.W.nsIn K cStatics "thirdparty.any" = some none)
    : Nonempty (Gd K mg) := ⟨{
  c_Forest := C_Forest,
  mC_Forest := PySem.W.mg_of X G p1,
  cl_Forest := ⟨p2, p3, p4, p5⟩,
  ic_Forest := ⟨p6, p7, p8, p9⟩,
  na_Forest_fields := p10,
  na_Forest_kinds := p11,
  na_Forest_parents := p12,
  a_never_ends := f_never_ends,
  d_never_ends := PySem.W.fnOf "never_ends" "never_ends" (defArgs s_never_ends) (defBody s_never_ends) (defScope s_never_ends) .none kV_never_ends dc_never_ends pm_never_ends an_never_ends cd_never_ends ct_never_ends,
  F_never_ends := fun_mk (st := s_never_ends) p14 p15 p16,
  b_never_ends := (fun_mk (st := s_never_ends) p14 p15 p16).binds (ps := ["parents", "field"]) fun _ _ _ _ _ _ us hl => match us, hl with | [_, _], _ => rfl,
  m_never_ends := PySem.W.mg_of X G p13,
  a_check_shape := f_check_shape,
  d_check_shape := PySem.W.fnOf "check_shape" "check_shape" (defArgs s_check_shape) (defBody s_check_shape) (defScope s_check_shape) .none kV_check_shape dc_check_shape pm_check_shape an_check_shape cd_check_shape ct_check_shape,
  F_check_shape := fun_mk (st := s_check_shape) p18 p19 p20,
  b_check_shape := (fun_mk (st := s_check_shape) p18 p19 p20).binds (ps := ["parents", "kinds"]) fun _ _ _ _ _ _ us hl => match us, hl with | [_, _], _ => rfl,
  m_check_shape := PySem.W.mg_of X G p17,
  a_Forest_init := f_Forest_init,
  d_Forest_init := PySem.W.fnOf "__init__" "Forest.__init__" (defArgs s_Forest_init) (defBody s_Forest_init) (defScope s_Forest_init) .none kV_Forest_init dc_Forest_init pm_Forest_init an_Forest_init cd_Forest_init ct_Forest_init,
  F_Forest_init := fun_mk (st := s_Forest_init) p23 p24 p25,
  b_Forest_init := (fun_mk (st := s_Forest_init) p23 p24 p25).binds (ps := ["self", "parents", "kinds"]) fun _ _ _ _ _ _ us hl => match us, hl with | [_, _, _], _ => rfl,
  mk_Forest := ⟨p26, p21, p22, p27⟩,
  a_q_is_integer := f_q_is_integer,
  d_q_is_integer := PySem.W.fnOf "_law_is_integer" "_law_is_integer" (defArgs s_q_is_integer) (defBody s_q_is_integer) (defScope s_q_is_integer) .none kV_q_is_integer dc_q_is_integer pm_q_is_integer an_q_is_integer cd_q_is_integer ct_q_is_integer,
  F_q_is_integer := fun_mk (st := s_q_is_integer) p29 p30 p31,
  b_q_is_integer := (fun_mk (st := s_q_is_integer) p29 p30 p31).binds (ps := ["_law_actual"]) fun _ _ _ _ _ _ us hl => match us, hl with | [_], _ => rfl,
  m_q_is_integer := PySem.W.mg_of X G p28,
  a_q_same := f_q_same,
  d_q_same := PySem.W.fnOf "_law_same" "_law_same" (defArgs s_q_same) (defBody s_q_same) (defScope s_q_same) .none kV_q_same dc_q_same pm_q_same an_q_same cd_q_same ct_q_same,
  F_q_same := fun_mk (st := s_q_same) p33 p34 p35,
  b_q_same := (fun_mk (st := s_q_same) p33 p34 p35).binds (ps := ["_law_actual", "_law_due"]) fun _ _ _ _ _ _ us hl => match us, hl with | [_, _], _ => rfl,
  m_q_same := PySem.W.mg_of X G p32,
  a_q_is_differ := f_q_is_differ,
  d_q_is_differ := PySem.W.fnOf "_law_is_differ" "_law_is_differ" (defArgs s_q_is_differ) (defBody s_q_is_differ) (defScope s_q_is_differ) .none kV_q_is_differ dc_q_is_differ pm_q_is_differ an_q_is_differ cd_q_is_differ ct_q_is_differ,
  F_q_is_differ := fun_mk (st := s_q_is_differ) p37 p38 p39,
  b_q_is_differ := (fun_mk (st := s_q_is_differ) p37 p38 p39).binds (ps := ["_law_actual", "_law_first", "_law_second_here"]) fun _ _ _ _ _ _ us hl => match us, hl with | [_, _, _], _ => rfl,
  m_q_is_differ := PySem.W.mg_of X G p36,
  a_q_take := f_q_take,
  d_q_take := PySem.W.fnOf "_law_take" "_law_take" (defArgs s_q_take) (defBody s_q_take) (defScope s_q_take) .none kV_q_take dc_q_take pm_q_take an_q_take cd_q_take ct_q_take,
  F_q_take := fun_mk (st := s_q_take) p41 p42 p43,
  b_q_take := (fun_mk (st := s_q_take) p41 p42 p43).binds (ps := ["_law_tape_here", "_law_size_here"]) fun _ _ _ _ _ _ us hl => match us, hl with | [_, _], _ => rfl,
  m_q_take := PySem.W.mg_of X G p40,
  a_q_kinds := f_q_kinds,
  d_q_kinds := PySem.W.fnOf "_law_kinds" "_law_kinds" (defArgs s_q_kinds) (defBody s_q_kinds) (defScope s_q_kinds) .none kV_q_kinds dc_q_kinds pm_q_kinds an_q_kinds cd_q_kinds ct_q_kinds,
  F_q_kinds := fun_mk (st := s_q_kinds) p45 p46 p47,
  b_q_kinds := (fun_mk (st := s_q_kinds) p45 p46 p47).binds (ps := ["_law_tape_here", "_law_parents_here", "_law_fair"]) fun _ _ _ _ _ _ us hl => match us, hl with | [_, _, _], _ => rfl,
  m_q_kinds := PySem.W.mg_of X G p44,
  a_q_turns := f_q_turns,
  d_q_turns := PySem.W.fnOf "_law_turns" "_law_turns" (defArgs s_q_turns) (defBody s_q_turns) (defScope s_q_turns) .none kV_q_turns dc_q_turns pm_q_turns an_q_turns cd_q_turns ct_q_turns,
  F_q_turns := fun_mk (st := s_q_turns) p49 p50 p51,
  b_q_turns := (fun_mk (st := s_q_turns) p49 p50 p51).binds (ps := ["_law_tape_here", "_law_n"]) fun _ _ _ _ _ _ us hl => match us, hl with | [_, _], _ => rfl,
  m_q_turns := PySem.W.mg_of X G p48,
  a_q_parents := f_q_parents,
  d_q_parents := PySem.W.fnOf "_law_parents" "_law_parents" (defArgs s_q_parents) (defBody s_q_parents) (defScope s_q_parents) .none kV_q_parents dc_q_parents pm_q_parents an_q_parents cd_q_parents ct_q_parents,
  F_q_parents := fun_mk (st := s_q_parents) p53 p54 p55,
  b_q_parents := (fun_mk (st := s_q_parents) p53 p54 p55).binds (ps := ["_law_tape_here", "_law_n"]) fun _ _ _ _ _ _ us hl => match us, hl with | [_, _], _ => rfl,
  m_q_parents := PySem.W.mg_of X G p52,
  a_path_of := f_path_of,
  d_path_of := PySem.W.fnOf "path_of" "path_of" (defArgs s_path_of) (defBody s_path_of) (defScope s_path_of) .none kV_path_of dc_path_of pm_path_of an_path_of cd_path_of ct_path_of,
  F_path_of := fun_mk (st := s_path_of) p57 p58 p59,
  b_path_of := (fun_mk (st := s_path_of) p57 p58 p59).binds (ps := ["parents", "field"]) fun _ _ _ _ _ _ us hl => match us, hl with | [_, _], _ => rfl,
  m_path_of := PySem.W.mg_of X G p56,
  a_Forest_path := f_Forest_path,
  d_Forest_path := PySem.W.fnOf "path" "Forest.path" (defArgs s_Forest_path) (defBody s_Forest_path) (defScope s_Forest_path) .none kV_Forest_path dc_Forest_path pm_Forest_path an_Forest_path cd_Forest_path ct_Forest_path,
  F_Forest_path := fun_mk (st := s_Forest_path) p62 p63 p64,
  b_Forest_path := (fun_mk (st := s_Forest_path) p62 p63 p64).binds (ps := ["self", "field"]) fun _ _ _ _ _ _ us hl => match us, hl with | [_, _], _ => rfl,
  me_Forest_path := ⟨p60, p61, p64⟩,
  a_check_same_fields := f_check_same_fields,
  d_check_same_fields := PySem.W.fnOf "check_same_fields" "check_same_fields" (defArgs s_check_same_fields) (defBody s_check_same_fields) (defScope s_check_same_fields) .none kV_check_same_fields dc_check_same_fields pm_check_same_fields an_check_same_fields cd_check_same_fields ct_check_same_fields,
  F_check_same_fields := fun_mk (st := s_check_same_fields) p66 p67 p68,
  b_check_same_fields := (fun_mk (st := s_check_same_fields) p66 p67 p68).binds (ps := ["first", "second"]) fun _ _ _ _ _ _ us hl => match us, hl with | [_, _], _ => rfl,
  m_check_same_fields := PySem.W.mg_of X G p65,
  a_change_plan := f_change_plan,
  d_change_plan := PySem.W.fnOf "change_plan" "change_plan" (defArgs s_change_plan) (defBody s_change_plan) (defScope s_change_plan) .none kV_change_plan dc_change_plan pm_change_plan an_change_plan cd_change_plan ct_change_plan,
  F_change_plan := fun_mk (st := s_change_plan) p70 p71 p72,
  b_change_plan := (fun_mk (st := s_change_plan) p70 p71 p72).binds (ps := ["first", "second"]) fun _ _ _ _ _ _ us hl => match us, hl with | [_, _], _ => rfl,
  m_change_plan := PySem.W.mg_of X G p69,
  a_q_plan := f_q_plan,
  d_q_plan := PySem.W.fnOf "_law_plan" "_law_plan" (defArgs s_q_plan) (defBody s_q_plan) (defScope s_q_plan) .none kV_q_plan dc_q_plan pm_q_plan an_q_plan cd_q_plan ct_q_plan,
  F_q_plan := fun_mk (st := s_q_plan) p74 p75 p76,
  b_q_plan := (fun_mk (st := s_q_plan) p74 p75 p76).binds (ps := ["_law_first", "_law_second_here"]) fun _ _ _ _ _ _ us hl => match us, hl with | [_, _], _ => rfl,
  m_q_plan := PySem.W.mg_of X G p73,
  a_q_path := f_q_path,
  d_q_path := PySem.W.fnOf "_law_path" "_law_path" (defArgs s_q_path) (defBody s_q_path) (defScope s_q_path) .none kV_q_path dc_q_path pm_q_path an_q_path cd_q_path ct_q_path,
  F_q_path := fun_mk (st := s_q_path) p78 p79 p80,
  b_q_path := (fun_mk (st := s_q_path) p78 p79 p80).binds (ps := ["_law_parents_here", "_law_field"]) fun _ _ _ _ _ _ us hl => match us, hl with | [_, _], _ => rfl,
  m_q_path := PySem.W.mg_of X G p77,
  a_q_due_plan := f_q_due_plan,
  d_q_due_plan := PySem.W.fnOf "_law_due_plan" "_law_due_plan" (defArgs s_q_due_plan) (defBody s_q_due_plan) (defScope s_q_due_plan) .none kV_q_due_plan dc_q_due_plan pm_q_due_plan an_q_due_plan cd_q_due_plan ct_q_due_plan,
  F_q_due_plan := fun_mk (st := s_q_due_plan) p82 p83 p84,
  b_q_due_plan := (fun_mk (st := s_q_due_plan) p82 p83 p84).binds (ps := ["_law_one", "_law_two"]) fun _ _ _ _ _ _ us hl => match us, hl with | [_, _], _ => rfl,
  m_q_due_plan := PySem.W.mg_of X G p81,
  a_q_same_forest := f_q_same_forest,
  d_q_same_forest := PySem.W.fnOf "_law_same_forest" "_law_same_forest" (defArgs s_q_same_forest) (defBody s_q_same_forest) (defScope s_q_same_forest) .none kV_q_same_forest dc_q_same_forest pm_q_same_forest an_q_same_forest cd_q_same_forest ct_q_same_forest,
  F_q_same_forest := fun_mk (st := s_q_same_forest) p86 p87 p88,
  b_q_same_forest := (fun_mk (st := s_q_same_forest) p86 p87 p88).binds (ps := ["_law_actual", "_law_parents_here", "_law_kinds_here"]) fun _ _ _ _ _ _ us hl => match us, hl with | [_, _, _], _ => rfl,
  m_q_same_forest := PySem.W.mg_of X G p85,
  a_Forest_word := f_Forest_word,
  d_Forest_word := PySem.W.fnOf "word" "Forest.word" (defArgs s_Forest_word) (defBody s_Forest_word) (defScope s_Forest_word) .none kV_Forest_word dc_Forest_word pm_Forest_word an_Forest_word cd_Forest_word ct_Forest_word,
  F_Forest_word := fun_mk (st := s_Forest_word) p91 p92 p93,
  b_Forest_word := (fun_mk (st := s_Forest_word) p91 p92 p93).binds (ps := ["self", "field"]) fun _ _ _ _ _ _ us hl => match us, hl with | [_, _], _ => rfl,
  me_Forest_word := ⟨p89, p90, p93⟩,
  a_q_fault := f_q_fault,
  d_q_fault := PySem.W.fnOf "_law_fault" "_law_fault" (defArgs s_q_fault) (defBody s_q_fault) (defScope s_q_fault) .none kV_q_fault dc_q_fault pm_q_fault an_q_fault cd_q_fault ct_q_fault,
  F_q_fault := fun_mk (st := s_q_fault) p95 p96 p97,
  b_q_fault := (fun_mk (st := s_q_fault) p95 p96 p97).binds (ps := ["_law_parents_here", "_law_kinds_here"]) fun _ _ _ _ _ _ us hl => match us, hl with | [_, _], _ => rfl,
  m_q_fault := PySem.W.mg_of X G p94,
  a_q_word := f_q_word,
  d_q_word := PySem.W.fnOf "_law_word" "_law_word" (defArgs s_q_word) (defBody s_q_word) (defScope s_q_word) .none kV_q_word dc_q_word pm_q_word an_q_word cd_q_word ct_q_word,
  F_q_word := fun_mk (st := s_q_word) p99 p100 p101,
  b_q_word := (fun_mk (st := s_q_word) p99 p100 p101).binds (ps := ["_law_parents_here", "_law_kinds_here", "_law_field"]) fun _ _ _ _ _ _ us hl => match us, hl with | [_, _, _], _ => rfl,
  m_q_word := PySem.W.mg_of X G p98,
  a_check_place := f_check_place,
  d_check_place := PySem.W.fnOf "check_place" "check_place" (defArgs s_check_place) (defBody s_check_place) (defScope s_check_place) .none kV_check_place dc_check_place pm_check_place an_check_place cd_check_place ct_check_place,
  F_check_place := fun_mk (st := s_check_place) p103 p104 p105,
  b_check_place := (fun_mk (st := s_check_place) p103 p104 p105).binds (ps := ["fields", "place"]) fun _ _ _ _ _ _ us hl => match us, hl with | [_, _], _ => rfl,
  m_check_place := PySem.W.mg_of X G p102,
  a_change := f_change,
  d_change := PySem.W.fnOf "change" "change" (defArgs s_change) (defBody s_change) (defScope s_change) .none kV_change dc_change pm_change an_change cd_change ct_change,
  F_change := fun_mk (st := s_change) p107 p108 p109,
  b_change := (fun_mk (st := s_change) p107 p108 p109).binds (ps := ["forest", "field", "parent", "kind"]) fun _ _ _ _ _ _ us hl => match us, hl with | [_, _, _, _], _ => rfl,
  m_change := PySem.W.mg_of X G p106,
  a_q_steps_right := f_q_steps_right,
  d_q_steps_right := PySem.W.fnOf "_law_steps_right" "_law_steps_right" (defArgs s_q_steps_right) (defBody s_q_steps_right) (defScope s_q_steps_right) .none kV_q_steps_right dc_q_steps_right pm_q_steps_right an_q_steps_right cd_q_steps_right ct_q_steps_right,
  F_q_steps_right := fun_mk (st := s_q_steps_right) p111 p112 p113,
  b_q_steps_right := (fun_mk (st := s_q_steps_right) p111 p112 p113).binds (ps := ["_law_first", "_law_one", "_law_two", "_law_plan_here"]) fun _ _ _ _ _ _ us hl => match us, hl with | [_, _, _, _], _ => rfl,
  m_q_steps_right := PySem.W.mg_of X G p110,
  a_q_plan_right := f_q_plan_right,
  d_q_plan_right := PySem.W.fnOf "_law_plan_right" "_law_plan_right" (defArgs s_q_plan_right) (defBody s_q_plan_right) (defScope s_q_plan_right) .none kV_q_plan_right dc_q_plan_right pm_q_plan_right an_q_plan_right cd_q_plan_right ct_q_plan_right,
  F_q_plan_right := fun_mk (st := s_q_plan_right) p115 p116 p117,
  b_q_plan_right := (fun_mk (st := s_q_plan_right) p115 p116 p117).binds (ps := ["_law_first", "_law_second_here", "_law_one", "_law_two"]) fun _ _ _ _ _ _ us hl => match us, hl with | [_, _, _, _], _ => rfl,
  m_q_plan_right := PySem.W.mg_of X G p114,
  a_q_near := f_q_near,
  d_q_near := PySem.W.fnOf "_law_near" "_law_near" (defArgs s_q_near) (defBody s_q_near) (defScope s_q_near) .none kV_q_near dc_q_near pm_q_near an_q_near cd_q_near ct_q_near,
  F_q_near := fun_mk (st := s_q_near) p119 p120 p121,
  b_q_near := (fun_mk (st := s_q_near) p119 p120 p121).binds (ps := ["_law_tape_here", "_law_parents_here", "_law_kinds_here"]) fun _ _ _ _ _ _ us hl => match us, hl with | [_, _, _], _ => rfl,
  m_q_near := PySem.W.mg_of X G p118,
  a_q_tape := f_q_tape,
  d_q_tape := PySem.W.fnOf "_law_tape" "_law_tape" (defArgs s_q_tape) (defBody s_q_tape) (defScope s_q_tape) .none kV_q_tape dc_q_tape pm_q_tape an_q_tape cd_q_tape ct_q_tape,
  F_q_tape := fun_mk (st := s_q_tape) p123 p124 p125,
  b_q_tape := (fun_mk (st := s_q_tape) p123 p124 p125).binds (ps := ["_law_script", "_law_k"]) fun _ _ _ _ _ _ us hl => match us, hl with | [_, _], _ => rfl,
  m_q_tape := PySem.W.mg_of X G p122,
  a_q_second := f_q_second,
  d_q_second := PySem.W.fnOf "_law_second" "_law_second" (defArgs s_q_second) (defBody s_q_second) (defScope s_q_second) .none kV_q_second dc_q_second pm_q_second an_q_second cd_q_second ct_q_second,
  F_q_second := fun_mk (st := s_q_second) p127 p128 p129,
  b_q_second := (fun_mk (st := s_q_second) p127 p128 p129).binds (ps := ["_law_script", "_law_parents_here", "_law_kinds_here"]) fun _ _ _ _ _ _ us hl => match us, hl with | [_, _, _], _ => rfl,
  m_q_second := PySem.W.mg_of X G p126,
  a_q_size := f_q_size,
  d_q_size := PySem.W.fnOf "_law_size" "_law_size" (defArgs s_q_size) (defBody s_q_size) (defScope s_q_size) .none kV_q_size dc_q_size pm_q_size an_q_size cd_q_size ct_q_size,
  F_q_size := fun_mk (st := s_q_size) p131 p132 p133,
  b_q_size := (fun_mk (st := s_q_size) p131 p132 p133).binds (ps := ["_law_tape_here"]) fun _ _ _ _ _ _ us hl => match us, hl with | [_], _ => rfl,
  m_q_size := PySem.W.mg_of X G p130,
  a_law := f_law,
  d_law := PySem.W.fnOf "law" "law" (defArgs s_law) (defBody s_law) (defScope s_law) .none kV_law dc_law pm_law an_law cd_law ct_law,
  F_law := fun_mk (st := s_law) p135 p136 p137,
  b_law := (fun_mk (st := s_law) p135 p136 p137).binds (ps := ["_law_script"]) fun _ _ _ _ _ _ us hl => match us, hl with | [_], _ => rfl,
  m_law := PySem.W.mg_of X G p134,
  z_ValueError := PySem.W.mg_none_of X G p138,
  z_abs := PySem.W.mg_none_of X G p139,
  z_bool := PySem.W.mg_none_of X G p140,
  z_int := PySem.W.mg_none_of X G p141,
  z_isinstance := PySem.W.mg_none_of X G p142,
  z_len := PySem.W.mg_none_of X G p143,
  z_list := PySem.W.mg_none_of X G p144,
  z_range := PySem.W.mg_none_of X G p145,
  z_sorted := PySem.W.mg_none_of X G p146,
  z_str := PySem.W.mg_none_of X G p147,
  z_tuple := PySem.W.mg_none_of X G p148,
  g_MOST_FIELDS := ⟨_, PySem.W.mg_of X G p149⟩,
  c_BadForest := E_BadForest,
  mE_BadForest := PySem.W.mg_of X G p150,
  e_BadForest := errB_ok p151,
  c_BadPlace := E_BadPlace,
  mE_BadPlace := PySem.W.mg_of X G p152,
  e_BadPlace := errB_ok p153,
  c_BadRecord := E_BadRecord,
  mE_BadRecord := PySem.W.mg_of X G p154,
  e_BadRecord := errB_ok p155,
  c_FieldridesError := E_FieldridesError,
  mE_FieldridesError := PySem.W.mg_of X G p156,
  e_FieldridesError := errB_ok p157,
  c_FieldsDiffer := E_FieldsDiffer,
  mE_FieldsDiffer := PySem.W.mg_of X G p158,
  e_FieldsDiffer := errB_ok p159,
  c_WordsClash := E_WordsClash,
  mE_WordsClash := PySem.W.mg_of X G p160,
  e_WordsClash := errB_ok p161,
  su_BadForest_FieldsDiffer := p162,
  su_BadPlace_FieldsDiffer := p163,
  su_BadRecord_FieldsDiffer := p164,
  su_FieldsDiffer_BadForest := p165,
  su_FieldsDiffer_BadPlace := p166,
  su_FieldsDiffer_FieldridesError := p167,
  su_FieldsDiffer_FieldsDiffer := p168,
  su_FieldsDiffer_WordsClash := p169,
  sv_FieldsDiffer := p170,
  su_WordsClash_FieldsDiffer := p171,
  n_BadForest_field := p172,
  n_BadPlace_place := p173,
  n_FieldsDiffer_first := p174,
  n_FieldsDiffer_second := p175,
  n_WordsClash_first := p176,
  n_WordsClash_second := p177,
  ox_BadForest := p178,
  aI_BadForest := fI_BadForest,
  iC_BadForest := p179,
  tI_BadForest := p180,
  dI_BadForest := PySem.W.fnX "__init__" "BadForest.__init__" (defArgs s_ex_BadForest) (defBody s_ex_BadForest) (defScope s_ex_BadForest) [("__class__", cc_BadForest)] .none kV_ex_BadForest dc_ex_BadForest pm_ex_BadForest an_ex_BadForest (.ref ca_BadForest) ct_ex_BadForest,
  cc_BadForest := cc_BadForest,
  ca_BadForest := ca_BadForest,
  D_BadForest := D_BadForest,
  LI_BadForest := ⟨_, _, _, _, _, _, _, _, p181, rfl, p182⟩,
  sc_BadForest := supB_ok (oexB_ok p178) ⟨_, _, _, p183⟩ p184 p185 (by decide +kernel) op,
  bE_BadForest := Binds.all fun us hl => match us, hl with | [_, _], _ => rfl,
  ox_BadPlace := p186,
  aI_BadPlace := fI_BadPlace,
  iC_BadPlace := p187,
  tI_BadPlace := p188,
  dI_BadPlace := PySem.W.fnX "__init__" "BadPlace.__init__" (defArgs s_ex_BadPlace) (defBody s_ex_BadPlace) (defScope s_ex_BadPlace) [("__class__", cc_BadPlace)] .none kV_ex_BadPlace dc_ex_BadPlace pm_ex_BadPlace an_ex_BadPlace (.ref ca_BadPlace) ct_ex_BadPlace,
  cc_BadPlace := cc_BadPlace,
  ca_BadPlace := ca_BadPlace,
  D_BadPlace := D_BadPlace,
  LI_BadPlace := ⟨_, _, _, _, _, _, _, _, p189, rfl, p190⟩,
  sc_BadPlace := supB_ok (oexB_ok p186) ⟨_, _, _, p191⟩ p192 p193 (by decide +kernel) op,
  bE_BadPlace := Binds.all fun us hl => match us, hl with | [_, _], _ => rfl,
  ox_FieldsDiffer := p194,
  aI_FieldsDiffer := fI_FieldsDiffer,
  iC_FieldsDiffer := p195,
  tI_FieldsDiffer := p196,
  dI_FieldsDiffer := PySem.W.fnX "__init__" "FieldsDiffer.__init__" (defArgs s_ex_FieldsDiffer) (defBody s_ex_FieldsDiffer) (defScope s_ex_FieldsDiffer) [("__class__", cc_FieldsDiffer)] .none kV_ex_FieldsDiffer dc_ex_FieldsDiffer pm_ex_FieldsDiffer an_ex_FieldsDiffer (.ref ca_FieldsDiffer) ct_ex_FieldsDiffer,
  cc_FieldsDiffer := cc_FieldsDiffer,
  ca_FieldsDiffer := ca_FieldsDiffer,
  D_FieldsDiffer := D_FieldsDiffer,
  LI_FieldsDiffer := ⟨_, _, _, _, _, _, _, _, p197, rfl, p198⟩,
  sc_FieldsDiffer := supB_ok (oexB_ok p194) ⟨_, _, _, p199⟩ p200 p201 (by decide +kernel) op,
  bE_FieldsDiffer := Binds.all fun us hl => match us, hl with | [_, _, _], _ => rfl,
  z_super := PySem.W.mg_none_of X G p202 }⟩
theorem all_mk {w : World} {K : PySem.W.Frag} {mg : Str → Option Value} {fa : Addr} (g : Nonempty (Gd K mg)) (hfa : mg "law" = some (.ref fa)) (hl : ∀ ns : List Int, ns.length ≤ 63 → ∃ h', F_law_k62 [.scr (ns.map .int)] [] = .ok (.bl true) h') :
    ∃ fd : FuncData, (∀ (s : Shared) (v : Value), BindsTo s fd ⟨[v], []⟩ [("_law_script", v)]) ∧ ∀ base : Heap, K.In base → base.Ns mainGlobals mg → FnG PySem.Challenge.rw_fieldrides_k62_whole_change_plans.prog w K mg base (L2.CX PySem.Challenge.rw_fieldrides_k62_whole_change_plans.prog w) 18 fa fd ["_law_script"] (spLaw K) := by
  obtain ⟨g⟩ := g
  have e := hfa.symm.trans g.m_law
  cases e
  refine ⟨g.d_law, ?_, fun base _ _ => law_imp (ok_law g) hl⟩
  obtain ⟨oc, od, kV, doc, pm, an, cdv, ct, osl, e, _⟩ := g.F_law.ex
  rw [e]
  exact fun s v => .of_eq rfl
end Sm.K62
end

section
set_option linter.all false
set_option maxRecDepth 10000
/-! K62P: the law k62 is true. -/
namespace Sm.K62
open Sm
theorem law_ok (ns : List Int) (h : AH) : wp (Sm.F_law_k62 [.scr (ns.map .int)] h) fun d k => d = .bl true := by
  refine fnT_w rfl ?_
  obtain ⟨o1, ho1, e1⟩ := tape_ok (xs := ns) (k := 0) (h := h)
  obtain ⟨n, o2, hn0, hn8, ho2, e2⟩ := size4_ok (tpn (h := h) (L := []) ho1)
  rw [set_new (Nat.le_refl _)] at e2
  obtain ⟨r7, o3, hr7, ho3, e3⟩ := takeN (n := 7) (tpn (h := h) (L := []) (o := o2) ho2) (by omega) (by omega)
  rw [set_new (Nat.le_refl _)] at e3
  obtain ⟨ps, o4, hps, hac, ho4, e4⟩ := parents_ok (n := n) (tpn (h := h) (L := []) (o := o3) ho3) (by omega)
  rw [set_new (Nat.le_refl _)] at e4
  obtain ⟨p1, hp1, e5⟩ := tape_ok (xs := ns) (k := 1) (h := h ++ [o4])
  obtain ⟨ks, p2, hks, hok, hp2, e6⟩ := kinds_ok (SeqD.l (encP ps)) (tpn (h := h ++ [o4]) (L := []) hp1) (by omega) false
  rw [set_new (Nat.le_refl _)] at e6
  simp at e1 e2 e3 e4 e5 e6
  have g : Good ps ks := .of (by omega) (by omega) hac hks hok
  obtain ⟨K, hK⟩ : ∃ K, K = h ++ [o4, p2] := ⟨_, rfl⟩
  obtain ⟨qs, js, hqs, g2, e7⟩ := second_ok (ns := ns) g K
  have hq : qs.length = ps.length := hqs
  have mk1 := make_ok (SeqD.l (encP ps)) (SeqD.l (encK ks)) g K
  have mk2 := make_ok (SeqD.l (encP qs)) (SeqD.l (encK js)) g2 K
  obtain ⟨m, hm⟩ : ∃ m, m = if n ≤ 1 + r7 then 2 + r7 else 1 + r7 := ⟨_, rfl⟩
  have hm0 : 0 < m := by rw [hm]; split <;> omega
  have hm9 : m ≤ 16 := by rw [hm]; split <;> omega
  have hmn : m ≠ n := by rw [hm]; split <;> omega
  obtain ⟨rs, hrs⟩ : ∃ rs : Par, rs = List.replicate m none := ⟨_, rfl⟩
  obtain ⟨us, hus⟩ : ∃ us : List Kd, us = List.replicate m .up := ⟨_, rfl⟩
  have hrl : rs.length = m := by rw [hrs, List.length_replicate]
  have g3 : Good rs us := by
    refine ⟨by rw [hus, hrs]; simp, by omega, by omega, ⟨fun _ => 0, fun i _ => by show 0 < _; omega, fun i p e => ?_⟩, fun f hf he hmem => ?_⟩
    · rw [hrs, List.getElem?_replicate] at e
      split at e <;> cases e
    · rw [hrs] at hmem
      cases List.eq_of_mem_replicate hmem
  have mk3 := make_ok (SeqD.l (encP rs)) (SeqD.l (encK us)) g3 K
  have im : inI (m : Int) = true := inI_nat
  have encr : encP rs = (List.range m).map fun _ => D.non := by
    rw [hrs]
    unfold encP
    rw [List.map_replicate]
    apply List.ext_getElem? ; intro i
    by_cases c : i < m
    · rw [List.getElem?_replicate, if_pos c, List.getElem?_map, List.getElem?_range c]; rfl
    · rw [List.getElem?_replicate, if_neg c, List.getElem?_eq_none (by simp; omega)]
  have encu : encK us = (List.range m).map fun _ => D.str [117, 112] := by
    rw [hus]
    unfold encK
    rw [List.map_replicate]
    apply List.ext_getElem? ; intro i
    by_cases c : i < m
    · rw [List.getElem?_replicate, if_pos c, List.getElem?_map, List.getElem?_range c]; rfl
    · rw [List.getElem?_replicate, if_neg c, List.getElem?_eq_none (by simp; omega)]
  have d1 := fun H => qplan_differ (ps := ps) (ks := ks) (qs := rs) (js := us) (by omega) H
  have d2 := fun H => qplan_differ (ps := rs) (ks := us) (qs := qs) (js := js) (by omega) H
  rw [hrl, hps] at d1
  rw [hrl, hqs, hps] at d2
  have df1 := is_differ_ok (h := K ++ [.lst [sDif, .tup [.int n, .int m], .bl true]]) (l := K.length) (n := n) (m := m) (by rw [getL_new (Nat.le_refl _)]; simp)
  obtain ⟨K2, hK2⟩ : ∃ K2, K2 = K ++ [AO.lst [sDif, .tup [.int n, .int m], .bl true]] := ⟨_, rfl⟩
  have d1K := d1 K
  rw [← hK2] at df1 d1K
  have df2 := is_differ_ok (h := K2 ++ [.lst [sDif, .tup [.int m, .int n], .bl true]]) (l := K2.length) (n := m) (m := n) (by rw [getL_new (Nat.le_refl _)]; simp)
  obtain ⟨K3, hK3⟩ : ∃ K3, K3 = K2 ++ [AO.lst [sDif, .tup [.int m, .int n], .bl true]] := ⟨_, rfl⟩
  have d2K := d2 K2
  rw [← hK3] at df2 d2K
  have pr1 := plan_right_ok g g2 hq K3
  have pr2 := plan_right_ok g2 g hq.symm K3
  have qp := qplan_ok g g rfl K3
  have nodiff : ∀ f, ¬ diff ps ps ks ks f := fun f z => by unfold diff at z; rcases z with z | z <;> exact z rfl
  have e0 : planD ps ps ks ks = [] := by
    have : planT ps ps ks ks = [] := by
      apply List.eq_nil_iff_forall_not_mem.mpr
      intro f hf
      exact nodiff f (((planT_ok g g rfl).mem f).mp hf).2
    unfold planD
    rw [this]; rfl
  rw [e0] at qp
  obtain ⟨K4, hK4⟩ : ∃ K4, K4 = K3 ++ [AO.lst ((earP ps ps ks ks).map pairD), AO.lst ((latP ps ps ks ks).map pairD), AO.lst [], AO.lst [sLet, .loc (K3.length + 2)]] := ⟨_, rfl⟩
  have gE : getL K4 (K3.length + 2) = some [] := by rw [hK4, getL_new (by omega)]; simp [getL]
  have gT : getL K4 (K3.length + 3) = some [sLet, .loc (K3.length + 2)] := by rw [hK4, getL_new (by omega)]; simp [getL]
  rw [← hK4] at qp
  have i0 := ixL 0 gT
  have i1 := ixL 1 gT
  simp [sLet] at i0 i1
  have sm := same4_loc gE (by simp) (fun y hy => by simp at hy)
  have ht : trim h (.ok (.bl true) K4) = .ok (.bl true) h := by
    rw [hK4, hK3, hK2, hK, List.append_assoc, List.append_assoc, List.append_assoc]
    exact trim_app rfl rfl
  rw [b_law_k62]
  simp only [envOf, List.map_cons, List.map_nil, List.length_cons, List.length_nil, List.cons_append, List.nil_append, Nat.reduceAdd, Nat.reduceSub, List.replicate_succ, List.replicate_zero]
  refine q_set (d := (.loc h.length)) (h2 := (h ++ [o1])) (by simp [e1]) ?_
  simp only [List.set_cons_succ, List.set_cons_zero]
  refine q_set (d := (.int n)) (h2 := (h ++ [o2])) (by simp [e2]) ?_
  simp only [List.set_cons_succ, List.set_cons_zero]
  refine q_set (d := (.int ((1 + r7 : Nat) : Int))) (h2 := (h ++ [o3])) (by simp [e3]) ?_
  simp only [List.set_cons_succ, List.set_cons_zero]
  refine q_any (P := fun fl k => fl = .nx [some (.scr (ns.map .int)), some (.loc h.length), some (.int n), some (.int m), none, none, none, none, none, none, none, none] ∧ k = h ++ [o3]) ?_ ?_
  · by_cases c : n ≤ 1 + r7
    · have c' : (n : Int) ≤ ((1 + r7 : Nat) : Int) := by omega
      rw [if_pos c] at hm
      have e9 : ((1 + r7 : Nat) : Int) + 1 = (m : Int) := by omega
      generalize ((1 + r7 : Nat) : Int) = v at *
      exact if_set (h1 := h ++ [o3]) (by simp [c']) (d := .int m) (h2 := h ++ [o3]) (by simp [e9]) ⟨rfl, rfl⟩
    · have c' : ¬ (n : Int) ≤ ((1 + r7 : Nat) : Int) := by omega
      rw [if_neg c] at hm
      refine if_no (h1 := h ++ [o3]) ?_ ⟨by rw [hm], rfl⟩
      generalize ((1 + r7 : Nat) : Int) = v at *
      simp [c']
  rintro fl k ⟨rfl, rfl⟩
  rw [kB2_nx]
  refine q_set (d := (.lst (encP ps))) (h2 := (h ++ [o4])) (by simp [e4]) ?_
  simp only [List.set_cons_succ, List.set_cons_zero]
  refine q_set (d := (.lst [.lst (encP ps), .lst (encK ks)])) (h2 := K) (by simp [e5, e6, hK]) ?_
  simp only [List.set_cons_succ, List.set_cons_zero]
  clear hK3 hK2 hK4
  refine q_set (d := (.lst [.lst (encP qs), .lst (encK js)])) (h2 := K) (by simp [e7]) ?_
  simp only [List.set_cons_succ, List.set_cons_zero]
  refine q_set (d := (fo ps ks)) (h2 := K) (by simp [mk1]) ?_
  simp only [List.set_cons_succ, List.set_cons_zero]
  refine q_set (d := (fo qs js)) (h2 := K) (by simp [mk2]) ?_
  simp only [List.set_cons_succ, List.set_cons_zero]
  have lcA := fun (e0 : Env) => lc_rngm (v := 10) (a := eC .non) (e0 := e0) (n := m) (h := K) (f := fun _ => D.non) (by rw [bigv]; omega) (fun _ _ => rfl)
  have lcB := fun (e0 : Env) => lc_rngm (v := 10) (a := eC (.str [117, 112])) (e0 := e0) (n := m) (h := K) (f := fun _ => D.str [117, 112]) (by rw [bigv]; omega) (fun _ _ => rfl)
  rw [← encr] at lcA
  rw [← encu] at lcB
  refine q_set (d := (fo rs us)) (h2 := K) (by simp [im, lcA, lcB, mkL, mk3]) ?_
  simp only [List.set_cons_succ, List.set_cons_zero]
  refine q_if0 (h2 := K3) (by simp [d1K, df1, d2K, df2]) ?_
  refine q_if0 (h2 := K3) (by simp [pr1, pr2]) ?_
  refine q_set (d := (.loc (K3.length + 3))) (h2 := K4) (by simp [qp]) ?_
  simp only [List.set_cons_succ, List.set_cons_zero]
  simp [i0, i1, sm, ht]
theorem law_true : ∀ ns : List Int, ns.length ≤ 63 → ∃ h', Sm.F_law_k62 [.scr (ns.map .int)] [] = .ok (.bl true) h' := by
  intro ns _
  obtain ⟨d, k, e, rfl⟩ := wp_iff.mp (law_ok ns [])
  exact ⟨k, e⟩
end Sm.K62
end

section
set_option Elab.async false
set_option linter.all false
set_option maxRecDepth 100000

open PySem PySem.W PyProof.Rows
set_option maxHeartbeats 0 in
theorem PySem.Challenge.cw_fieldrides_k62_whole_change_plans_holds : PySem.Challenge.rw_fieldrides_k62_whole_change_plans.Holds := by
  w_on; o_law; k_head; (case hw => w_witness2)
  k_fill
  refine Sm.walkG (l := PySem.Challenge.rw_fieldrides_k62_whole_change_plans) (n := 63) (k := 18) (x := "_law_script") (CX := fun w => L2.CX PySem.Challenge.rw_fieldrides_k62_whole_change_plans.prog w) (sp := fun w => Sm.spLaw _) rfl (by decide) rfl ⟨⟨rfl, by decide, by decide⟩, rfl⟩ (fun w h Y => PySem.W.kIn_of Y) ?F (fun _ _ a ns hl _ hS => ⟨a, ns, rfl, hS, hl, fun _ => rfl⟩) (fun _ _ _ _ _ h => Sm.cx_no h)
  case F =>
    intro w mg fa h KX G hmg
    refine' Sm.K62.all_mk (Sm.K62.mk_Gd KX G ?p1 ?p2 ?p3 ?p4 ?p5 ?p6 ?p7 ?p8 ?p9 ?p10 ?p11 ?p12 ?p13 ?p14 ?p15 ?p16 ?p17 ?p18 ?p19 ?p20 ?p21 ?p22 ?p23 ?p24 ?p25 ?p26 ?p27 ?p28 ?p29 ?p30 ?p31 ?p32 ?p33 ?p34 ?p35 ?p36 ?p37 ?p38 ?p39 ?p40 ?p41 ?p42 ?p43 ?p44 ?p45 ?p46 ?p47 ?p48 ?p49 ?p50 ?p51 ?p52 ?p53 ?p54 ?p55 ?p56 ?p57 ?p58 ?p59 ?p60 ?p61 ?p62 ?p63 ?p64 ?p65 ?p66 ?p67 ?p68 ?p69 ?p70 ?p71 ?p72 ?p73 ?p74 ?p75 ?p76 ?p77 ?p78 ?p79 ?p80 ?p81 ?p82 ?p83 ?p84 ?p85 ?p86 ?p87 ?p88 ?p89 ?p90 ?p91 ?p92 ?p93 ?p94 ?p95 ?p96 ?p97 ?p98 ?p99 ?p100 ?p101 ?p102 ?p103 ?p104 ?p105 ?p106 ?p107 ?p108 ?p109 ?p110 ?p111 ?p112 ?p113 ?p114 ?p115 ?p116 ?p117 ?p118 ?p119 ?p120 ?p121 ?p122 ?p123 ?p124 ?p125 ?p126 ?p127 ?p128 ?p129 ?p130 ?p131 ?p132 ?p133 ?p134 ?p135 ?p136 ?p137 ?p138 ?p139 ?p140 ?p141 ?p142 ?p143 ?p144 ?p145 ?p146 ?p147 ?p148 ?p149 ?p150 ?p151 ?p152 ?p153 ?p154 ?p155 ?p156 ?p157 ?p158 ?p159 ?p160 ?p161 ?p162 ?p163 ?p164 ?p165 ?p166 ?p167 ?p168 ?p169 ?p170 ?p171 ?p172 ?p173 ?p174 ?p175 ?p176 ?p177 ?p178 ?p179 ?p180 ?p181 ?p182 ?p183 ?p184 ?p185 ?p186 ?p187 ?p188 ?p189 ?p190 ?p191 ?p192 ?p193 ?p194 ?p195 ?p196 ?p197 ?p198 ?p199 ?p200 ?p201 ?p202 ?op) hmg Sm.K62.law_true
    (case p1 => k_is)
    (case p2 => k_is)
    (case p3 => k_is)
    (case p4 => k_is)
    (case p5 => k_is)
    (case p6 => k_is)
    (case p7 => k_is)
    (case p8 => k_is)
    (case p9 => k_is)
    (case p10 => k_is)
    (case p11 => k_is)
    (case p12 => k_is)
    (case p13 => k_is)
    (case p14 => k_is)
    (case p15 => k_is)
    (case p16 => k_is)
    (case p17 => k_is)
    (case p18 => k_is)
    (case p19 => k_is)
    (case p20 => k_is)
    (case p21 => k_is)
    (case p22 => k_is)
    (case p23 => k_is)
    (case p24 => k_is)
    (case p25 => k_is)
    (case p26 => k_is)
    (case p27 => k_is)
    (case p28 => k_is)
    (case p29 => k_is)
    (case p30 => k_is)
    (case p31 => k_is)
    (case p32 => k_is)
    (case p33 => k_is)
    (case p34 => k_is)
    (case p35 => k_is)
    (case p36 => k_is)
    (case p37 => k_is)
    (case p38 => k_is)
    (case p39 => k_is)
    (case p40 => k_is)
    (case p41 => k_is)
    (case p42 => k_is)
    (case p43 => k_is)
    (case p44 => k_is)
    (case p45 => k_is)
    (case p46 => k_is)
    (case p47 => k_is)
    (case p48 => k_is)
    (case p49 => k_is)
    (case p50 => k_is)
    (case p51 => k_is)
    (case p52 => k_is)
    (case p53 => k_is)
    (case p54 => k_is)
    (case p55 => k_is)
    (case p56 => k_is)
    (case p57 => k_is)
    (case p58 => k_is)
    (case p59 => k_is)
    (case p60 => k_is)
    (case p61 => k_is)
    (case p62 => k_is)
    (case p63 => k_is)
    (case p64 => k_is)
    (case p65 => k_is)
    (case p66 => k_is)
    (case p67 => k_is)
    (case p68 => k_is)
    (case p69 => k_is)
    (case p70 => k_is)
    (case p71 => k_is)
    (case p72 => k_is)
    (case p73 => k_is)
    (case p74 => k_is)
    (case p75 => k_is)
    (case p76 => k_is)
    (case p77 => k_is)
    (case p78 => k_is)
    (case p79 => k_is)
    (case p80 => k_is)
    (case p81 => k_is)
    (case p82 => k_is)
    (case p83 => k_is)
    (case p84 => k_is)
    (case p85 => k_is)
    (case p86 => k_is)
    (case p87 => k_is)
    (case p88 => k_is)
    (case p89 => k_is)
    (case p90 => k_is)
    (case p91 => k_is)
    (case p92 => k_is)
    (case p93 => k_is)
    (case p94 => k_is)
    (case p95 => k_is)
    (case p96 => k_is)
    (case p97 => k_is)
    (case p98 => k_is)
    (case p99 => k_is)
    (case p100 => k_is)
    (case p101 => k_is)
    (case p102 => k_is)
    (case p103 => k_is)
    (case p104 => k_is)
    (case p105 => k_is)
    (case p106 => k_is)
    (case p107 => k_is)
    (case p108 => k_is)
    (case p109 => k_is)
    (case p110 => k_is)
    (case p111 => k_is)
    (case p112 => k_is)
    (case p113 => k_is)
    (case p114 => k_is)
    (case p115 => k_is)
    (case p116 => k_is)
    (case p117 => k_is)
    (case p118 => k_is)
    (case p119 => k_is)
    (case p120 => k_is)
    (case p121 => k_is)
    (case p122 => k_is)
    (case p123 => k_is)
    (case p124 => k_is)
    (case p125 => k_is)
    (case p126 => k_is)
    (case p127 => k_is)
    (case p128 => k_is)
    (case p129 => k_is)
    (case p130 => k_is)
    (case p131 => k_is)
    (case p132 => k_is)
    (case p133 => k_is)
    (case p134 => k_is)
    (case p135 => k_is)
    (case p136 => k_is)
    (case p137 => k_is)
    (case p138 => k_is)
    (case p139 => k_is)
    (case p140 => k_is)
    (case p141 => k_is)
    (case p142 => k_is)
    (case p143 => k_is)
    (case p144 => k_is)
    (case p145 => k_is)
    (case p146 => k_is)
    (case p147 => k_is)
    (case p148 => k_is)
    (case p149 => k_is)
    (case p150 => k_is)
    (case p151 => kernel_rfl)
    (case p152 => k_is)
    (case p153 => kernel_rfl)
    (case p154 => k_is)
    (case p155 => kernel_rfl)
    (case p156 => k_is)
    (case p157 => kernel_rfl)
    (case p158 => k_is)
    (case p159 => kernel_rfl)
    (case p160 => k_is)
    (case p161 => kernel_rfl)
    (case p162 => k_is)
    (case p163 => k_is)
    (case p164 => k_is)
    (case p165 => k_is)
    (case p166 => k_is)
    (case p167 => k_is)
    (case p168 => k_is)
    (case p169 => k_is)
    (case p170 => k_is)
    (case p171 => k_is)
    (case p172 => k_is)
    (case p173 => k_is)
    (case p174 => k_is)
    (case p175 => k_is)
    (case p176 => k_is)
    (case p177 => k_is)
    (case p178 => kernel_rfl)
    (case p179 => k_is)
    (case p180 => k_is)
    (case p181 => k_is)
    (case p182 => k_is)
    (case p183 => k_is)
    (case p184 => k_is)
    (case p185 => kernel_rfl)
    (case p186 => kernel_rfl)
    (case p187 => k_is)
    (case p188 => k_is)
    (case p189 => k_is)
    (case p190 => k_is)
    (case p191 => k_is)
    (case p192 => k_is)
    (case p193 => kernel_rfl)
    (case p194 => kernel_rfl)
    (case p195 => k_is)
    (case p196 => k_is)
    (case p197 => k_is)
    (case p198 => k_is)
    (case p199 => k_is)
    (case p200 => k_is)
    (case p201 => kernel_rfl)
    (case p202 => k_is)
    (case op => k_is)
end
