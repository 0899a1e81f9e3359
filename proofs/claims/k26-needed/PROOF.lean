import PyProof.Rows.All
import HandS.CallSlots
import HandS.Conv
import HandS.Deep
import HandS.Ends
import HandS.Exc
import HandS.ExcCtx
import HandS.ExcField
import HandS.ExcInit
import HandS.ExcInitHot
import HandS.ExcIs
import HandS.ExcOwn
import HandS.ExcSuper
import HandS.ForMost
import HandS.HotCalls
import HandS.IsInst
import HandS.Iter
import HandS.More
import HandS.Nested
import HandS.Property
import HandS.Remove
import HandS.Rev
import HandS.SetFor
import HandS.Small
import HandS.SortInts
import HandS.SortKw
import HandS.SortRule
import HandS.Star
import HandS.Strs
import HandS.Style
import HandS.TryMany
import HandS.TupAny
import HandS.TupMul
import HandS.Wide
import HandS.WordsExc
import KE.DataMinMax
import KE.KCallOwn
import KE.KExcSuper
import PyProof.FitsInt
import PyProof.ReprRoads
import PySem.Challenge.RW_fieldrides_k26_whole_needed_fields
section
set_option linter.all false
/-! Abs: data, heaps and computations in plain Lean (no model in sight). -/
namespace Sm

inductive K1 where
  | i (k : Int) | s (x : List Nat)
  deriving DecidableEq, Repr

inductive D where
  | non | bl (b : Bool) | int (i : Int) | str (x : List Nat)
  | tup (xs : List D) | lst (xs : List D) | scr (xs : List D)
  | dic (ks : List K1) (ds : List D)
  | ins (c : String) (ns : List String) (ds : List D)
  | loc (l : Nat)
  | ty (n : String)
  deriving Repr, Inhabited

mutual
def D.beq : D → D → Bool
  | .non, .non => true
  | .bl a, .bl b => a == b
  | .int a, .int b => a == b
  | .str a, .str b => a == b
  | .tup a, .tup b => D.beqs a b
  | .lst a, .lst b => D.beqs a b
  | .scr a, .scr b => D.beqs a b
  | .dic k a, .dic l b => k == l && D.beqs a b
  | .ins c n a, .ins e m b => c == e && n == m && D.beqs a b
  | .loc a, .loc b => a == b
  | .ty a, .ty b => a == b
  | _, _ => false
def D.beqs : List D → List D → Bool
  | [], [] => true
  | a :: as, b :: bs => D.beq a b && D.beqs as bs
  | _, _ => false
end
mutual
theorem D.beq_refl : ∀ d : D, D.beq d d = true
  | .non => by rw [D.beq]
  | .bl a => by rw [D.beq]; simp
  | .int a => by rw [D.beq]; simp
  | .str a => by rw [D.beq]; simp
  | .tup a => by rw [D.beq]; exact D.beqs_refl a
  | .lst a => by rw [D.beq]; exact D.beqs_refl a
  | .scr a => by rw [D.beq]; exact D.beqs_refl a
  | .dic k a => by rw [D.beq, D.beqs_refl a]; simp
  | .ins c n a => by rw [D.beq, D.beqs_refl a]; simp
  | .loc a => by rw [D.beq]; simp
  | .ty a => by rw [D.beq]; simp
theorem D.beqs_refl : ∀ d : List D, D.beqs d d = true
  | [] => by rw [D.beqs]
  | a :: as => by rw [D.beqs, D.beq_refl a, D.beqs_refl as]; rfl
end
mutual
theorem D.eq_of_beq : ∀ {a b : D}, D.beq a b = true → a = b
  | .non, b, h => by cases b <;> simp [D.beq] at h ⊢
  | .bl a, b, h => by cases b <;> simp [D.beq] at h ⊢ <;> exact h
  | .int a, b, h => by cases b <;> simp [D.beq] at h ⊢ <;> exact h
  | .str a, b, h => by cases b <;> simp [D.beq] at h ⊢ <;> exact h
  | .tup a, b, h => by cases b <;> simp [D.beq] at h ⊢ <;> exact D.eqs_of_beq h
  | .lst a, b, h => by cases b <;> simp [D.beq] at h ⊢ <;> exact D.eqs_of_beq h
  | .scr a, b, h => by cases b <;> simp [D.beq] at h ⊢ <;> exact D.eqs_of_beq h
  | .dic k a, b, h => by cases b <;> simp [D.beq] at h ⊢ <;> exact ⟨h.1, D.eqs_of_beq h.2⟩
  | .ins c n a, b, h => by cases b <;> simp [D.beq] at h ⊢ <;> exact ⟨h.1.1, h.1.2, D.eqs_of_beq h.2⟩
  | .loc a, b, h => by cases b <;> simp [D.beq] at h ⊢ <;> exact h
  | .ty a, b, h => by cases b <;> simp [D.beq] at h ⊢ <;> exact h
theorem D.eqs_of_beq : ∀ {a b : List D}, D.beqs a b = true → a = b
  | [], b, h => by cases b <;> simp [D.beqs] at h ⊢
  | a :: as, b, h => by
    cases b with
    | nil => simp [D.beqs] at h
    | cons b bs =>
      simp [D.beqs] at h
      rw [D.eq_of_beq h.1, D.eqs_of_beq h.2]
end
instance : DecidableEq D := fun a b => if h : D.beq a b = true then .isTrue (D.eq_of_beq h) else .isFalse fun e => h (by rw [e]; exact D.beq_refl b)

/-- a mutable object -/
inductive AO where
  | lst (xs : List D) | dic (ks : List K1) (ds : List D) | dicT (ks : List (List K1)) (ds : List D)
  | ins (c : String) (ns : List String) (ds : List D)
  | set (xs : List Int)
  deriving DecidableEq, Repr

abbrev AH := List AO
structure Ex where
  cls : String
  ns : List String
  ds : List D
  deriving DecidableEq, Repr

inductive R (α : Type) where
  | ok (a : α) (h : AH) | exc (x : Ex) (h : AH) | no
  deriving Repr
def R.bind {α β : Type} (r : R α) (f : α → AH → R β) : R β := match r with
  | .ok a h => f a h
  | .exc x h => .exc x h
  | .no => .no
@[simp] theorem bind_ok {α β : Type} (a : α) (h : AH) (f : α → AH → R β) : (R.ok a h).bind f = f a h := rfl
@[simp] theorem bind_exc {α β : Type} (x : Ex) (h : AH) (f : α → AH → R β) : (R.exc x h : R α).bind f = .exc x h := rfl
@[simp] theorem bind_no {α β : Type} (f : α → AH → R β) : (R.no : R α).bind f = .no := rfl
theorem bind_assoc {α β γ : Type} (r : R α) (f : α → AH → R β) (g : β → AH → R γ) : (r.bind f).bind g = r.bind fun a h => (f a h).bind g := by cases r <;> rfl

abbrev Env := List (Option D)
abbrev AE := Env → AH → R D
abbrev AB := Env → AH → R Bool
abbrev AA := Env → AH → R (List D)
inductive Fl where
  | nx (e : Env) | rt (d : D) | bk (e : Env) | ct (e : Env) | ex (x : Ex) (e : Env)
  deriving Repr
abbrev AS := Env → AH → R Fl
/-- what a loop walks -/
inductive Src where
  | lst (xs : List D) | live (l : Nat)
abbrev AI := Env → AH → R Src
abbrev AG := D → Env → AH → R Env
abbrev AF := List D → AH → R D

def big : Nat := 16777216
/-- none: no answer -/
def R.of {α : Type} (o : Option α) (h : AH) : R α := match o with
  | some a => .ok a h
  | none => .no
@[simp] theorem of_some {α : Type} (a : α) (h : AH) : R.of (some a) h = .ok a h := rfl
@[simp] theorem of_none {α : Type} (h : AH) : (R.of none h : R α) = .no := rfl
def R.chk {α : Type} (c : Bool) (r : R α) : R α := if c then r else .no
@[simp] theorem chk_true {α : Type} (r : R α) : R.chk true r = r := rfl
@[simp] theorem chk_false {α : Type} (r : R α) : R.chk false r = .no := rfl

/-! ### data -/
def lstH (h : AH) : D → Option (List D)
  | .lst xs => some xs
  | .loc l => match h[l]? with
    | some (.lst xs) => some xs
    | _ => none
  | _ => none
def seqH (h : AH) : D → Option (List D)
  | .tup xs => some xs
  | .scr xs => some xs
  | d => lstH h d
/-- a new list: as a value, or as an object -/
def mkL (fz : Bool) (xs : List D) (h : AH) : R D := if fz then .ok (.lst xs) h else .ok (.loc h.length) (h ++ [.lst xs])
@[simp] theorem mkL_t (xs : List D) (h : AH) : mkL true xs h = .ok (.lst xs) h := rfl
@[simp] theorem mkL_f (xs : List D) (h : AH) : mkL false xs h = .ok (.loc h.length) (h ++ [.lst xs]) := rfl
def truth (h : AH) : D → Option Bool
  | .non => some false
  | .bl b => some b
  | .int i => some (i != 0)
  | .str x => if x.length ≤ big then some (!x.isEmpty) else none
  | .tup xs => some (!xs.isEmpty)
  | .lst xs => some (!xs.isEmpty)
  | .loc l => match h[l]? with
    | some (.lst xs) => some (!xs.isEmpty)
    | some (.dic ks _) => some (!ks.isEmpty)
    | _ => none
  | _ => none
/-- Python's place -/
def ixN (n : Nat) (i : Int) : Option Nat := if 0 ≤ i then (if i < n then some i.toNat else none) else if -(n : Int) ≤ i then some (i + n).toNat else none
def at? {α : Type} (xs : List α) (i : Int) : Option α := (ixN xs.length i).bind fun j => xs[j]?
def sIx (n d : Nat) : Option Int → Nat
  | none => d
  | some i => if i < 0 then (i + n).toNat else min i.toNat n
def cut {α : Type} (xs : List α) (lo hi : Option Int) : List α := (xs.drop (sIx xs.length 0 lo)).take (sIx xs.length xs.length hi - sIx xs.length 0 lo)

/-! ### expressions -/
def eV (i : Nat) : AE := fun e h => match e[i]? with
  | some (some d) => .ok d h
  | _ => .no
def eC (d : D) : AE := fun _ h => .ok d h
def e1 (f : D → AH → R D) (a : AE) : AE := fun e h => (a e h).bind f
def e2 (f : D → D → AH → R D) (a b : AE) : AE := fun e h => (a e h).bind fun x h1 => (b e h1).bind fun y h2 => f x y h2
def eL : List AE → AA
  | [] => fun _ h => .ok [] h
  | a :: as => fun e h => (a e h).bind fun x h1 => (eL as e h1).bind fun xs h2 => .ok (x :: xs) h2
def eA (f : List D → AH → R D) (as : AA) : AE := fun e h => (as e h).bind f
def eIf (t : AB) (a b : AE) : AE := fun e h => (t e h).bind fun c h1 => if c then a e h1 else b e h1
/-- and, or as values: the parts are bools -/
def eAnd (a b : AE) : AE := fun e h => (a e h).bind fun x h1 => match x with
  | .bl true => b e h1
  | .bl false => .ok (.bl false) h1
  | _ => .no
def eOr (a b : AE) : AE := fun e h => (a e h).bind fun x h1 => match x with
  | .bl true => .ok (.bl true) h1
  | .bl false => b e h1
  | _ => .no
def eNot (t : AB) : AE := fun e h => (t e h).bind fun c h1 => .ok (.bl (!c)) h1
/-- a op b op' c -/
def eChain (f g : D → D → AH → R D) (a b c : AE) : AE := fun e h => (a e h).bind fun x h1 => (b e h1).bind fun y h2 => (f x y h2).bind fun z h3 => match z with
  | .bl true => (c e h3).bind fun w h4 => g y w h4
  | .bl false => .ok (.bl false) h3
  | _ => .no
def notD (x : D) (h : AH) : R D := match x with
  | .bl b => .ok (.bl (!b)) h
  | _ => .no
/-! tests -/
def tB : D → Option Bool
  | .bl b => some b
  | _ => none
/-- an expression that gives True or False -/
def tB1 (a : AE) : AB := fun e h => (a e h).bind fun d h1 => R.of (tB d) h1
def tV (a : AE) : AB := fun e h => (a e h).bind fun d h1 => R.of (truth h1 d) h1
def tNot (t : AB) : AB := fun e h => (t e h).bind fun c h1 => .ok (!c) h1
def tAnd (t u : AB) : AB := fun e h => (t e h).bind fun c h1 => if c then u e h1 else .ok false h1
def tOr (t u : AB) : AB := fun e h => (t e h).bind fun c h1 => if c then .ok true h1 else u e h1
def tYes : AB := fun _ h => .ok true h

/-! ### operators by values -/
def cat (fz : Bool) (x y : D) (h : AH) : R D := match lstH h x with
  | some xs => match lstH h y with
    | some ys => R.chk (xs.length + ys.length ≤ big) (mkL fz (xs ++ ys) h)
    | none => .no
  | none => .no
def addD (fz : Bool) (x y : D) (h : AH) : R D := match x with
  | .int i => match y with
    | .int j => .ok (.int (i + j)) h
    | .bl b => .ok (.int (i + if b then 1 else 0)) h
    | _ => .no
  | .str a => match y with
    | .str b => R.chk (a.length + b.length ≤ big) (.ok (.str (a ++ b)) h)
    | _ => .no
  | .tup xs => match y with
    | .tup ys => R.chk (xs.length + ys.length ≤ big) (.ok (.tup (xs ++ ys)) h)
    | _ => .no
  | x => cat fz x y h
def iaddD (x y : D) (h : AH) : R D := match x with
  | .int i => match y with
    | .int j => .ok (.int (i + j)) h
    | _ => .no
  | .str a => match y with
    | .str b => R.chk (a.length + b.length ≤ big) (.ok (.str (a ++ b)) h)
    | _ => .no
  | _ => .no
def subD (x y : D) (h : AH) : R D := match x with
  | .int i => match y with
    | .int j => .ok (.int (i - j)) h
    | _ => .no
  | _ => .no
def small (i : Int) : Bool := match i with
  | .ofNat n => Nat.ble n 18446744073709551615
  | .negSucc n => Nat.ble n 18446744073709551614
theorem small_iff (i : Int) : small i = true ↔ -(2 ^ 64) < i ∧ i < 2 ^ 64 := by
  cases i with
  | ofNat n => show Nat.ble n _ = true ↔ _; rw [Nat.ble_eq]; simp only [Int.ofNat_eq_natCast]; omega
  | negSucc n => show Nat.ble n _ = true ↔ _; rw [Nat.ble_eq]; omega
def midB (i : Int) : Bool := Nat.ble i.natAbs 1000000000000000000000000000000000000000000000000000000000000000000000000000000000000000000000000000000000000000000000000
theorem midB_iff (i : Int) : midB i = true ↔ i.natAbs ≤ 1000000000000000000000000000000000000000000000000000000000000000000000000000000000000000000000000000000000000000000000000 := by
  unfold midB
  exact ⟨Nat.le_of_ble_eq_true, Nat.ble_eq_true_of_le⟩
def mulD (fz : Bool) (x y : D) (h : AH) : R D := match y with
  | .int j => match x with
    | .int i => R.chk (small i || small j || (midB i && midB j)) (.ok (.int (i * j)) h)
    | .tup xs => R.chk (decide (0 < xs.length ∧ xs.length ≤ 1000 ∧ 0 < j ∧ j ≤ 1000)) (.ok (.tup (List.replicate j.toNat xs).flatten) h)
    | x => match lstH h x with
      | some xs => R.chk (decide (-(2 ^ 63) ≤ j ∧ j < 2 ^ 63 ∧ xs.length * j.toNat ≤ big)) (mkL fz (List.replicate j.toNat xs).flatten h)
      | none => .no
  | _ => .no
/-- a divisor -/
def wideJ (j : Int) : Bool := match j with
  | .ofNat n => Nat.ble 1 n && Nat.ble n 10000000000000000000000000000000000000000000000000000000000000000000000000000000000000000000000000000
  | .negSucc _ => false
theorem wideJ_iff (j : Int) : wideJ j = true ↔ 0 < j ∧ j ≤ 10000000000000000000000000000000000000000000000000000000000000000000000000000000000000000000000000000 := by
  cases j with
  | ofNat n => show (Nat.ble 1 n && Nat.ble n _) = true ↔ _; rw [Bool.and_eq_true, Nat.ble_eq, Nat.ble_eq]; simp only [Int.ofNat_eq_natCast]; omega
  | negSucc n => show false = true ↔ _; simp
def fdivD (x y : D) (h : AH) : R D := match x with
  | .int i => match y with
    | .int j => R.chk (wideJ j) (.ok (.int (i / j)) h)
    | _ => .no
  | _ => .no
def modD (x y : D) (h : AH) : R D := match x with
  | .int i => match y with
    | .int j => R.chk (decide (0 < j)) (.ok (.int (i % j)) h)
    | _ => .no
  | _ => .no
def powD (x y : D) (h : AH) : R D := match x with
  | .int i => match y with
    | .int j => R.chk (decide (0 ≤ j ∧ j ≤ 1000000 ∧ i.natAbs < 2 ^ 64)) (.ok (.int (i ^ j.toNat)) h)
    | _ => .no
  | _ => .no
def negD (x : D) (h : AH) : R D := match x with
  | .int i => .ok (.int (-i)) h
  | _ => .no
def asInts : List D → Option (List Int)
  | [] => some []
  | .int i :: r => (asInts r).map (i :: ·)
  | _ :: _ => none
def lexLt : List Int → List Int → Bool
  | [], [] => false
  | [], _ :: _ => true
  | _ :: _, [] => false
  | x :: xs, y :: ys => if x = y then lexLt xs ys else decide (x < y)
def ltD (x y : D) (h : AH) : R D := match x with
  | .int i => match y with
    | .int j => .ok (.bl (decide (i < j))) h
    | _ => .no
  | .tup xs => match y with
    | .tup ys => match asInts xs with
      | some ns => match asInts ys with
        | some ms => .ok (.bl (lexLt ns ms)) h
        | none => .no
      | none => .no
    | _ => .no
  | _ => .no
def cmpI (p : Int → Int → Bool) (x y : D) (h : AH) : R D := match x with
  | .int i => match y with
    | .int j => .ok (.bl (p i j)) h
    | _ => .no
  | _ => .no
def leD : D → D → AH → R D := cmpI fun i j => decide (i ≤ j)
def gtD : D → D → AH → R D := cmpI fun i j => decide (j < i)
def geD : D → D → AH → R D := cmpI fun i j => decide (j ≤ i)
/-! ### == -/
def mapO {α β : Type} (f : α → Option β) : List α → Option (List β)
  | [] => some []
  | x :: xs => match f x with
    | some y => (mapO f xs).map (y :: ·)
    | none => none
def pd0 : D → Option D
  | .non => some .non
  | .bl b => some (.bl b)
  | .int i => some (.int i)
  | .str x => if x.all (fun c => decide (c < 1114112)) then some (.str x) else none
  | _ => none
/-- plain data, lists looked up in the heap; at most n deep -/
def pd (h : AH) : Nat → D → Option D
  | 0, d => pd0 d
  | n + 1, d => match d with
    | .tup xs => (mapO (pd h n) xs).map .tup
    | .lst xs => (mapO (pd h n) xs).map .lst
    | .loc l => match h[l]? with
      | some (.lst xs) => (mapO (pd h n) xs).map .lst
      | _ => none
    | d => pd0 d
mutual
def ev : D → D → Bool
  | .non, .non => true
  | .bl a, .bl b => a == b
  | .bl a, .int b => (if a then 1 else 0) == b
  | .int a, .bl b => a == (if b then 1 else 0)
  | .int a, .int b => a == b
  | .str a, .str b => a == b
  | .tup a, .tup b => evs a b
  | .lst a, .lst b => evs a b
  | _, _ => false
def evs : List D → List D → Bool
  | [], [] => true
  | x :: xs, y :: ys => ev x y && evs xs ys
  | _, _ => false
end
def scal : D → D → Bool
  | .non, .non => true | .non, .int _ => true | .int _, .non => true | .non, .bl _ => true | .bl _, .non => true | .non, .str _ => true | .str _, .non => true
  | .int _, .int _ => true | .bl _, .bl _ => true | .str _, .str _ => true
  | .int _, .str _ => true | .str _, .int _ => true | .bl _, .str _ => true | .str _, .bl _ => true
  | _, _ => false
def eqH (h : AH) (x y : D) : Option Bool := if scal x y then some (decide (x = y)) else match pd h 64 x with
  | some a => match pd h 64 y with
    | some b => some (ev a b)
    | none => none
  | none => none
def eqD (x y : D) (h : AH) : R D := (R.of (eqH h x y) h).bind fun b h => .ok (.bl b) h
def neD (x y : D) (h : AH) : R D := (R.of (eqH h x y) h).bind fun b h => .ok (.bl (!b)) h
def isNonD (x : D) (h : AH) : R D := .ok (.bl (decide (x = .non))) h
def notNonD (x : D) (h : AH) : R D := .ok (.bl (!decide (x = .non))) h
def flat : D → Bool
  | .non => true | .bl _ => true | .int _ => true | .str _ => true
  | _ => false
def inL (x : D) (ys : List D) : Bool := ys.any fun y => ev y x
/-- x in y: flat items -/
def inH (h : AH) (x y : D) : Option Bool := match seqH h y with
  | some ys => if flat x && ys.all flat then some (inL x ys) else none
  | none => none
def inD (x y : D) (h : AH) : R D := (R.of (inH h x y) h).bind fun b h => .ok (.bl b) h
def notInD (x y : D) (h : AH) : R D := (R.of (inH h x y) h).bind fun b h => .ok (.bl (!b)) h

/-! ### items, slices, lengths -/
def ixD (x i : D) (h : AH) : R D := match i with
  | .int i => match x with
    | .str s => R.chk (s.length ≤ big) ((R.of (at? s i) h).bind fun c h => .ok (.str [c]) h)
    | x => match seqH h x with
      | some xs => R.of (at? xs i) h
      | none => .no
  | _ => .no
/-- a slice's bound -/
abbrev AO1 := Env → AH → R (Option Int)
def oN : AO1 := fun _ h => .ok none h
def oS (a : AE) : AO1 := fun e h => (a e h).bind fun d h1 => match d with
  | .int i => .ok (some i) h1
  | _ => .no
def slD (fz : Bool) (x : D) (lo hi : Option Int) (h : AH) : R D := match x with
  | .str s => R.chk (s.length ≤ big) (.ok (.str (cut s lo hi)) h)
  | .tup xs => .ok (.tup (cut xs lo hi)) h
  | x => match lstH h x with
    | some xs => mkL fz (cut xs lo hi) h
    | none => .no
def eSl (fz : Bool) (a : AE) (lo hi : AO1) : AE := fun e h => (a e h).bind fun x h1 => (lo e h1).bind fun l h2 => (hi e h2).bind fun u h3 => slD fz x l u h3
def lenD (x : D) (h : AH) : R D := match x with
  | .str s => R.chk (s.length ≤ big) (.ok (.int s.length) h)
  | x => match seqH h x with
    | some xs => .ok (.int xs.length) h
    | none => .no
def absD (x : D) (h : AH) : R D := match x with
  | .int i => .ok (.int (if i < 0 then -i else i)) h
  | _ => .no
def intD (x : D) (h : AH) : R D := match x with
  | .int i => .ok (.int i) h
  | .bl b => .ok (.int (if b then 1 else 0)) h
  | _ => .no
def tupD (x : D) (h : AH) : R D := match seqH h x with
  | some xs => .ok (.tup xs) h
  | none => .no
def listD (fz : Bool) (x : D) (h : AH) : R D := match seqH h x with
  | some xs => mkL fz xs h
  | none => .no
/-- the name of a value's type, and which built-in types it has -/
def tyOf (h : AH) : D → Option String
  | .non => some "NoneType" | .bl _ => some "bool" | .int _ => some "int" | .str _ => some "str"
  | .tup _ => some "tuple" | .lst _ => some "list"
  | .loc l => match h[l]? with
    | some (.lst _) => some "list"
    | some (.dic _ _) => some "dict"
    | some (.dicT _ _) => some "dict"
    | _ => none
  | _ => none
def isTyB (t T : String) : Bool := t == T || (t == "bool" && T == "int")
def isTy (T : String) (x : D) (h : AH) : R D := (R.of (tyOf h x) h).bind fun t h => .ok (.bl (isTyB t T)) h
def insI (x : Int) : List Int → List Int
  | [] => [x]
  | y :: ys => if x ≤ y then x :: y :: ys else y :: insI x ys
def sortI : List Int → List Int
  | [] => []
  | x :: xs => insI x (sortI xs)
/-- sorted without what comes twice -/
def insU (x : Int) : List Int → List Int
  | [] => [x]
  | y :: ys => if x < y then x :: y :: ys else if x = y then y :: ys else y :: insU x ys
def sortU : List Int → List Int
  | [] => []
  | x :: xs => insU x (sortU xs)
/-- sorted(ints) -/
def sortedD (fz : Bool) (x : D) (h : AH) : R D := match lstH h x with
  | some xs => match asInts xs with
    | some ns => mkL fz ((sortI ns).map .int) h
    | none => .no
  | none => .no
/-- sorted(set(ints)) -/
def sortedSetD (fz : Bool) (x : D) (h : AH) : R D := match lstH h x with
  | some xs => match asInts xs with
    | some ns => R.chk (decide (ns.length < 4000 ∧ (sortU ns).length < 64)) (mkL fz ((sortU ns).map .int) h)
    | none => .no
  | none => .no

def on1 (f : D → AH → R D) : List D → AH → R D
  | [d] => f d
  | _ => fun _ => .no
def on2 (f : D → D → AH → R D) : List D → AH → R D
  | [d, e] => f d e
  | _ => fun _ => .no

/-! ### lists, tuples, dicts displayed -/
def eTup (as : AA) : AE := fun e h => (as e h).bind fun xs h1 => R.chk (decide (xs.length ≤ big)) (.ok (.tup xs) h1)
def eLst (fz : Bool) (as : AA) : AE := fun e h => (as e h).bind fun xs h1 => R.chk (decide (xs.length ≤ big)) (mkL fz xs h1)

/-! ### methods of lists -/
def isLst (h : AH) : D → Bool
  | .lst _ => true
  | .loc l => match h[l]? with
    | some (.lst _) => true
    | _ => false
  | _ => false
/-- o.m(..): the receiver is of the type that g asks -/
def eM (g : AH → D → Bool) (f : D → List D → AH → R D) (a : AE) (as : AA) : AE := fun e h => (a e h).bind fun d h1 => R.chk (g h1 d) ((as e h1).bind fun ds h2 => f d ds h2)
def mt0 (f : D → AH → R D) : D → List D → AH → R D
  | d, [] => f d
  | _, _ => fun _ => .no
def mt1 (f : D → D → AH → R D) : D → List D → AH → R D
  | d, [x] => f d x
  | _, _ => fun _ => .no
def mt2 (f : D → D → D → AH → R D) : D → List D → AH → R D
  | d, [x, y] => f d x y
  | _, _ => fun _ => .no
def onL (h : AH) (x : D) (f : Nat → List D → R D) : R D := match x with
  | .loc l => match h[l]? with
    | some (.lst xs) => f l xs
    | _ => .no
  | _ => .no
def appendD (x y : D) (h : AH) : R D := onL h x fun l xs => R.chk (decide (xs.length < big)) (.ok .non (h.set l (.lst (xs ++ [y]))))
def popD (x : D) (h : AH) : R D := onL h x fun l xs => (R.of xs[xs.length - 1]? h).bind fun y h => .ok y (h.set l (.lst xs.dropLast))
def popAtD (x i : D) (h : AH) : R D := match i with
  | .int i => onL h x fun l xs => R.chk (decide (-(2 ^ 63) ≤ i ∧ i < 2 ^ 63)) ((R.of (ixN xs.length i) h).bind fun k h => (R.of xs[k]? h).bind fun y h => .ok y (h.set l (.lst (xs.eraseIdx k))))
  | _ => .no
def extendD (x y : D) (h : AH) : R D := onL h x fun l xs => match y with
  | .loc l' => if l' = l then .no else match lstH h y with
    | some ys => R.chk (decide (xs.length + ys.length ≤ big)) (.ok .non (h.set l (.lst (xs ++ ys))))
    | none => .no
  | .lst ys => R.chk (decide (xs.length + ys.length ≤ big)) (.ok .non (h.set l (.lst (xs ++ ys))))
  | .tup ys => R.chk (decide (xs.length + ys.length ≤ big)) (.ok .non (h.set l (.lst (xs ++ ys))))
  | _ => .no
def setIxD (x i v : D) (h : AH) : R D := match i with
  | .int i => onL h x fun l xs => (R.of (ixN xs.length i) h).bind fun k h => .ok .non (h.set l (.lst (xs.set k v)))
  | _ => .no

/-! ### dicts, index -/
def kD : D → Option K1
  | .int i => some (.i i)
  | .str x => some (.s x)
  | _ => none
def indexD (x y : D) (h : AH) : R D := match lstH h x with
  | some ys => if flat y && ys.all flat then (R.of (ys.findIdx? fun z => ev z y) h).bind fun j h => .ok (.int j) h else .no
  | none => .no
def putA {κ : Type} [DecidableEq κ] (kvs : List (κ × D)) (k : κ) (v : D) : List (κ × D) :=
  if (kvs.any fun kv => decide (kv.1 = k)) = true then kvs.map (fun kv => if kv.1 = k then (kv.1, v) else kv) else kvs ++ [(k, v)]
def getA {κ : Type} [DecidableEq κ] (kvs : List (κ × D)) (k : κ) : Option D := (kvs.find? fun kv => decide (kv.1 = k)).map (·.2)
def mkDic (fz : Bool) (kvs : List (K1 × D)) (h : AH) : R D := if fz then .ok (.dic (kvs.map (·.1)) (kvs.map (·.2))) h else .ok (.loc h.length) (h ++ [.dic (kvs.map (·.1)) (kvs.map (·.2))])
def eKVs : List (AE × AE) → Env → AH → R (List (K1 × D))
  | [] => fun _ h => .ok [] h
  | (a, b) :: r => fun e h => (a e h).bind fun x h1 => (b e h1).bind fun y h2 => (R.of (kD x) h2).bind fun k h2 => (eKVs r e h2).bind fun kvs h3 => .ok ((k, y) :: kvs) h3
/-- {k: v, ..} -/
def eDisp (fz : Bool) (ps : List (AE × AE)) : AE := fun e h => (eKVs ps e h).bind fun kvs h1 => mkDic fz (kvs.foldl (fun acc kv => putA acc kv.1 kv.2) []) h1
def dicH (h : AH) : D → Option (List (K1 × D))
  | .dic ks ds => some (ks.zip ds)
  | .loc l => match h[l]? with
    | some (.dic ks ds) => some (ks.zip ds)
    | _ => none
  | _ => none
def isDic (h : AH) (d : D) : Bool := (dicH h d).isSome
def lookD (x y : D) (h : AH) : R (Option D) := match dicH h x with
  | some kvs => match kD y with
    | some k => .ok (getA kvs k) h
    | none => .no
  | none => .no
def eGet1 (a b : AE) : AE := fun e h => (a e h).bind fun x h1 => R.chk (isDic h1 x) ((b e h1).bind fun y h2 => (lookD x y h2).bind fun o h2 => .ok (o.getD .non) h2)
def eGet2 (a b c : AE) : AE := fun e h => (a e h).bind fun x h1 => R.chk (isDic h1 x) ((b e h1).bind fun y h2 => (c e h2).bind fun z h3 => (lookD x y h3).bind fun o h3 => .ok (o.getD z) h3)
def dixD (x y : D) (h : AH) : R D := (lookD x y h).bind fun o h => R.of o h
def dinD (y x : D) (h : AH) : R D := (lookD x y h).bind fun o h => .ok (.bl o.isSome) h
def dninD (y x : D) (h : AH) : R D := (lookD x y h).bind fun o h => .ok (.bl (!o.isSome)) h

/-! ### statements -/
def sB : List AS → AS
  | [] => fun e h => .ok (.nx e) h
  | s :: ss => fun e h => (s e h).bind fun f h1 => match f with
    | .nx e1 => sB ss e1 h1
    | f => .ok f h1
/-- an expression within a statement: an error leaves with the names as they stand -/
def up {α : Type} (e : Env) (r : R α) (k : α → AH → R Fl) : R Fl := match r with
  | .ok a h => k a h
  | .exc x h => .ok (.ex x e) h
  | .no => .no
@[simp] theorem up_ok {α : Type} (e : Env) (a : α) (h : AH) (k : α → AH → R Fl) : up e (.ok a h) k = k a h := rfl
@[simp] theorem up_exc {α : Type} (e : Env) (x : Ex) (h : AH) (k : α → AH → R Fl) : up e (.exc x h) k = .ok (.ex x e) h := rfl
@[simp] theorem up_no {α : Type} (e : Env) (k : α → AH → R Fl) : up e .no k = .no := rfl
def sE (a : AE) : AS := fun e h => up e (a e h) fun _ h1 => .ok (.nx e) h1
def sSet (i : Nat) (a : AE) : AS := fun e h => up e (a e h) fun d h1 => .ok (.nx (e.set i (some d))) h1
/-- o[i] = v -/
def sSub (f : D → D → D → AH → R D) (o i v : AE) : AS := fun e h => up e ((v e h).bind fun z h1 => (o e h1).bind fun x h2 => (i e h2).bind fun y h3 => f x y z h3) fun _ h4 => .ok (.nx e) h4
def sAug (i : Nat) (f : D → D → AH → R D) (a : AE) : AS := fun e h => match e[i]? with
  | some (some x) => up e ((a e h).bind fun y h1 => f x y h1) fun z h2 => .ok (.nx (e.set i (some z))) h2
  | _ => .no
def sIf (t : AB) (a b : AS) : AS := fun e h => up e (t e h) fun c h1 => if c then a e h1 else b e h1
def sRet (a : AE) : AS := fun e h => up e (a e h) fun d h1 => .ok (.rt d) h1
def sRetN : AS := fun _ h => .ok (.rt .non) h
def sBrk : AS := fun e h => .ok (.bk e) h
def sCt : AS := fun e h => .ok (.ct e) h
def sPass : AS := fun e h => .ok (.nx e) h
def sNo : AS := fun _ _ => .no
def gV (i : Nat) : AG := fun d e h => .ok (e.set i (some d)) h
def gTs : List AG → List D → Env → AH → R Env
  | [], [] => fun e h => .ok e h
  | g :: gs, d :: ds => fun e h => (g d e h).bind fun e1 h1 => gTs gs ds e1 h1
  | _, _ => fun _ _ => .no
/-- a, b = a tuple -/
def gT (gs : List AG) : AG := fun d e h => match d with
  | .tup ds => R.chk (decide (ds.length = gs.length)) (gTs gs ds e h)
  | _ => .no
def sAsg (g : AG) (a : AE) : AS := fun e h => up e (a e h) fun d h1 => (g d e h1).bind fun e1 h2 => .ok (.nx e1) h2

/-! ### loops -/
def iS (a : AE) : AI := fun e h => (a e h).bind fun d h1 => match d with
  | .loc l => match h1[l]? with
    | some (.lst _) => .ok (.live l) h1
    | _ => .no
  | d => match seqH h1 d with
    | some xs => .ok (.lst xs) h1
    | none => .no
def rng (lo : Int) (n : Nat) : List D := (List.range n).map fun (k : Nat) => .int (lo + k)
def inI (i : Int) : Bool := match i with
  | .ofNat n => Nat.ble n 4611686018427387903
  | .negSucc n => Nat.ble n 4611686018427387903
theorem inI_iff (i : Int) : inI i = true ↔ -(2 ^ 62) ≤ i ∧ i < 2 ^ 62 := by
  cases i with
  | ofNat n => show Nat.ble n _ = true ↔ _; rw [Nat.ble_eq]; simp only [Int.ofNat_eq_natCast]; omega
  | negSucc n => show Nat.ble n _ = true ↔ _; rw [Nat.ble_eq]; omega
def iR1 (a : AE) : AI := fun e h => (a e h).bind fun d h1 => match d with
  | .int j => R.chk (inI j) (.ok (.lst (rng 0 j.toNat)) h1)
  | _ => .no
def iR2 (a b : AE) : AI := fun e h => (a e h).bind fun x h1 => (b e h1).bind fun y h2 => match x with
  | .int i => match y with
    | .int j => R.chk (inI i && inI j) (.ok (.lst (rng i (j - i).toNat)) h2)
    | _ => .no
  | _ => .no
/-- one turn behind another: what a body's end does to a loop -/
def turn (f : Fl) (h : AH) (k : Env → AH → R Fl) : R Fl := match f with
  | .nx e => k e h
  | .ct e => k e h
  | .bk e => .ok (.nx e) h
  | .rt d => .ok (.rt d) h
  | .ex x e => .ok (.ex x e) h
/-- the i-th item (none: no list there; some none: the end) -/
def nxt (s : Src) (i : Nat) (h : AH) : Option (Option D) := match s with
  | .lst xs => some xs[i]?
  | .live l => match h[l]? with
    | some (.lst xs) => some xs[i]?
    | _ => none
def Src.fuel : Src → Nat
  | .lst xs => xs.length + 1
  | .live _ => big + 2
def forN (g : AG) (b : AS) (s : Src) : Nat → Nat → AS
  | 0, _, _, _ => .no
  | n + 1, i, e, h => match nxt s i h with
    | none => .no
    | some none => .ok (.nx e) h
    | some (some x) => (g x e h).bind fun e1 h1 => (b e1 h1).bind fun f h2 => turn f h2 (forN g b s n (i + 1))
def sFor (it : AI) (g : AG) (b : AS) : AS := fun e h => up e (it e h) fun s h1 => forN g b s s.fuel 0 e h1
def whileN (t : AB) (b : AS) : Nat → AS
  | 0, _, _ => .no
  | n + 1, e, h => up e (t e h) fun c h1 => if c then (b e h1).bind fun f h2 => turn f h2 (whileN t b n) else .ok (.nx e) h1
def sWhile (t : AB) (b : AS) : AS := whileN t b (2 ^ 40)
/-- no error within -/
def R.nox {α : Type} (r : R α) : R α := match r with
  | .ok a h => .ok a h
  | _ => .no
@[simp] theorem nox_ok {α : Type} (a : α) (h : AH) : (R.ok a h).nox = .ok a h := rfl
@[simp] theorem nox_exc {α : Type} (x : Ex) (h : AH) : (R.exc x h : R α).nox = .no := rfl
@[simp] theorem nox_no {α : Type} : (R.no : R α).nox = .no := rfl
/-- a comprehension's turns: what it has made is kept apart -/
def lcN (g : AG) (t : AB) (a : AE) (e0 : Env) (s : Src) : Nat → Nat → List D → AH → R (List D)
  | 0, _, _, _ => .no
  | n + 1, i, acc, h => match nxt s i h with
    | none => .no
    | some none => .ok acc h
    | some (some x) => (g x e0 h).nox.bind fun e1 h1 => (t e1 h1).nox.bind fun c h2 => if c then (a e1 h2).nox.bind fun y h3 => R.chk (decide (acc.length < big)) (lcN g t a e0 s n (i + 1) (acc ++ [y]) h3) else lcN g t a e0 s n (i + 1) acc h2
def wipeE (e : Env) : List Nat → Env
  | [] => e
  | v :: vs => (wipeE e vs).set v none
/-- [a for g in it if t] -/
def eLC (fz : Bool) (own : List Nat) (it : AI) (g : AG) (t : AB) (a : AE) : AE := fun e h => (it e h).bind fun s h1 => (lcN g t a (wipeE e own) s s.fuel 0 [] h1).bind fun ys h2 => mkL fz ys h2

/-! ### insert, reversed, max, min, sum, list(range(..)) -/
def insertD (x i y : D) (h : AH) : R D := match i with
  | .int i => onL h x fun l xs => R.chk (decide (xs.length < big ∧ 0 ≤ i ∧ i < 2 ^ 63)) (.ok .non (h.set l (.lst (xs.take i.toNat ++ [y] ++ xs.drop i.toNat))))
  | _ => .no
def revD (fz : Bool) (x : D) (h : AH) : R D := match lstH h x with
  | some xs => mkL fz xs.reverse h
  | none => .no
def max2D (x y : D) (h : AH) : R D := match x with
  | .int i => match y with
    | .int j => .ok (.int (if j > i then j else i)) h
    | _ => .no
  | _ => .no
def min2D (x y : D) (h : AH) : R D := match x with
  | .int i => match y with
    | .int j => .ok (.int (if j < i then j else i)) h
    | _ => .no
  | _ => .no
def maxI : List Int → Int
  | [] => 0
  | [x] => x
  | x :: xs => max x (maxI xs)
def minI : List Int → Int
  | [] => 0
  | [x] => x
  | x :: xs => min x (minI xs)
def intsD (f : List Int → Option Int) (x : D) (h : AH) : R D := match lstH h x with
  | some xs => match asInts xs with
    | some ns => (R.of (f ns) h).bind fun i h => .ok (.int i) h
    | none => .no
  | none => .no
def sumF (ns : List Int) : Option Int := some ns.sum
def maxF (ns : List Int) : Option Int := if ns.isEmpty then none else some (maxI ns)
def minF (ns : List Int) : Option Int := if ns.isEmpty then none else some (minI ns)
/-- list(range(..)), tuple(range(..)) -/
def eLR (tup : Bool) (fz : Bool) (a b : AE) : AE := fun e h => (a e h).bind fun x h1 => (b e h1).bind fun y h2 => match x with
  | .int i => match y with
    | .int j => R.chk (inI i && inI j && decide ((j - i).toNat ≤ big)) (if tup then .ok (.tup (rng i (j - i).toNat)) h2 else mkL fz (rng i (j - i).toNat) h2)
    | _ => .no
  | _ => .no

/-! ### defs -/
/-! no object from n on within -/
mutual
def clo (n : Nat) : D → Bool
  | .loc l => decide (l < n)
  | .tup xs => clos n xs
  | .lst xs => clos n xs
  | .scr xs => clos n xs
  | .dic _ ds => clos n ds
  | .ins _ _ ds => clos n ds
  | _ => true
def clos (n : Nat) : List D → Bool
  | [] => true
  | x :: xs => clo n x && clos n xs
end
def cloO (n : Nat) : AO → Bool
  | .lst xs => clos n xs
  | .dic _ ds => clos n ds
  | .dicT _ ds => clos n ds
  | .ins _ _ ds => clos n ds
  | .set _ => true
/-- what stood before holds nothing new -/
def pre (n : Nat) (h h1 : AH) : Bool := (List.range n).all fun i => decide (h1[i]? = h[i]?) || (match h1[i]? with
  | some o => cloO n o
  | none => true)
/-- the value of what is held, whole -/
def frzD (h : AH) (n : Nat) : Nat → D → Option D
  | 0, d => if clo n d then some d else none
  | k + 1, d => if clo n d then some d else match d with
    | .loc l => match h[l]? with
      | some (.lst xs) => (mapO (frzD h n k) xs).map D.lst
      | some (.ins c ns ds) => (mapO (frzD h n k) ds).map (D.ins c ns)
      | _ => none
    | .tup xs => (mapO (frzD h n k) xs).map D.tup
    | .lst xs => (mapO (frzD h n k) xs).map D.lst
    | _ => none
/-- the value of a list object -/
def frz (n : Nat) (h : AH) : D → Option D
  | .loc l => if l < n then some (.loc l) else match h[l]? with
    | some (.lst xs) => if clos n xs then some (.lst xs) else frzD h n 8 (.loc l)
    | some (.ins c ns ds) => if clos n ds then some (.ins c ns ds) else frzD h n 8 (.loc l)
    | _ => none
  | d => if clo n d then some d else frzD h n 8 d
/-- a def's end: the objects made meanwhile are let go -/
def trim (h : AH) (r : R D) : R D := match r with
  | .ok d h1 => match frz h.length h1 d with
    | some d' => R.chk (pre h.length h h1) (.ok d' (h1.take h.length))
    | none => .no
  | .exc x h1 => R.chk (clos h.length x.ds && pre h.length h h1) (.exc x (h1.take h.length))
  | .no => .no
def fnR (r : R Fl) : R D := r.nox.bind fun f h => match f with
  | .rt d => .ok d h
  | .nx _ => .ok .non h
  | .ex x _ => .exc x h
  | _ => .no
def envOf (n : Nat) (ds : List D) : Env := ds.map some ++ List.replicate (n - ds.length) none
/-- a def of p parameters and n names: its objects kept -/
def fnK (p n : Nat) (b : AS) : AF := fun ds h => R.chk (decide (ds.length = p)) (fnR (b (envOf n ds) h))
/-- .. let go -/
def fnT (p n : Nat) (b : AS) : AF := fun ds h => R.chk (decide (ds.length = p)) (trim h (fnR (b (envOf n ds) h)))
end Sm
end

section
set_option Elab.async false
set_option linter.all false
set_option maxRecDepth 100000
set_option maxHeartbeats 1000000
/-! Sim: the hand layer's judgements told by plain computations (Abs). -/
namespace Sm
open PySem PySem.Spec PyProof.Rows L2

/-! ### what stands for what -/
/-- an error that is being handled: its name's slot, its address, class, dict, and what it is -/
structure Gx where
  i : Nat
  a : Addr
  u : Value
  d : Option Addr
  x : Ex
abbrev Gh := Option Gx
structure Tb where
  K : PySem.W.Frag
  mg : Str → Option Value
  g : Gh
  w : World
abbrev tb (X : Cx) (G : Gh) : Tb := ⟨X.K, X.mg, G, X.w⟩
/-- m: the objects' addresses; ex: addresses that nothing may lean on -/
structure Mp where
  m : List Addr
  ex : List Addr
def ts (x : List Nat) : Str := ⟨x.toArray⟩
def kOf : K1 → Key
  | .i k => .inl k
  | .s x => .inr (ts x)
/-- a list of the text's own top -/
def KL (K : PySem.W.Frag) (a : Addr) (xs : List V) : Prop := ∃ (o : Obj) (its : Array Value) (n : Nat), K.lookup a = some o ∧ o.cls = .type "list" ∧ o.dict = none ∧ o.data = .seq its n ∧ its.size ≤ sizeLine ∧ Vals xs its.toList
def KT (K : PySem.W.Frag) (a : Addr) (xs : List V) : Prop := ∃ (o : Obj) (its : Array Value) (n : Nat), K.lookup a = some o ∧ o.cls = .type "tuple" ∧ o.data = .seq its n ∧ its.size ≤ sizeLine ∧ Vals xs its.toList
def Off (M : Mp) (a : Addr) : Prop := a ∉ M.m ∧ a ∉ M.ex
def FL (M : Mp) (H : Hp) (a : Addr) (xs : List V) : Prop := Off M a ∧ H a = some (.lst xs)
def FS (K : PySem.W.Frag) (M : Mp) (H : Hp) (a : Addr) (xs : List V) : Prop := (Off M a ∧ Rd H a (.lst xs)) ∨ KL K a xs
def FT (K : PySem.W.Frag) (M : Mp) (H : Hp) (a : Addr) (xs : List V) : Prop := Off M a ∧ H a = some (.tup xs)
theorem FL.sq {K : PySem.W.Frag} {M : Mp} {H : Hp} {a : Addr} {xs : List V} (h : FL M H a xs) : SqL K H a xs := .inl (.inl h.2)
theorem FS.sq {K : PySem.W.Frag} {M : Mp} {H : Hp} {a : Addr} {xs : List V} (h : FS K M H a xs) : SqL K H a xs := h.elim (fun h => .inl h.2) .inr
theorem FT.sq {K : PySem.W.Frag} {M : Mp} {H : Hp} {a : Addr} {xs : List V} (h : FT K M H a xs) : SqT K H a xs := .inl (.inl h.2)
/-- an instance's attributes -/
def flds (ns : List String) (vs : List V) : List (Str × V) := (ns.map Str.ofString).zip vs
mutual
def Rep (T : Tb) (M : Mp) (H : Hp) : D → V → Prop
  | .non, v => v = .non
  | .bl b, v => v = .bl b
  | .int i, v => v = .int i
  | .str x, v => v = .str (ts x)
  | .ty n, v => v = .ty n
  | .tup ds, v => ∃ a vs, v = .ref a ∧ FT T.K M H a vs ∧ Reps T M H ds vs
  | .lst ds, v => ∃ a vs, v = .ref a ∧ FL M H a vs ∧ Reps T M H ds vs
  | .scr ds, v => ∃ a vs, v = .ref a ∧ FS T.K M H a vs ∧ Reps T M H ds vs
  | .dic ks ds, v => ∃ a vs, v = .ref a ∧ Off M a ∧ H a = some (.dK ((ks.map kOf).zip vs)) ∧ ks.length = ds.length ∧ Reps T M H ds vs
  | .ins c ns ds, v => ∃ a C dx vs, v = .ref a ∧ Off M a ∧ T.mg (Str.ofString c) = some (.ref C) ∧ H a = some (.ins C dx (flds ns vs)) ∧ ns.length = ds.length ∧ Reps T M H ds vs
  | .loc l, v => ∃ a, v = .ref a ∧ M.m[l]? = some a
def Reps (T : Tb) (M : Mp) (H : Hp) : List D → List V → Prop
  | [], vs => vs = []
  | d :: ds, vs => ∃ x xs, vs = x :: xs ∧ Rep T M H d x ∧ Reps T M H ds xs
end
def RepO (T : Tb) (M : Mp) (H : Hp) (a : Addr) : AO → Prop
  | .lst ds => ∃ vs, H a = some (.lst vs) ∧ Reps T M H ds vs
  | .dic ks ds => ∃ vs, H a = some (.dK ((ks.map kOf).zip vs)) ∧ ks.length = ds.length ∧ Reps T M H ds vs
  | .dicT ks ds => ∃ vs, H a = some (.dT ((ks.map fun k => k.map kOf).zip vs)) ∧ ks.length = ds.length ∧ Reps T M H ds vs
  | .ins c ns ds => ∃ C dx vs, T.mg (Str.ofString c) = some (.ref C) ∧ H a = some (.ins C dx (flds ns vs)) ∧ ns.length = ds.length ∧ Reps T M H ds vs
  | .set xs => ∃ (S : Int → Bool) (n : Nat), H a = some (SetO T.w a S n) ∧ (∀ j, S j = decide (j ∈ xs)) ∧ xs.Nodup ∧ n = xs.length
structure RelH (T : Tb) (M : Mp) (ah : AH) (H : Hp) : Prop where
  len : M.m.length = ah.length
  nd : M.m.Nodup
  off : ∀ a ∈ M.m, a ∉ M.ex
  exs : ∀ a ∈ M.ex, ∃ o, H a = some o ∧ ∀ xs, o ≠ .tup xs
  obj : ∀ (l : Nat) (a : Addr) (o : AO), M.m[l]? = some a → ah[l]? = some o → RepO T M H a o
/-- what a computation does to the heap -/
structure Step (M : Mp) (H : Hp) (M' : Mp) (H' : Hp) : Prop where
  pre : ∃ r, M'.m = M.m ++ r ∧ ∀ a ∈ r, H a = none
  ex : ∃ r, M'.ex = M.ex ++ r ∧ ∀ a ∈ r, H a = none
  keep : ∀ a o, H a = some o → a ∉ M.m → H' a = some o
  there : ∀ a, H a ≠ none → H' a ≠ none
theorem Step.refl (M : Mp) (H : Hp) : Step M H M H := ⟨⟨[], by simp, by simp⟩, ⟨[], by simp, by simp⟩, fun _ _ h _ => h, fun _ h => h⟩
theorem Step.trans {M M1 M2 : Mp} {H H1 H2 : Hp} (a : Step M H M1 H1) (b : Step M1 H1 M2 H2) : Step M H M2 H2 := by
  obtain ⟨r, e, f⟩ := a.pre
  obtain ⟨r2, e2, f2⟩ := b.pre
  obtain ⟨u, k, g⟩ := a.ex
  obtain ⟨u2, k2, g2⟩ := b.ex
  have back : ∀ x, H1 x = none → H x = none := fun x hx => by
    cases q : H x with
    | none => rfl
    | some o => exact absurd hx (a.there x (by rw [q]; simp))
  refine ⟨⟨r ++ r2, by rw [e2, e, List.append_assoc], fun x hx => ?_⟩, ⟨u ++ u2, by rw [k2, k, List.append_assoc], fun x hx => ?_⟩, fun x o h hm => ?_, fun x h => b.there x (a.there x h)⟩
  · rcases List.mem_append.mp hx with hx | hx
    · exact f x hx
    · exact back x (f2 x hx)
  · rcases List.mem_append.mp hx with hx | hx
    · exact g x hx
    · exact back x (g2 x hx)
  · refine b.keep x o (a.keep x o h hm) fun hx => ?_
    rw [e] at hx
    rcases List.mem_append.mp hx with hx | hx
    · exact hm hx
    · rw [f x hx] at h; cases h
theorem Step.get {M M' : Mp} {H H' : Hp} (s : Step M H M' H') {l : Nat} {a : Addr} (h : M.m[l]? = some a) : M'.m[l]? = some a := by
  obtain ⟨r, e, _⟩ := s.pre
  rw [e, List.getElem?_append_left (List.getElem?_eq_some_iff.mp h).1]
  exact h
theorem Step.offOf {M M' : Mp} {H H' : Hp} (s : Step M H M' H') {a : Addr} {o : HO} (h : H a = some o) (f : Off M a) : Off M' a := by
  obtain ⟨r, e, g⟩ := s.pre
  obtain ⟨u, k, g2⟩ := s.ex
  refine ⟨fun hm => ?_, fun hm => ?_⟩
  · rw [e] at hm
    rcases List.mem_append.mp hm with hm | hm
    · exact f.1 hm
    · rw [g a hm] at h; cases h
  · rw [k] at hm
    rcases List.mem_append.mp hm with hm | hm
    · exact f.2 hm
    · rw [g2 a hm] at h; cases h
theorem Step.rd {M M' : Mp} {H H' : Hp} (s : Step M H M' H') {a : Addr} {u : HO} (h : Rd H a u) (f : Off M a) : Rd H' a u ∧ Off M' a := by
  rcases h with h | ⟨o, h⟩
  · exact ⟨.inl (s.keep a _ h f.1), s.offOf h f⟩
  · exact ⟨.inr ⟨o, s.keep a _ h f.1⟩, s.offOf h f⟩
section
variable {T : Tb} {M M' : Mp} {H H' : Hp}
/-- the same value stands for the same datum -/
structure Mono (M M' : Mp) (H H' : Hp) : Prop where
  get : ∀ (l : Nat) (a : Addr), M.m[l]? = some a → M'.m[l]? = some a
  off : ∀ a o, Off M a → H a = some o → Off M' a
  keep : ∀ a o, Off M a → H a = some o → H' a = some o
theorem Step.mono (s : Step M H M' H') : Mono M M' H H' := ⟨fun _ _ h => s.get h, fun _ _ f h => s.offOf h f, fun _ _ f h => s.keep _ _ h f.1⟩
theorem Mono.rd (s : Mono M M' H H') {a : Addr} {u : HO} (h : Rd H a u) (f : Off M a) : Off M' a ∧ Rd H' a u := by
  rcases h with h | ⟨o, h⟩
  · exact ⟨s.off a _ f h, .inl (s.keep a _ f h)⟩
  · exact ⟨s.off a _ f h, .inr ⟨o, s.keep a _ f h⟩⟩
theorem FL.mono (s : Mono M M' H H') {a : Addr} {xs : List V} (h : FL M H a xs) : FL M' H' a xs := ⟨s.off a _ h.1 h.2, s.keep a _ h.1 h.2⟩
theorem FS.mono (s : Mono M M' H H') {a : Addr} {xs : List V} (h : FS T.K M H a xs) : FS T.K M' H' a xs := h.elim (fun h => .inl (s.rd h.2 h.1)) .inr
theorem FT.mono (s : Mono M M' H H') {a : Addr} {xs : List V} (h : FT T.K M H a xs) : FT T.K M' H' a xs := ⟨s.off a _ h.1 h.2, s.keep a _ h.1 h.2⟩
mutual
theorem Rep.mono (s : Mono M M' H H') : ∀ {d : D} {v : V}, Rep T M H d v → Rep T M' H' d v
  | .non, _, h => by simpa [Rep] using h
  | .bl _, _, h => by simpa [Rep] using h
  | .int _, _, h => by simpa [Rep] using h
  | .str _, _, h => by simpa [Rep] using h
  | .ty _, _, h => by simpa [Rep] using h
  | .tup ds, v, h => by
    rw [Rep] at h ⊢
    obtain ⟨a, vs, e, f, r⟩ := h
    exact ⟨a, vs, e, f.mono s, Reps.mono s r⟩
  | .lst ds, v, h => by
    rw [Rep] at h ⊢
    obtain ⟨a, vs, e, f, r⟩ := h
    exact ⟨a, vs, e, f.mono s, Reps.mono s r⟩
  | .scr ds, v, h => by
    rw [Rep] at h ⊢
    obtain ⟨a, vs, e, f, r⟩ := h
    exact ⟨a, vs, e, f.mono s, Reps.mono s r⟩
  | .dic ks ds, v, h => by
    rw [Rep] at h ⊢
    obtain ⟨a, vs, e, f, g, z, r⟩ := h
    exact ⟨a, vs, e, s.off a _ f g, s.keep a _ f g, z, Reps.mono s r⟩
  | .ins c ns ds, v, h => by
    rw [Rep] at h ⊢
    obtain ⟨a, C, dx, vs, e, f, g, k, z, r⟩ := h
    exact ⟨a, C, dx, vs, e, s.off a _ f k, g, s.keep a _ f k, z, Reps.mono s r⟩
  | .loc l, v, h => by
    rw [Rep] at h ⊢
    obtain ⟨a, e, f⟩ := h
    exact ⟨a, e, s.get l a f⟩
theorem Reps.mono (s : Mono M M' H H') : ∀ {ds : List D} {vs : List V}, Reps T M H ds vs → Reps T M' H' ds vs
  | [], _, h => by simpa [Reps] using h
  | d :: ds, vs, h => by
    rw [Reps] at h ⊢
    obtain ⟨x, xs, e, f, g⟩ := h
    exact ⟨x, xs, e, Rep.mono s f, Reps.mono s g⟩
end
theorem Rep.step (s : Step M H M' H') {d : D} {v : V} (h : Rep T M H d v) : Rep T M' H' d v := h.mono s.mono
theorem Reps.step (s : Step M H M' H') {ds : List D} {vs : List V} (h : Reps T M H ds vs) : Reps T M' H' ds vs := h.mono s.mono
theorem Reps.length : ∀ {ds : List D} {vs : List V}, Reps T M H ds vs → ds.length = vs.length
  | [], _, h => by rw [Reps] at h; subst h; rfl
  | d :: ds, vs, h => by
    rw [Reps] at h
    obtain ⟨x, xs, rfl, _, g⟩ := h
    simp [Reps.length g]
theorem Reps.get : ∀ {ds : List D} {vs : List V} {i : Nat} {d : D}, Reps T M H ds vs → ds[i]? = some d → ∃ v, vs[i]? = some v ∧ Rep T M H d v
  | [], _, _, _, _, e => by simp at e
  | x :: ds, vs, 0, d, h, e => by
    rw [Reps] at h
    obtain ⟨y, ys, rfl, f, g⟩ := h
    simp at e; subst e
    exact ⟨y, rfl, f⟩
  | x :: ds, vs, i + 1, d, h, e => by
    rw [Reps] at h
    obtain ⟨y, ys, rfl, f, g⟩ := h
    simp at e
    obtain ⟨v, e1, e2⟩ := Reps.get g e
    exact ⟨v, by simpa using e1, e2⟩
theorem Reps.nil : Reps T M H [] [] := by rw [Reps]
theorem Reps.cons {d : D} {ds : List D} {v : V} {vs : List V} (h : Rep T M H d v) (g : Reps T M H ds vs) : Reps T M H (d :: ds) (v :: vs) := by
  rw [Reps]; exact ⟨v, vs, rfl, h, g⟩
theorem Reps.app : ∀ {ds es : List D} {vs us : List V}, Reps T M H ds vs → Reps T M H es us → Reps T M H (ds ++ es) (vs ++ us)
  | [], _, _, _, h, g => by rw [Reps] at h; subst h; exact g
  | d :: ds, es, vs, us, h, g => by
    rw [Reps] at h
    obtain ⟨x, xs, rfl, f, k⟩ := h
    exact Reps.cons f (Reps.app k g)
theorem Reps.take : ∀ (n : Nat) {ds : List D} {vs : List V}, Reps T M H ds vs → Reps T M H (ds.take n) (vs.take n)
  | 0, _, _, _ => by simpa using Reps.nil
  | n + 1, [], _, h => by rw [Reps] at h; subst h; simpa using Reps.nil
  | n + 1, d :: ds, vs, h => by
    rw [Reps] at h
    obtain ⟨x, xs, rfl, f, k⟩ := h
    exact Reps.cons f (Reps.take n k)
theorem Reps.drop : ∀ (n : Nat) {ds : List D} {vs : List V}, Reps T M H ds vs → Reps T M H (ds.drop n) (vs.drop n)
  | 0, _, _, h => h
  | n + 1, [], _, h => by rw [Reps] at h; subst h; simpa using Reps.nil
  | n + 1, d :: ds, vs, h => by
    rw [Reps] at h
    obtain ⟨x, xs, rfl, f, k⟩ := h
    exact Reps.drop n k
theorem Reps.set {x : D} {v : V} (hx : Rep T M H x v) : ∀ (i : Nat) {ds : List D} {vs : List V}, Reps T M H ds vs → Reps T M H (ds.set i x) (vs.set i v)
  | _, [], _, h => by rw [Reps] at h; subst h; simpa using Reps.nil
  | 0, d :: ds, vs, h => by
    rw [Reps] at h
    obtain ⟨y, ys, rfl, f, k⟩ := h
    exact Reps.cons hx k
  | i + 1, d :: ds, vs, h => by
    rw [Reps] at h
    obtain ⟨y, ys, rfl, f, k⟩ := h
    exact Reps.cons f (Reps.set hx i k)
theorem Reps.erase : ∀ (i : Nat) {ds : List D} {vs : List V}, Reps T M H ds vs → Reps T M H (ds.eraseIdx i) (vs.eraseIdx i)
  | _, [], _, h => by rw [Reps] at h; subst h; simpa using Reps.nil
  | 0, d :: ds, vs, h => by
    rw [Reps] at h
    obtain ⟨y, ys, rfl, f, k⟩ := h
    exact k
  | i + 1, d :: ds, vs, h => by
    rw [Reps] at h
    obtain ⟨y, ys, rfl, f, k⟩ := h
    exact Reps.cons f (Reps.erase i k)
theorem Reps.dropLast : ∀ {ds : List D} {vs : List V}, Reps T M H ds vs → Reps T M H ds.dropLast vs.dropLast := fun {ds vs} h => by
  rw [List.dropLast_eq_take, List.dropLast_eq_take, h.length]
  exact h.take _
theorem Reps.rep {ds : List D} {vs : List V} (h : Reps T M H ds vs) : ∀ n : Nat, Reps T M H (List.replicate n ds).flatten (List.replicate n vs).flatten
  | 0 => by simpa using Reps.nil
  | n + 1 => by
    rw [List.replicate_succ, List.replicate_succ, List.flatten_cons, List.flatten_cons]
    exact h.app (Reps.rep h n)
theorem Reps.ints : ∀ {ds : List D} {vs : List V} {ns : List Int}, Reps T M H ds vs → asInts ds = some ns → ds = ns.map .int ∧ vs = ns.map .int
  | [], vs, ns, h, e => by rw [Reps] at h; simp [asInts] at e; subst h e; exact ⟨rfl, rfl⟩
  | d :: ds, vs, ns, h, e => by
    rw [Reps] at h
    obtain ⟨x, xs, rfl, f, k⟩ := h
    cases d with
    | int i =>
      simp only [asInts, Option.map_eq_some_iff] at e
      obtain ⟨ms, e1, rfl⟩ := e
      obtain ⟨h1, h2⟩ := Reps.ints k e1
      rw [Rep] at f
      subst f
      rw [h1, h2]
      exact ⟨rfl, rfl⟩
    | _ => simp [asInts] at e
theorem Reps.ofInts : ∀ ns : List Int, Reps T M H (ns.map .int) (ns.map .int)
  | [] => Reps.nil
  | n :: ns => Reps.cons (by rw [Rep]) (Reps.ofInts ns)
end
/-! ### the heap's steps -/
section
variable {T : Tb} {M M' : Mp} {ah : AH} {H H' : Hp}
theorem RepO.lives {a : Addr} {o : AO} (h : RepO T M H a o) : H a ≠ none := by
  cases o with
  | lst ds => obtain ⟨vs, e, _⟩ := h; rw [e]; simp
  | dic ks ds => obtain ⟨vs, e, _⟩ := h; rw [e]; simp
  | dicT ks ds => obtain ⟨vs, e, _⟩ := h; rw [e]; simp
  | ins c ns ds => obtain ⟨C, dx, vs, _, e, _⟩ := h; rw [e]; simp
  | set xs => obtain ⟨S, n, e, _⟩ := h; rw [e]; simp
theorem RepO.mono (s : Mono M M' H H') {a : Addr} {o : AO} (k : H' a = H a) (h : RepO T M H a o) : RepO T M' H' a o := by
  cases o with
  | lst ds => obtain ⟨vs, e, r⟩ := h; exact ⟨vs, k.trans e, r.mono s⟩
  | dic ks ds => obtain ⟨vs, e, z, r⟩ := h; exact ⟨vs, k.trans e, z, r.mono s⟩
  | dicT ks ds => obtain ⟨vs, e, z, r⟩ := h; exact ⟨vs, k.trans e, z, r.mono s⟩
  | ins c ns ds => obtain ⟨C, dx, vs, g, e, z, r⟩ := h; exact ⟨C, dx, vs, g, k.trans e, z, r.mono s⟩
  | set xs => obtain ⟨S, n, e, z⟩ := h; exact ⟨S, n, k.trans e, z⟩
theorem RepO.step (s : Step M H M' H') {a : Addr} {o : AO} (k : H' a = H a) (h : RepO T M H a o) : RepO T M' H' a o := h.mono s.mono k
theorem RelH.at_ (q : RelH T M ah H) {l : Nat} {a : Addr} (h : M.m[l]? = some a) : ∃ o, ah[l]? = some o ∧ RepO T M H a o := by
  have hl : l < ah.length := by rw [← q.len]; exact (List.getElem?_eq_some_iff.mp h).1
  exact ⟨ah[l], List.getElem?_eq_getElem hl, q.obj l a _ h (List.getElem?_eq_getElem hl)⟩
theorem RelH.lives (q : RelH T M ah H) {a : Addr} (h : a ∈ M.m) : H a ≠ none := by
  obtain ⟨l, e⟩ := List.mem_iff_getElem?.mp h
  obtain ⟨o, _, r⟩ := q.at_ e
  exact r.lives
theorem RelH.offNew (q : RelH T M ah H) {p : Addr} (h : H p = none) : Off M p := ⟨fun z => q.lives z h, fun z => by obtain ⟨o, e, _⟩ := q.exs p z; rw [h] at e; cases e⟩
/-- the objects are as they were -/
theorem RelH.same (q : RelH T M ah H) (s : Step M H M H') (k : ∀ a ∈ M.m, H' a = H a) : RelH T M ah H' :=
  ⟨q.len, q.nd, q.off, fun a h => (q.exs a h).imp fun o e => ⟨s.keep a o e.1 (fun y => q.off a y h), e.2⟩, fun l a o h g => (q.obj l a o h g).step s (k a (List.mem_of_getElem? h))⟩
theorem step_new {p : Addr} (o : HO) (h : H p = none) : Step M H M (upd H p o) :=
  ⟨⟨[], by simp, by simp⟩, ⟨[], by simp, by simp⟩, fun a u e _ => by rw [upd_ne (ne_of_none e h)]; exact e, fun a e => by
    by_cases z : a = p
    · rw [z, upd_same]; simp
    · rw [upd_ne z]; exact e⟩
theorem RelH.new (q : RelH T M ah H) {p : Addr} (o : HO) (h : H p = none) : RelH T M ah (upd H p o) :=
  q.same (step_new o h) fun a z => upd_ne fun e => q.lives z (by rw [e]; exact h)
/-- a new object that is ours -/
theorem step_loc {p : Addr} (o : HO) (h : H p = none) : Step M H ⟨M.m ++ [p], M.ex⟩ (upd H p o) :=
  ⟨⟨[p], rfl, by simpa using h⟩, ⟨[], by simp, by simp⟩, (step_new (M := M) o h).keep, (step_new (M := M) o h).there⟩
theorem RelH.loc (q : RelH T M ah H) {p : Addr} {o : HO} {u : AO} (h : H p = none) (r : RepO T ⟨M.m ++ [p], M.ex⟩ (upd H p o) p u) : RelH T ⟨M.m ++ [p], M.ex⟩ (ah ++ [u]) (upd H p o) := by
  have f := q.offNew h
  refine ⟨by simp [q.len], ?_, fun a z => ?_, fun a z => (q.exs a z).imp fun u e => ⟨(step_new (M := M) o h).keep a u e.1 (fun y => q.off a y z), e.2⟩, fun l a x e g => ?_⟩
  · rw [List.nodup_append]
    exact ⟨q.nd, by simp, fun a ha b hb => by simp at hb; subst hb; exact fun z => f.1 (z ▸ ha)⟩
  · rcases List.mem_append.mp z with z | z
    · exact q.off a z
    · simp at z; subst z; exact f.2
  · by_cases hl : l < M.m.length
    · rw [List.getElem?_append_left hl] at e
      rw [List.getElem?_append_left (by rw [← q.len]; exact hl)] at g
      exact (q.obj l a x e g).step (step_loc o h) (upd_ne fun z => f.1 (z ▸ List.mem_of_getElem? e))
    · have : l < (M.m ++ [p]).length := (List.getElem?_eq_some_iff.mp e).1
      have hl2 : l = M.m.length := by simp at this; omega
      subst hl2
      rw [List.getElem?_append_right (Nat.le_refl _)] at e
      rw [List.getElem?_append_right (by rw [q.len]; exact Nat.le_refl _)] at g
      simp [q.len] at e g
      subst e g
      exact r
/-- an object of ours is changed -/
theorem RelH.put (q : RelH T M ah H) {l : Nat} {a : Addr} {o : HO} {u : AO} (h : M.m[l]? = some a) (r : Step M H M (upd H a o) → RepO T M (upd H a o) a u) : Step M H M (upd H a o) ∧ RelH T M (ah.set l u) (upd H a o) := by
  have hm := List.mem_of_getElem? h
  have s : Step M H M (upd H a o) := ⟨⟨[], by simp, by simp⟩, ⟨[], by simp, by simp⟩, fun b x e z => by rw [upd_ne (fun y => z (by rw [y]; exact hm))]; exact e, fun b e => by
    by_cases z : b = a
    · rw [z, upd_same]; simp
    · rw [upd_ne z]; exact e⟩
  refine ⟨s, by simp [q.len], q.nd, q.off, fun b z => (q.exs b z).imp fun u e => ⟨s.keep b u e.1 (fun y => q.off b y z), e.2⟩, fun l' b x e g => ?_⟩
  by_cases hl : l' = l
  · subst hl
    rw [h] at e; cases e
    have : l' < ah.length := by rw [← q.len]; exact (List.getElem?_eq_some_iff.mp h).1
    rw [List.getElem?_set_self this] at g
    cases g
    exact r s
  · rw [List.getElem?_set_ne (Ne.symm hl)] at g
    refine (q.obj l' b x e g).step s (upd_ne fun z => hl ?_)
    rw [z] at e
    exact nd_ix q.nd e h
end
/-! ### the judgements -/
/-- the class of an error -/
def ClsOf (T : Tb) (c : String) (u : Value) : Prop := (∃ C, T.mg (Str.ofString c) = some (.ref C) ∧ u = .ref C) ∨ (T.mg (Str.ofString c) = none ∧ u = .type c)
def ExRel (T : Tb) (M : Mp) (H : Hp) (x : Ex) (u : Value) (dx : Option Addr) : Prop := ClsOf T x.cls u ∧ x.ns.length = x.ds.length ∧ match dx with
  | none => x.ns = []
  | some d => ∃ vs, Off M d ∧ H d = some (.xd (flds x.ns vs)) ∧ Reps T M H x.ds vs
theorem ExRel.mono {T : Tb} {M M' : Mp} {H H' : Hp} (s : Mono M M' H H') {x : Ex} {u : Value} {dx : Option Addr} (h : ExRel T M H x u dx) : ExRel T M' H' x u dx := by
  refine ⟨h.1, h.2.1, ?_⟩
  have z := h.2.2
  cases dx with
  | none => exact z
  | some d =>
    obtain ⟨vs, f, e, r⟩ := z
    exact ⟨vs, s.off d _ f e, s.keep d _ f e, r.mono s⟩
structure Sta (T : Tb) (M : Mp) (e : Env) (ah : AH) (σ : L2.St) (H : Hp) : Prop where
  h : RelH T M ah H
  len : e.length = σ.length
  slot : ∀ (i : Nat) (d : D), e[i]? = some (some d) → ∃ v, σ[i]? = some (some v) ∧ Rep T M H d v
  gh : ∀ p, T.g = some p → σ[p.i]? = some (some (.ref p.a)) ∧ ExRel T M H p.x p.u p.d
theorem Sta.step {T : Tb} {M M' : Mp} {e : Env} {ah ah' : AH} {σ : L2.St} {H H' : Hp} (s : Sta T M e ah σ H) (t : Step M H M' H') (h : RelH T M' ah' H') : Sta T M' e ah' σ H' :=
  ⟨h, s.len, fun i d g => let ⟨v, a, b⟩ := s.slot i d g; ⟨v, a, b.step t⟩, fun p hp => ⟨(s.gh p hp).1, (s.gh p hp).2.mono t.mono⟩⟩
def Post {α : Type} (T : Tb) (W : XK) (M : Mp) (H : Hp) (P : α → Mp → AH → Hp → Prop) (r : R α) : Prop := match r with
  | .ok a ah => ∀ M' H', Step M H M' H' → RelH T M' ah H' → P a M' ah H'
  | .exc x ah => ∀ M' H' u dx, Step M H M' H' → RelH T M' ah H' → ExRel T M' H' x u dx → W u dx H'
  | .no => False
section
variable {α β : Type} {T : Tb} {W : XK} {M M' : Mp} {H H' : Hp}
theorem Post.step {P : α → Mp → AH → Hp → Prop} (s : Step M H M' H') : ∀ {r : R α}, Post T W M H P r → Post T W M' H' P r
  | .ok _ _, h => fun M2 H2 t q => h M2 H2 (s.trans t) q
  | .exc _ _, h => fun M2 H2 u dx t q x => h M2 H2 u dx (s.trans t) q x
  | .no, h => h
theorem Post.imp {P Q : α → Mp → AH → Hp → Prop} : ∀ {r : R α}, Post T W M H P r → (∀ a M' ah' H', Step M H M' H' → RelH T M' ah' H' → P a M' ah' H' → Q a M' ah' H') → Post T W M H Q r
  | .ok _ _, h, f => fun M2 H2 t q => f _ _ _ _ t q (h M2 H2 t q)
  | .exc _ _, h, _ => h
  | .no, h, _ => h
theorem Post.bind {P : β → Mp → AH → Hp → Prop} {f : α → AH → R β} : ∀ {r : R α}, Post T W M H P (r.bind f) → Post T W M H (fun a M1 ah1 H1 => Post T W M1 H1 P (f a ah1)) r
  | .ok _ _, h => fun _ _ t _ => Post.step t h
  | .exc _ _, h => h
  | .no, h => h
theorem Post.bindI {P : β → Mp → AH → Hp → Prop} {Q : α → Mp → AH → Hp → Prop} {f : α → AH → R β} {r : R α} (h : Post T W M H P (r.bind f))
    (k : ∀ a M' ah' H', Step M H M' H' → RelH T M' ah' H' → Post T W M' H' P (f a ah') → Q a M' ah' H') : Post T W M H Q r := h.bind.imp k
theorem Post.chk {P : α → Mp → AH → Hp → Prop} {c : Bool} {r : R α} (h : Post T W M H P (R.chk c r)) : c = true ∧ Post T W M H P r := by
  cases c with
  | true => exact ⟨rfl, h⟩
  | false => exact h.elim
theorem Post.of {P : α → Mp → AH → Hp → Prop} {o : Option α} {ah : AH} (h : Post T W M H P (R.of o ah)) : ∃ a, o = some a ∧ Post T W M H P (.ok a ah) := by
  cases o with
  | some a => exact ⟨a, rfl, h⟩
  | none => exact h.elim
/-- where nothing has happened -/
theorem Post.here {P : α → Mp → AH → Hp → Prop} {a : α} {ah : AH} (h : Post T W M H P (.ok a ah)) (q : RelH T M ah H) : P a M ah H := h M H (Step.refl M H) q
end
section
variable {T : Tb} {W : XK} {M : Mp} {ah : AH} {H : Hp} {Q : VK}
/-- what follows a value that is at hand -/
theorem Post.val {d : D} {v : V} (P : Post T W M H (fun d M' _ H' => ∀ v, Rep T M' H' d v → Q v H') (.ok d ah)) (q : RelH T M ah H) (r : Rep T M H d v) : Q v H := P M H (Step.refl M H) q v r
/-- a new list -/
theorem Post.mkL {fz : Bool} {ds : List D} {vs : List V} (P : Post T W M H (fun d M' _ H' => ∀ v, Rep T M' H' d v → Q v H') (Sm.mkL fz ds ah)) (q : RelH T M ah H) (r : Reps T M H ds vs) : ∀ p, H p = none → Q (.ref p) (upd H p (.lst vs)) := by
  intro p hp
  cases fz with
  | true =>
    have s := step_new (M := M) (.lst vs) hp
    refine P M _ s (q.new _ hp) _ ?_
    rw [Rep]
    exact ⟨p, vs, rfl, ⟨q.offNew hp, upd_same⟩, r.step s⟩
  | false =>
    have s := step_loc (M := M) (.lst vs) hp
    refine P _ _ s (q.loc hp ⟨vs, upd_same, r.step s⟩) _ ?_
    rw [Rep]
    refine ⟨p, rfl, ?_⟩
    show (M.m ++ [p])[ah.length]? = some p
    rw [← q.len]
    simp
/-- a new tuple -/
theorem Post.tup {ds : List D} {vs : List V} (P : Post T W M H (fun d M' _ H' => ∀ v, Rep T M' H' d v → Q v H') (.ok (.tup ds) ah)) (q : RelH T M ah H) (r : Reps T M H ds vs) : ∀ p, H p = none → Q (.ref p) (upd H p (.tup vs)) := by
  intro p hp
  have s := step_new (M := M) (.tup vs) hp
  refine P M _ s (q.new _ hp) _ ?_
  rw [Rep]
  exact ⟨p, vs, rfl, ⟨q.offNew hp, upd_same⟩, r.step s⟩
theorem rep_lst {x : D} {v : V} {ds : List D} (q : RelH T M ah H) (r : Rep T M H x v) (h : lstH ah x = some ds) : ∃ a vs, v = .ref a ∧ H a = some (.lst vs) ∧ Reps T M H ds vs := by
  cases x with
  | lst xs =>
    have e : xs = ds := Option.some.inj h
    subst e
    rw [Rep] at r
    obtain ⟨a, vs, e, f, g⟩ := r
    exact ⟨a, vs, e, f.2, g⟩
  | loc l =>
    rw [Rep] at r
    obtain ⟨a, e, f⟩ := r
    obtain ⟨o, g, k⟩ := q.at_ f
    simp only [lstH, g] at h
    cases o with
    | lst xs =>
      have e2 : xs = ds := Option.some.inj h
      subst e2
      obtain ⟨vs, k1, k2⟩ := k
      exact ⟨a, vs, e, k1, k2⟩
    | _ => cases h
  | _ => cases h
theorem rep_seq {x : D} {v : V} {ds : List D} (q : RelH T M ah H) (r : Rep T M H x v) (h : seqH ah x = some ds) : ∃ a vs, v = .ref a ∧ (SqL T.K H a vs ∨ SqT T.K H a vs) ∧ Reps T M H ds vs := by
  cases x with
  | tup xs =>
    have e : xs = ds := Option.some.inj h
    subst e
    rw [Rep] at r
    obtain ⟨a, vs, e, f, g⟩ := r
    exact ⟨a, vs, e, .inr f.sq, g⟩
  | scr xs =>
    have e : xs = ds := Option.some.inj h
    subst e
    rw [Rep] at r
    obtain ⟨a, vs, e, f, g⟩ := r
    exact ⟨a, vs, e, .inl f.sq, g⟩
  | lst xs =>
    obtain ⟨a, vs, e, f, g⟩ := rep_lst q r h
    exact ⟨a, vs, e, .inl (SqL.of f), g⟩
  | loc xs =>
    obtain ⟨a, vs, e, f, g⟩ := rep_lst q r h
    exact ⟨a, vs, e, .inl (SqL.of f), g⟩
  | _ => cases h
theorem big_eq : big = sizeLine := by rw [sizeLine_eq]; rfl
end

/-- an expression's reading, a test's, arguments' -/
def tE (W : WX) (T : Tb) (a : AE) : TE := fun σ H Q => ∃ M e ah, Sta T M e ah σ H ∧ Post T (WE W σ) M H (fun d M' _ H' => ∀ v, Rep T M' H' d v → Q v H') (a e ah)
def tT (W : WX) (T : Tb) (t : AB) : TT := fun σ H Q => ∃ M e ah, Sta T M e ah σ H ∧ Post T (WE W σ) M H (fun b _ _ H' => Q b H') (t e ah)
def tA (W : WX) (T : Tb) (a : AA) : TA := fun σ H Q => ∃ M e ah, Sta T M e ah σ H ∧ Post T (WE W σ) M H (fun ds M' _ H' => ∀ vs, Reps T M' H' ds vs → Q vs H') (a e ah)
/-- a statement's ends -/
def EndsAt (W : WX) (T : Tb) (D : Ends) : Fl → Mp → AH → Hp → Prop := fun f M' ah' H' => match f with
  | .nx e' => ∀ σ', Sta T M' e' ah' σ' H' → D.nx σ' H'
  | .rt d => ∀ v, Rep T M' H' d v → D.rt v H'
  | .bk e' => ∀ σ', Sta T M' e' ah' σ' H' → D.bk σ' H'
  | .ct e' => ∀ σ', Sta T M' e' ah' σ' H' → D.ct σ' H'
  | .ex x e' => ∀ σ' u dx, Sta T M' e' ah' σ' H' → ExRel T M' H' x u dx → W u dx σ' H'
abbrev W0 : XK := fun _ _ _ => False
def tS (W : WX) (T : Tb) (b : AS) : TS := fun D σ H => ∃ M e ah, Sta T M e ah σ H ∧ Post T W0 M H (EndsAt W T D) (b e ah)
abbrev SE (X : Cx) (G : Gh) (W : WX) (e : Expr) (a : AE) : Prop := PE X e (tE W (tb X G) a)
abbrev SB (X : Cx) (G : Gh) (W : WX) (e : Expr) (t : AB) : Prop := PT X e (tT W (tb X G) t)
abbrev SA (X : Cx) (G : Gh) (W : WX) (es : List Expr) (a : AA) : Prop := PA X es (tA W (tb X G) a)
abbrev SS (X : Cx) (G : Gh) (W : WX) (s : Stmt) (b : AS) : Prop := PS X s (tS W (tb X G) b)
abbrev SSs (X : Cx) (G : Gh) (W : WX) (s : List Stmt) (b : AS) : Prop := PSs X s (tS W (tb X G) b)
theorem PE.imp {X : Cx} {e : Expr} {t t' : TE} (h : PE X e t) (f : ∀ σ H Q, t' σ H Q → t σ H Q) : PE X e t' := ⟨fun pins s σ H Q I q => h.run pins s σ H Q I (f σ H Q q)⟩
theorem PT.imp {X : Cx} {e : Expr} {t t' : TT} (h : PT X e t) (f : ∀ σ H Q, t' σ H Q → t σ H Q) : PT X e t' := ⟨fun pins s σ H Q I q => h.run pins s σ H Q I (f σ H Q q)⟩
theorem PA.imp {X : Cx} {e : List Expr} {t t' : TA} (h : PA X e t) (f : ∀ σ H Q, t' σ H Q → t σ H Q) : PA X e t' := ⟨fun pos pins s σ H Q I q => h.run pos pins s σ H Q I (f σ H Q q)⟩
theorem PS.imp {X : Cx} {e : Stmt} {t t' : TS} (h : PS X e t) (f : ∀ D σ H, t' D σ H → t D σ H) : PS X e t' := ⟨fun pins s σ H D I q => h.run pins s σ H D I (f D σ H q)⟩
theorem PSs.imp {X : Cx} {e : List Stmt} {t t' : TS} (h : PSs X e t) (f : ∀ D σ H, t' D σ H → t D σ H) : PSs X e t' := ⟨fun pins s σ H D I q => h.run pins s σ H D I (f D σ H q)⟩

/-! ### names, constants, operators -/
section
variable {X : Cx} {G : Gh} {W : WX} {ea eb ec : Expr} {a b c : AE} {pos : Pos}
theorem s_var {i : Nat} {x : Str} (hN : X.N[i]? = some x) (hv : Vis X.env.scope x) (hd : (x == ("__debug__" : Str)) = false := by decide) (hcd : (x == ("__classdict__" : Str)) = false := by decide) : SE X G W (.Name x pos) (eV i) :=
  PE.imp (pe_var hN hv hd hcd) fun σ H Q h => by
    obtain ⟨M, e, ah, S, P⟩ := h
    unfold eV at P
    split at P
    · rename_i d he
      obtain ⟨v, e1, r⟩ := S.slot i d he
      exact ⟨v, e1, P.here S.h v r⟩
    · exact P.elim
theorem s_c {d : D} {v : V} {e : Expr} (h : PE X e (L2.tC v)) (r : ∀ (T : Tb) M H, Rep T M H d v) : SE X G W e (eC d) :=
  PE.imp h fun σ H Q h => by
    obtain ⟨M, e, ah, S, P⟩ := h
    exact P.here S.h v (r _ _ _)
theorem s_int {i : Int} {j} : SE X G W (.Constant (.int i) j pos) (eC (.int i)) := s_c pe_int fun _ _ _ => by rw [Rep]
theorem s_bl {i : Bool} {j} : SE X G W (.Constant (.bool i) j pos) (eC (.bl i)) := s_c pe_bl fun _ _ _ => by rw [Rep]
theorem s_non {j} : SE X G W (.Constant .none j pos) (eC .non) := s_c pe_non fun _ _ _ => by rw [Rep]
theorem s_str {x : Str} {y : List Nat} {j} (h : x = ts y) : SE X G W (.Constant (.str x) j pos) (eC (.str y)) := s_c pe_str fun _ _ _ => by rw [Rep, h]
/-- an operator by values -/
def Op2 (X : Cx) (G : Gh) (r : R2) (f : D → D → AH → R D) : Prop := ∀ (E : XK) M ah H dx dy x y Q, RelH (tb X G) M ah H → Rep (tb X G) M H dx x → Rep (tb X G) M H dy y → Post (tb X G) E M H (fun d M' _ H' => ∀ v, Rep (tb X G) M' H' d v → Q v H') (f dx dy ah) → r x y H Q
def Op1 (X : Cx) (G : Gh) (r : V → Hp → VK → Prop) (f : D → AH → R D) : Prop := ∀ (E : XK) M ah H dx x Q, RelH (tb X G) M ah H → Rep (tb X G) M H dx x → Post (tb X G) E M H (fun d M' _ H' => ∀ v, Rep (tb X G) M' H' d v → Q v H') (f dx ah) → r x H Q
theorem op2_read {r : R2} {f : D → D → AH → R D} (hf : Op2 X G r f) {σ : L2.St} {H : Hp} {Q : VK} (h : tE W (tb X G) (e2 f a b) σ H Q) : tOp r (tE W (tb X G) a) (tE W (tb X G) b) σ H Q := by
  obtain ⟨M, e, ah, S, P⟩ := h
  refine ⟨M, e, ah, S, P.bindI fun dx M1 ah1 H1 s1 q1 P1 v hv => ?_⟩
  refine ⟨M1, e, ah1, S.step s1 q1, P1.bindI fun dy M2 ah2 H2 s2 q2 P2 w hw => ?_⟩
  exact hf _ _ _ _ _ _ _ _ _ q2 (hv.step s2) hw P2
theorem s_bin {op : Operator} {r : R2} {f : D → D → AH → R D} (ho : OpR X (binaryOp op) r) (hf : Op2 X G r f) (ha : SE X G W ea a) (hb : SE X G W eb b) : SE X G W (.BinOp ea op eb pos) (e2 f a b) :=
  PE.imp (pe_op ho ha hb) fun σ H Q h => op2_read hf h
theorem s_cmp {op : CmpOp} {r : R2} {f : D → D → AH → R D} (ho : OpR X (compareOp op) r) (hf : Op2 X G r f) (ha : SE X G W ea a) (hb : SE X G W eb b) (hm : behindInMarks op eb = false) : SE X G W (.Compare ea [op] [eb] pos) (e2 f a b) :=
  PE.imp (pe_cmpR ho ha hb hm) fun σ H Q h => op2_read hf h
theorem s_un {op : UnaryOp} {r : V → Hp → VK → Prop} {f : D → AH → R D} (ho : UnR X (unaryOp op) r) (hf : Op1 X G r f) (ha : SE X G W ea a) : SE X G W (.UnaryOp op ea pos) (e1 f a) :=
  PE.imp (pe_un ho ha) fun σ H Q h => by
    obtain ⟨M, e, ah, S, P⟩ := h
    exact ⟨M, e, ah, S, P.bindI fun dx M1 ah1 H1 s1 q1 P1 v hv => hf _ _ _ _ _ _ _ q1 hv P1⟩
end

/-! ### the operators -/
section
variable {X : Cx} {G : Gh} {W : WX} {ea eb ec : Expr} {a b c : AE} {pos : Pos}
theorem rep_int {T : Tb} {M : Mp} {H : Hp} {i : Int} {v : V} (h : Rep T M H (.int i) v) : v = .int i := by rwa [Rep] at h
theorem rep_str {T : Tb} {M : Mp} {H : Hp} {i : List Nat} {v : V} (h : Rep T M H (.str i) v) : v = .str (ts i) := by rwa [Rep] at h
theorem rep_bl {T : Tb} {M : Mp} {H : Hp} {i : Bool} {v : V} (h : Rep T M H (.bl i) v) : v = .bl i := by rwa [Rep] at h
theorem rep_tup {T : Tb} {M : Mp} {H : Hp} {ds : List D} {v : V} (h : Rep T M H (.tup ds) v) : ∃ a vs, v = .ref a ∧ FT T.K M H a vs ∧ Reps T M H ds vs := by rwa [Rep] at h
theorem mk_int {T : Tb} {M : Mp} {H : Hp} {i : Int} : Rep T M H (.int i) (.int i) := by rw [Rep]
theorem mk_bl {T : Tb} {M : Mp} {H : Hp} {i : Bool} : Rep T M H (.bl i) (.bl i) := by rw [Rep]
theorem mk_str {T : Tb} {M : Mp} {H : Hp} {i : List Nat} : Rep T M H (.str i) (.str (ts i)) := by rw [Rep]
theorem mk_non {T : Tb} {M : Mp} {H : Hp} : Rep T M H .non .non := by rw [Rep]
theorem ts_len (x : List Nat) : (ts x).length = x.length := by simp [ts, Str.length]
theorem ts_app (x y : List Nat) : ts x ++ ts y = ts (x ++ y) := by
  show Str.mk _ = Str.mk _
  simp [ts]
theorem ts_inj {x y : List Nat} (h : ts x = ts y) : x = y := by
  have := congrArg (fun z : Str => z.cps.toList) h
  simpa [ts] using this
theorem ts_dec (x y : List Nat) : decide (V.str (ts x) = V.str (ts y)) = decide (D.str x = D.str y) := by
  by_cases h : x = y
  · subst h; simp
  · rw [decide_eq_false, decide_eq_false]
    · intro e; exact h (D.str.inj e)
    · intro e; exact h (ts_inj (V.str.inj e))

def rAddAll (X : Cx) : R2 := fun x y H Q => (∃ i j, x = .int i ∧ y = .int j ∧ Q (.int (i + j)) H) ∨ (∃ i k, x = .int i ∧ y = .bl k ∧ Q (.int (i + b2i k)) H) ∨
  (∃ i j, x = .str i ∧ y = .str j ∧ i.length + j.length ≤ sizeLine ∧ Q (.str (i ++ j)) H) ∨ rCatA X.K x y H Q ∨ rCat x y H Q
theorem op_addAll : OpR X (binaryOp .Add) (rAddAll X) := op_add.or (op_add_ib.or (op_add_str.or (op_catA.or op_cat)))
theorem o2_add {fz : Bool} : Op2 X G (rAddAll X) (addD fz) := by
  intro E M ah H dx dy x y Q q rx ry P
  have lists : ∀ {dx}, Rep (tb X G) M H dx x → Post (tb X G) E M H (fun d M' _ H' => ∀ v, Rep (tb X G) M' H' d v → Q v H') (cat fz dx dy ah) → rAddAll X x y H Q := fun {dx} rx P => by
    unfold cat at P
    split at P
    · rename_i xs hx
      split at P
      · rename_i ys hy
        obtain ⟨hz, P⟩ := P.chk
        obtain ⟨a, vs, e1, f1, g1⟩ := rep_lst q rx hx
        obtain ⟨b, us, e2, f2, g2⟩ := rep_lst q ry hy
        refine .inr (.inr (.inr (.inr ⟨a, b, vs, us, e1, e2, f1, f2, ?_, P.mkL q (g1.app g2)⟩)))
        have := of_decide_eq_true hz
        rw [big_eq] at this
        rw [← g1.length, ← g2.length]; exact this
      · exact P.elim
    · exact P.elim
  cases dx with
  | int i =>
    cases dy with
    | int j => exact .inl ⟨i, j, rep_int rx, rep_int ry, P.val q mk_int⟩
    | bl j =>
      refine .inr (.inl ⟨i, j, rep_int rx, rep_bl ry, ?_⟩)
      have := P.val q mk_int
      cases j <;> exact this
    | _ => exact P.elim
  | str i =>
    cases dy with
    | str j =>
      obtain ⟨hz, P⟩ := Post.chk P
      refine .inr (.inr (.inl ⟨ts i, ts j, rep_str rx, rep_str ry, ?_, ?_⟩))
      · have := of_decide_eq_true hz
        rw [ts_len, ts_len, ← big_eq]; exact this
      · rw [ts_app]; exact P.val q mk_str
    | _ => exact P.elim
  | tup ds =>
    cases dy with
    | tup es =>
      obtain ⟨hz, P⟩ := Post.chk P
      obtain ⟨a, vs, e1, f1, g1⟩ := rep_tup rx
      obtain ⟨b, us, e2, f2, g2⟩ := rep_tup ry
      have hz' : vs.length + us.length ≤ sizeLine := by
        have := of_decide_eq_true hz
        rw [big_eq] at this
        rw [← g1.length, ← g2.length]; exact this
      refine .inr (.inr (.inr (.inl ⟨a, b, vs, us, e1, e2, f1.sq, f2.sq, hz', fun e => ?_, fun _ e => ?_, fun _ _ => P.tup q (g1.app g2)⟩)))
      · have hd : ds = [] := List.length_eq_zero_iff.mp (by rw [g1.length, e]; rfl)
        subst hd
        exact P.val q (by rw [List.nil_append, Rep]; exact ⟨b, us, rfl, f2, g2⟩)
      · have hd : es = [] := List.length_eq_zero_iff.mp (by rw [g2.length, e]; rfl)
        subst hd
        exact P.val q (by rw [List.append_nil, Rep]; exact ⟨a, vs, rfl, f1, g1⟩)
    | _ => exact P.elim
  | lst ds => exact lists rx P
  | loc l => exact lists rx P
  | _ => exact lists rx P
theorem s_add {fz : Bool} (ha : SE X G W ea a) (hb : SE X G W eb b) : SE X G W (.BinOp ea .Add eb pos) (e2 (addD fz) a b) := s_bin op_addAll o2_add ha hb
/-- two ints -/
theorem o2_ints {C : Int → Int → Prop} {g : Int → Int → D} {gv : Int → Int → V} {f : D → D → AH → R D}
    (hg : ∀ (T : Tb) M H i j, Rep T M H (g i j) (gv i j))
    (hf : ∀ dx dy ah (E : XK) M H P, Post (tb X G) E M H P (f dx dy ah) → ∃ i j, dx = .int i ∧ dy = .int j ∧ C i j ∧ Post (tb X G) E M H P (.ok (g i j) ah)) : Op2 X G (rI C gv) f := by
  intro E M ah H dx dy x y Q q rx ry P
  obtain ⟨i, j, rfl, rfl, hc, P⟩ := hf _ _ _ _ _ _ _ P
  exact ⟨i, j, rep_int rx, rep_int ry, hc, P.val q (hg _ _ _ _ _)⟩
theorem ints_of {C : Int → Int → Prop} {g : Int → Int → D} {k : Int → Int → Bool} (hk : ∀ i j, k i j = true → C i j) {f : D → D → AH → R D}
    (h1 : ∀ i j ah, f (.int i) (.int j) ah = R.chk (k i j) (.ok (g i j) ah)) (h2 : ∀ dx dy ah, (∀ i j, dx = .int i → dy = .int j → False) → f dx dy ah = .no) (dx dy : D) (ah : AH) (E : XK) (M : Mp) (H : Hp) (P : D → Mp → AH → Hp → Prop)
    (h : Post (tb X G) E M H P (f dx dy ah)) : ∃ i j, dx = .int i ∧ dy = .int j ∧ C i j ∧ Post (tb X G) E M H P (.ok (g i j) ah) := by
  by_cases z : ∃ i j, dx = .int i ∧ dy = .int j
  · obtain ⟨i, j, rfl, rfl⟩ := z
    rw [h1] at h
    obtain ⟨hc, h⟩ := h.chk
    exact ⟨i, j, rfl, rfl, hk i j hc, h⟩
  · rw [h2 dx dy ah fun i j e1 e2 => z ⟨i, j, e1, e2⟩] at h
    exact h.elim
theorem no_ints {f : D → D → AH → R D} (h1 : ∀ dx dy ah, (∀ i, dx ≠ .int i) → f dx dy ah = .no) (h2 : ∀ i dy ah, (∀ j, dy ≠ .int j) → f (.int i) dy ah = .no) (dx dy : D) (ah : AH) (h : ∀ i j, dx = .int i → dy = .int j → False) : f dx dy ah = .no := by
  by_cases z : ∃ i, dx = .int i
  · obtain ⟨i, rfl⟩ := z
    exact h2 i dy ah fun j e => h i j rfl e
  · exact h1 dx dy ah fun i e => z ⟨i, e⟩
theorem rI0_rI {g : Int → Int → V} {f : Value → Value → Sem Value} (h : OpR X f (rI0 g)) : OpR X f (rI (fun _ _ => True) g) := fun pins s σ H x y v u Q I rx ry ⟨i, j, e1, e2, _, q⟩ => h pins s σ H x y v u Q I rx ry ⟨i, j, e1, e2, q⟩
theorem s_sub (ha : SE X G W ea a) (hb : SE X G W eb b) : SE X G W (.BinOp ea .Sub eb pos) (e2 subD a b) :=
  s_bin (rI0_rI op_sub) (o2_ints (g := fun i j => .int (i - j)) (fun _ _ _ _ _ => mk_int) (ints_of (k := fun _ _ => true) (fun _ _ _ => True.intro) (fun _ _ _ => rfl) (no_ints (fun dx _ _ h => by cases dx <;> first | rfl | exact absurd rfl (h _)) (fun i dy _ h => by cases dy <;> first | rfl | exact absurd rfl (h _))))) ha hb
theorem s_fdiv (ha : SE X G W ea a) (hb : SE X G W eb b) : SE X G W (.BinOp ea .FloorDiv eb pos) (e2 fdivD a b) :=
  s_bin op_fdivW (o2_ints (C := CDivW) (g := fun i j => .int (i / j)) (fun _ _ _ _ _ => mk_int) (ints_of (k := fun i j => wideJ j) (fun _ j h => wide_div (b := 400) ((wideJ_iff j).mp h).1 (by
    have h2 := ((wideJ_iff j).mp h).2
    have h1 := ((wideJ_iff j).mp h).1
    have h3 : (10000000000000000000000000000000000000000000000000000000000000000000000000000000000000000000000000000 : Nat) < 2 ^ 400 := by decide +kernel
    exact Nat.lt_of_le_of_lt (by omega) h3) (by decide) (by decide)) (fun _ _ _ => rfl) (no_ints (fun dx _ _ h => by cases dx <;> first | rfl | exact absurd rfl (h _)) (fun i dy _ h => by cases dy <;> first | rfl | exact absurd rfl (h _))))) ha hb
theorem s_mod (ha : SE X G W ea a) (hb : SE X G W eb b) : SE X G W (.BinOp ea .Mod eb pos) (e2 modD a b) :=
  s_bin op_mod (o2_ints (g := fun i j => .int (i % j)) (fun _ _ _ _ _ => mk_int) (ints_of (fun _ _ h => of_decide_eq_true h) (fun _ _ _ => rfl) (no_ints (fun dx _ _ h => by cases dx <;> first | rfl | exact absurd rfl (h _)) (fun i dy _ h => by cases dy <;> first | rfl | exact absurd rfl (h _))))) ha hb
theorem s_pow (ha : SE X G W ea a) (hb : SE X G W eb b) : SE X G W (.BinOp ea .Pow eb pos) (e2 powD a b) :=
  s_bin op_pow (o2_ints (g := fun i j => .int (i ^ j.toNat)) (fun _ _ _ _ _ => mk_int) (ints_of (k := fun i j => decide (0 ≤ j ∧ j ≤ 1000000 ∧ i.natAbs < 2 ^ 64)) (fun _ _ h => of_decide_eq_true h) (fun _ _ _ => rfl) (no_ints (fun dx _ _ h => by cases dx <;> first | rfl | exact absurd rfl (h _)) (fun i dy _ h => by cases dy <;> first | rfl | exact absurd rfl (h _))))) ha hb
theorem s_neg (ha : SE X G W ea a) : SE X G W (.UnaryOp .USub ea pos) (e1 negD a) := s_un un_neg (fun E M ah H dx x Q q rx P => by
  cases dx with
  | int i => exact ⟨i, rep_int rx, P.val q mk_int⟩
  | _ => exact P.elim) ha
/-- t * 1 is t -/
theorem tuple_mul1 (l : Addr) (items : Array Value) (n : Nat) (dd : Option Addr) (sl : Array (Option Value)) (u : Tok) :
    Meets (Builtin.«tuple.__mul__» ⟨[.ref l, .int 1 u], []⟩) (fun _ R s => s.heap.get? l = some { cls := .type "tuple", dict := dd, data := .seq items n, slots := sl } ∧ R (.ok (.ret (Value.ref l))) s) :=
  .of_wp fun prog w A R s h => by
    obtain ⟨hp, g, d, tk, os⟩ := s
    obtain ⟨hl, h⟩ := h
    have f1 := AutoSeq1.idx_int
    have c0 : (decide ((1 : Int) < -(2 ^ 63)) || decide ((1 : Int) ≥ 2 ^ 63)) = false := by decide
    have c1 : (items.isEmpty || ((1 : Int) == 1)) = true := by simp
    wp_walk using PySem.AutoSeq1.wpAny_loadPart' hl
    repeat (first
      | (refine wpAny_ite_false (decide_eq_false (by rw [c0]; exact Bool.false_ne_true)) ?_; wp_walk using PySem.AutoSeq1.wpAny_loadPart' hl)
      | (refine wpAny_ite_true (decide_eq_true (by rw [c1])) ?_; wp_walk using PySem.AutoSeq1.wpAny_loadPart' hl))
    exact ⟨_, rfl, h⟩
def rRepT1 (K : PySem.W.Frag) : R2 := fun x y H Q => ∃ l xs, x = .ref l ∧ y = .int 1 ∧ SqT K H l xs ∧ Q (.ref l) H
theorem op_repT1 : OpR X (binaryOp .Mult) (rRepT1 X.K) := by
  intro pins s σ H x y v u Q I rx ry h
  obtain ⟨l, xs, rfl, rfl, hT, q⟩ := h
  cases rx
  obtain ⟨t, rfl⟩ := ry
  obtain ⟨its, r, ⟨⟨cls, dd, data, sl⟩, ho, hc, n, hd⟩, hs⟩ := I.tuple hT
  simp only at hc hd
  subst hc hd
  exact wpAny_binaryOp_repeat_ref (T := "tuple") (U := "int") (by decide) ⟨_, ho, rfl⟩ (fun s' => typeIs_int s' 1 t) noFill_tuple_mul F.fills_int_mul F.slot_int_rmul repeat_tuple F.slot_int_index.lookup
    (call_meets F.slot_int_rmul (typeIs_int s 1 t) F.entry_int_rmul (F.args_int_rmul_2 _ _) (int_rmul_tuple 1 t l its.toArray n dd sl)
      ⟨ho, rfl, ⟨_, ho, rfl⟩, call_meets F.slot_tuple_mul ⟨_, ho, rfl⟩ F.entry_tuple_mul (F.args_tuple_mul_2 _ _) (tuple_mul1 l its.toArray n dd sl t) ⟨ho, .ref l, H, I, rfl, q⟩⟩)
/-- a product -/
def rMulAll (X : Cx) : R2 := fun x y H Q => (rI CMul (fun i j => .int (i * j)) x y H Q ∨ rI CMulW (fun i j => .int (i * j)) x y H Q) ∨ rRep x y H Q ∨ rRepT X.K x y H Q ∨ rRepT1 X.K x y H Q
theorem op_mulAll : OpR X (binaryOp .Mult) (rMulAll X) := (op_mul.or op_mulW).or (op_rep.or (op_repT.or op_repT1))
theorem o2_mul {fz : Bool} : Op2 X G (rMulAll X) (mulD fz) := by
  intro E M ah H dx dy x y Q q rx ry P
  cases dy with
  | int j =>
    have lists : ∀ {dx}, Rep (tb X G) M H dx x → Post (tb X G) E M H (fun d M' _ H' => ∀ v, Rep (tb X G) M' H' d v → Q v H') (match lstH ah dx with
      | some xs => R.chk (decide (-(2 ^ 63) ≤ j ∧ j < 2 ^ 63 ∧ xs.length * j.toNat ≤ big)) (mkL fz (List.replicate j.toNat xs).flatten ah)
      | none => .no) → rMulAll X x y H Q := fun {dx} rx P => by
      split at P
      · rename_i xs hx
        obtain ⟨hz, P⟩ := P.chk
        obtain ⟨h1, h2, h3⟩ := of_decide_eq_true hz
        obtain ⟨a, vs, e1, f1, g1⟩ := rep_lst q rx hx
        exact .inr (.inl ⟨a, j, vs, e1, rep_int ry, f1, h1, h2, by rw [← g1.length, ← big_eq]; exact h3, P.mkL q (g1.rep _)⟩)
      · exact P.elim
    cases dx with
    | int i =>
      obtain ⟨hz, P⟩ := Post.chk P
      rcases Bool.or_eq_true_iff.mp hz with h | h
      · refine .inl (.inl ⟨i, j, rep_int rx, rep_int ry, ?_, P.val q mk_int⟩)
        rcases Bool.or_eq_true_iff.mp h with h | h
        · exact .inl ((small_iff _).mp h)
        · exact .inr ((small_iff _).mp h)
      · refine .inl (.inr ⟨i, j, rep_int rx, rep_int ry, ?_, P.val q mk_int⟩)
        obtain ⟨h1, h2⟩ := Bool.and_eq_true_iff.mp h
        have w : (1000000000000000000000000000000000000000000000000000000000000000000000000000000000000000000000000000000000000000000000000 : Nat) < 2 ^ 400 := by decide
        exact wide_mul (a := 400) (b := 400) (Nat.lt_of_le_of_lt ((midB_iff i).mp h1) w) (Nat.lt_of_le_of_lt ((midB_iff j).mp h2) w) (by decide) (by decide) (by decide)
    | tup ds =>
      obtain ⟨hz, P⟩ := Post.chk P
      obtain ⟨h0, h1, h2, h3⟩ := of_decide_eq_true hz
      obtain ⟨a, vs, e1, f1, g1⟩ := rep_tup rx
      by_cases hj : j = 1
      · subst hj
        refine .inr (.inr (.inr ⟨a, vs, e1, rep_int ry, f1.sq, P.val q ?_⟩))
        rw [Rep]
        exact ⟨a, vs, rfl, f1, by simpa using g1⟩
      · by_cases hd : ds.length = 0
        · exact absurd hd (by omega)
        · refine .inr (.inr (.inl ⟨a, j, vs, e1, rep_int ry, f1.sq, fun e => hd (by rw [g1.length, e]; rfl), by omega, by omega, by rw [← g1.length]; omega, P.tup q (g1.rep _)⟩))
    | _ => exact lists rx P
  | _ => exact P.elim
theorem s_mul {fz : Bool} (ha : SE X G W ea a) (hb : SE X G W eb b) : SE X G W (.BinOp ea .Mult eb pos) (e2 (mulD fz) a b) := s_bin op_mulAll o2_mul ha hb
end
end Sm
end

section
set_option Elab.async false
set_option linter.all false
set_option maxRecDepth 100000
set_option maxHeartbeats 1000000
namespace Sm
open PySem PySem.Spec PyProof.Rows L2

/-! ### comparisons -/
section
variable {X : Cx} {G : Gh} {W : WX} {ea eb ec : Expr} {a b c : AE} {pos : Pos}
theorem o2_cmpI {p : Int → Int → Bool} : Op2 X G (rI0 fun i j => .bl (p i j)) (cmpI p) := by
  intro E M ah H dx dy x y Q q rx ry P
  cases dx with
  | int i =>
    cases dy with
    | int j => exact ⟨i, j, rep_int rx, rep_int ry, P.val q mk_bl⟩
    | _ => exact P.elim
  | _ => exact P.elim
theorem lex_eq : ∀ ns ms : List Int, HT.lexLt ns ms = lexLt ns ms
  | [], [] => rfl
  | [], _ :: _ => rfl
  | _ :: _, [] => rfl
  | x :: xs, y :: ys => by rw [HT.lexLt_cons, lexLt, lex_eq xs ys]
def rLtAll (X : Cx) : R2 := fun x y H Q => rI0 (fun i j => .bl (decide (i < j))) x y H Q ∨ rLtT X.K x y H Q
theorem o2_lt : Op2 X G (rLtAll X) ltD := by
  intro E M ah H dx dy x y Q q rx ry P
  cases dx with
  | int i =>
    cases dy with
    | int j => exact .inl ⟨i, j, rep_int rx, rep_int ry, P.val q mk_bl⟩
    | _ => exact P.elim
  | tup xs =>
    cases dy with
    | tup ys =>
      unfold ltD at P
      dsimp only at P
      split at P
      · rename_i ns h1
        split at P
        · rename_i ms h2
          obtain ⟨l, vs, e1, f1, g1⟩ := rep_tup rx
          obtain ⟨l2, us, e2, f2, g2⟩ := rep_tup ry
          obtain ⟨_, z1⟩ := g1.ints h1
          obtain ⟨_, z2⟩ := g2.ints h2
          subst z1 z2
          exact .inr ⟨l, l2, ns, ms, e1, e2, f1.sq, f2.sq, by rw [lex_eq]; exact P.val q mk_bl⟩
        · exact P.elim
      · exact P.elim
    | _ => exact P.elim
  | _ => exact P.elim
/-! == of plain data -/
mutual
def pdP : D → PyData
  | .non => .none
  | .bl b => .bool b
  | .int i => .int i
  | .str x => .str (ts x)
  | .tup xs => .tuple (pdPs xs)
  | .lst xs => .list (pdPs xs)
  | _ => .none
def pdPs : List D → List PyData
  | [] => []
  | x :: xs => pdP x :: pdPs xs
end
theorem mapO_cons {α β : Type} {f : α → Option β} {x : α} {xs : List α} {ys : List β} (h : mapO f (x :: xs) = some ys) : ∃ z zs, f x = some z ∧ mapO f xs = some zs ∧ ys = z :: zs := by
  rw [mapO] at h
  split at h
  · rename_i z hz
    obtain ⟨zs, h1, h2⟩ := Option.map_eq_some_iff.mp h
    exact ⟨z, zs, hz, h1, h2.symm⟩
  · cases h
section
variable {T : Tb} {M : Mp} {ah : AH} {H : Hp}
/-- what a datum looks like to == -/
def PdOk (n : Nat) (K : PySem.W.Frag) (H : Hp) (v : V) (d : D) : Prop := Dp K H v (pdP d) ∧ (pdP d).canLay0 = true ∧ (pdP d).depth ≤ n
theorem pds_ok {n : Nat} (ih : ∀ {x : D} {v : V} {d : D}, Rep T M H x v → pd ah n x = some d → PdOk n T.K H v d) : ∀ {xs : List D} {vs : List V} {ds : List D}, Reps T M H xs vs → mapO (pd ah n) xs = some ds →
    DpAll T.K H vs (pdPs ds) ∧ PyData.canLayAll0 (pdPs ds) = true ∧ PyData.depthAll (pdPs ds) ≤ n
  | [], vs, ds, r, h => by
    rw [Reps] at r
    subst r
    cases h
    exact ⟨.nil, rfl, Nat.zero_le _⟩
  | x :: xs, vs, ds, r, h => by
    rw [Reps] at r
    obtain ⟨y, ys, rfl, f, g⟩ := r
    obtain ⟨z, zs, h1, h2, rfl⟩ := mapO_cons h
    obtain ⟨a1, a2, a3⟩ := ih f h1
    obtain ⟨b1, b2, b3⟩ := pds_ok ih g h2
    refine ⟨?_, ?_, ?_⟩
    · rw [pdPs]; exact .cons a1 b1
    · rw [pdPs, PyData.canLayAll0, a2, b2]; rfl
    · rw [pdPs, PyData.depthAll]; exact Nat.max_le.mpr ⟨a3, b3⟩
theorem pd0_ok (n : Nat) {x : D} {v : V} {d : D} (r : Rep T M H x v) (h : pd0 x = some d) : PdOk n T.K H v d := by
  cases x with
  | non => cases h; rw [Rep] at r; subst r; exact ⟨by rw [pdP]; exact .non, by rw [pdP]; rfl, by rw [pdP]; exact Nat.zero_le _⟩
  | bl b => cases h; rw [Rep] at r; subst r; exact ⟨by rw [pdP]; exact .bl b, by rw [pdP]; rfl, by rw [pdP]; exact Nat.zero_le _⟩
  | int b => cases h; rw [Rep] at r; subst r; exact ⟨by rw [pdP]; exact .int b, by rw [pdP]; rfl, by rw [pdP]; exact Nat.zero_le _⟩
  | str b =>
    rw [Rep] at r; subst r
    have h' : (if b.all (fun c => decide (c < 1114112)) then some (D.str b) else none) = some d := h
    split at h'
    · rename_i hs
      cases h'
      refine ⟨by rw [pdP]; exact .str _, ?_, by rw [pdP]; exact Nat.zero_le _⟩
      rw [pdP, PyData.canLay0]
      unfold PyData.strOk ts
      simpa using hs
    · cases h'
  | _ => cases h
theorem pd_ok (q : RelH T M ah H) : ∀ (n : Nat) {x : D} {v : V} {d : D}, Rep T M H x v → pd ah n x = some d → PdOk n T.K H v d := by
  intro n
  induction n with
  | zero => exact fun r h => pd0_ok 0 r h
  | succ n ih =>
    intro x v d r h
    have lists : ∀ {xs : List D} {ds : List D}, mapO (pd ah n) xs = some ds → (∀ {a vs}, H a = some (.lst vs) → Reps T M H xs vs → PdOk (n + 1) T.K H (.ref a) (.lst ds)) := fun {xs ds} h2 {a vs} e g => by
      obtain ⟨b1, b2, b3⟩ := pds_ok ih g h2
      refine ⟨by rw [pdP]; exact .lst (SqL.of e) b1, by rw [pdP, PyData.canLay0]; exact b2, ?_⟩
      rw [pdP, PyData.depth]
      exact Nat.succ_le_succ b3
    cases x with
    | tup xs =>
      obtain ⟨ds, h1, h2⟩ := Option.map_eq_some_iff.mp h
      subst h2
      obtain ⟨a, vs, rfl, f, g⟩ := rep_tup r
      obtain ⟨b1, b2, b3⟩ := pds_ok ih g h1
      refine ⟨by rw [pdP]; exact .tup f.sq b1, by rw [pdP, PyData.canLay0]; exact b2, ?_⟩
      rw [pdP, PyData.depth]
      exact Nat.succ_le_succ b3
    | lst xs =>
      obtain ⟨ds, h1, h2⟩ := Option.map_eq_some_iff.mp h
      subst h2
      obtain ⟨a, vs, rfl, f, g⟩ := rep_lst q r rfl
      exact lists h1 f g
    | loc l =>
      have h' : (match ah[l]? with
        | some (.lst xs) => (mapO (pd ah n) xs).map D.lst
        | _ => none) = some d := h
      split at h'
      · rename_i xs hl
        obtain ⟨ds, h1, h2⟩ := Option.map_eq_some_iff.mp h'
        subst h2
        obtain ⟨a, vs, rfl, f, g⟩ := rep_lst (x := .loc l) (ds := xs) q r (by rw [lstH, hl])
        exact lists h1 f g
      · cases h'
    | _ => exact pd0_ok _ r h
/-- what pd hands out: nothing but data -/
inductive Pl : D → Prop where
  | non : Pl .non
  | bl b : Pl (.bl b)
  | int i : Pl (.int i)
  | str x : Pl (.str x)
  | tup {xs : List D} (h : ∀ x ∈ xs, Pl x) : Pl (.tup xs)
  | lst {xs : List D} (h : ∀ x ∈ xs, Pl x) : Pl (.lst xs)
theorem pl_mapO {n : Nat} (ih : ∀ {x d : D}, pd ah n x = some d → Pl d) : ∀ {xs ds : List D}, mapO (pd ah n) xs = some ds → ∀ d ∈ ds, Pl d
  | [], ds, h, d, hd => by cases h; simp at hd
  | x :: xs, ds, h, d, hd => by
    obtain ⟨z, zs, h1, h2, rfl⟩ := mapO_cons h
    rcases List.mem_cons.mp hd with rfl | hd
    · exact ih h1
    · exact pl_mapO ih h2 d hd
theorem pl_pd0 {x d : D} (h : pd0 x = some d) : Pl d := by
  cases x with
  | non => cases h; exact .non
  | bl b => cases h; exact .bl b
  | int b => cases h; exact .int b
  | str b =>
    have h' : (if b.all (fun c => decide (c < 1114112)) then some (D.str b) else none) = some d := h
    split at h'
    · cases h'; exact .str b
    · cases h'
  | _ => cases h
theorem pl_pd : ∀ (n : Nat) {x d : D}, pd ah n x = some d → Pl d := by
  intro n
  induction n with
  | zero => exact fun h => pl_pd0 h
  | succ n ih =>
    intro x d h
    cases x with
    | tup xs =>
      obtain ⟨ds, h1, h2⟩ := Option.map_eq_some_iff.mp h
      subst h2
      exact .tup (pl_mapO ih h1)
    | lst xs =>
      obtain ⟨ds, h1, h2⟩ := Option.map_eq_some_iff.mp h
      subst h2
      exact .lst (pl_mapO ih h1)
    | loc l =>
      have h' : (match ah[l]? with
        | some (.lst xs) => (mapO (pd ah n) xs).map D.lst
        | _ => none) = some d := h
      split at h'
      · obtain ⟨ds, h1, h2⟩ := Option.map_eq_some_iff.mp h'
        subst h2
        exact .lst (pl_mapO ih h1)
      · cases h'
    | non => exact pl_pd0 (x := .non) h
    | bl b => exact pl_pd0 (x := .bl b) h
    | int b => exact pl_pd0 (x := .int b) h
    | str b => exact pl_pd0 (x := .str b) h
    | scr b => cases h
    | dic _ _ => cases h
    | ins _ _ _ => cases h
    | ty _ => cases h
end
mutual
theorem ev_eq : ∀ x y : D, Pl x → Pl y → ev x y = PyData.eqv (pdP x) (pdP y)
  | .non, y, hx, hy => by cases hy <;> simp [ev, pdP, PyData.eqv]
  | .bl b, y, hx, hy => by cases hy <;> simp [ev, pdP, PyData.eqv]
  | .int b, y, hx, hy => by cases hy <;> simp [ev, pdP, PyData.eqv]
  | .str b, y, hx, hy => by
    cases hy with
    | str z =>
      rw [ev, pdP, pdP, PyData.eqv, Bool.eq_iff_iff]
      simp only [beq_iff_eq]
      exact ⟨fun h => by rw [h], ts_inj⟩
    | _ => simp [ev, pdP, PyData.eqv]
  | .tup xs, y, hx, hy => by
    cases hy with
    | @tup ys h =>
      rw [ev, pdP, pdP, PyData.eqv]
      cases hx with
      | tup h2 => exact evs_eq xs ys h2 h
    | _ => simp [ev, pdP, PyData.eqv]
  | .lst xs, y, hx, hy => by
    cases hy with
    | @lst ys h =>
      rw [ev, pdP, pdP, PyData.eqv]
      cases hx with
      | lst h2 => exact evs_eq xs ys h2 h
    | _ => simp [ev, pdP, PyData.eqv]
  | .scr _, _, hx, _ => nomatch hx
  | .dic _ _, _, hx, _ => nomatch hx
  | .ins _ _ _, _, hx, _ => nomatch hx
  | .loc _, _, hx, _ => nomatch hx
  | .ty _, _, hx, _ => nomatch hx
theorem evs_eq : ∀ xs ys : List D, (∀ x ∈ xs, Pl x) → (∀ y ∈ ys, Pl y) → evs xs ys = PyData.eqvAll (pdPs xs) (pdPs ys)
  | [], [], _, _ => by rw [evs, pdPs, PyData.eqvAll]
  | [], y :: ys, _, _ => by rw [evs, pdPs, pdPs, PyData.eqvAll] <;> simp
  | x :: xs, [], _, _ => by rw [evs, pdPs, pdPs, PyData.eqvAll] <;> simp
  | x :: xs, y :: ys, h1, h2 => by
    rw [evs, pdPs, pdPs, PyData.eqvAll, ev_eq x y (h1 x (by simp)) (h2 y (by simp)), evs_eq xs ys (fun z hz => h1 z (by simp [hz])) (fun z hz => h2 z (by simp [hz]))]
end
end
end Sm
end

section
set_option Elab.async false
set_option linter.all false
set_option maxRecDepth 100000
set_option maxHeartbeats 1000000
namespace Sm
open PySem PySem.Spec PyProof.Rows L2
section
variable {X : Cx} {G : Gh} {W : WX} {ea eb ec : Expr} {a b c : AE} {pos : Pos}
/-! ### ==, is None, in -/
def rEqAll (X : Cx) : R2 := fun x y H Q => rEq x y H Q ∨ rEqD X.K x y H Q
def rNeAll (X : Cx) : R2 := fun x y H Q => rNe x y H Q ∨ rNeD X.K x y H Q
theorem eqH_ok {M : Mp} {ah : AH} {H : Hp} {dx dy : D} {x y : V} {k : Bool} (q : RelH (tb X G) M ah H) (rx : Rep (tb X G) M H dx x) (ry : Rep (tb X G) M H dy y) (h : eqH ah dx dy = some k) :
    (L2.scal x y = true ∧ decide (x = y) = k) ∨ ∃ d e, Dp X.K H x d ∧ Dp X.K H y e ∧ SeqAt.shaped d = true ∧ SeqAt.shaped e = true ∧ PyData.eqv d e = k := by
  unfold eqH at h
  split at h
  · rename_i hs
    left
    have hk := Option.some.inj h
    cases dx <;> cases dy <;> first
      | (exact absurd hs Bool.false_ne_true)
      | (simp only [Rep] at rx ry; subst rx ry; refine ⟨rfl, ?_⟩; rw [← hk]; first | rfl | exact ts_dec _ _ | simp)
  · split at h
    · rename_i a1 h1
      split at h
      · rename_i b1 h2
        right
        obtain ⟨p1, p2, p3⟩ := pd_ok q 64 rx h1
        obtain ⟨p4, p5, p6⟩ := pd_ok q 64 ry h2
        refine ⟨_, _, p1, p4, ?_, ?_, ?_⟩
        · unfold SeqAt.shaped; rw [p2, decide_eq_true p3]; rfl
        · unfold SeqAt.shaped; rw [p5, decide_eq_true p6]; rfl
        · rw [← ev_eq _ _ (pl_pd 64 h1) (pl_pd 64 h2)]; exact Option.some.inj h
      · cases h
    · cases h
theorem o2_eq : Op2 X G (rEqAll X) eqD := by
  intro E M ah H dx dy x y Q q rx ry P
  obtain ⟨k, h, P⟩ := (Post.bind P).of
  have P := P.here q
  rcases eqH_ok q rx ry h with ⟨h1, h2⟩ | ⟨d, e, h1, h2, h3, h4, h5⟩
  · exact .inl ⟨h1, by rw [h2]; exact P.val q mk_bl⟩
  · exact .inr ⟨d, e, h1, h2, h3, h4, by rw [h5]; exact P.val q mk_bl⟩
theorem o2_ne : Op2 X G (rNeAll X) neD := by
  intro E M ah H dx dy x y Q q rx ry P
  obtain ⟨k, h, P⟩ := (Post.bind P).of
  have P := P.here q
  rcases eqH_ok q rx ry h with ⟨h1, h2⟩ | ⟨d, e, h1, h2, h3, h4, h5⟩
  · exact .inl ⟨h1, by rw [h2]; exact P.val q mk_bl⟩
  · exact .inr ⟨d, e, h1, h2, h3, h4, by rw [h5]; exact P.val q mk_bl⟩
theorem rep_non_iff {T : Tb} {M : Mp} {H : Hp} {d : D} {v : V} (r : Rep T M H d v) : decide (v = .non) = decide (d = .non) := by
  cases d with
  | non => rw [Rep] at r; subst r; rfl
  | bl _ => rw [Rep] at r; subst r; rfl
  | int _ => rw [Rep] at r; subst r; rfl
  | str _ => rw [Rep] at r; subst r; rfl
  | ty _ => rw [Rep] at r; subst r; rfl
  | tup _ => rw [Rep] at r; obtain ⟨a, vs, rfl, _⟩ := r; rfl
  | lst _ => rw [Rep] at r; obtain ⟨a, vs, rfl, _⟩ := r; rfl
  | scr _ => rw [Rep] at r; obtain ⟨a, vs, rfl, _⟩ := r; rfl
  | dic _ _ => rw [Rep] at r; obtain ⟨a, vs, rfl, _⟩ := r; rfl
  | ins _ _ _ => rw [Rep] at r; obtain ⟨a, C, dx, vs, rfl, _⟩ := r; rfl
  | loc _ => rw [Rep] at r; obtain ⟨a, rfl, _⟩ := r; rfl
/-! in: flat items -/
theorem flat_rep {T : Tb} {M : Mp} {H : Hp} {d : D} {v : V} (r : Rep T M H d v) (f : flat d = true) : flatV v = true := by
  cases d <;> first
    | (exact absurd f Bool.false_ne_true)
    | (simp only [Rep] at r; subst r; rfl)
theorem ev_flat {T : Tb} {M : Mp} {H : Hp} {d e : D} {v u : V} (r : Rep T M H d v) (s : Rep T M H e u) (f : flat d = true) (g : flat e = true) : eqV v u = ev d e := by
  cases d <;> cases e <;> first
    | (exact absurd f Bool.false_ne_true)
    | (exact absurd g Bool.false_ne_true)
    | (simp only [Rep] at r s; subst r s; first | (simp [eqV, ev]; done) | (rw [ev]; show (ts _ == ts _) = _; rw [Bool.eq_iff_iff]; simp only [beq_iff_eq]; exact ⟨ts_inj, fun h => by rw [h]⟩))
theorem flats_rep {T : Tb} {M : Mp} {H : Hp} : ∀ {ds : List D} {vs : List V}, Reps T M H ds vs → ds.all flat = true → vs.all flatV = true
  | [], vs, r, _ => by rw [Reps] at r; subst r; rfl
  | d :: ds, vs, r, f => by
    rw [Reps] at r
    obtain ⟨y, ys, rfl, g, k⟩ := r
    rw [List.all_cons, Bool.and_eq_true] at f ⊢
    exact ⟨flat_rep g f.1, flats_rep k f.2⟩
theorem inV_rep {T : Tb} {M : Mp} {H : Hp} {d : D} {v : V} (r : Rep T M H d v) (f : flat d = true) : ∀ {ds : List D} {vs : List V}, Reps T M H ds vs → ds.all flat = true → inV v vs = inL d ds
  | [], vs, r, _ => by rw [Reps] at r; subst r; rfl
  | e :: ds, vs, h, g => by
    rw [Reps] at h
    obtain ⟨y, ys, rfl, g1, k⟩ := h
    rw [List.all_cons, Bool.and_eq_true] at g
    show (eqV y v || inV v ys) = (ev e d || inL d ds)
    rw [ev_flat g1 r g.1 f, inV_rep r f k g.2]
theorem inH_ok {M : Mp} {ah : AH} {H : Hp} {dx dy : D} {x y : V} {k : Bool} (q : RelH (tb X G) M ah H) (rx : Rep (tb X G) M H dx x) (ry : Rep (tb X G) M H dy y) (h : inH ah dx dy = some k) :
    ∃ p xs, y = .ref p ∧ (SqL X.K H p xs ∨ SqT X.K H p xs) ∧ flatV x = true ∧ xs.all flatV = true ∧ inV x xs = k := by
  unfold inH at h
  split at h
  · rename_i ys hy
    split at h
    · rename_i hf
      rw [Bool.and_eq_true] at hf
      obtain ⟨a, vs, e, f, g⟩ := rep_seq q ry hy
      exact ⟨a, vs, e, f, flat_rep rx hf.1, flats_rep g hf.2, by rw [inV_rep rx hf.1 g hf.2]; exact Option.some.inj h⟩
    · cases h
  · cases h
theorem o2_in : Op2 X G (rIn X.K false) inD := by
  intro E M ah H dx dy x y Q q rx ry P
  obtain ⟨k, h, P⟩ := (Post.bind P).of
  have P := P.here q
  obtain ⟨p, xs, h1, h2, h3, h4, h5⟩ := inH_ok q rx ry h
  exact ⟨p, xs, h1, h2, h3, h4, by rw [if_neg (by decide), h5]; exact P.val q mk_bl⟩
/-! ### chains, and, or, not, if -/
theorem s_chain {op op' : CmpOp} {r r' : R2} {f g : D → D → AH → R D} (ho : OpR X (compareOp op) r) (hf : Op2 X G r f) (ho' : OpR X (compareOp op') r') (hg : Op2 X G r' g) (ha : SE X G W ea a) (hb : SE X G W eb b) (hc : SE X G W ec c)
    (h1 : lastMarks [op, op'] [eb, ec] = false := by with_unfolding_all rfl) : SE X G W (.Compare ea [op, op'] [eb, ec] pos) (eChain f g a b c) :=
  PE.imp (pe_chain ho ho' ha hb hc h1) fun σ H Q h => by
    obtain ⟨M, e, ah, S, P⟩ := h
    refine ⟨M, e, ah, S, P.bindI fun dx M1 ah1 H1 s1 q1 P1 v hv => ?_⟩
    refine ⟨M1, e, ah1, S.step s1 q1, P1.bindI fun dy M2 ah2 H2 s2 q2 P2 w hw => ?_⟩
    refine hf _ _ _ _ _ _ _ _ _ q2 (hv.step s2) hw (P2.bindI fun dz M3 ah3 H3 s3 q3 P3 z hz => ?_)
    cases dz with
    | bl k =>
      rw [Rep] at hz; subst hz
      refine ⟨k, rfl, ?_⟩
      cases k with
      | true =>
        rw [if_pos rfl]
        have s13 := (s1.trans s2).trans s3
        refine ⟨M3, e, ah3, S.step s13 q3, Post.bindI P3 fun dc M4 ah4 H4 s4 q4 P4 u hu => ?_⟩
        exact hg _ _ _ _ _ _ _ _ _ q4 ((hw.step s3).step s4) hu P4
      | false =>
        rw [if_neg Bool.false_ne_true]
        exact Post.val P3 q3 mk_bl
    | _ => exact P3.elim
theorem s_and {rest : List Expr} (ha : SE X G W ea a) (hb : SE X G W (.BoolOp .And (eb :: rest) pos) b) : SE X G W (.BoolOp .And (ea :: eb :: rest) pos) (eAnd a b) :=
  PE.imp (pe_and ha hb) fun σ H Q h => by
    obtain ⟨M, e, ah, S, P⟩ := h
    refine ⟨M, e, ah, S, P.bindI fun dx M1 ah1 H1 s1 q1 P1 v hv => ?_⟩
    cases dx with
    | bl k =>
      rw [Rep] at hv; subst hv
      refine ⟨k, rfl, ?_⟩
      cases k with
      | true => rw [if_pos rfl]; exact ⟨M1, e, ah1, S.step s1 q1, P1⟩
      | false => rw [if_neg Bool.false_ne_true]; exact Post.val P1 q1 mk_bl
    | _ => exact P1.elim
theorem s_one {op} (ha : SE X G W ea a) : SE X G W (.BoolOp op [ea] pos) a := pe_one ha
theorem s_not (ha : SE X G W ea a) : SE X G W (.UnaryOp .Not ea pos) (e1 notD a) :=
  PE.imp (pe_not ha) fun σ H Q h => by
    obtain ⟨M, e, ah, S, P⟩ := h
    refine ⟨M, e, ah, S, P.bindI fun dx M1 ah1 H1 s1 q1 P1 v hv => ?_⟩
    cases dx with
    | bl k => rw [Rep] at hv; subst hv; exact ⟨k, rfl, Post.val P1 q1 mk_bl⟩
    | _ => exact P1.elim
/-! ### tests -/
theorem truth_ok {M : Mp} {ah : AH} {H : Hp} {d : D} {v : V} {k : Bool} (q : RelH (tb X G) M ah H) (r : Rep (tb X G) M H d v) (h : truth ah d = some k) : TruV X.K v H k := by
  cases d with
  | non => rw [Rep] at r; subst r; exact (Option.some.inj h).symm
  | bl b => rw [Rep] at r; subst r; exact (Option.some.inj h).symm
  | int i => rw [Rep] at r; subst r; exact (Option.some.inj h).symm
  | str x =>
    rw [Rep] at r; subst r
    have h' : (if x.length ≤ big then some (!x.isEmpty) else none) = some k := h
    split at h'
    · rename_i hz
      refine ⟨by rw [ts_len, ← big_eq]; exact hz, ?_⟩
      rw [← Option.some.inj h', ts_len]
      cases x with
      | nil => rfl
      | cons c r =>
        show true = _
        symm
        rw [bne_iff_ne]
        simp only [List.length_cons]
        omega
    · cases h'
  | tup xs =>
    obtain ⟨p, vs, e, f, g⟩ := rep_tup r
    subst e
    refine .inr (.inl ⟨vs, f.sq, ?_⟩)
    rw [← Option.some.inj h]
    have := g.length
    cases xs <;> cases vs <;> simp_all
  | lst xs =>
    obtain ⟨p, vs, e, f, g⟩ := rep_lst (x := .lst xs) q r rfl
    subst e
    refine .inl ⟨vs, SqL.of f, ?_⟩
    rw [← Option.some.inj h]
    have := g.length
    cases xs <;> cases vs <;> simp_all
  | loc l =>
    have h' : (match ah[l]? with
      | some (.lst xs) => some (!xs.isEmpty)
      | some (.dic ks _) => some (!ks.isEmpty)
      | _ => none) = some k := h
    split at h'
    · rename_i xs hl
      obtain ⟨p, vs, e, f, g⟩ := rep_lst (x := .loc l) (ds := xs) q r (by rw [lstH, hl])
      subst e
      refine .inl ⟨vs, SqL.of f, ?_⟩
      rw [← Option.some.inj h']
      have := g.length
      cases xs <;> cases vs <;> simp_all
    · rename_i ks ds hl
      rw [Rep] at r
      obtain ⟨a, rfl, ha⟩ := r
      obtain ⟨vs, f, z, g⟩ := q.obj l a _ ha hl
      refine .inr (.inr ⟨_, f, ?_⟩)
      rw [← Option.some.inj h']
      have := g.length
      cases ks <;> cases vs <;> simp_all
    · cases h'
  | _ => cases h
theorem t_val (ha : SE X G W ea a) (he : ∀ whole, isTrue ea X.env whole = (do let v ← whole; standAt ea.pos; holding [v] (truthy v)) := by intro _; rfl) : SB X G W ea (tV a) :=
  PT.imp (pt_truth ha he) fun σ H Q h => by
    obtain ⟨M, e, ah, S, P⟩ := h
    refine ⟨M, e, ah, S, P.bindI fun dx M1 ah1 H1 s1 q1 P1 v hv => ?_⟩
    obtain ⟨k, hk, P1⟩ := P1.of
    exact ⟨k, truth_ok q1 hv hk, P1.here q1⟩
theorem bl_of {M : Mp} {ah : AH} {H : Hp} {E : XK} {Q : Bool → Hp → Prop} {d : D} {v : V} (q : RelH (tb X G) M ah H) (r : Rep (tb X G) M H d v) (P : Post (tb X G) E M H (fun b _ _ H' => Q b H') (R.of (tB d) ah)) : ∃ k, v = .bl k ∧ Q k H := by
  obtain ⟨k, hk, P⟩ := P.of
  cases d with
  | bl b =>
    rw [Rep] at r; subst r
    have e : b = k := Option.some.inj hk
    subst e
    exact ⟨b, rfl, P.here q⟩
  | _ => cases hk
/-- a comparison as a test -/
theorem t_cmp {op : CmpOp} {r : R2} {f : D → D → AH → R D} (ho : OpR X (compareOp op) r) (hf : Op2 X G r f) (ha : SE X G W ea a) (hb : SE X G W eb b) (hm : behindInMarks op eb = false) : SB X G W (.Compare ea [op] [eb] pos) (tB1 (e2 f a b)) :=
  PT.imp (pt_cmpR ho ha hb hm) fun σ H Q h => by
    obtain ⟨M, e, ah, S, P⟩ := h
    have P := (Post.bind P)
    exact op2_read hf ⟨M, e, ah, S, P.imp fun d M1 ah1 H1 s1 q1 P1 v hv => bl_of q1 hv P1⟩
theorem t_notN {j p2} (ha : SE X G W ea a) : SB X G W (.Compare ea [.IsNot] [.Constant .none j p2] pos) (tB1 (e1 notNonD a)) :=
  PT.imp (pt_cmpR op_notN ha pe_non (nomark _)) fun σ H Q h => by
    obtain ⟨M, e, ah, S, P⟩ := h
    refine ⟨M, e, ah, S, Post.bindI (Post.bind P) fun dx M1 ah1 H1 s1 q1 P1 v hv => ⟨rfl, ?_⟩⟩
    rw [rep_non_iff hv]
    exact ⟨_, rfl, (Post.here P1 q1).here q1⟩
theorem t_chain {op op' : CmpOp} {r r' : R2} {f g : D → D → AH → R D} (ho : OpR X (compareOp op) r) (hf : Op2 X G r f) (ho' : OpR X (compareOp op') r') (hg : Op2 X G r' g) (ha : SE X G W ea a) (hb : SE X G W eb b) (hc : SE X G W ec c)
    (h1 : lastMarks [op, op'] [eb, ec] = false := by with_unfolding_all rfl) : SB X G W (.Compare ea [op, op'] [eb, ec] pos) (tB1 (eChain f g a b c)) :=
  PT.imp (pt_chain ho ho' ha hb hc h1) fun σ H Q h => by
    obtain ⟨M, e, ah, S, P⟩ := h
    refine ⟨M, e, ah, S, Post.bindI (Post.bind P) fun dx M1 ah1 H1 s1 q1 P1 v hv => ?_⟩
    refine ⟨M1, e, ah1, S.step s1 q1, Post.bindI P1 fun dy M2 ah2 H2 s2 q2 P2 w hw => ?_⟩
    refine hf _ _ _ _ _ _ _ _ _ q2 (hv.step s2) hw (Post.bindI P2 fun dz M3 ah3 H3 s3 q3 P3 z hz => ?_)
    cases dz with
    | bl k =>
      rw [Rep] at hz; subst hz
      refine ⟨k, rfl, ?_⟩
      cases k with
      | true =>
        rw [if_pos rfl]
        have s13 := (s1.trans s2).trans s3
        refine ⟨M3, e, ah3, S.step s13 q3, Post.bindI P3 fun dc M4 ah4 H4 s4 q4 P4 u hu => ?_⟩
        exact hg _ _ _ _ _ _ _ _ _ q4 ((hw.step s3).step s4) hu (P4.imp fun d M5 ah5 H5 s5 q5 P5 v5 hv5 => bl_of q5 hv5 P5)
      | false =>
        rw [if_neg Bool.false_ne_true]
        exact ⟨false, rfl, (Post.here P3 q3).here q3⟩
    | _ => exact P3.elim
theorem t_not {t : AB} (ht : SB X G W ea t) : SB X G W (.UnaryOp .Not ea pos) (tNot t) :=
  PT.imp (pt_not ht) fun σ H Q h => by
    obtain ⟨M, e, ah, S, P⟩ := h
    exact ⟨M, e, ah, S, P.bindI fun k M1 ah1 H1 s1 q1 P1 => P1.here q1⟩
/-- and, or: whatever the whole is -/
abbrev SW (X : Cx) (G : Gh) (W : WX) (e : Expr) (t : AB) : Prop := PW X e (tT W (tb X G) t)
theorem PW.imp {e : Expr} {t t' : TT} (h : PW X e t) (f : ∀ σ H Q, t' σ H Q → t σ H Q) : PW X e t' := ⟨fun wh pins s σ H Q I q => h.run wh pins s σ H Q I (f σ H Q q)⟩
theorem w_and1 {t : AB} (h : SB X G W ea t) : SW X G W (.BoolOp .And [ea] pos) t := pw_and1 h
theorem w_or1 {t : AB} (h : SB X G W ea t) : SW X G W (.BoolOp .Or [ea] pos) t := pw_or1 h
theorem w_and {t u : AB} {rest : List Expr} (h : SB X G W ea t) (g : SW X G W (.BoolOp .And (eb :: rest) pos) u) : SW X G W (.BoolOp .And (ea :: eb :: rest) pos) (tAnd t u) :=
  PW.imp (pw_and h g) fun σ H Q h => by
    obtain ⟨M, e, ah, S, P⟩ := h
    refine ⟨M, e, ah, S, P.bindI fun k M1 ah1 H1 s1 q1 P1 => ?_⟩
    cases k with
    | true => rw [if_pos rfl]; exact ⟨M1, e, ah1, S.step s1 q1, P1⟩
    | false => rw [if_neg Bool.false_ne_true]; exact Post.here P1 q1
theorem w_or {t u : AB} {rest : List Expr} (h : SB X G W ea t) (g : SW X G W (.BoolOp .Or (eb :: rest) pos) u) : SW X G W (.BoolOp .Or (ea :: eb :: rest) pos) (tOr t u) :=
  PW.imp (pw_or h g) fun σ H Q h => by
    obtain ⟨M, e, ah, S, P⟩ := h
    refine ⟨M, e, ah, S, P.bindI fun k M1 ah1 H1 s1 q1 P1 => ?_⟩
    cases k with
    | false => rw [if_neg Bool.false_ne_true]; exact ⟨M1, e, ah1, S.step s1 q1, P1⟩
    | true => rw [if_pos rfl]; exact Post.here P1 q1
theorem t_of {t : AB} (h : SW X G W ea t) : SB X G W ea t := h.pt
end
end Sm
end

section
set_option Elab.async false
set_option linter.all false
set_option maxRecDepth 100000
set_option maxHeartbeats 1000000
namespace Sm
open PySem PySem.Spec PyProof.Rows L2
section
variable {X : Cx} {G : Gh} {W : WX} {ea eb ec : Expr} {a b c : AE} {pos : Pos}
/-! ### items, slices -/
theorem ixN_eq (n : Nat) (i : Int) : L2.ixN n i = Sm.ixN n i := rfl
theorem at_rep {T : Tb} {M : Mp} {H : Hp} {ds : List D} {vs : List V} {i : Int} {d : D} (r : Reps T M H ds vs) (h : at? ds i = some d) : ∃ v, atI vs i = some v ∧ Rep T M H d v := by
  unfold at? at h
  cases e : Sm.ixN ds.length i with
  | none => rw [e] at h; cases h
  | some j =>
    rw [e] at h
    obtain ⟨v, h1, h2⟩ := r.get h
    refine ⟨v, ?_, h2⟩
    unfold atI
    rw [← r.length, ixN_eq, e]
    exact h1
theorem at_str {s : List Nat} {i : Int} {c : Nat} (h : at? s i = some c) : atI (ts s).cps.toList i = some c := by
  unfold at? at h
  unfold atI
  have : (ts s).cps.toList = s := by simp [ts]
  rw [this, ixN_eq]
  exact h
theorem o2_ix : Op2 X G (rIx X.K) ixD := by
  intro E M ah H dx dy x y Q q rx ry P
  cases dy with
  | int i =>
    have seqs : ∀ {dx}, Rep (tb X G) M H dx x → Post (tb X G) E M H (fun d M' _ H' => ∀ v, Rep (tb X G) M' H' d v → Q v H') (match seqH ah dx with
      | some xs => R.of (at? xs i) ah
      | none => .no) → rIx X.K x y H Q := fun {dx} rx P => by
      split at P
      · rename_i xs hx
        obtain ⟨d, hd, P⟩ := P.of
        obtain ⟨p, vs, e1, f1, g1⟩ := rep_seq q rx hx
        obtain ⟨v, h1, h2⟩ := at_rep g1 hd
        rcases f1 with f1 | f1
        · exact .inl ⟨p, vs, i, v, e1, rep_int ry, f1, h1, P.val q h2⟩
        · exact .inr (.inl ⟨p, vs, i, v, e1, rep_int ry, f1, h1, P.val q h2⟩)
      · exact P.elim
    cases dx with
    | str s =>
      obtain ⟨hz, P⟩ := Post.chk P
      obtain ⟨c, hc, P⟩ := (Post.bind P).of
      have P := P.here q
      refine .inr (.inr ⟨ts s, i, c, rep_str rx, rep_int ry, ?_, at_str hc, P.val q ?_⟩)
      · rw [ts_len, ← big_eq]; exact of_decide_eq_true hz
      · exact mk_str
    | _ => exact seqs rx P
  | _ => exact P.elim
theorem s_ix (ha : SE X G W ea a) (hb : SE X G W eb b) (hs : PlainIx eb) : SE X G W (.Subscript ea eb pos) (e2 ixD a b) :=
  PE.imp (pe_ix ix_seq ha hb hs) fun σ H Q h => op2_read o2_ix h
/-- a slice's bound -/
def tO1 (W : WX) (T : Tb) (o : AO1) : TO := fun σ H Q => ∃ M e ah, Sta T M e ah σ H ∧ Post T (WE W σ) M H (fun d _ _ H' => Q d H') (o e ah)
abbrev SO (X : Cx) (G : Gh) (W : WX) (e : Option Expr) (o : AO1) : Prop := PO X e (tO1 W (tb X G) o)
theorem PO.imp {e : Option Expr} {t t' : TO} (h : PO X e t) (f : ∀ σ H Q, t' σ H Q → t σ H Q) : PO X e t' := ⟨fun pins s σ H Q I q => h.run pins s σ H Q I (f σ H Q q)⟩
theorem o_none : SO X G W none oN := PO.imp po_none fun σ H Q h => by
  obtain ⟨M, e, ah, S, P⟩ := h
  exact Post.here P S.h
theorem o_some (ha : SE X G W ea a) : SO X G W (some ea) (oS a) := PO.imp (po_some ha) fun σ H Q h => by
  obtain ⟨M, e, ah, S, P⟩ := h
  refine ⟨M, e, ah, S, Post.bindI P fun dx M1 ah1 H1 s1 q1 P1 v hv => ?_⟩
  cases dx with
  | int i => exact ⟨i, rep_int hv, Post.here P1 q1⟩
  | _ => exact P1.elim
theorem sIx_eq (n d : Nat) (o : Option Int) : HT.sIx n d o = Sm.sIx n d o := by
  cases o <;> rfl
theorem cut_rep {T : Tb} {M : Mp} {H : Hp} {ds : List D} {vs : List V} {lo hi : Option Int} (r : Reps T M H ds vs) : Reps T M H (cut ds lo hi) (cutV vs lo hi) := by
  unfold cut cutV
  rw [← r.length, sIx_eq, sIx_eq]
  exact (r.drop _).take _
def rSlAll (X : Cx) : V → Option Int → Option Int → Hp → VK → Prop := fun x lo hi H Q => (rSlL X.K x lo hi H Q ∨ rSlA X.K x lo hi H Q) ∨ rSlS x lo hi H Q
theorem s_sl {fz : Bool} {lo hi : Option Expr} {l u : AO1} {p2 : Pos} (ha : SE X G W ea a) (hl : SO X G W lo l) (hu : SO X G W hi u) : SE X G W (.Subscript ea (.Slice lo hi none p2) pos) (eSl fz a l u) :=
  PE.imp (pe_slice ((sl_list.or sl_tupA).or sl_str) ha hl hu) fun σ H Q h => by
    obtain ⟨M, e, ah, S, P⟩ := h
    refine ⟨M, e, ah, S, P.bindI fun dx M1 ah1 H1 s1 q1 P1 v hv => ?_⟩
    refine ⟨M1, e, ah1, S.step s1 q1, P1.bindI fun i M2 ah2 H2 s2 q2 P2 => ?_⟩
    refine ⟨M2, e, ah2, (S.step s1 q1).step s2 q2, P2.bindI fun j M3 ah3 H3 s3 q3 P3 => ?_⟩
    have rx := (hv.step s2).step s3
    have lists : ∀ {dx}, Rep (tb X G) M3 H3 dx v → Post (tb X G) (WE W σ) M3 H3 (fun d M' _ H' => ∀ v, Rep (tb X G) M' H' d v → Q v H') (match lstH ah3 dx with
      | some xs => mkL fz (cut xs i j) ah3
      | none => .no) → rSlL X.K v i j H3 Q := fun {dx} rx P => by
      split at P
      · rename_i xs hx
        obtain ⟨p, vs, e1, f1, g1⟩ := rep_lst q3 rx hx
        exact ⟨p, vs, e1, SqL.of f1, P.mkL q3 (cut_rep g1)⟩
      · exact P.elim
    cases dx with
    | str s =>
      obtain ⟨hz, P3⟩ := Post.chk P3
      refine .inr ⟨ts s, rep_str rx, ?_, ?_⟩
      · rw [ts_len, ← big_eq]; exact of_decide_eq_true hz
      · have := P3.val q3 mk_str
        have ec : cutS (ts s) i j = ts (cut s i j) := by
          unfold cutS cut
          simp only [ts_len, sIx_eq]
          simp [ts]
        rw [ec]; exact this
    | tup xs =>
      obtain ⟨p, vs, e1, f1, g1⟩ := rep_tup rx
      refine .inl (.inr ⟨p, vs, e1, f1.sq, fun hw => ?_, fun _ => Post.tup P3 q3 (cut_rep g1)⟩)
      refine Post.val P3 q3 ?_
      rw [Rep]
      have hc : cut xs i j = xs := by
        unfold cut
        rw [g1.length, ← sIx_eq, ← sIx_eq, hw.1, hw.2, List.drop_zero, Nat.sub_zero, ← g1.length, List.take_length]
      exact ⟨p, vs, rfl, f1, by rw [hc]; exact g1⟩
    | _ => exact .inl (.inl (lists rx P3))
/-! ### built-ins by their name -/
def CallF (X : Cx) (G : Gh) (r : List V → Hp → VK → Prop) (f : List D → AH → R D) : Prop := ∀ (E : XK) M ah H ds xs Q, RelH (tb X G) M ah H → Reps (tb X G) M H ds xs → Post (tb X G) E M H (fun d M' _ H' => ∀ v, Rep (tb X G) M' H' d v → Q v H') (f ds ah) → r xs H Q
theorem callf_read {r : List V → Hp → VK → Prop} {f : List D → AH → R D} {as : AA} (hf : CallF X G r f) {σ : L2.St} {H : Hp} {Q : VK} (h : tE W (tb X G) (eA f as) σ H Q) : tCB r (tA W (tb X G) as) σ H Q := by
  obtain ⟨M, e, ah, S, P⟩ := h
  exact ⟨M, e, ah, S, P.bindI fun ds M1 ah1 H1 s1 q1 P1 vs hv => hf _ _ _ _ _ _ _ q1 hv P1⟩
theorem s_callB {id : String} {r : List V → Hp → VK → Prop} {f : List D → AH → R D} {x : Str} {p : Pos} {e : Expr} {es : List Expr} {as : AA} (hc : CallR X (.builtin id) r) (hf : CallF X G r f) (hg : Gl X x) (hm : X.mg x = none) (hv : bootBuiltins x = some (.builtin id)) (ha : SA X G W (e :: es) as)
    (hn : x ≠ "__name__" := by decide) (hdb : (x == ("__debug__" : Str)) = false := by decide) (he : starEach (e :: es) X.env = (false, eval e X.env) :: starEach es X.env := by rfl) (hpl : (backTo pos (starEach es X.env)).any (·.1) = false := by rfl) :
    SE X G W (.Call (.Name x p) (e :: es) [] pos) (eA f as) := PE.imp (pe_callB hc hg hm hv ha hn hdb he hpl) fun σ H Q h => callf_read hf h
theorem s_callTy {id : String} {r : List V → Hp → VK → Prop} {f : List D → AH → R D} {x : Str} {p : Pos} {e : Expr} {es : List Expr} {as : AA} (hc : CallR X (.type id) r) (hf : CallF X G r f) (hg : Gl X x) (hm : X.mg x = none) (hv : bootBuiltins x = some (.type id)) (ha : SA X G W (e :: es) as)
    (hn : x ≠ "__name__" := by decide) (hdb : (x == ("__debug__" : Str)) = false := by decide) (he : starEach (e :: es) X.env = (false, eval e X.env) :: starEach es X.env := by rfl) (hpl : (backTo pos (starEach es X.env)).any (·.1) = false := by rfl) :
    SE X G W (.Call (.Name x p) (e :: es) [] pos) (eA f as) := PE.imp (pe_callTy hc hg hm hv ha hn hdb he hpl) fun σ H Q h => callf_read hf h
theorem a_nil : SA X G W [] (eL []) := PA.imp pa_nil fun σ H Q h => by
  obtain ⟨M, e, ah, S, P⟩ := h
  exact Post.here P S.h [] Reps.nil
theorem a_cons {es : List Expr} {as : List AE} (ha : SE X G W ea a) (hr : SA X G W es (eL as)) (hs : starEach (ea :: es) X.env = (false, eval ea X.env) :: starEach es X.env := by rfl) : SA X G W (ea :: es) (eL (a :: as)) :=
  PA.imp (pa_cons ha hr hs) fun σ H Q h => by
    obtain ⟨M, e, ah, S, P⟩ := h
    refine ⟨M, e, ah, S, Post.bindI P fun dx M1 ah1 H1 s1 q1 P1 v hv => ?_⟩
    exact ⟨M1, e, ah1, S.step s1 q1, Post.bindI P1 fun ds M2 ah2 H2 s2 q2 P2 vs hvs => Post.here P2 q2 _ (Reps.cons (hv.step s2) hvs)⟩
theorem one_rep {T : Tb} {M : Mp} {H : Hp} {d : D} {xs : List V} (h : Reps T M H [d] xs) : ∃ x, xs = [x] ∧ Rep T M H d x := by
  rw [Reps] at h
  obtain ⟨x, r, rfl, f, g⟩ := h
  rw [Reps] at g; subst g
  exact ⟨x, rfl, f⟩
/-- one argument -/
theorem f_one {r : List V → Hp → VK → Prop} {f : D → AH → R D} (h : ∀ (E : XK) M ah H d x Q, RelH (tb X G) M ah H → Rep (tb X G) M H d x → Post (tb X G) E M H (fun d M' _ H' => ∀ v, Rep (tb X G) M' H' d v → Q v H') (f d ah) → r [x] H Q) : CallF X G r (on1 f) := by
  intro E M ah H ds xs Q q rs P
  match ds, rs, P with
  | [d], rs, P =>
    obtain ⟨x, rfl, f⟩ := one_rep rs
    exact h _ _ _ _ _ _ _ q f P
  | [], rs, P => exact P.elim
  | _ :: _ :: _, rs, P => exact P.elim
theorem f_len : CallF X G (fun xs H Q => ∃ x n, xs = [x] ∧ LenV X.K x H n ∧ Q (.int n) H) (on1 lenD) := f_one fun E M ah H d x Q q r P => by
  have seqs : ∀ {d}, Rep (tb X G) M H d x → Post (tb X G) E M H (fun d M' _ H' => ∀ v, Rep (tb X G) M' H' d v → Q v H') (match seqH ah d with
    | some xs => .ok (.int xs.length) ah
    | none => .no) → ∃ z n, [x] = [z] ∧ LenV X.K z H n ∧ Q (.int n) H := fun {d} r P => by
    split at P
    · rename_i xs hx
      obtain ⟨p, vs, e1, f1, g1⟩ := rep_seq q r hx
      subst e1
      refine ⟨_, xs.length, rfl, ?_, P.val q mk_int⟩
      rcases f1 with f1 | f1
      · exact .inl ⟨vs, f1, g1.length⟩
      · exact .inr ⟨vs, f1, g1.length⟩
    · exact P.elim
  cases d with
  | str s =>
    obtain ⟨hz, P⟩ := Post.chk P
    have e := rep_str r
    subst e
    refine ⟨_, s.length, rfl, ⟨by rw [ts_len, ← big_eq]; exact of_decide_eq_true hz, by rw [ts_len]⟩, P.val q mk_int⟩
  | _ => exact seqs r P
theorem f_abs : CallF X G (fun xs H Q => ∃ i, xs = [.int i] ∧ Q (.int (if i < 0 then -i else i)) H) (on1 absD) := f_one fun E M ah H d x Q q r P => by
  cases d with
  | int i => exact ⟨i, by rw [rep_int r], P.val q mk_int⟩
  | _ => exact P.elim
theorem f_int : CallF X G (fun xs H Q => (∃ i, xs = [.int i] ∧ Q (.int i) H) ∨ ∃ k, xs = [.bl k] ∧ Q (.int (if k then 1 else 0)) H) (on1 intD) := f_one fun E M ah H d x Q q r P => by
  cases d with
  | int i => exact .inl ⟨i, by rw [rep_int r], P.val q mk_int⟩
  | bl i => exact .inr ⟨i, by rw [rep_bl r], P.val q mk_int⟩
  | _ => exact P.elim
theorem f_tuple : CallF X G (fun xs H Q => ∃ p ys, xs = [.ref p] ∧ ((SqL X.K H p ys ∧ ∀ l, H l = none → Q (.ref l) (upd H l (.tup ys))) ∨ (SqT X.K H p ys ∧ Q (.ref p) H))) (on1 tupD) := f_one fun E M ah H d x Q q r P => by
  unfold tupD at P
  split at P
  · rename_i xs hx
    cases d with
    | tup zs =>
      have e : zs = xs := Option.some.inj hx
      subst e
      obtain ⟨p, vs, e1, f1, g1⟩ := rep_tup r
      exact ⟨p, vs, by rw [e1], .inr ⟨f1.sq, P.val q (by rw [Rep]; exact ⟨p, vs, rfl, f1, g1⟩)⟩⟩
    | scr zs =>
      have e : zs = xs := Option.some.inj hx
      subst e
      rw [Rep] at r
      obtain ⟨p, vs, e1, f1, g1⟩ := r
      exact ⟨p, vs, by rw [e1], .inl ⟨f1.sq, P.tup q g1⟩⟩
    | lst zs =>
      obtain ⟨p, vs, e1, f1, g1⟩ := rep_lst q r hx
      exact ⟨p, vs, by rw [e1], .inl ⟨SqL.of f1, P.tup q g1⟩⟩
    | loc zs =>
      obtain ⟨p, vs, e1, f1, g1⟩ := rep_lst q r hx
      exact ⟨p, vs, by rw [e1], .inl ⟨SqL.of f1, P.tup q g1⟩⟩
    | _ => cases hx
  · exact P.elim
theorem f_list {fz : Bool} : CallF X G (fun xs H Q => ∃ p ys, xs = [.ref p] ∧ (SqL X.K H p ys ∨ SqT X.K H p ys) ∧ ∀ l, H l = none → Q (.ref l) (upd H l (.lst ys))) (on1 (listD fz)) := f_one fun E M ah H d x Q q r P => by
  unfold listD at P
  split at P
  · rename_i xs hx
    obtain ⟨p, vs, e1, f1, g1⟩ := rep_seq q r hx
    exact ⟨p, vs, by rw [e1], f1, P.mkL q g1⟩
  · exact P.elim
end
end Sm
end

section
set_option Elab.async false
set_option linter.all false
set_option maxRecDepth 100000
set_option maxHeartbeats 1000000
namespace Sm
open PySem PySem.Spec PyProof.Rows L2
section
variable {X : Cx} {G : Gh} {W : WX} {ea eb ec : Expr} {a b c : AE} {pos : Pos}
/-! ### isinstance(x, T), T a built-in type -/
def tyNames : List String := ["NoneType", "bool", "int", "str", "tuple", "list", "dict"]
theorem kit_all : (tyNames.all fun t => ["bool", "int", "str", "tuple", "list", "dict"].all fun T => decide (kitB t T = some (isTyB t T))) = true := by decide +kernel
theorem ty_rep {M : Mp} {ah : AH} {H : Hp} {d : D} {v : V} {t : String} (q : RelH (tb X G) M ah H) (r : Rep (tb X G) M H d v) (h : tyOf ah d = some t) : TyX X.K H v (.type t) ∧ t ∈ tyNames := by
  cases d with
  | non => cases h; rw [Rep] at r; subst r; exact ⟨.base .non, by decide⟩
  | bl b => cases h; rw [Rep] at r; subst r; exact ⟨.base (.bl b), by decide⟩
  | int b => cases h; rw [Rep] at r; subst r; exact ⟨.base (.int b), by decide⟩
  | str b => cases h; rw [Rep] at r; subst r; exact ⟨.base (.str _), by decide⟩
  | tup xs =>
    cases h
    obtain ⟨p, vs, rfl, f, g⟩ := rep_tup r
    exact ⟨.base (.tup f.2), by decide⟩
  | lst xs =>
    cases h
    obtain ⟨p, vs, rfl, f, g⟩ := rep_lst (x := .lst xs) q r rfl
    exact ⟨.base (.lst f), by decide⟩
  | loc l =>
    have h' : (match ah[l]? with
      | some (.lst _) => some "list"
      | some (.dic _ _) => some "dict"
      | some (.dicT _ _) => some "dict"
      | _ => none) = some t := h
    rw [Rep] at r
    obtain ⟨p, rfl, hp⟩ := r
    split at h'
    · rename_i xs hl
      cases h'
      obtain ⟨vs, f, _⟩ := q.obj l p _ hp hl
      exact ⟨.base (.lst f), by decide⟩
    · rename_i ks ds hl
      cases h'
      obtain ⟨vs, f, _⟩ := q.obj l p _ hp hl
      exact ⟨.base (.dK f), by decide⟩
    · rename_i ks ds hl
      cases h'
      obtain ⟨vs, f, _⟩ := q.obj l p _ hp hl
      exact ⟨.base (.dT f), by decide⟩
    · cases h'
  | _ => cases h
theorem s_isTy {T : String} {x y : Str} {p p' : Pos} (hT : T ∈ ["bool", "int", "str", "tuple", "list", "dict"]) (hx : x = "isinstance") (hy : bootBuiltins y = some (.type T)) (hny : y ≠ "__name__") (hdy : (y == ("__debug__" : Str)) = false) (hg : Gl X x) (hm : X.mg x = none) (hg' : Gl X y) (hm' : X.mg y = none) (ha : SE X G W ea a)
    (hs : starEach [ea, (.Name y p' : Expr)] X.env = [(false, eval ea X.env), (false, eval (.Name y p') X.env)] := by rfl) (hs2 : starEach [(.Name y p' : Expr)] X.env = [(false, eval (.Name y p') X.env)] := by rfl)
    (hs3 : (backTo pos (starEach [(.Name y p' : Expr)] X.env)).any (·.1) = false := by rfl) : SE X G W (.Call (.Name x p) [ea, .Name y p'] [] pos) (e1 (isTy T) a) := by
  subst hx
  have h1 : PE X (.Name y p') (L2.tC (.ty T)) := pe_bltn hg' hm' hy rfl hny hdy
  have h2 := pe_callB (pos := pos) (p := p) call_isi hg hm (by decide +kernel) (pa_cons ha (pa_cons h1 pa_nil (by rw [hs2]; rfl)) (by rw [hs, hs2])) (he := by rw [hs, hs2]) (hpl := hs3)
  refine PE.imp h2 fun σ H Q h => ?_
  obtain ⟨M, e, ah, S, P⟩ := h
  refine ⟨M, e, ah, S, P.bindI fun dx M1 ah1 H1 s1 q1 P1 v hv => ?_⟩
  obtain ⟨t, ht, P1⟩ := (Post.bind P1).of
  have P1 := P1.here q1
  obtain ⟨h3, h4⟩ := ty_rep q1 hv ht
  refine ⟨v, .ty T, .type t, .type T, isTyB t T, rfl, .ty T, h3, kit_ty ?_, P1.val q1 mk_bl⟩
  exact of_decide_eq_true (List.all_eq_true.mp (List.all_eq_true.mp kit_all t h4) T hT)
/-! ### displays -/
theorem s_tup {es : List Expr} {as : AA} {x1} (ha : SA X G W es as) : SE X G W (.Tuple es x1 pos) (eTup as) :=
  PE.imp (pe_tup ha) fun σ H Q h => by
    obtain ⟨M, e, ah, S, P⟩ := h
    refine ⟨M, e, ah, S, P.bindI fun ds M1 ah1 H1 s1 q1 P1 vs hv => ?_⟩
    obtain ⟨hz, P1⟩ := Post.chk P1
    exact ⟨by rw [← hv.length, ← big_eq]; exact of_decide_eq_true hz, P1.tup q1 hv⟩
theorem s_lst {fz : Bool} {es : List Expr} {as : AA} (ha : SA X G W es as) : SE X G W (.List es pos) (eLst fz as) :=
  PE.imp (pe_lst ha) fun σ H Q h => by
    obtain ⟨M, e, ah, S, P⟩ := h
    refine ⟨M, e, ah, S, P.bindI fun ds M1 ah1 H1 s1 q1 P1 vs hv => ?_⟩
    obtain ⟨hz, P1⟩ := Post.chk P1
    exact ⟨by rw [← hv.length, ← big_eq]; exact of_decide_eq_true hz, P1.mkL q1 hv⟩
/-! ### methods of lists -/
def MetF (X : Cx) (G : Gh) (T : String) (r : V → List V → Hp → VK → Prop) (f : D → List D → AH → R D) : Prop := ∀ (E : XK) M ah H d ds x xs Q, RelH (tb X G) M ah H → Rep (tb X G) M H d x → Reps (tb X G) M H ds xs → Post (tb X G) E M H (fun d M' _ H' => ∀ v, Rep (tb X G) M' H' d v → Q v H') (f d ds ah) → r x xs H Q
/-- the receiver's type, read at the receiver -/
def TyF (X : Cx) (G : Gh) (T : String) (g : AH → D → Bool) : Prop := ∀ M ah H d x, RelH (tb X G) M ah H → Rep (tb X G) M H d x → g ah d = true → tyV X.K T x H
theorem s_bm {T id : String} {r : V → List V → Hp → VK → Prop} {f : D → List D → AH → R D} {g : AH → D → Bool} {name : Str} {apos cpos : Pos} {es : List Expr} {as : AA} (pa : PlainAttrs T) (slot : Slot T name id) (hty : typeOf (.builtin id) = pure (.type "method_descriptor")) (hm : MtR X id r) (hf : MetF X G T r f) (hg : TyF X G T g)
    (ho : SE X G W ea a) (ha : SA X G W (eb :: es) as)
    (hbase : attributeBase ea name X.env (eval ea X.env) = eval ea X.env := by rfl)
    (hfew : ((backTo cpos (starEach (eb :: es) X.env)).all (fun x => !x.1) && (backToKw cpos (keywordEach [] X.env)).all (fun x => x.1.isSome) && decide ((eb :: es).length + ([] : List Keyword).length + (if ([] : List Keyword).isEmpty then 0 else 1) < 30)) = true := by rfl)
    (hline : (apos.endLine == cpos.line) = true := by rfl) (hs : starEach (eb :: es) X.env = (false, eval eb X.env) :: starEach es X.env := by rfl) (hplain : (backTo cpos (starEach es X.env)).any (·.1) = false := by rfl) :
    SE X G W (.Call (.Attribute ea name apos) (eb :: es) [] cpos) (eM g f a as) :=
  PE.imp (pe_bm pa slot hty hm ho ha hbase hfew hline hs hplain) fun σ H Q h => by
    obtain ⟨M, e, ah, S, P⟩ := h
    refine ⟨M, e, ah, S, P.bindI fun d M1 ah1 H1 s1 q1 P1 v hv => ?_⟩
    obtain ⟨hc, P1⟩ := P1.chk
    refine ⟨hg _ _ _ _ _ q1 hv hc, M1, e, ah1, S.step s1 q1, P1.bindI fun ds M2 ah2 H2 s2 q2 P2 vs hvs => ?_⟩
    exact hf _ _ _ _ _ _ _ _ _ q2 (hv.step s2) hvs P2
theorem s_bm0 {T id : String} {r : V → List V → Hp → VK → Prop} {f : D → List D → AH → R D} {g : AH → D → Bool} {name : Str} {apos cpos : Pos} (pa : PlainAttrs T) (slot : Slot T name id) (hty : typeOf (.builtin id) = pure (.type "method_descriptor")) (hm : MtR X id r) (hf : MetF X G T r f) (hg : TyF X G T g)
    (ho : SE X G W ea a) (hbase : attributeBase ea name X.env (eval ea X.env) = eval ea X.env := by rfl) (hline : (apos.endLine == cpos.line) = true := by rfl) :
    SE X G W (.Call (.Attribute ea name apos) [] [] cpos) (eM g f a (eL [])) :=
  PE.imp (pe_bm0 pa slot hty hm ho hbase hline) fun σ H Q h => by
    obtain ⟨M, e, ah, S, P⟩ := h
    refine ⟨M, e, ah, S, P.bindI fun d M1 ah1 H1 s1 q1 P1 v hv => ?_⟩
    obtain ⟨hc, P1⟩ := P1.chk
    exact ⟨hg _ _ _ _ _ q1 hv hc, hf _ _ _ _ _ _ _ _ _ q1 hv Reps.nil P1⟩
theorem ty_list : TyF X G "list" isLst := by
  intro M ah H d x q r h
  have : ∃ xs, lstH ah d = some xs ∨ seqH ah d = some xs ∧ ∃ ys, d = .scr ys := by
    cases d with
    | lst xs => exact ⟨xs, .inl rfl⟩
    | loc l =>
      have h' : (match ah[l]? with | some (.lst _) => true | _ => false) = true := h
      split at h'
      · rename_i xs hl; exact ⟨xs, .inl (by rw [lstH, hl])⟩
      · cases h'
    | _ => cases h
  obtain ⟨xs, hx | ⟨_, ys, rfl⟩⟩ := this
  · obtain ⟨p, vs, rfl, f, g⟩ := rep_lst q r hx
    exact .inl ⟨rfl, vs, SqL.of f⟩
  · cases h
theorem rep_loc {T : Tb} {M : Mp} {ah : AH} {H : Hp} {l : Nat} {v : V} {xs : List D} (q : RelH T M ah H) (r : Rep T M H (.loc l) v) (h : ah[l]? = some (.lst xs)) : ∃ p vs, v = .ref p ∧ M.m[l]? = some p ∧ H p = some (.lst vs) ∧ Reps T M H xs vs := by
  rw [Rep] at r
  obtain ⟨p, rfl, hp⟩ := r
  obtain ⟨vs, f, g⟩ := q.obj l p _ hp h
  exact ⟨p, vs, rfl, hp, f, g⟩
theorem onL_ok {T : Tb} {E : XK} {M : Mp} {ah : AH} {H : Hp} {d : D} {v : V} {f : Nat → List D → R D} {P : D → Mp → AH → Hp → Prop} (q : RelH T M ah H) (r : Rep T M H d v) (h : Post T E M H P (onL ah d f)) :
    ∃ l p xs vs, d = .loc l ∧ v = .ref p ∧ M.m[l]? = some p ∧ ah[l]? = some (.lst xs) ∧ H p = some (.lst vs) ∧ Reps T M H xs vs ∧ Post T E M H P (f l xs) := by
  cases d with
  | loc l =>
    have h' : Post T E M H P (match ah[l]? with | some (.lst xs) => f l xs | _ => .no) := h
    split at h'
    · rename_i xs hl
      obtain ⟨p, vs, e, hp, g, k⟩ := rep_loc q r hl
      exact ⟨l, p, xs, vs, rfl, e, hp, hl, g, k, h'⟩
    · exact h'.elim
  | _ => exact h.elim
/-- a list of ours gets other items -/
theorem put_lst {T : Tb} {E : XK} {M : Mp} {ah : AH} {H : Hp} {l : Nat} {p : Addr} {ds : List D} {vs : List V} {d : D} {v : V} {Q : VK} (q : RelH T M ah H) (hp : M.m[l]? = some p) (r : Reps T M H ds vs) (rd : Rep T M H d v)
    (P : Post T E M H (fun d M' _ H' => ∀ v, Rep T M' H' d v → Q v H') (.ok d (ah.set l (.lst ds)))) : Q v (upd H p (.lst vs)) := by
  obtain ⟨s, q2⟩ := q.put (o := .lst vs) (u := .lst ds) hp fun s => ⟨vs, upd_same, r.step s⟩
  exact P M _ s q2 v (rd.step s)
theorem m_append : MetF X G "list" rAppend (mt1 appendD) := by
  intro E M ah H d ds x xs Q q r rs P
  match ds, rs, P with
  | [y], rs, P =>
    obtain ⟨u, rfl, ru⟩ := one_rep rs
    obtain ⟨l, p, zs, vs, rfl, rfl, hp, hl, f, g, P⟩ := onL_ok q r P
    obtain ⟨hz, P⟩ := P.chk
    exact ⟨p, vs, u, rfl, rfl, f, by rw [← g.length, ← big_eq]; exact of_decide_eq_true hz, put_lst q hp (g.app (Reps.cons ru Reps.nil)) mk_non P⟩
  | [], _, P => exact P.elim
  | _ :: _ :: _, _, P => exact P.elim
theorem m_pop : MetF X G "list" rPop (mt0 popD) := by
  intro E M ah H d ds x xs Q q r rs P
  match ds, rs, P with
  | [], rs, P =>
    rw [Reps] at rs; subst rs
    obtain ⟨l, p, zs, vs, rfl, rfl, hp, hl, f, g, P⟩ := onL_ok q r P
    obtain ⟨y, hy, P⟩ := (Post.bind P).of
    have P := P.here q
    obtain ⟨u, hu, ru⟩ := g.get hy
    exact ⟨p, vs, u, rfl, rfl, f, by rw [← g.length]; exact hu, put_lst q hp g.dropLast ru P⟩
  | _ :: _, _, P => exact P.elim
end
end Sm
end

section
set_option Elab.async false
set_option linter.all false
set_option maxRecDepth 100000
set_option maxHeartbeats 1000000
namespace Sm
open PySem PySem.Spec PyProof.Rows L2
section
variable {X : Cx} {G : Gh} {W : WX} {ea eb ec : Expr} {a b c : AE} {pos : Pos}
/-! ### extend -/
open PySem.AutoSeq1 in
/-- xs.extend(t) of a tuple, however the tuple's object came about -/
theorem extend_tup (l t : Addr) (xs ys : Array Value) (n k : Nat) (dd : Option Addr) (sl : Array (Option Value)) (h0 : ¬ (!xs.isEmpty && Builtin.List.listTooLong (xs.size + ys.size)) = true) (h1 : xs.size ≤ sizeLine) (h2 : (xs ++ ys).size ≤ sizeLine + 1) :
    Meets (Builtin.«list.extend» ⟨[.ref l, .ref t], []⟩) (fun _ R s => s.heap.get? l = some { cls := .type "list", data := .seq xs n } ∧ s.heap.get? t = some { cls := .type "tuple", dict := dd, data := .seq ys k, slots := sl } ∧
      R (.ok (.ret Value.none)) { s with heap := s.heap.update l (Obj.mapSeq fun x => x ++ ys) }) :=
  .of_wp fun _ _ _ _ s ⟨hl, hb, hR⟩ => by
    obtain ⟨_, _, _, _, _⟩ := s
    have := AutoSeq1.idx_int; have := AutoSeq1.sub_tuple_tuple; have := AutoSeq1.sub_list_list; have := AutoSeq1.sub_tuple_list; have := AutoSeq1.sub_list_tuple
    wp_walk using (wpAny_updateSeq hl rfl (hz := h1) (_hz' := h2)), wpAny_loadPart' hl, wpAny_loadPart' hb
    exact ⟨_, rfl, hR⟩
def rExtT (K : PySem.W.Frag) : V → List V → Hp → VK → Prop := fun x vs H Q => ∃ l t xs zs, x = .ref l ∧ vs = [.ref t] ∧ H l = some (.lst xs) ∧ SqT K H t zs ∧ xs.length + zs.length ≤ sizeLine ∧ Q .non (upd H l (.lst (xs ++ zs)))
theorem mt_extT : MtR X "list.extend" (rExtT X.K) := by
  intro pins s σ H x vs v us Q I rx rv h
  obtain ⟨l, t, xs, zs, rfl, rfl, hH, hB, hz, q⟩ := h
  cases rx
  obtain ⟨u, rfl, ru⟩ := rv.one
  cases ru
  obtain ⟨z, its, n, r, hl, e⟩ := I.lstM hH
  obtain ⟨its2, r2, ⟨⟨cls, dd, data, sl⟩, ho, hc, n2, hd⟩, hs⟩ := I.tuple hB
  simp only at hc hd
  subst hc hd
  have e2 := r2.length
  have hsz : its.toArray.size + its2.toArray.size ≤ sizeLine := by rw [List.size_toArray, List.size_toArray, ← hl, ← e2]; exact hz
  have hlong : ¬ (!its.toArray.isEmpty && Builtin.List.listTooLong (its.toArray.size + its2.toArray.size)) = true := by
    rw [notLongL hsz, Bool.and_false]
    decide
  refine call_meets PySem.F.slot_list_extend ⟨_, e, rfl⟩ PySem.F.entry_list_extend (PySem.F.args_list_extend_2 _ _)
    (extend_tup l t its.toArray its2.toArray n n2 dd sl hlong (by rw [List.size_toArray]; omega) (by rw [Array.size_append]; omega)) ⟨e, ho, ?_⟩
  exact ⟨.non, _, I.lset (its' := its ++ its2) hH e (by simp) (r.append r2) (by rw [List.length_append]; exact hz), rfl, q⟩
def rExtAll (K : PySem.W.Frag) : V → List V → Hp → VK → Prop := fun x vs H Q => rExtend x vs H Q ∨ rExtT K x vs H Q
theorem mt_extAll : MtR X "list.extend" (rExtAll X.K) := MtR.or mt_extend mt_extT
theorem m_extend : MetF X G "list" (rExtAll X.K) (mt1 extendD) := by
  intro E M ah H d ds x xs Q q r rs P
  match ds, rs, P with
  | [y], rs, P =>
    obtain ⟨u, rfl, ru⟩ := one_rep rs
    obtain ⟨l, p, zs, vs, rfl, rfl, hp, hl, f, g, P⟩ := onL_ok q r P
    have lists : ∀ {ys : List D}, lstH ah y = some ys → Post (tb X G) E M H (fun d M' _ H' => ∀ v, Rep (tb X G) M' H' d v → Q v H') (R.chk (decide (zs.length + ys.length ≤ big)) (.ok .non (ah.set l (.lst (zs ++ ys))))) → rExtAll X.K (.ref p) [u] H Q := fun {ys} hy P => by
      obtain ⟨hz, P⟩ := P.chk
      obtain ⟨p2, us, rfl, f2, g2⟩ := rep_lst q ru hy
      exact .inl ⟨p, p2, vs, us, rfl, rfl, f, f2, by rw [← g.length, ← g2.length, ← big_eq]; exact of_decide_eq_true hz, put_lst q hp (g.app g2) mk_non P⟩
    cases y with
    | loc l' =>
      have P' : Post (tb X G) E M H (fun d M' _ H' => ∀ v, Rep (tb X G) M' H' d v → Q v H') (if l' = l then .no else match lstH ah (.loc l') with
        | some ys => R.chk (decide (zs.length + ys.length ≤ big)) (.ok .non (ah.set l (.lst (zs ++ ys))))
        | none => .no) := P
      split at P'
      · exact P'.elim
      · split at P'
        · rename_i ys hy
          exact lists hy P'
        · exact P'.elim
    | lst ys => exact lists rfl P
    | tup ys =>
      obtain ⟨hz, P⟩ := Post.chk P
      obtain ⟨p2, us, rfl, f2, g2⟩ := rep_tup ru
      exact .inr ⟨p, p2, vs, us, rfl, rfl, f, f2.sq, by rw [← g.length, ← g2.length, ← big_eq]; exact of_decide_eq_true hz, put_lst q hp (g.app g2) mk_non P⟩
    | _ => exact P.elim
  | [], _, P => exact P.elim
  | _ :: _ :: _, _, P => exact P.elim
/-! ### statements -/
section
variable {st : Stmt} {rest : List Stmt} {s t : AS}
theorem up_post {α : Type} {T : Tb} {M : Mp} {H : Hp} {σ : L2.St} {e : Env} {ah0 : AH} {r : R α} {k : α → AH → R Fl} {D : Ends} (S : Sta T M e ah0 σ H) (P : Post T W0 M H (EndsAt W T D) (up e r k)) :
    Post T (WE W σ) M H (fun a M1 ah1 H1 => Post T W0 M1 H1 (EndsAt W T D) (k a ah1)) r := by
  cases r with
  | ok a ah => exact fun M1 H1 t _ => Post.step t P
  | exc x ah =>
    intro M1 H1 u dx t q x1
    exact P M1 H1 t q σ u dx (S.step t q) x1
  | no => exact P
theorem upI {α : Type} {T : Tb} {M : Mp} {H : Hp} {σ : L2.St} {e : Env} {ah0 : AH} {r : R α} {k : α → AH → R Fl} {D : Ends} {Q : α → Mp → AH → Hp → Prop} (S : Sta T M e ah0 σ H) (P : Post T W0 M H (EndsAt W T D) (up e r k))
    (f : ∀ a M' ah' H', Step M H M' H' → RelH T M' ah' H' → Post T W0 M' H' (EndsAt W T D) (k a ah') → Q a M' ah' H') : Post T (WE W σ) M H Q r := (up_post S P).imp f
theorem z_nil : SSs X G W [] (sB []) := PSs.imp pss_nil fun D σ H h => by
  obtain ⟨M, e, ah, S, P⟩ := h
  exact Post.here P S.h σ S
theorem z_cons {ss : List AS} (h1 : SS X G W st s) (h2 : SSs X G W rest (sB ss)) : SSs X G W (st :: rest) (sB (s :: ss)) :=
  PSs.imp (pss_cons h1 h2) fun D σ H h => by
    obtain ⟨M, e, ah, S, P⟩ := h
    refine ⟨M, e, ah, S, Post.bindI P fun f M1 ah1 H1 s1 q1 P1 => ?_⟩
    cases f with
    | nx e1 => exact fun σ' S' => ⟨M1, e1, ah1, S', P1⟩
    | rt d => exact Post.here (W := W0) P1 q1
    | bk e1 => exact Post.here (W := W0) P1 q1
    | ct e1 => exact Post.here (W := W0) P1 q1
    | ex x e1 => exact Post.here (W := W0) P1 q1
theorem z_expr (ha : SE X G W ea a) (hs : swapsWith ea none pos.line X.env = pure false := by rfl) : SS X G W (.Expr ea pos) (sE a) :=
  PS.imp (ps_expr ha hs) fun D σ H h => by
    obtain ⟨M, e, ah, S, P⟩ := h
    exact ⟨M, e, ah, S, upI S P fun d M1 ah1 H1 s1 q1 P1 v hv => Post.here P1 q1 σ (S.step s1 q1)⟩
/-- the slot is not that of a handled error's name -/
def NG (G : Gh) (i : Nat) : Prop := ∀ p, G = some p → p.i ≠ i
theorem ng_none {i : Nat} : NG none i := fun _ h => by cases h
theorem ng_some {p : Gx} {i : Nat} (h : p.i ≠ i) : NG (some p) i := fun _ e => by cases e; exact h
theorem Sta.set {T : Tb} {M : Mp} {e : Env} {ah : AH} {σ : L2.St} {H : Hp} (S : Sta T M e ah σ H) {d : D} {v : V} (r : Rep T M H d v) (i : Nat) (hj : NG T.g i) : Sta T M (e.set i (some d)) ah (σ.set i (some v)) H := by
  refine ⟨S.h, by simp [S.len], fun j z hz => ?_, fun p hp => ⟨by rw [List.getElem?_set_ne (Ne.symm (hj p hp))]; exact (S.gh p hp).1, (S.gh p hp).2⟩⟩
  by_cases hj : j = i
  · subst hj
    have hl : j < e.length := by
      have := (List.getElem?_eq_some_iff.mp hz).1
      simpa using this
    rw [List.getElem?_set_self hl] at hz
    cases hz
    exact ⟨v, List.getElem?_set_self (by rw [← S.len]; exact hl), r⟩
  · rw [List.getElem?_set_ne (Ne.symm hj)] at hz ⊢
    exact S.slot j z hz
theorem z_set {i : Nat} {x : Str} {p : Pos} (hN : X.N.Nodup) (hi : X.N[i]? = some x) (hx : Loc X.env.scope x) (ha : SE X G W ea a) (hs : swapsWith ea (some (.Name x p)) pos.line X.env = pure false := by rfl) (hf : X.fn x = true ∨ X.env.scope.names.lookup x = some .local := by first | exact .inl rfl | exact .inr rfl) (hj : NG G i := by first | exact ng_none | exact ng_some (by decide) | exact ng_some (by simp)) : SS X G W (.Assign [.Name x p] ea pos) (sSet i a) :=
  PS.imp (ps_set hN hi hx ha hs hf) fun D σ H h => by
    obtain ⟨M, e, ah, S, P⟩ := h
    exact ⟨M, e, ah, S, upI S P fun d M1 ah1 H1 s1 q1 P1 v hv => Post.here P1 q1 _ ((S.step s1 q1).set hv i hj)⟩
theorem z_if {et : Expr} {u : AB} {as bs : List Stmt} (ht : SB X G W et u) (ha : SSs X G W as s) (hb : SSs X G W bs t) : SS X G W (.If et as bs pos) (sIf u s t) :=
  PS.imp (ps_if ht ha hb) fun D σ H h => by
    obtain ⟨M, e, ah, S, P⟩ := h
    refine ⟨M, e, ah, S, upI S P fun k M1 ah1 H1 s1 q1 P1 => ?_⟩
    cases k with
    | true => rw [if_pos rfl]; exact ⟨M1, e, ah1, S.step s1 q1, P1⟩
    | false => rw [if_neg Bool.false_ne_true]; exact ⟨M1, e, ah1, S.step s1 q1, P1⟩
theorem z_ret (ha : SE X G W ea a) : SS X G W (.Return (some ea) pos) (sRet a) :=
  PS.imp (ps_ret ha) fun D σ H h => by
    obtain ⟨M, e, ah, S, P⟩ := h
    exact ⟨M, e, ah, S, upI S P fun d M1 ah1 H1 s1 q1 P1 v hv => Post.here P1 q1 v hv⟩
theorem z_break : SS X G W (.Break pos) sBrk := PS.imp ps_break fun D σ H h => by
  obtain ⟨M, e, ah, S, P⟩ := h
  exact Post.here P S.h _ S
end
end
end Sm
end

section
set_option Elab.async false
set_option linter.all false
set_option maxRecDepth 100000
set_option maxHeartbeats 1000000
namespace Sm
open PySem PySem.Spec PyProof.Rows L2
/-! ### targets -/
def tG (T : Tb) (vs : List Nat) (g : AG) : TG := fun v σ H Q => ∃ M e ah d, Sta T M e ah σ H ∧ Rep T M H d v ∧ Post T W0 M H (fun e1 M1 ah1 H1 => ∀ σ1, Sta T M1 e1 ah1 σ1 H1 → wipe σ1 vs = wipe σ vs → Q σ1 H1) (g d e ah)
abbrev SG (X : Cx) (G : Gh) (vs : List Nat) (t : Expr) (g : AG) : Prop := PG X t (tG (tb X G) vs g)
theorem PG.imp {X : Cx} {t : Expr} {g g' : TG} (h : PG X t g) (f : ∀ v σ H Q, g' v σ H Q → g v σ H Q) : PG X t g' := ⟨fun pins s σ H v u Q I r q => h.run pins s σ H v u Q I r (f v σ H Q q)⟩
theorem wipe_set {σ : L2.St} {i : Nat} {x : Option V} : ∀ {vs : List Nat}, i ∈ vs → wipe (σ.set i x) vs = wipe σ vs
  | [], h => by simp at h
  | v :: vs, h => by
    show (wipe (σ.set i x) vs).set v none = (wipe σ vs).set v none
    by_cases hi : i ∈ vs
    · rw [wipe_set hi]
    · have e : i = v := by
        rcases List.mem_cons.mp h with e | e
        · exact e
        · exact absurd e hi
      subst e
      have key : ∀ (ws : List Nat), i ∉ ws → wipe (σ.set i x) ws = (wipe σ ws).set i x := by
        intro ws
        induction ws with
        | nil => intro _; rfl
        | cons w ws ih =>
          intro hw
          show (wipe (σ.set i x) ws).set w none = ((wipe σ ws).set w none).set i x
          rw [ih fun z => hw (List.mem_cons_of_mem _ z), List.set_comm _ _ fun z => hw (by rw [z]; exact List.mem_cons_self)]
      rw [key vs hi, List.set_set]
section
variable {X : Cx} {G : Gh} {W : WX} {ea eb ec : Expr} {a b c : AE} {pos : Pos}
theorem g_name {i : Nat} {x : Str} {vs : List Nat} (hN : X.N.Nodup) (hi : X.N[i]? = some x) (hx : Loc X.env.scope x) (hv : i ∈ vs) (hf : X.fn x = true ∨ X.env.scope.names.lookup x = some .local := by first | exact .inl rfl | exact .inr rfl) (hj : NG G i := by first | exact ng_none | exact ng_some (by decide) | exact ng_some (by simp)) : SG X G vs (.Name x pos) (gV i) :=
  PG.imp (pg_name hN hi hx hf) fun v σ H Q h => by
    obtain ⟨M, e, ah, d, S, r, P⟩ := h
    exact Post.here P S.h _ (S.set r i hj) (wipe_set hv)
def tGs (T : Tb) (vs : List Nat) (gs : List AG) : TGs := fun us σ H Q => ∃ M e ah ds, Sta T M e ah σ H ∧ Reps T M H ds us ∧ Post T W0 M H (fun e1 M1 ah1 H1 => ∀ σ1, Sta T M1 e1 ah1 σ1 H1 → wipe σ1 vs = wipe σ vs → Q σ1 H1) (gTs gs ds e ah)
abbrev SGs (X : Cx) (G : Gh) (vs : List Nat) (t : List Expr) (g : List AG) : Prop := PGs X t (tGs (tb X G) vs g)
theorem PGs.imp {X : Cx} {t : List Expr} {g g' : TGs} (h : PGs X t g) (f : ∀ v σ H Q, g' v σ H Q → g v σ H Q) : PGs X t g' := ⟨fun pins s σ H v u Q I r q => h.run pins s σ H v u Q I r (f v σ H Q q)⟩
/-- o[i] = v by values -/
def Set3 (X : Cx) (G : Gh) (r : TSet) (f : D → D → D → AH → R D) : Prop := ∀ (E : XK) M ah H do_ di dv o i v Q, RelH (tb X G) M ah H → Rep (tb X G) M H do_ o → Rep (tb X G) M H di i → Rep (tb X G) M H dv v → Post (tb X G) E M H (fun _ M' ah' H' => Q H') (f do_ di dv ah) → r o i v H Q
theorem z_sub {r : TSet} {f : D → D → D → AH → R D} {p : Pos} (hr : PSet X r) (hf : Set3 X G r f) (ho : SE X G W ea a) (hi : SE X G W eb b) (hv : SE X G W ec c)
    (hs : swapsWithSole [.Subscript ea eb p] ec pos.line X.env = pure false := by rfl) (hw : swappedStores [.Subscript ea eb p] ec X.env = pure none := by rfl) (h1 : (assignEach [.Subscript ea eb p] X.env).map (·.2) = [assign (.Subscript ea eb p) X.env] := by rfl)
    (ha : ∀ v, assign (.Subscript ea eb p) X.env v = (do
      let ov ← holding [v] (eval ea X.env)
      let iv ← holding [v, ov] (eval eb X.env)
      standAt p
      holding [v, ov, iv] (setItem ov iv v)
      release [v, ov, iv] []) := by intro _; rfl) : SS X G W (.Assign [.Subscript ea eb p] ec pos) (sSub f a b c) :=
  PS.imp (ps_asg hv (pg_sub ho hi hr ha) hs hw h1) fun D σ H h => by
    obtain ⟨M, e, ah, S, P⟩ := h
    have P := (up_post S P).bind
    refine ⟨M, e, ah, S, P.imp fun dv M1 ah1 H1 s1 q1 P1 v rv => ?_⟩
    refine ⟨M1, e, ah1, S.step s1 q1, P1.bindI fun do_ M2 ah2 H2 s2 q2 P2 o ro => ?_⟩
    refine ⟨M2, e, ah2, (S.step s1 q1).step s2 q2, P2.bindI fun di M3 ah3 H3 s3 q3 P3 i ri => ?_⟩
    refine hf _ _ _ _ _ _ _ _ _ _ _ q3 (ro.step s3) ri (rv.step (s2.trans s3)) (P3.imp fun z M4 ah4 H4 s4 q4 P4 => ?_)
    exact Post.here P4 q4 σ (S.step (((s1.trans s2).trans s3).trans s4) q4)
theorem set3_list : Set3 X G rSetL setIxD := by
  intro E M ah H do_ di dv o i v Q q ro ri rv P
  cases di with
  | int k =>
    obtain ⟨l, p, xs, vs, rfl, rfl, hp, hl, f, g, P⟩ := onL_ok q ro P
    obtain ⟨j, hj, P⟩ := (Post.bind P).of
    have P := P.here q
    refine ⟨p, vs, k, j, rfl, rep_int ri, f, by rw [← g.length]; exact hj, ?_⟩
    obtain ⟨s, q2⟩ := q.put (o := .lst (vs.set j v)) (u := .lst (xs.set j dv)) hp fun s => ⟨_, upd_same, (g.set rv j).step s⟩
    exact P M _ s q2
  | _ => exact P.elim
/-! ### what a loop walks -/
def SrcJ (T : Tb) (M0 : Mp) (H0 : Hp) (s : Src) (J : It) : Prop := ∀ M H ah, Step M0 H0 M H → RelH T M ah H → ∀ i : Nat,
  (∀ d, nxt s i ah = some (some d) → J.go i H ∧ ∀ x H', J.yld i H x H' → ∃ M', Step M H M' H' ∧ RelH T M' ah H' ∧ Rep T M' H' d x) ∧ (nxt s i ah = some none → J.stop i H)
def tI (W : WX) (T : Tb) (it : AI) : TI := fun σ H R => ∃ M e ah, Sta T M e ah σ H ∧ Post T (WE W σ) M H (fun s M1 ah1 H1 => ∀ J, SrcJ T M1 H1 s J → R J H1) (it e ah)
abbrev SI (X : Cx) (G : Gh) (W : WX) (tg iter : Expr) (it : AI) : Prop := PI X tg iter (tI W (tb X G) it)
theorem PI.imp {tg iter : Expr} {w w' : TI} (h : PI X tg iter w) (f : ∀ σ H R, w' σ H R → w σ H R) : PI X tg iter w' := ⟨fun pins s σ H R I q => h.run pins s σ H R I (f σ H R q)⟩
def iSeq (K : PySem.W.Frag) (tl : TE) : TI := fun σ H R => tl σ H fun x H1 => ∃ a, x = .ref a ∧ (((∃ xs, SqL K H1 a xs) ∧ R (Itl K a) H1) ∨ ((∃ xs, SqT K H1 a xs) ∧ R (Itt K a) H1))
theorem pi_seq {tg l : Expr} {tl : TE} (hl : PE X l tl) : PI X tg l (iSeq X.K tl) := by
  refine ⟨fun pins s σ H R I h => ?_⟩
  refine thn (hl.run pins s σ H _ I h) fun v s1 ⟨x, H1, I1, r1, a, e, q⟩ => ?_
  subst e
  cases r1
  have mine : ∀ b ∈ [s1.heap.objs.size], FpOk X pins H1 b := fun b hb => by
    have e : b = s1.heap.objs.size := by simpa using hb
    subst e
    exact I1.fpOk (Nat.le_refl _) (I1.hok.fresh (Nat.le_refl _))
  rcases q with ⟨⟨xs, hq⟩, q⟩ | ⟨⟨xs, hq⟩, q⟩
  · obtain ⟨its, rv, p, hz⟩ := I1.list hq
    refine wpAny_pyIter_list p.isList ?_
    exact ⟨s1.heap.objs.size, [s1.heap.objs.size], _, _, H1, rfl, I1.kept (t' := s1.toks) fun b o e => Heap.get?_push_of_some _ e, turn_list a _, ⟨_, Heap.get?_push_size _ rfl, rfl, rfl⟩, mine, q⟩
  · obtain ⟨its, rv, p, hz⟩ := I1.tuple hq
    refine wpAny_pyIter_tuple (show s1.heap.IsTuple a its.toArray from p) ?_
    exact ⟨s1.heap.objs.size, [s1.heap.objs.size], _, _, H1, rfl, I1.kept (t' := s1.toks) fun b o e => Heap.get?_push_of_some _ e, turn_tuple a _, ⟨_, Heap.get?_push_size _ rfl, rfl, rfl⟩, mine, q⟩
theorem nxt_lst {xs : List D} {i : Nat} {ah : AH} {o : Option D} (h : nxt (.lst xs) i ah = some o) : xs[i]? = o := Option.some.inj h
/-- a sequence that stands still -/
theorem srcJ_still {T : Tb} {M0 : Mp} {H0 : Hp} {xs : List D} {J : It} (vs : List V) (r : Reps T M0 H0 xs vs) (h : ∀ M H, Step M0 H0 M H → ∀ i : Nat, (∀ v, vs[i]? = some v → J.go i H ∧ ∀ x H', J.yld i H x H' → H' = H ∧ x = v) ∧ (vs.length ≤ i → J.stop i H)) : SrcJ T M0 H0 (.lst xs) J := by
  intro M H ah s q i
  obtain ⟨h1, h2⟩ := h M H s i
  refine ⟨fun d hd => ?_, fun hn => h2 ?_⟩
  · obtain ⟨v, e, rv⟩ := r.get (nxt_lst hd)
    obtain ⟨g, y⟩ := h1 v e
    refine ⟨g, fun x H' hy => ?_⟩
    obtain ⟨rfl, rfl⟩ := y x H' hy
    exact ⟨M, Step.refl _ _, q, rv.step s⟩
  · rw [← r.length]
    exact List.getElem?_eq_none_iff.mp (nxt_lst hn)
theorem itt_still {K : PySem.W.Frag} {H : Hp} {a : Addr} {vs : List V} (h : SqT K H a vs) (i : Nat) : (∀ v, vs[i]? = some v → (Itt K a).go i H ∧ ∀ x H', (Itt K a).yld i H x H' → H' = H ∧ x = v) ∧ (vs.length ≤ i → (Itt K a).stop i H) :=
  ⟨fun v e => ⟨⟨vs, v, h, e⟩, fun x H' y => ⟨y.1, Option.some.inj ((y.2 vs h).symm.trans e)⟩⟩, fun l => ⟨vs, h, l⟩⟩
theorem iseq_read {σ : L2.St} {H : Hp} {R : It → Hp → Prop} (h : tI W (tb X G) (iS a) σ H R) : iSeq X.K (tE W (tb X G) a) σ H R := by
  obtain ⟨M, e, ah, S, P⟩ := h
  refine ⟨M, e, ah, S, P.bindI fun d M1 ah1 H1 s1 q1 P1 v hv => ?_⟩
  cases d with
  | loc l =>
    have P1' : Post (tb X G) (WE W σ) M1 H1 (fun s M1 ah1 H1 => ∀ J, SrcJ (tb X G) M1 H1 s J → R J H1) (match ah1[l]? with
      | some (.lst _) => .ok (.live l) ah1
      | _ => .no) := P1
    split at P1'
    · rename_i xs hl
      have P1 := Post.here P1' q1
      obtain ⟨p, vs, rfl, hp, f, g⟩ := rep_loc q1 hv hl
      refine ⟨p, rfl, .inl ⟨⟨vs, SqL.of f⟩, P1 _ fun M2 H2 ah2 s2 q2 i => ?_⟩⟩
      have hp2 := s2.get hp
      have key : ∀ {ys : List D}, ah2[l]? = some (.lst ys) → ∃ us, H2 p = some (.lst us) ∧ Reps (tb X G) M2 H2 ys us := fun {ys} e => q2.obj l p _ hp2 e
      constructor
      · intro d hd
        unfold nxt at hd
        dsimp only at hd
        split at hd
        · rename_i ys e
          obtain ⟨us, f2, g2⟩ := key e
          obtain ⟨u, hu, ru⟩ := g2.get (Option.some.inj hd)
          refine ⟨⟨us, u, SqL.of f2, hu⟩, fun x H' y => ?_⟩
          obtain ⟨rfl, y⟩ := y
          have := (y us (SqL.of f2)).symm.trans hu
          cases this
          exact ⟨M2, Step.refl _ _, q2, ru⟩
        · cases hd
      · intro hn
        unfold nxt at hn
        dsimp only at hn
        split at hn
        · rename_i ys e
          obtain ⟨us, f2, g2⟩ := key e
          exact ⟨us, SqL.of f2, by rw [← g2.length]; exact List.getElem?_eq_none_iff.mp (Option.some.inj hn)⟩
        · cases hn
    · exact P1'.elim
  | tup xs =>
    have P1 := Post.here P1 q1
    obtain ⟨p, vs, rfl, f, g⟩ := rep_tup hv
    exact ⟨p, rfl, .inr ⟨⟨vs, f.sq⟩, P1 _ (srcJ_still vs g fun M2 H2 s2 i => itt_still (f.mono s2.mono).sq i)⟩⟩
  | lst xs =>
    have P1 := Post.here P1 q1
    obtain ⟨p, vs, rfl, f, g⟩ := (show ∃ p vs, v = .ref p ∧ FL M1 H1 p vs ∧ Reps (tb X G) M1 H1 xs vs by rwa [Rep] at hv)
    exact ⟨p, rfl, .inl ⟨⟨vs, f.sq⟩, P1 _ (srcJ_still vs g fun M2 H2 s2 i => ⟨fun w e => ⟨⟨vs, w, (f.mono s2.mono).sq, e⟩, fun x H' y => ⟨y.1, Option.some.inj ((y.2 vs (f.mono s2.mono).sq).symm.trans e)⟩⟩, fun l => ⟨vs, (f.mono s2.mono).sq, l⟩⟩)⟩⟩
  | scr xs =>
    have P1 := Post.here P1 q1
    obtain ⟨p, vs, rfl, f, g⟩ := (show ∃ p vs, v = .ref p ∧ FS X.K M1 H1 p vs ∧ Reps (tb X G) M1 H1 xs vs by rwa [Rep] at hv)
    exact ⟨p, rfl, .inl ⟨⟨vs, f.sq⟩, P1 _ (srcJ_still vs g fun M2 H2 s2 i => ⟨fun w e => ⟨⟨vs, w, (f.mono (T := tb X G) s2.mono).sq, e⟩, fun x H' y => ⟨y.1, Option.some.inj ((y.2 vs (f.mono (T := tb X G) s2.mono).sq).symm.trans e)⟩⟩, fun l => ⟨vs, (f.mono (T := tb X G) s2.mono).sq, l⟩⟩)⟩⟩
  | _ => exact P1.elim
theorem i_seq {tg : Expr} (ha : SE X G W ea a) : SI X G W tg ea (iS a) := PI.imp (pi_seq ha) fun σ H R h => iseq_read h
theorem srcJ_rng {T : Tb} {M0 : Mp} {H0 : Hp} {lo : Int} {n : Nat} : SrcJ T M0 H0 (.lst (rng lo n)) (Itr lo n) := by
  intro M H ah s q i
  have len : (rng lo n).length = n := by simp [rng]
  refine ⟨fun d hd => ?_, fun hn => ?_⟩
  · have hd := nxt_lst hd
    have hi : i < n := by have := (List.getElem?_eq_some_iff.mp hd).1; rwa [len] at this
    refine ⟨hi, fun x H' y => ?_⟩
    obtain ⟨rfl, rfl⟩ := y
    refine ⟨M, Step.refl _ _, q, ?_⟩
    have e : d = .int (lo + i) := by
      unfold rng at hd
      rw [List.getElem?_map, List.getElem?_range hi] at hd
      exact (Option.some.inj hd).symm
    rw [e, Rep]
  · have := List.getElem?_eq_none_iff.mp (nxt_lst hn)
    rw [len] at this
    exact this
theorem rng1_read {σ : L2.St} {H : Hp} {R : It → Hp → Prop} (h : tI W (tb X G) (iR1 a) σ H R) : iRng1 (tCons (tE W (tb X G) a) tNil) σ H R := by
  obtain ⟨M, e, ah, S, P⟩ := h
  refine ⟨M, e, ah, S, P.bindI fun d M1 ah1 H1 s1 q1 P1 v hv => ?_⟩
  cases d with
  | int j =>
    obtain ⟨hz, P1⟩ := Post.chk P1
    obtain ⟨z1, z2⟩ := (inI_iff _).mp hz
    exact ⟨j, by rw [rep_int hv], z1, z2, Post.here P1 q1 _ srcJ_rng⟩
  | _ => exact P1.elim
theorem i_rng1 {tg : Expr} {x : Str} {p : Pos} (hx : x = "range") (hg : Gl X x) (hm : X.mg x = none) (ha : SE X G W ea a) (hs : starEach [ea] X.env = [(false, eval ea X.env)] := by rfl) (hs' : starEach [ea] X.env = (false, eval ea X.env) :: starEach [] X.env := by rfl) : SI X G W tg (.Call (.Name x p) [ea] [] pos) (iR1 a) := by
  subst hx
  exact PI.imp (pi_range1 hg hm (pa_cons ha pa_nil hs') hs) fun σ H R h => rng1_read h
/-! ### for, while -/
theorem for_read {it : AI} {g : AG} {s : AS} {D : Ends} {σ : L2.St} {H : Hp} {vs : List Nat} (h : tS W (tb X G) (sFor it g s) D σ H) : tFor (tI W (tb X G) it) (tG (tb X G) vs g) (tS W (tb X G) s) D σ H := by
  obtain ⟨M, e, ah, S, P⟩ := h
  refine ⟨M, e, ah, S, upI S P fun sr M1 ah1 H1 s1 q1 P1 J hJ => ?_⟩
  refine ⟨fun i m σ' H' => ∃ M' e' ah', Sta (tb X G) M' e' ah' σ' H' ∧ Step M1 H1 M' H' ∧ Post (tb X G) W0 M' H' (EndsAt W (tb X G) D) (forN g s sr m i e' ah'), ⟨sr.fuel, M1, e, ah1, S.step s1 q1, Step.refl _ _, P1⟩, ?_⟩
  rintro i m σ' H' ⟨M', e', ah', S', st', P'⟩
  obtain ⟨go, stop⟩ := hJ M' H' ah' st' S'.h i
  cases m with
  | zero => exact P'.elim
  | succ m =>
    unfold forN at P'
    cases hn : nxt sr i ah' with
    | none => rw [hn] at P'; exact P'.elim
    | some o =>
      rw [hn] at P'
      cases o with
      | none => exact .inl ⟨stop hn, Post.here P' S'.h σ' S'⟩
      | some d =>
        obtain ⟨g0, yl⟩ := go d hn
        refine .inr ⟨g0, fun σ2 H2 => ∃ M2 e2 ah2, Sta (tb X G) M2 e2 ah2 σ2 H2 ∧ Step M1 H1 M2 H2 ∧ Post (tb X G) W0 M2 H2 (EndsAt W (tb X G) D) (forN g s sr m (i + 1) e2 ah2), fun σ2 H2 h2 => ⟨m, Nat.lt_succ_self m, h2⟩, fun x H3 hy => ?_⟩
        obtain ⟨M3, s3, q3, r3⟩ := yl x H3 hy
        have P' : Post (tb X G) W0 M' H' (EndsAt W (tb X G) D) ((g d e' ah').bind fun e1 h1 => (s e1 h1).bind fun f h2 => turn f h2 (forN g s sr m (i + 1))) := P'
        refine ⟨M3, e', ah', d, S'.step s3 q3, r3, Post.bindI (P'.step s3) fun e4 M4 ah4 H4 s4 q4 P4 σ4 S4 _ => ?_⟩
        refine ⟨M4, e4, ah4, S4, Post.bindI P4 fun f M5 ah5 H5 s5 q5 P5 => ?_⟩
        have tot := ((st'.trans s3).trans s4).trans s5
        cases f with
        | nx e5 => exact fun σ5 S5 => ⟨M5, e5, ah5, S5, tot, P5⟩
        | ct e5 => exact fun σ5 S5 => ⟨M5, e5, ah5, S5, tot, P5⟩
        | bk e5 => exact fun σ5 S5 => Post.here (W := W0) P5 q5 σ5 S5
        | rt d5 => exact Post.here (W := W0) P5 q5
        | ex x5 e5 => exact Post.here (W := W0) P5 q5
theorem z_for {iter tg : Expr} {body : List Stmt} {it : AI} {g : AG} {s : AS} {vs : List Nat} (hp : PassesOwn (model X.prog X.w) X.A X.env X.xe) (hc : X.calm = true) (hi : SI X G W tg iter it) (hg : SG X G vs tg g) (hb : SSs X G W body s)
    (hs : ∀ x, foldedSetIterable iter X.env x = pure x := by intro _; rfl) : SS X G W (.For tg iter body [] pos) (sFor it g s) :=
  PS.imp (ps_for hp hc hi hg hb hs) fun D σ H h => for_read h
theorem z_while {et : Expr} {body : List Stmt} {t : AB} {s : AS} (hp : PassesOwn (model X.prog X.w) X.A X.env X.xe) (ht : SB X G W et t) (hb : SSs X G W body s) : SS X G W (.While et body [] pos) (sWhile t s) :=
  PS.imp (ps_while hp ht hb) fun D σ H h => by
    obtain ⟨M, e, ah, S, P⟩ := h
    refine ⟨fun m σ' H' => ∃ M' e' ah', Sta (tb X G) M' e' ah' σ' H' ∧ Post (tb X G) W0 M' H' (EndsAt W (tb X G) D) (whileN t s m e' ah'), ⟨_, M, e, ah, S, P⟩, ?_⟩
    rintro m σ' H' ⟨M', e', ah', S', P'⟩
    cases m with
    | zero => exact ⟨M', e', ah', S', P'.elim⟩
    | succ m =>
      unfold whileN at P'
      refine ⟨M', e', ah', S', upI S' P' fun k M1 ah1 H1 s1 q1 P1 => ?_⟩
      cases k with
      | false =>
        rw [if_neg Bool.false_ne_true]
        exact Post.here (W := W0) P1 q1 σ' (S'.step s1 q1)
      | true =>
        rw [if_pos rfl]
        refine ⟨fun σ2 H2 => ∃ M2 e2 ah2, Sta (tb X G) M2 e2 ah2 σ2 H2 ∧ Post (tb X G) W0 M2 H2 (EndsAt W (tb X G) D) (whileN t s m e2 ah2), fun σ2 H2 h2 => ⟨m, Nat.lt_succ_self m, h2⟩, ?_⟩
        have P1 : Post (tb X G) W0 M1 H1 (EndsAt W (tb X G) D) ((s e' ah1).bind fun f h2 => turn f h2 (whileN t s m)) := P1
        refine ⟨M1, e', ah1, S'.step s1 q1, Post.bindI P1 fun f M5 ah5 H5 s5 q5 P5 => ?_⟩
        cases f with
        | nx e5 => exact fun σ5 S5 => ⟨M5, e5, ah5, S5, P5⟩
        | ct e5 => exact fun σ5 S5 => ⟨M5, e5, ah5, S5, P5⟩
        | bk e5 => exact fun σ5 S5 => Post.here (W := W0) P5 q5 σ5 S5
        | rt d5 => exact Post.here (W := W0) P5 q5
        | ex x5 e5 => exact Post.here (W := W0) P5 q5
end
end Sm
end

section
set_option Elab.async false
set_option linter.all false
set_option maxRecDepth 100000
set_option maxHeartbeats 1000000
namespace Sm
open PySem PySem.Spec PyProof.Rows L2
/-! ### comprehensions -/
abbrev WF : WX := fun _ _ _ _ => False
section
variable {α β : Type} {T : Tb} {W : XK} {M M' : Mp} {H H' : Hp}
theorem Post.nox {P : β → Mp → AH → Hp → Prop} {f : α → AH → R β} : ∀ {r : R α}, Post T W M H P (r.nox.bind f) → ∃ a ah, r = .ok a ah ∧ Post T W M H P (f a ah)
  | .ok a ah, h => ⟨a, ah, rfl, h⟩
  | .exc _ _, h => h.elim
  | .no, h => h.elim
theorem Post.ofOk {P : α → Mp → AH → Hp → Prop} {r : R α} {a : α} {ah : AH} (e : r = .ok a ah) (h : ∀ M' H', Step M H M' H' → RelH T M' ah H' → P a M' ah H') : Post T W M H P r := by
  rw [e]; exact h
theorem Sta.mono {e : Env} {ah : AH} {σ : L2.St} (S : Sta T M e ah σ H) (s : Mono M M' H H') (q : RelH T M' ah H') : Sta T M' e ah σ H' :=
  ⟨q, S.len, fun i d g => let ⟨v, a, b⟩ := S.slot i d g; ⟨v, a, b.mono s⟩, fun p hp => ⟨(S.gh p hp).1, (S.gh p hp).2.mono s⟩⟩
theorem wipeE_len (e : Env) : ∀ vs : List Nat, (wipeE e vs).length = e.length
  | [] => rfl
  | v :: vs => by rw [wipeE, List.length_set, wipeE_len e vs]
theorem Sta.wipe {e : Env} {ah : AH} {σ : L2.St} (hg : T.g = none) (S : Sta T M e ah σ H) : ∀ vs : List Nat, Sta T M (wipeE e vs) ah (L2.wipe σ vs) H
  | [] => S
  | v :: vs => by
    have S' := Sta.wipe hg S vs
    refine ⟨S'.h, by rw [wipeE_len, wipe_length, S.len], fun i d hd => ?_, fun p hp => by rw [hg] at hp; cases hp⟩
    rw [wipeE] at hd
    show ∃ x, ((L2.wipe σ vs).set v none)[i]? = some (some x) ∧ _
    by_cases hi : i = v
    · subst hi
      by_cases hl : i < (wipeE e vs).length
      · rw [List.getElem?_set_self hl] at hd; cases hd
      · rw [List.getElem?_eq_none (by simpa using hl)] at hd; cases hd
    · rw [List.getElem?_set_ne (Ne.symm hi)] at hd
      rw [List.getElem?_set_ne (Ne.symm hi)]
      exact S'.slot i d hd
end
theorem wipe_get (σ : L2.St) (i : Nat) : ∀ vs : List Nat, (L2.wipe σ vs)[i]? = if i ∈ vs ∧ i < σ.length then some none else σ[i]?
  | [] => by simp [L2.wipe]
  | v :: vs => by
    show ((L2.wipe σ vs).set v none)[i]? = _
    rw [List.getElem?_set, wipe_get σ i vs, wipe_length]
    by_cases h : v = i
    · subst h
      by_cases hl : v < σ.length
      · simp [hl]
      · simp [hl]
    · rw [if_neg h]
      by_cases hl : i ∈ vs
      · simp [hl]
      · simp [hl, Ne.symm h]
theorem wipe_wipe (σ : L2.St) (vs : List Nat) : L2.wipe (L2.wipe σ vs) vs = L2.wipe σ vs := by
  refine List.ext_getElem? fun i => ?_
  rw [wipe_get, wipe_get σ, wipe_length]
  by_cases h : i ∈ vs ∧ i < σ.length
  · rw [if_pos h, if_pos h]
  · rw [if_neg h]
theorem lc_read {T : Tb} (hg : T.g = none) {W : WX} {fz : Bool} {vs : List Nat} {it : AI} {g : AG} {t : AB} {a : AE} {σ : L2.St} {H : Hp} {Q : VK} (h : tE W T (eLC fz vs it g t a) σ H Q) :
    tLc (tI W T it) (tG T vs g) (tT WF T t) (tE WF T a) vs σ H Q := by
  obtain ⟨M, e, ah, S, P⟩ := h
  refine ⟨M, e, ah, S, P.bindI fun sr M1 ah1 H1 s1 q1 P1 J hJ p hp => ?_⟩
  have f1 := q1.offNew hp
  -- the new list: nothing leans on it
  let N1 : Mp := ⟨M1.m, M1.ex ++ [p]⟩
  have sN : Step M1 H1 N1 (upd H1 p (.lst [])) := ⟨⟨[], by simp [N1], by simp⟩, ⟨[p], rfl, by simpa using hp⟩, fun b o e _ => by rw [upd_ne (ne_of_none e hp)]; exact e, (step_new (M := M1) (.lst []) hp).there⟩
  have qN : RelH T N1 ah1 (upd H1 p (.lst [])) := by
    refine ⟨q1.len, q1.nd, fun b hb z => ?_, fun b hb => ?_, fun l b o e1 e2 => ?_⟩
    · rcases List.mem_append.mp z with z | z
      · exact q1.off b hb z
      · simp at z; exact f1.1 (z ▸ hb)
    · rcases List.mem_append.mp hb with z | z
      · exact (q1.exs b z).imp fun u e => ⟨sN.keep b u e.1 (fun y => q1.off b y z), e.2⟩
      · simp at z; subst z; exact ⟨_, upd_same, fun _ z => by cases z⟩
    · exact (q1.obj l b o e1 e2).step sN (upd_ne fun z => f1.1 (by rw [← z]; exact List.mem_of_getElem? e1))
  refine ⟨fun i m H' => ∃ M' ah' acc us, H' p = some (.lst us) ∧ Sta T M' (wipeE e vs) ah' (wipe σ vs) H' ∧ Step M1 H1 M' H' ∧ p ∈ M'.ex ∧ Reps T M' H' acc us ∧
    Post T (WE W σ) M1 H1 (fun d M' _ H' => ∀ v, Rep T M' H' d v → Q v H') ((lcN g t a (wipeE e vs) sr m i acc ah').bind fun ys h2 => mkL fz ys h2), ⟨sr.fuel, N1, ah1, [], [], upd_same, ((Sta.wipe hg (S.step s1 q1) vs).step sN qN), sN, (by simp [N1]), Reps.nil, P1⟩, ?_⟩
  rintro i m H' ⟨M', ah', acc, us, hD, S', st', pex, ra, P'⟩
  obtain ⟨go, stop⟩ := hJ M' H' ah' st' S'.h i
  cases m with
  | zero => exact P'.elim
  | succ m =>
    unfold lcN at P'
    cases hn : nxt sr i ah' with
    | none => rw [hn] at P'; exact P'.elim
    | some o =>
      rw [hn] at P'
      cases o with
      | none =>
        -- the end: the list is handed out
        refine .inl ⟨stop hn, ?_⟩
        have P' : Post T (WE W σ) M1 H1 (fun d M' _ H' => ∀ v, Rep T M' H' d v → Q v H') (mkL fz acc ah') := P'
        obtain ⟨r1, e1, k1⟩ := st'.pre
        obtain ⟨r2, e2, k2⟩ := st'.ex
        have pm : p ∉ M'.m := fun z => S'.h.off p z pex
        let r3 := r2.filter fun b => b ≠ p
        have r3r : ∀ b ∈ r3, b ∈ r2 := fun b hb => (List.mem_filter.mp hb).1
        have r3p : p ∉ r3 := fun z => by have := (List.mem_filter.mp z).2; simp at this
        have sub : ∀ b ∈ M1.ex ++ r3, b ∈ M'.ex := fun b hb => by
          rw [e2]
          rcases List.mem_append.mp hb with z | z
          · exact List.mem_append_left _ z
          · exact List.mem_append_right _ (r3r b z)
        have pno : p ∉ M1.ex ++ r3 := fun z => by
          rcases List.mem_append.mp z with z | z
          · exact f1.2 z
          · exact r3p z
        cases fz with
        | true =>
          let M2 : Mp := ⟨M'.m, M1.ex ++ r3⟩
          have mo : Mono M' M2 H' H' := ⟨fun _ _ h => h, fun b _ f _ => ⟨f.1, fun z => f.2 (sub b z)⟩, fun _ _ _ h => h⟩
          have s2 : Step M1 H1 M2 H' := ⟨⟨r1, e1, k1⟩, ⟨r3, rfl, fun b hb => k2 b (r3r b hb)⟩, st'.keep, st'.there⟩
          have q2 : RelH T M2 ah' H' := ⟨S'.h.len, S'.h.nd, fun b hb z => S'.h.off b hb (sub b z), fun b hb => S'.h.exs b (sub b hb), fun l b o h1 h2 => (S'.h.obj l b o h1 h2).mono mo rfl⟩
          refine P' M2 H' s2 q2 _ ?_
          rw [Rep]
          exact ⟨p, us, rfl, ⟨⟨pm, pno⟩, hD⟩, ra.mono mo⟩
        | false =>
          let M2 : Mp := ⟨M'.m ++ [p], M1.ex ++ r3⟩
          have mo : Mono M' M2 H' H' := ⟨fun l b h => by
            show (M'.m ++ [p])[l]? = some b
            rw [List.getElem?_append_left (List.getElem?_eq_some_iff.mp h).1]; exact h, fun b _ f _ => ⟨fun z => by
              rcases List.mem_append.mp z with z | z
              · exact f.1 z
              · simp at z; exact f.2 (z ▸ pex), fun z => f.2 (sub b z)⟩, fun _ _ _ h => h⟩
          have s2 : Step M1 H1 M2 H' := ⟨⟨r1 ++ [p], by show M'.m ++ [p] = _; rw [e1, List.append_assoc], fun b hb => by
            rcases List.mem_append.mp hb with z | z
            · exact k1 b z
            · simp at z; subst z; exact hp⟩, ⟨r3, rfl, fun b hb => k2 b (r3r b hb)⟩, st'.keep, st'.there⟩
          have q2 : RelH T M2 (ah' ++ [.lst acc]) H' := by
            refine ⟨by simp [M2, S'.h.len], ?_, fun b hb z => ?_, fun b hb => S'.h.exs b (sub b hb), fun l b o h1 h2 => ?_⟩
            · rw [List.nodup_append]
              exact ⟨S'.h.nd, by simp, fun x hx y hy => by simp at hy; subst hy; exact fun z => pm (z ▸ hx)⟩
            · rcases List.mem_append.mp hb with w | w
              · exact S'.h.off b w (sub b z)
              · simp at w; subst w
                exact pno z
            · by_cases hl : l < M'.m.length
              · rw [List.getElem?_append_left hl] at h1
                rw [List.getElem?_append_left (by rw [← S'.h.len]; exact hl)] at h2
                exact (S'.h.obj l b o h1 h2).mono mo rfl
              · have : l < (M'.m ++ [p]).length := (List.getElem?_eq_some_iff.mp h1).1
                have hl2 : l = M'.m.length := by simp at this; omega
                subst hl2
                rw [List.getElem?_append_right (Nat.le_refl _)] at h1
                rw [List.getElem?_append_right (by rw [S'.h.len]; exact Nat.le_refl _)] at h2
                simp [S'.h.len] at h1 h2
                subst h1 h2
                exact ⟨us, hD, ra.mono mo⟩
          refine P' M2 H' s2 q2 _ ?_
          rw [Rep]
          refine ⟨p, rfl, ?_⟩
          show (M'.m ++ [p])[ah'.length]? = some p
          rw [← S'.h.len]; simp
      | some d =>
        obtain ⟨g0, yl⟩ := go d hn
        refine .inr ⟨g0, fun H2 => ∃ M2 ah2 acc2 us2, H2 p = some (.lst us2) ∧ Sta T M2 (wipeE e vs) ah2 (wipe σ vs) H2 ∧ Step M1 H1 M2 H2 ∧ p ∈ M2.ex ∧ Reps T M2 H2 acc2 us2 ∧
          Post T (WE W σ) M1 H1 (fun d M' _ H' => ∀ v, Rep T M' H' d v → Q v H') ((lcN g t a (wipeE e vs) sr m (i + 1) acc2 ah2).bind fun ys h2 => mkL fz ys h2), fun H2 h2 => ⟨m, Nat.lt_succ_self m, h2⟩, fun x H3 hy => ?_⟩
        obtain ⟨M3, s3, q3, r3⟩ := yl x H3 hy
        have P' : Post T (WE W σ) M1 H1 (fun d M' _ H' => ∀ v, Rep T M' H' d v → Q v H') ((((g d (wipeE e vs) ah').nox.bind fun e1 h1 => (t e1 h1).nox.bind fun c h2 => if c then (a e1 h2).nox.bind fun y h3 => R.chk (decide (acc.length < big)) (lcN g t a (wipeE e vs) sr m (i + 1) (acc ++ [y]) h3) else lcN g t a (wipeE e vs) sr m (i + 1) acc h2)).bind fun ys h2 => mkL fz ys h2) := P'
        rw [bind_assoc] at P'
        obtain ⟨e4, ah4, eg, P'⟩ := P'.nox
        refine ⟨M3, _, ah', d, S'.step s3 q3, r3, Post.ofOk eg fun M4 H4 s4 q4 σ4 S4 w4 => ⟨w4.trans (wipe_wipe σ vs), ?_⟩⟩
        rw [bind_assoc] at P'
        obtain ⟨k, ah5, et, P'⟩ := P'.nox
        refine ⟨M4, e4, ah4, S4, Post.ofOk et fun M5 H5 s5 q5 => ?_⟩
        have pin := pex
        have keepD : ∀ {Ma Mb : Mp} {Ha Hb : Hp}, Step Ma Ha Mb Hb → p ∉ Ma.m → Ha p = some (.lst us) → Hb p = some (.lst us) := fun s z e => s.keep p _ e z
        have grow : ∀ {Ma Mb : Mp} {Ha Hb : Hp}, Step Ma Ha Mb Hb → p ∈ Ma.ex → p ∈ Mb.ex := fun s z => by
          obtain ⟨r, e, _⟩ := s.ex
          rw [e]; exact List.mem_append_left _ z
        have s345 := (s3.trans s4).trans s5
        have hD5 : H5 p = some (.lst us) := keepD s345 (fun z => S'.h.off p z pin) hD
        have S5 := S'.step s345 q5
        cases k with
        | false =>
          rw [if_neg Bool.false_ne_true] at P'
          exact iteF ⟨M5, ah5, acc, us, hD5, S5, st'.trans s345, grow s345 pin, ra.step s345, P'⟩
        | true =>
          rw [if_pos rfl] at P'
          rw [bind_assoc] at P'
          refine iteT ?_
          obtain ⟨y, ah6, ea, P'⟩ := P'.nox
          refine ⟨M5, e4, ah5, S4.step s5 q5, Post.ofOk ea fun M6 H6 s6 q6 v6 hv6 => ?_⟩
          have s3456 := s345.trans s6
          have hD6 : H6 p = some (.lst us) := keepD s3456 (fun z => S'.h.off p z pin) hD
          have pin6 : p ∈ M6.ex := grow s3456 pin
          have pm6 : p ∉ M6.m := fun z => q6.off p z pin6
          have P' : Post T (WE W σ) M1 H1 (fun d M' _ H' => ∀ v, Rep T M' H' d v → Q v H') ((R.chk (decide (acc.length < big)) (lcN g t a (wipeE e vs) sr m (i + 1) (acc ++ [y]) ah6)).bind fun ys h2 => mkL fz ys h2) := P'
          have hz : decide (acc.length < big) = true := by
            cases z : decide (acc.length < big) with
            | true => rfl
            | false => rw [z] at P'; exact P'.elim
          rw [hz] at P'
          refine ⟨us, hD6, by rw [← (ra.step s3456).length, ← big_eq]; exact of_decide_eq_true hz, M6, ah6, acc ++ [y], us ++ [v6], upd_same, ?_⟩
          have mo : Mono M6 M6 H6 (upd H6 p (.lst (us ++ [v6]))) := ⟨fun _ _ h => h, fun _ _ f _ => f, fun b o f h => by rw [upd_ne fun z => f.2 (by rw [z]; exact pin6)]; exact h⟩
          have q7 : RelH T M6 ah6 (upd H6 p (.lst (us ++ [v6]))) := ⟨q6.len, q6.nd, q6.off, fun b hb => by
            by_cases z : b = p
            · rw [z, upd_same]; exact ⟨_, rfl, fun _ y => by cases y⟩
            · rw [upd_ne z]; exact q6.exs b hb, fun l b o h1 h2 => (q6.obj l b o h1 h2).mono mo (upd_ne fun z => pm6 (by rw [← z]; exact List.mem_of_getElem? h1))⟩
          have s7 : Step M1 H1 M6 (upd H6 p (.lst (us ++ [v6]))) := by
            have s := st'.trans s3456
            refine ⟨s.pre, s.ex, fun b o h1 h2 => ?_, fun b hb => ?_⟩
            · rw [upd_ne (ne_of_none h1 hp)]; exact s.keep b o h1 h2
            · rw [upd_ne (fun z => hb (by rw [z]; exact hp))]; exact s.there b hb
          exact ⟨(S'.step s3456 q6).mono mo q7, s7, pin6, (ra.step s3456).app (Reps.cons hv6 Reps.nil) |>.mono mo, P'⟩
end Sm
end

section
set_option Elab.async false
set_option linter.all false
set_option maxRecDepth 100000
set_option maxHeartbeats 1000000
/-! SimG: promises of defs below which no repr is at work (a room that knows its guards). -/
namespace Sm
open PySem PySem.Spec PyProof.Rows L2
structure RoomG (k : Nat) (A : Around) : Prop where
  room : Room k A
  gd : A.guards = some []
section
variable {j k : Nat} {A : Around}
theorem RoomG.mono (r : RoomG k A) (h : j ≤ k) : RoomG j A := ⟨r.room.mono h, r.gd⟩
theorem RoomG.deeper (r : RoomG (k + 1) A) (v : PySem.Env) : RoomG k (A.deeper v) := ⟨r.room.deeper v, r.gd⟩
theorem RoomG.in1 (r : RoomG (k + 1) A) : RoomG k A.in1 := ⟨r.room.in1, r.gd⟩
theorem RoomG.units (r : RoomG k A) : A.units + 64 < cLine := r.room.units
theorem RoomG.units0 (r : RoomG k A) : A.units < cLine := r.room.units0
theorem RoomG.hd (r : RoomG k A) : A.handled = none := r.room.hd
theorem make_gd {C : Addr} {us : List Value} {kw : List (Str × Value)} : (A.under (.builtin "type.__call__" ⟨.ref C :: us, kw⟩)).guards = A.guards := by
  have h : (Code.builtin "type.__call__" ⟨.ref C :: us, kw⟩).guards = [] := by
    unfold Code.guards
    have : (Code.builtin "type.__call__" ⟨.ref C :: us, kw⟩).isGuard = false := by
      first | rfl | simp [Code.isGuard, guardIds] | decide
    rw [this]; rfl
  unfold Around.under
  dsimp only
  rw [h]
  cases A.guards <;> rfl
theorem RoomG.make (r : RoomG (k + 1) A) (C : Addr) (us : List Value) (kw : List (Str × Value)) : RoomG k (A.under (.builtin "type.__call__" ⟨.ref C :: us, kw⟩)) := ⟨r.room.make C us kw, make_gd.trans r.gd⟩
end
/-- as FnOk, where no repr is at work -/
structure FnG (P : Program) (w : World) (K : PySem.W.Frag) (mg : Str → Option Value) (base : Heap) (CX : CXT) (k : Nat) (f : Addr) (fd : FuncData) (ps : List Str) (sp : Sp) : Prop where
  len : ∀ vs H Q E, sp vs H Q E → vs.length = ps.length
  run : ∀ (B : Around) (out : List PySem.Env) (s : Shared) (H : Hp) (ar : Args) (us : List Value) (vs : List V) (Q : VK) (E : XK), RoomG k B → Env0 P w K mg base B out s H → BindsTo s fd ar (ps.zip us) → Vals vs us → sp vs H Q E →
    codeAny (model P w) B (.call (.ref f) ar) (CR CX out P w H s Q E) s
section
variable {P : Program} {w : World} {K : PySem.W.Frag} {mg : Str → Option Value} {base : Heap} {CX : CXT} {j k : Nat} {f : Addr} {fd : FuncData} {ps : List Str} {sp sp2 : Sp}
theorem FnG.of (F : FnOk P w K mg base CX k f fd ps sp) : FnG P w K mg base CX k f fd ps sp := ⟨F.len, fun B out s H ar us vs Q E r => F.run B out s H ar us vs Q E r.room⟩
theorem FnG.mono (F : FnG P w K mg base CX j f fd ps sp) (h : j ≤ k) : FnG P w K mg base CX k f fd ps sp := ⟨F.len, fun B out s H ar us vs Q E r => F.run B out s H ar us vs Q E (r.mono h)⟩
theorem FnG.imp (F : FnG P w K mg base CX k f fd ps sp) (h : ∀ vs H Q E, sp2 vs H Q E → sp vs H Q E) : FnG P w K mg base CX k f fd ps sp2 :=
  ⟨fun vs H Q E z => F.len vs H Q E (h _ _ _ _ z), fun B out s H ar us vs Q E r e b v z => F.run B out s H ar us vs Q E r e b v (h _ _ _ _ z)⟩
/-- a def by its body -/
theorem fng_of {nm ql : Str} {pr : Arguments} {bd : List Stmt} {sc : Scope} {dV kV doc pm cdv ct oc : Value} {an od : Option Addr} {osl : Array (Option Value)} {N : List Str}
    (lk : K.lookup f = some ⟨oc, od, .func (PySem.W.fnOf nm ql pr bd sc dV kV doc pm an cdv ct), osl⟩) (hcd : PySem.W.codeIn K cdv ql = true) (S : FnScope N ps sc) (len : ∀ vs H Q E, sp vs H Q E → vs.length = ps.length)
    (hb : ∀ (B : Around) (out : List PySem.Env) (s : Shared) (H : Hp) (vs : List V) (Q : VK) (E : XK), RoomG k (B.deeper (envOfC ql sc s.heap.objs.size f cdv)) → sp vs H Q E →
      ∃ t, PSs (cxOf CX P w K mg base N ql sc f cdv B out s H E) bd t ∧ t { nx := fun _ H2 => Q .non H2, rt := Q } (start N vs) H) :
    FnG P w K mg base CX (k + 1) f (PySem.W.fnOf nm ql pr bd sc dV kV doc pm an cdv ct) ps sp := by
  refine ⟨len, fun B out s H ar us vs Q E r e0 bt rv z => ?_⟩
  have hlen := len _ _ _ _ z
  have inK : K.In s.heap := e0.mod.kin.keeps fun b o e => (e0.bs b o e).1
  have nolim : s.heap.NoLimit := e0.mod.nolimit.keeps fun b o e => (e0.bs b o e).1
  have kinds : ∀ y ∈ ps.zip us, sc.names.lookup y.1 = some .local ∨ (sc.names.lookup y.1 = some .cell ∧ ((cellsFrom (s.heap.objs.size + 1) sc.names []).lookup y.1).isSome = true) := by
    rintro ⟨n, v⟩ hy
    exact (S.par n (List.of_mem_zip hy).1).imp id fun q => ⟨q, PySem.W.cellsFrom_some _ _ _ (.inl q)⟩
  refine codeAny_call_function r.room.depth (inK _ _ lk) rfl S.co S.gen rfl (PySem.W.codeRec_of inK hcd) (bt _ _ _ _ ?_)
  refine wpAny_newFunctionEnv_cells S.kind kinds fun en hen s1 x => ?_
  subst hen
  refine ⟨nolim.keeps x.toInCall.keep, codeAny_func ?_⟩
  obtain ⟨t, tb, tq⟩ := hb B out s H vs Q E (r.deeper _) z
  have I := inv_start (CX := CX) (P := P) (w := w) (E := E) S r.room.hd e0 hlen rv x
  have ends : ∀ {σ2 : L2.St} {H2 : Hp} {v : V} {u : Value} {s2 : Shared}, Inv (cxOf CX P w K mg base N ql sc f cdv B out s H E) [] σ2 H2 s2 → RelV v u → Q v H2 → CE out P w H s Q u s2 :=
    fun J a b => ⟨_, _, J.os, J.bare, J.base, J.hok, a, b⟩
  refine wpAny_mono (tb.run [] s1 (start N vs) H _ I tq) (fun fl s2 h2 => ?_) fun _ _ h2 => h2
  cases fl with
  | brk => exact h2.elim fun _ h3 => h3.elim fun _ h4 => h4.2.elim
  | cont => exact h2.elim fun _ h3 => h3.elim fun _ h4 => h4.2.elim
  | next => exact h2.elim fun _ h3 => h3.elim fun _ h4 => ends (v := V.non) (u := Value.none) h4.1 rfl h4.2
  | ret u => exact h2.elim fun _ h3 => h3.elim fun _ h4 => h4.elim fun _ h5 => ends h5.1 h5.2.1 h5.2.2
theorem okG {x ql : Str} {st : Stmt} {N : List Str} (F : Fun K x ql st f fd) (S : FnScope N ps (defScope st)) (len : ∀ vs H Q E, sp vs H Q E → vs.length = ps.length)
    (hb : ∀ (cdv : Value) (B : Around) (out : List PySem.Env) (s : Shared) (H : Hp) (vs : List V) (Q : VK) (E : XK), RoomG k (B.deeper (envOfC ql (defScope st) s.heap.objs.size f cdv)) → sp vs H Q E →
      ∃ t, PSs (cxOf CX P w K mg base N ql (defScope st) f cdv B out s H E) (defBody st) t ∧ t { nx := fun _ H2 => Q .non H2, rt := Q } (start N vs) H) : FnG P w K mg base CX (k + 1) f fd ps sp := by
  obtain ⟨oc, od, kV, doc, pm, an, cdv, ct, osl, rfl, lk, hcd⟩ := F.ex
  exact fng_of lk hcd S len fun B out s H vs Q E r z => hb cdv B out s H vs Q E r z
end
section
variable {X : Cx} {CX : CXT} {k : Nat} {f C : Addr} {fd : FuncData} {ps : List Str} {sp : Sp} {E : L2.St → XK} {x m : Str} {p pos : Pos} {e : Expr} {es : List Expr} {t : TA}
theorem run_fnG {pins : List (Addr × Obj)} {σ : L2.St} {H : Hp} {s : Shared} {Q : VK} {us : List Value} {vs : List V} (F : FnG X.prog X.w X.K X.mg X.base CX k f fd ps sp) (hr : RoomG k X.A) (hb : Binds X.K fd ps []) (hx : PassesAt CX X σ (E σ))
    (I : Inv X pins σ H s) (rv : Vals vs us) (z : sp vs H Q (E σ)) : wpAny (model X.prog X.w) X.A (call (.ref f) us) (EP X pins σ Q) X.xe s := by
  have hl : us.length = ps.length := rv.length.symm.trans (F.len _ _ _ _ z)
  have bb := hb s us I.kIn (by simpa using hl)
  rw [List.append_nil] at bb
  refine wpAny_call (codeAny_mono (F.run X.A X.stack s H ⟨us, []⟩ us vs Q (E σ) hr I.env0 bb rv z) fun r s2 h2 => ?_)
  match r, h2 with
  | .error e, h2 => exact hx pins H s e s2 I h2
  | .ok (.ret u), h2 => exact I.after h2
theorem pe_callG (F : FnG X.prog X.w X.K X.mg X.base CX k f fd ps sp) (hr : RoomG k X.A) (hg : Gl X x) (hm : X.mg x = some (.ref f)) (hk : PySem.W.keepIn X.K (.ref f) = true) (hb : Binds X.K fd ps []) (hx : ∀ σ, PassesAt CX X σ (E σ)) (ha : PA X (e :: es) t)
    (hdb : (x == ("__debug__" : Str)) = false := by decide) (he : starEach (e :: es) X.env = (false, eval e X.env) :: starEach es X.env := by rfl) (hpl : (backTo pos (starEach es X.env)).any (·.1) = false := by rfl) : PE X (.Call (.Name x p) (e :: es) [] pos) (tCallS sp E t) :=
  ⟨fun pins s σ H Q I z => wpAny_Call_Name_kw (ld_glob I hg hm (PySem.W.callWith_K (h₀ := X.base) I.ok.mod.kin hk (thn (ha.run pos pins s σ H _ I z) fun us s1 ⟨vs, H1, I1, r1, q1⟩ => ⟨I1.kIn, run_fnG F hr hb (hx σ) I1 r1 q1⟩) he hpl) hdb)⟩
end
end Sm
end

section
set_option Elab.async false
set_option linter.all false
set_option maxRecDepth 100000
set_option maxHeartbeats 1000000
/-! SimH: the law's own call. -/
namespace Sm
open PySem PySem.Spec PyProof.Rows L2
/-- only the script may be tracked -/
structure ScrH (K : PySem.W.Frag) (h : Heap) (a : Addr) (T : Hp) : Prop where
  one : ∀ b, T b ≠ none → b = a
  off : T a ≠ none → K.lookup a = none
section
variable {K : PySem.W.Frag} {h : Heap} {a : Addr} {T : Hp} {ar : Array Value} {n : Nat}
theorem ScrH.dict (s : ScrH K h a T) (ha : h.get? a = some { cls := .type "list", data := .seq ar n }) {b : Addr} {o : Obj} {es : Array DictEntry} {ep : Nat} (e : h.get? b = some o) (d : o.data = .dict es ep) : T b = none := by
  by_cases c : T b = none
  · exact c
  · have := s.one b c
    subst this
    rw [ha] at e
    cases e
    cases (show Data.seq ar n = Data.dict es ep from d)
theorem ScrH.ns (s : ScrH K h a T) (ha : h.get? a = some { cls := .type "list", data := .seq ar n }) {b : Addr} {m : Str → Option Value} : h.Ns b m → (hidT h T).Ns b m := by
  rintro ⟨o, es, ep, e, d, r⟩
  exact ⟨o, es, ep, hidT_get e (s.dict ha e d), d, r⟩
theorem ScrH.inK (s : ScrH K h a T) (ha : h.get? a = some { cls := .type "list", data := .seq ar n }) (KX : K.In h) : K.In (hidT h T) := by
  intro b o e
  refine hidT_get (KX b o e) ?_
  by_cases c : T b = none
  · exact c
  · have := s.one b c
    subst this
    rw [s.off c] at e
    cases e
end
section
variable {P : Program} {w : World} {K : PySem.W.Frag} {mg mb : Str → Option Value} {CX : CXT} {k : Nat} {fa a : Addr} {fd : FuncData} {x : Str} {sp : Sp} {s₁ : Shared} {vs : List Value} {ns : List Int}
theorem scr_run {T : Hp} (sc : ScrH K s₁.heap a T) (hO : Only T) (hS : SqL K T a (ns.map V.int)) (hT : HOk P w T s₁.heap) (KX : K.In s₁.heap) (hns : s₁.heap.Ns mainGlobals mg) (hb : s₁.heap.Ns builtinsNs mb) (hbb : ∀ y : Str, y ≠ "__name__" → mb y = bootBuiltins y) (hlim : s₁.heap.NoLimit) (hg : s₁.gens = #[])
    (ha : s₁.heap.get? a = some { cls := .type "list", data := .seq vs.toArray }) (hr : RoomG k callerA) (F : ∀ b : Heap, K.In b → b.Ns mainGlobals mg → FnG P w K mg b CX k fa fd [x] sp) (hbind : ∀ (s : Shared) (u : Value), BindsTo s fd ⟨[u], []⟩ [(x, u)])
    (hsp : sp [.ref a] T (fun v _ => v = .bl true) fun _ _ _ => False) (hCX : ∀ e s', CX [] T s₁ (fun _ _ _ => False) e s' → False) :
    codeAny (model P w) callerA (.call (.ref fa) ⟨[.ref a], []⟩) (fun r s' => r = .ok (.ret (.bool true)) ∧ OldK s₁.heap s'.heap ∧ s'.os = s₁.os ∧ AllBare s'.gens) s₁ := by
  have inK := sc.inK ha KX
  have nsK := sc.ns (m := mg) ha hns
  have nolim : (hidT s₁.heap T).NoLimit := hlim.elim fun mc q => ⟨mc, sc.ns ha q.1, q.2⟩
  have e0 : Env0 P w K mg (hidT s₁.heap T) callerA [] s₁ T := ⟨rfl, ⟨inK, nsK, ⟨mb, sc.ns ha hb, hbb⟩, nolim⟩, fun _ _ q => of_hidT q, Nat.le_of_eq (hidT_size _ _), trivial, fun _ q => absurd q List.not_mem_nil, hT, .of_eq hg⟩
  refine codeAny_mono ((F _ inK nsK).run callerA [] s₁ T ⟨[.ref a], []⟩ [.ref a] [.ref a] _ _ hr e0 (hbind s₁ (.ref a)) (.cons rfl .nil) hsp) fun r s' z => ?_
  match r, z with
  | .error e, z => exact (hCX e s' z).elim
  | .ok (.ret u), z =>
    obtain ⟨v, T2, os, bare, un, ok2, rv, q⟩ := z
    have q : v = .bl true := q
    subst q
    obtain rfl : u = Value.bool true := rv
    refine ⟨rfl, OldK.of_keep fun b o e => ?_, os, bare⟩
    rcases hO b with n0 | ⟨ob, xs, n0⟩
    · exact un.keep b o e n0 (fun q => absurd q List.not_mem_nil) (by simp)
    · have e1 := (hT b _ n0).1
      rw [e] at e1
      cases e1
      exact (ok2 b _ (un.frzs b _ _ n0)).1
theorem law_callG (KX : K.In s₁.heap) (hns : s₁.heap.Ns mainGlobals mg) (hb : s₁.heap.Ns builtinsNs mb) (hbb : ∀ y : Str, y ≠ "__name__" → mb y = bootBuiltins y) (hlim : s₁.heap.NoLimit) (hg : s₁.gens = #[])
    (ha : s₁.heap.get? a = some { cls := .type "list", data := .seq vs.toArray }) (hi : IntsAre vs ns) (hl : ns.length ≤ sizeLine) (hr : RoomG k callerA) (F : ∀ b : Heap, K.In b → b.Ns mainGlobals mg → FnG P w K mg b CX k fa fd [x] sp) (hbind : ∀ (s : Shared) (u : Value), BindsTo s fd ⟨[u], []⟩ [(x, u)])
    (hsp : ∀ T : Hp, Only T → SqL K T a (ns.map V.int) → sp [.ref a] T (fun v _ => v = .bl true) fun _ _ _ => False) (hCX : ∀ T e s', CX [] T s₁ (fun _ _ _ => False) e s' → False) :
    codeAny (model P w) callerA (.call (.ref fa) ⟨[.ref a], []⟩) (fun r s' => r = .ok (.ret (.bool true)) ∧ OldK s₁.heap s'.heap ∧ s'.os = s₁.os ∧ AllBare s'.gens) s₁ := by
  have rv := vals_ints hi
  cases hk : K.lookup a with
  | some o =>
    have e := KX a o hk
    rw [ha] at e
    cases e
    have hS : SqL K (fun _ => none) a (ns.map V.int) := .inr ⟨_, vs.toArray, _, hk, rfl, rfl, rfl, by rw [List.size_toArray, hi.length]; exact hl, by simpa using rv⟩
    have hO : Only fun _ => none := fun _ => .inl rfl
    exact scr_run ⟨fun b z => absurd rfl z, fun z => absurd rfl z⟩ hO hS (fun b u z => nomatch (show (none : Option HO) = some u from z)) KX hns hb hbb hlim hg ha hr F hbind (hsp _ hO hS) (hCX _)
  | none =>
    let T : Hp := fun b => if b = a then some (.frz { cls := .type "list", data := .seq vs.toArray } (.lst (ns.map V.int))) else none
    have t1 : T a = some (.frz { cls := .type "list", data := .seq vs.toArray } (.lst (ns.map V.int))) := if_pos rfl
    have t2 : ∀ b, b ≠ a → T b = none := fun b h => if_neg h
    have hS : SqL K T a (ns.map V.int) := .inl (.inr ⟨_, t1⟩)
    have hO : Only T := fun b => by
      by_cases c : b = a
      · subst c; exact .inr ⟨_, _, t1⟩
      · exact .inl (t2 b c)
    have one : ∀ b, T b ≠ none → b = a := fun b z => Classical.byContradiction fun c => z (t2 b c)
    refine scr_run ⟨one, fun _ => hk⟩ hO hS (fun b u z => ?_) KX hns hb hbb hlim hg ha hr F hbind (hsp _ hO hS) (hCX _)
    have := one b (by rw [z]; simp)
    subst this
    rw [t1] at z
    cases z
    exact ⟨ha, by rw [List.length_map]; exact hl, vs, _, rv, ha⟩
end
/-- the head's goal, from the law's promise -/
theorem walkG {l : PySem.W.OpenLaw} {n k : Nat} {q : Program} {loose : List Str} {XP : (Str → Option Value) → Heap → Prop} {YP : World → Heap → Prop} {d : DefRec} {K : Params → PySem.W.Frag} {CX : World → CXT} {sp : World → Sp} {x : Str} (hn : l.most = some n) (hn2 : n ≤ sizeLine) (hdf : d.params.defaults = [])
    (hr : RoomG k callerA) (hY : ∀ (w : World) (h : Heap), YP w h → (K w.params).In h)
    (F : ∀ (w : World) (mg : Str → Option Value) (fa : Addr) (h : Heap), (K w.params).In h → h.Ns mainGlobals mg → mg d.name = some (.ref fa) → ∃ fd : FuncData, (∀ (s : Shared) (u : Value), BindsTo s fd ⟨[u], []⟩ [(x, u)]) ∧ ∀ b : Heap, (K w.params).In b → b.Ns mainGlobals mg → FnG l.prog w (K w.params) mg b (CX w) k fa fd [x] (sp w))
    (hsp : ∀ (w : World) (T : Hp) (a : Addr) (ns : List Int), ns.length ≤ n → Only T → SqL (K w.params) T a (ns.map V.int) → sp w [.ref a] T (fun v _ => v = .bl true) fun _ _ _ => False) (hCX : ∀ (w : World) (T : Hp) (s : Shared) (e : Value) (s' : Shared), CX w [] T s (fun _ _ _ => False) e s' → False) :
    PySem.W.WalkO q loose XP YP l.row.toRowW d [] (fun f vs => PySem.call f vs) := by
  refine Att.attach_call hn hdf fun w s0 s1 mg mb fa o pm cd doc a vs ns G Y ho hd hcd hmg hobj hints hlen hg => ?_
  obtain ⟨fd, bd, hF⟩ := F w mg fa _ (hY w _ Y) G.T.g hmg
  exact law_callG (hY w _ Y) G.T.g G.T.b G.T.builtins G.T.nolimit hg hobj hints (Nat.le_trans hlen hn2) hr hF bd (fun T a1 a2 => hsp w T a ns hlen a1 a2) fun T e s' => hCX w T s1 e s'
end Sm
end

section
set_option Elab.async false
set_option linter.all false
set_option maxRecDepth 100000
set_option maxHeartbeats 1000000
namespace Sm
open PySem PySem.Spec PyProof.Rows L2
/-! ### defs -/
section
variable {T : Tb} {M M1 : Mp} {H H1 : Hp}
mutual
theorem rep_clo : ∀ {d : D} {v : V}, Rep T M H d v → clo M.m.length d = true
  | .non, _, _ => rfl
  | .bl _, _, _ => rfl
  | .int _, _, _ => rfl
  | .str _, _, _ => rfl
  | .ty _, _, _ => rfl
  | .tup ds, v, h => by rw [Rep] at h; obtain ⟨a, vs, e, f, r⟩ := h; rw [clo]; exact reps_clo r
  | .lst ds, v, h => by rw [Rep] at h; obtain ⟨a, vs, e, f, r⟩ := h; rw [clo]; exact reps_clo r
  | .scr ds, v, h => by rw [Rep] at h; obtain ⟨a, vs, e, f, r⟩ := h; rw [clo]; exact reps_clo r
  | .dic _ ds, v, h => by rw [Rep] at h; obtain ⟨a, vs, e, f, g, g2, r⟩ := h; rw [clo]; exact reps_clo r
  | .ins _ _ ds, v, h => by rw [Rep] at h; obtain ⟨a, C, dx, vs, e, f, g, g2, g3, r⟩ := h; rw [clo]; exact reps_clo r
  | .loc l, v, h => by rw [Rep] at h; obtain ⟨a, e, f⟩ := h; rw [clo]; exact decide_eq_true (List.getElem?_eq_some_iff.mp f).1
theorem reps_clo : ∀ {ds : List D} {vs : List V}, Reps T M H ds vs → clos M.m.length ds = true
  | [], _, _ => rfl
  | d :: ds, vs, h => by rw [Reps] at h; obtain ⟨x, xs, e, r, rs⟩ := h; rw [clos, rep_clo r, reps_clo rs]; rfl
end
theorem repO_clo {a : Addr} {o : AO} (h : RepO T M H a o) : cloO M.m.length o = true := by
  cases o with
  | lst ds => obtain ⟨vs, _, r⟩ := h; exact reps_clo r
  | dic ks ds => obtain ⟨vs, _, _, r⟩ := h; exact reps_clo r
  | dicT ks ds => obtain ⟨vs, _, _, r⟩ := h; exact reps_clo r
  | ins c ns ds => obtain ⟨_, _, vs, _, _, _, r⟩ := h; exact reps_clo r
  | set xs => rfl
/-- fewer objects are tracked -/
structure Less (N M : Mp) : Prop where
  m : ∃ r, M.m = N.m ++ r
  ex : N.ex = M.ex
theorem Less.off {N M : Mp} (s : Less N M) {a : Addr} (h : Off M a) : Off N a := by
  obtain ⟨r, e⟩ := s.m
  exact ⟨fun z => h.1 (by rw [e]; exact List.mem_append_left _ z), by rw [s.ex]; exact h.2⟩
theorem Less.fs {N : Mp} (s : Less N M) {K : PySem.W.Frag} {a : Addr} {xs : List V} (h : FS K M H a xs) : FS K N H a xs := h.elim (fun h => .inl ⟨s.off h.1, h.2⟩) .inr
theorem Less.ft {N : Mp} (s : Less N M) {K : PySem.W.Frag} {a : Addr} {xs : List V} (h : FT K M H a xs) : FT K N H a xs := ⟨s.off h.1, h.2⟩
mutual
theorem rep_less {N : Mp} (s : Less N M) : ∀ {d : D} {v : V}, clo N.m.length d = true → Rep T M H d v → Rep T N H d v
  | .non, _, _, h => by rw [Rep] at h ⊢; exact h
  | .bl _, _, _, h => by rw [Rep] at h ⊢; exact h
  | .int _, _, _, h => by rw [Rep] at h ⊢; exact h
  | .str _, _, _, h => by rw [Rep] at h ⊢; exact h
  | .ty _, _, _, h => by rw [Rep] at h ⊢; exact h
  | .tup ds, v, c, h => by
    rw [Rep] at h ⊢; rw [clo] at c
    obtain ⟨a, vs, e, f, r⟩ := h; exact ⟨a, vs, e, s.ft f, reps_less s c r⟩
  | .lst ds, v, c, h => by
    rw [Rep] at h ⊢; rw [clo] at c
    obtain ⟨a, vs, e, f, r⟩ := h; exact ⟨a, vs, e, ⟨s.off f.1, f.2⟩, reps_less s c r⟩
  | .scr ds, v, c, h => by
    rw [Rep] at h ⊢; rw [clo] at c
    obtain ⟨a, vs, e, f, r⟩ := h; exact ⟨a, vs, e, s.fs f, reps_less s c r⟩
  | .dic _ ds, v, c, h => by
    rw [Rep] at h ⊢; rw [clo] at c
    obtain ⟨a, vs, e, f, g, g2, r⟩ := h; exact ⟨a, vs, e, s.off f, g, g2, reps_less s c r⟩
  | .ins _ _ ds, v, c, h => by
    rw [Rep] at h ⊢; rw [clo] at c
    obtain ⟨a, C, dx, vs, e, f, g, g2, g3, r⟩ := h; exact ⟨a, C, dx, vs, e, s.off f, g, g2, g3, reps_less s c r⟩
  | .loc l, v, c, h => by
    rw [Rep] at h ⊢; rw [clo] at c
    obtain ⟨a, e, f⟩ := h
    obtain ⟨r, e2⟩ := s.m
    rw [e2, List.getElem?_append_left (of_decide_eq_true c)] at f
    exact ⟨a, e, f⟩
theorem reps_less {N : Mp} (s : Less N M) : ∀ {ds : List D} {vs : List V}, clos N.m.length ds = true → Reps T M H ds vs → Reps T N H ds vs
  | [], _, _, h => by rw [Reps] at h ⊢; exact h
  | d :: ds, vs, c, h => by
    rw [Reps] at h ⊢; rw [clos, Bool.and_eq_true] at c
    obtain ⟨x, xs, e, r, rs⟩ := h; exact ⟨x, xs, e, rep_less s c.1 r, reps_less s c.2 rs⟩
end
theorem repO_less {N : Mp} (s : Less N M) {a : Addr} {o : AO} (c : cloO N.m.length o = true) (h : RepO T M H a o) : RepO T N H a o := by
  cases o with
  | lst ds => obtain ⟨vs, e, r⟩ := h; exact ⟨vs, e, reps_less s c r⟩
  | dic ks ds => obtain ⟨vs, e, e2, r⟩ := h; exact ⟨vs, e, e2, reps_less s c r⟩
  | dicT ks ds => obtain ⟨vs, e, e2, r⟩ := h; exact ⟨vs, e, e2, reps_less s c r⟩
  | ins c ns ds => obtain ⟨C, dx, vs, e, e1, e2, r⟩ := h; exact ⟨C, dx, vs, e, e1, e2, reps_less s c r⟩
  | set xs => exact h
/-- a def's end: what was made meanwhile is no longer tracked -/
theorem trim_less {ah ah1 : AH} (q : RelH T M ah H) (s : Step M H M1 H1) (q1 : RelH T M1 ah1 H1) (hp : pre ah.length ah ah1 = true) :
    ∃ N, Less N M1 ∧ N.m = M.m ∧ Step M H N H1 ∧ RelH T N (ah1.take ah.length) H1 := by
  obtain ⟨r, e, f⟩ := s.pre
  have L : Less ⟨M.m, M1.ex⟩ M1 := ⟨⟨r, e⟩, rfl⟩
  have hl : ah.length ≤ ah1.length := by rw [← q.len, ← q1.len, e, List.length_append]; exact Nat.le_add_right _ _
  refine ⟨_, L, rfl, ⟨⟨[], by simp, by simp⟩, s.ex, s.keep, s.there⟩, ?_, ?_, ?_, q1.exs, ?_⟩
  · show M.m.length = _
    rw [List.length_take, q.len]; exact (Nat.min_eq_left hl).symm
  · exact q.nd
  · exact fun a ha => q1.off a (by rw [e]; exact List.mem_append_left _ ha)
  · intro l a o h1 h2
    have hlt : l < M.m.length := (List.getElem?_eq_some_iff.mp h1).1
    have hlt2 : l < ah.length := by rw [← q.len]; exact hlt
    rw [List.getElem?_take, if_pos hlt2] at h2
    have g : RepO T M1 H1 a o := q1.obj l a o (by rw [e, List.getElem?_append_left hlt]; exact h1) h2
    refine repO_less L ?_ g
    show cloO M.m.length o = true
    have z := List.all_eq_true.mp hp l (List.mem_range.mpr hlt2)
    rw [Bool.or_eq_true] at z
    rcases z with z | z
    · exact repO_clo (q.obj l a o h1 ((of_decide_eq_true z).symm.trans h2))
    · rw [h2] at z; rw [q.len]; exact z
theorem reps_mapO {N : Mp} {f : D → Option D} (ih : ∀ {d d' : D} {v : V}, Rep T M1 H1 d v → f d = some d' → Rep T N H1 d' v) : ∀ {ds ds' : List D} {vs : List V}, Reps T M1 H1 ds vs → mapO f ds = some ds' → Reps T N H1 ds' vs
  | [], ds', vs, r, h => by cases h; rw [Reps] at r ⊢; exact r
  | d :: ds, ds', vs, r, h => by
    unfold mapO at h
    cases hd : f d with
    | none => rw [hd] at h; cases h
    | some e =>
      rw [hd] at h
      cases hs : mapO f ds with
      | none => rw [hs] at h; cases h
      | some es =>
        rw [hs] at h
        cases h
        rw [Reps] at r ⊢
        obtain ⟨x, xs, e1, r1, r2⟩ := r
        exact ⟨x, xs, e1, ih r1 hd, reps_mapO ih r2 hs⟩
theorem mapO_len {f : D → Option D} : ∀ {ds es : List D}, mapO f ds = some es → es.length = ds.length
  | [], es, h => by cases h; rfl
  | d :: ds, es, h => by
    unfold mapO at h
    cases hd : f d with
    | none => rw [hd] at h; cases h
    | some e =>
      rw [hd] at h
      cases hs : mapO f ds with
      | none => rw [hs] at h; cases h
      | some gs => rw [hs] at h; cases h; simp [mapO_len hs]
theorem loc_off {N : Mp} {ah1 : AH} {l : Nat} {a : Addr} (L : Less N M1) (q1 : RelH T M1 ah1 H1) (g : M1.m[l]? = some a) (c : ¬ l < N.m.length) : Off N a := by
  obtain ⟨r2, e2⟩ := L.m
  have nin : a ∉ N.m := fun z => by
    obtain ⟨j, hj⟩ := List.mem_iff_getElem?.mp z
    have hjl := (List.getElem?_eq_some_iff.mp hj).1
    have hj2 : M1.m[j]? = some a := by rw [e2, List.getElem?_append_left hjl]; exact hj
    have hl1 := (List.getElem?_eq_some_iff.mp g).1
    have hlj := (List.getElem?_eq_some_iff.mp hj2).1
    have : l = j := (List.getElem?_inj hl1 q1.nd).mp (g.trans hj2.symm)
    omega
  exact ⟨nin, by rw [L.ex]; exact q1.off a (List.mem_of_getElem? g)⟩
theorem frzD_rep {N : Mp} {ah1 : AH} (L : Less N M1) (q1 : RelH T M1 ah1 H1) : ∀ (k : Nat) {d d' : D} {v : V}, Rep T M1 H1 d v → frzD ah1 N.m.length k d = some d' → Rep T N H1 d' v := by
  intro k
  induction k with
  | zero =>
    intro d d' v r h
    have h : (if clo N.m.length d then some d else none) = some d' := h
    by_cases c : clo N.m.length d = true
    · rw [if_pos c] at h; cases h; exact rep_less L c r
    · rw [if_neg c] at h; cases h
  | succ k ih =>
    intro d d' v r h
    unfold frzD at h
    by_cases c : clo N.m.length d = true
    · rw [if_pos c] at h; cases h; exact rep_less L c r
    · rw [if_neg c] at h
      cases d with
      | loc l =>
        have c2 : ¬ l < N.m.length := fun z => c (by rw [clo]; exact decide_eq_true z)
        rw [Rep] at r
        obtain ⟨a, e, g⟩ := r
        have off := loc_off L q1 g c2
        dsimp only at h
        cases ho : ah1[l]? with
        | none => rw [ho] at h; cases h
        | some o =>
          rw [ho] at h
          have R := q1.obj l a o g ho
          cases o with
          | lst xs =>
            dsimp only at h
            cases hm : mapO (frzD ah1 N.m.length k) xs with
            | none => rw [hm] at h; cases h
            | some ys =>
              rw [hm] at h; cases h
              obtain ⟨vs, e3, rs⟩ := R
              rw [Rep]
              exact ⟨a, vs, e, ⟨off, e3⟩, reps_mapO (fun r h => ih r h) rs hm⟩
          | ins c ns ds =>
            dsimp only at h
            cases hm : mapO (frzD ah1 N.m.length k) ds with
            | none => rw [hm] at h; cases h
            | some ys =>
              rw [hm] at h; cases h
              obtain ⟨C, dx, vs, e3, e4, e5, rs⟩ := R
              rw [Rep]
              exact ⟨a, C, dx, vs, e, off, e3, e4, e5.trans (mapO_len hm).symm, reps_mapO (fun r h => ih r h) rs hm⟩
          | dic ks ds => cases h
          | dicT ks ds => cases h
          | set xs => cases h
      | tup xs =>
        dsimp only at h
        cases hm : mapO (frzD ah1 N.m.length k) xs with
        | none => rw [hm] at h; cases h
        | some ys =>
          rw [hm] at h; cases h
          rw [Rep] at r ⊢
          obtain ⟨a, vs, e, f, rs⟩ := r
          exact ⟨a, vs, e, L.ft f, reps_mapO (fun r h => ih r h) rs hm⟩
      | lst xs =>
        dsimp only at h
        cases hm : mapO (frzD ah1 N.m.length k) xs with
        | none => rw [hm] at h; cases h
        | some ys =>
          rw [hm] at h; cases h
          rw [Rep] at r ⊢
          obtain ⟨a, vs, e, f, rs⟩ := r
          exact ⟨a, vs, e, ⟨L.off f.1, f.2⟩, reps_mapO (fun r h => ih r h) rs hm⟩
      | _ => cases h
theorem frz_rep {N : Mp} {ah1 : AH} {d d' : D} {v : V} (L : Less N M1) (q1 : RelH T M1 ah1 H1) (r : Rep T M1 H1 d v) (h : frz N.m.length ah1 d = some d') : Rep T N H1 d' v := by
  have old : ∀ {d : D}, (if clo N.m.length d then some d else frzD ah1 N.m.length 8 d) = some d' → Rep T M1 H1 d v → Rep T N H1 d' v := fun {d} h r => by
    by_cases c : clo N.m.length d = true
    · rw [if_pos c] at h; cases h; exact rep_less L c r
    · rw [if_neg c] at h; exact frzD_rep L q1 8 r h
  cases d with
  | loc l =>
    have h : (if l < N.m.length then some (D.loc l) else match ah1[l]? with
      | some (AO.lst xs) => if clos N.m.length xs then some (D.lst xs) else frzD ah1 N.m.length 8 (.loc l)
      | some (AO.ins c ns ds) => if clos N.m.length ds then some (D.ins c ns ds) else frzD ah1 N.m.length 8 (.loc l)
      | _ => none) = some d' := h
    by_cases c : l < N.m.length
    · rw [if_pos c] at h; cases h
      exact rep_less L (by rw [clo]; exact decide_eq_true c) r
    · rw [if_neg c] at h
      have r0 := r
      rw [Rep] at r
      obtain ⟨a, e, g⟩ := r
      obtain ⟨r2, e2⟩ := L.m
      have nin : a ∉ N.m := fun z => by
        obtain ⟨j, hj⟩ := List.mem_iff_getElem?.mp z
        have hjl := (List.getElem?_eq_some_iff.mp hj).1
        have hj2 : M1.m[j]? = some a := by rw [e2, List.getElem?_append_left hjl]; exact hj
        have hl1 := (List.getElem?_eq_some_iff.mp g).1
        have hlj := (List.getElem?_eq_some_iff.mp hj2).1
        have : l = j := (List.getElem?_inj hl1 q1.nd).mp (g.trans hj2.symm)
        omega
      have off : Off N a := ⟨nin, by rw [L.ex]; exact q1.off a (List.mem_of_getElem? g)⟩
      cases ho : ah1[l]? with
      | none => rw [ho] at h; cases h
      | some o =>
        rw [ho] at h
        have R := q1.obj l a o g ho
        cases o with
        | lst xs =>
          have h : (if clos N.m.length xs then some (D.lst xs) else frzD ah1 N.m.length 8 (.loc l)) = some d' := h
          by_cases c2 : clos N.m.length xs = true
          · rw [if_pos c2] at h; cases h
            obtain ⟨vs, e3, rs⟩ := R
            rw [Rep]
            exact ⟨a, vs, e, ⟨off, e3⟩, reps_less L c2 rs⟩
          · rw [if_neg c2] at h; exact frzD_rep L q1 8 r0 h
        | ins c ns ds =>
          have h : (if clos N.m.length ds then some (D.ins c ns ds) else frzD ah1 N.m.length 8 (.loc l)) = some d' := h
          by_cases c2 : clos N.m.length ds = true
          · rw [if_pos c2] at h; cases h
            obtain ⟨C, dx, vs, e3, e4, e5, rs⟩ := R
            rw [Rep]
            exact ⟨a, C, dx, vs, e, off, e3, e4, e5, reps_less L c2 rs⟩
          · rw [if_neg c2] at h; exact frzD_rep L q1 8 r0 h
        | dic ks ds => cases h
        | dicT ks ds => cases h
        | set xs => cases h
  | non => exact old (d := D.non) h r
  | bl x => exact old (d := D.bl x) h r
  | int x => exact old (d := D.int x) h r
  | str x => exact old (d := D.str x) h r
  | tup x => exact old (d := D.tup x) h r
  | lst x => exact old (d := D.lst x) h r
  | scr x => exact old (d := D.scr x) h r
  | dic x y => exact old (d := D.dic x y) h r
  | ins x y z => exact old (d := D.ins x y z) h r
  | ty x => exact old (d := D.ty x) h r
abbrev VP (T : Tb) (Q : VK) : D → Mp → AH → Hp → Prop := fun d M' _ H' => ∀ v, Rep T M' H' d v → Q v H'
theorem trim_post {E : XK} {Q : VK} {ah : AH} {r : R D} (q : RelH T M ah H) (P : Post T E M H (VP T Q) (trim ah r)) : Post T E M H (VP T Q) r := by
  cases r with
  | no => exact P
  | ok d ah1 =>
    intro M1 H1 s q1 v hv
    unfold trim at P
    dsimp only at P
    cases hf : frz ah.length ah1 d with
    | none => rw [hf] at P; exact P.elim
    | some d' =>
      rw [hf] at P
      obtain ⟨hp, P⟩ := Post.chk P
      obtain ⟨N, L, e, s2, q2⟩ := trim_less q s q1 hp
      exact P N H1 s2 q2 v (frz_rep L q1 hv (by rw [e, q.len]; exact hf))
  | exc x ah1 =>
    intro M1 H1 u dx s q1 hx
    unfold trim at P
    dsimp only at P
    obtain ⟨hp, P⟩ := Post.chk P
    rw [Bool.and_eq_true] at hp
    obtain ⟨N, L, e, s2, q2⟩ := trim_less q s q1 hp.2
    refine P N H1 u dx s2 q2 ⟨hx.1, hx.2.1, ?_⟩
    have z := hx.2.2
    cases dx with
    | none => exact z
    | some d =>
      obtain ⟨vs, g1, g2, g3⟩ := z
      exact ⟨vs, L.off g1, g2, reps_less L (by rw [e, q.len]; exact hp.1) g3⟩
/-- what a def promises -/
def spF (T : Tb) (n : Nat) (F : AF) : Sp := fun vs H Q E => vs.length = n ∧ ∃ M ah ds, RelH T M ah H ∧ Reps T M H ds vs ∧ Post T E M H (VP T Q) (F ds ah)
theorem sta_start {ah : AH} {N : List Str} {ds : List D} {vs : List V} (hg : T.g = none) (q : RelH T M ah H) (r : Reps T M H ds vs) : Sta T M (envOf N.length ds) ah (L2.start N vs) H := by
  refine ⟨q, by simp [envOf, L2.start, r.length], fun i d h => ?_, fun p hp => by rw [hg] at hp; cases hp⟩
  unfold envOf at h
  by_cases hi : i < ds.length
  · rw [List.getElem?_append_left (by simpa using hi), List.getElem?_map] at h
    cases z : ds[i]? with
    | none => rw [z] at h; cases h
    | some x =>
      rw [z] at h; simp at h; subst h
      obtain ⟨v, e, rv⟩ := r.get z
      refine ⟨v, ?_, rv⟩
      unfold L2.start
      rw [List.getElem?_append_left (by rw [List.length_map, ← r.length]; exact hi), List.getElem?_map, e]; rfl
  · rw [List.getElem?_append_right (by simpa using hi)] at h
    obtain ⟨z1, z2⟩ := List.getElem?_eq_some_iff.mp h
    rw [List.getElem_replicate] at z2; cases z2
theorem ends_of {E : XK} {Q : VK} {r : R Fl} (P : Post T E M H (VP T Q) (fnR r)) : Post T W0 M H (EndsAt (fun c d _ H => E c d H) T { nx := fun _ H' => Q .non H', rt := Q }) r := by
  cases r with
  | no => exact P
  | exc x h => exact P.elim
  | ok f h =>
    intro M' H' s q
    cases f with
    | nx e => exact fun σ' S' => P M' H' s q _ mk_non
    | rt d => exact fun v hv => P M' H' s q v hv
    | bk e => exact P.elim
    | ct e => exact P.elim
    | ex x e => exact fun σ' u dx S' hx => P M' H' u dx s q hx
end
section
variable {P : Program} {w : World} {K : PySem.W.Frag} {mg : Str → Option Value} {base : Heap}
abbrev bodyX (P : Program) (w : World) (K : PySem.W.Frag) (mg : Str → Option Value) (base : Heap) (N : List Str) (qual : Str) (st : Stmt) (f : Addr) (cdv : Value) (A : Around) (outer : List PySem.Env) (s : Shared) (H : Hp) (E : XK) : Cx := cxOf (L2N.CX P w) P w K mg base N qual (defScope st) f cdv A outer s H E
abbrev WB (E : XK) : WX := fun c d _ H => E c d H
theorem takesB {N : List Str} {qual : Str} {st : Stmt} {f : Addr} {cdv : Value} {A : Around} {outer : List PySem.Env} {s : Shared} {H : Hp} {E : XK} : L2N.Takes (bodyX P w K mg base N qual st f cdv A outer s H E) (WB E) := L2N.takes_of rfl rfl rfl rfl
theorem passB {N : List Str} {qual : Str} {st : Stmt} {f : Addr} {cdv : Value} {A : Around} {outer : List PySem.Env} {s : Shared} {H : Hp} {E : XK} : PassesOwn (model P w) (bodyX P w K mg base N qual st f cdv A outer s H E).A (bodyX P w K mg base N qual st f cdv A outer s H E).env (bodyX P w K mg base N qual st f cdv A outer s H E).xe := passes_of (X := bodyX P w K mg base N qual st f cdv A outer s H E) rfl
/-- a def, the objects it makes kept -/
theorem fn_okK {x qual : Str} {st : Stmt} {f : Addr} {fd : FuncData} {N ps : List Str} {k : Nat} {b : AS} (F : Fun K x qual st f fd) (S : FnScope N ps (defScope st))
    (hb : ∀ cdv A outer s H E, RoomG k (bodyX P w K mg base N qual st f cdv A outer s H E).A → SSs (bodyX P w K mg base N qual st f cdv A outer s H E) none (WB E) (defBody st) b) :
    FnG P w K mg base (L2N.CX P w) (k + 1) f fd ps (spF ⟨K, mg, none, w⟩ ps.length (fnK ps.length N.length b)) :=
  okG F S (fun vs H Q E h => h.1) fun cdv A outer s H vs Q E hr ⟨hl, M, ah, ds, q, r, P⟩ => ⟨_, hb cdv A outer s H E hr, M, _, ah, sta_start rfl q r, ends_of (Post.chk P).2⟩
theorem fn_okT {x qual : Str} {st : Stmt} {f : Addr} {fd : FuncData} {N ps : List Str} {k : Nat} {b : AS} (F : Fun K x qual st f fd) (S : FnScope N ps (defScope st))
    (hb : ∀ cdv A outer s H E, RoomG k (bodyX P w K mg base N qual st f cdv A outer s H E).A → SSs (bodyX P w K mg base N qual st f cdv A outer s H E) none (WB E) (defBody st) b) :
    FnG P w K mg base (L2N.CX P w) (k + 1) f fd ps (spF ⟨K, mg, none, w⟩ ps.length (fnT ps.length N.length b)) :=
  okG F S (fun vs H Q E h => h.1) fun cdv A outer s H vs Q E hr ⟨hl, M, ah, ds, q, r, P⟩ => ⟨_, hb cdv A outer s H E hr, M, _, ah, sta_start rfl q r, ends_of (trim_post q (Post.chk P).2)⟩
/-- a def no call of which is answered -/
theorem fn_no {f : Addr} {fd : FuncData} {ps : List Str} {k n : Nat} {G : AF} {CX : CXT} {T : Tb} (h : ∀ ds h, G ds h = .no) : FnG P w K mg base CX k f fd ps (spF T n G) :=
  ⟨fun vs H Q E ⟨_, M, ah, ds, _, _, P⟩ => by rw [h] at P; exact P.elim, fun _ _ _ _ _ _ _ _ _ _ _ _ _ ⟨_, M, ah, ds, _, _, P⟩ => by rw [h] at P; exact P.elim⟩
end
theorem fnK_len {p n : Nat} {b : AS} : ∀ ds h, ds.length ≠ p → fnK p n b ds h = .no := fun ds h e => by unfold fnK; rw [decide_eq_false e]; rfl
theorem fnT_len {p n : Nat} {b : AS} : ∀ ds h, ds.length ≠ p → fnT p n b ds h = .no := fun ds h e => by unfold fnT; rw [decide_eq_false e]; rfl
section
variable {X : Cx} {G : Gh} {W : WX} {pos : Pos} {ea eb ec : Expr} {a b c : AE}
/-- f(..) by position, every parameter given -/
theorem s_call {k n : Nat} {f : Addr} {fd : FuncData} {ps : List Str} {G : AF} {x : Str} {p : Pos} {e : Expr} {es : List Expr} {as : AA} (F : FnG X.prog X.w X.K X.mg X.base (L2N.CX X.prog X.w) k f fd ps (spF (tb X none) n G)) (hG : ∀ ds h, ds.length ≠ n → G ds h = .no)
    (hr : RoomG k X.A) (hg : Gl X x) (hm : X.mg x = some (.ref f)) (hk : PySem.W.keepIn X.K (.ref f) = true) (hb : Binds X.K fd ps []) (tk : L2N.Takes X W) (ha : SA X none W (e :: es) as)
    (hdb : (x == ("__debug__" : Str)) = false := by decide) (he : starEach (e :: es) X.env = (false, eval e X.env) :: starEach es X.env := by rfl) (hpl : (backTo pos (starEach es X.env)).any (·.1) = false := by rfl) : SE X none W (.Call (.Name x p) (e :: es) [] pos) (eA G as) :=
  PE.imp (pe_callG F hr hg hm hk hb (L2N.passAt tk) ha hdb he hpl) fun σ H Q h => by
    obtain ⟨M, e, ah, S, P⟩ := h
    refine ⟨M, e, ah, S, P.bindI fun ds M1 ah1 H1 s1 q1 P1 vs hv => ?_⟩
    refine ⟨?_, M1, ah1, ds, q1, hv, P1⟩
    by_cases z : ds.length = n
    · rw [← hv.length]; exact z
    · rw [hG ds ah1 z] at P1; exact P1.elim
/-- [a for g in it if t] -/
theorem s_lc {fz : Bool} {elt tg iter : Expr} {ifs : List Expr} {scope : Scope} {own : List (Str × Nat)} {it : AI} {g : AG} {t : AB} (hc : X.calm = true) (hN : X.N.Nodup) (hi : SI X none W tg iter it) (ok : blkC X.N X.env.scope scope own = true)
    (hg : ∀ (s : Shared) (H : Hp) (C : Addr) (cl : List (Str × Addr)) (fp : List Addr), SG (X.blk s H scope (compEnvC scope cl C X.env) fp) none (own.map (·.2)) tg g) (ht : ∀ (s : Shared) (H : Hp) (C : Addr) (cl : List (Str × Addr)) (fp : List Addr), PTs (X.blk s H scope (compEnvC scope cl C X.env) fp) ifs (tT WF (tb X none) t))
    (he : ∀ (s : Shared) (H : Hp) (C : Addr) (cl : List (Str × Addr)) (fp : List Addr), SE (X.blk s H scope (compEnvC scope cl C X.env) fp) none WF elt a) (hs : ∀ x, foldedSetIterable iter X.env x = pure x := by intro _; rfl) :
    SE X none W (.ListComp elt [⟨tg, iter, ifs, 0⟩] scope pos) (eLC fz (own.map (·.2)) it g t a) :=
  PE.imp (pe_lc hc hN hi (blkOk_by ok) hg ht he hs) fun σ H Q h => lc_read rfl h
/-- name = [..] -/
theorem z_setLc {fz : Bool} {i : Nat} {y : Str} {py spos : Pos} {elt tg iter : Expr} {ifs : List Expr} {scope : Scope} {own : List (Str × Nat)} {it : AI} {g : AG} {t : AB} (hc : X.calm = true) (hN : X.N.Nodup) (hy : X.N[i]? = some y) (hyl : X.env.scope.names.lookup y = some .local)
    (hk : X.env.scope.kind = .function) (hl : (py.line == pos.line) = true) (hn : (scope.names.any fun (n, k) => n == y && (k == .local || k == .cell)) = false) (hi : SI X none W tg iter it) (ok : blkC X.N X.env.scope scope own = true)
    (hg : ∀ (s : Shared) (H : Hp) (C : Addr) (cl : List (Str × Addr)) (fp : List Addr), SG (X.blk s H scope (compEnvC scope cl C X.env) fp) none (own.map (·.2)) tg g) (ht : ∀ (s : Shared) (H : Hp) (C : Addr) (cl : List (Str × Addr)) (fp : List Addr), PTs (X.blk s H scope (compEnvC scope cl C X.env) fp) ifs (tT WF (tb X none) t))
    (he : ∀ (s : Shared) (H : Hp) (C : Addr) (cl : List (Str × Addr)) (fp : List Addr), SE (X.blk s H scope (compEnvC scope cl C X.env) fp) none WF elt a) (hs : ∀ x, foldedSetIterable iter X.env x = pure x := by intro _; rfl) :
    SS X none W (.Assign [.Name y py] (.ListComp elt [⟨tg, iter, ifs, 0⟩] scope pos) spos) (sSet i (eLC fz (own.map (·.2)) it g t a)) :=
  PS.imp (ps_setLc hc hN hy hyl (sw_true hk hyl hl hn) hi (blkOk_by ok) hg ht he hs) fun D σ H h => by
    obtain ⟨M, e, ah, S, P⟩ := h
    refine lc_read rfl (fz := fz) ⟨M, e, ah, S, upI S P fun d M1 ah1 H1 s1 q1 P1 v hv => ?_⟩
    exact Post.here P1 q1 _ ((S.step s1 q1).set hv i ng_none)
theorem ts_nil {T : Tb} : PTs X [] (tT WF T tYes) := ⟨fun pins s σ H Q I h => pts_nil.run pins s σ H Q I (by obtain ⟨M, e, ah, S, P⟩ := h; exact Post.here P S.h)⟩
theorem ts_one {t : AB} (h : SB X G WF ea t) : PTs X [ea] (tT WF (tb X G) t) := pts_one h
end
end Sm
end

section
set_option Elab.async false
set_option linter.all false
set_option maxRecDepth 100000
set_option maxHeartbeats 1000000
/-! Sim11: list.index; dicts with ints and texts as keys. -/
namespace Sm
open PySem PySem.Spec PyProof.Rows L2
section
variable {T : Tb} {M M1 M' : Mp} {ah ah1 ah' : AH} {H H1 H' : Hp} {p : Addr}
/-! ### pairs -/
theorem kOf_inj {a b : K1} (h : kOf a = kOf b) : a = b := by
  cases a <;> cases b <;> simp [kOf] at h
  · rw [h]
  · rw [ts_inj h]
/-- a dict's pairs, the keys told by kf -/
inductive KVG {κ κ' : Type} (kf : κ → κ') (T : Tb) (M : Mp) (H : Hp) : List (κ × D) → List (κ' × V) → Prop
  | nil : KVG kf T M H [] []
  | cons {k : κ} {d : D} {v : V} {r : List (κ × D)} {s : List (κ' × V)} (h : Rep T M H d v) (t : KVG kf T M H r s) : KVG kf T M H ((k, d) :: r) ((kf k, v) :: s)
abbrev KVR (T : Tb) (M : Mp) (H : Hp) : List (K1 × D) → List (Key × V) → Prop := KVG kOf T M H
section
variable {κ κ' : Type} {kf : κ → κ'}
theorem KVG.mono (s : Mono M M' H H') {r : List (κ × D)} {u : List (κ' × V)} (h : KVG kf T M H r u) : KVG kf T M' H' r u := by
  induction h with
  | nil => exact .nil
  | cons h t ih => exact .cons (h.mono s) ih
theorem KVG.app {r r2 : List (κ × D)} {u u2 : List (κ' × V)} (h : KVG kf T M H r u) (h2 : KVG kf T M H r2 u2) : KVG kf T M H (r ++ r2) (u ++ u2) := by
  induction h with
  | nil => exact h2
  | cons h t ih => exact .cons h ih
theorem KVG.len {r : List (κ × D)} {u : List (κ' × V)} (h : KVG kf T M H r u) : u.length = r.length := by
  induction h with
  | nil => rfl
  | cons h t ih => simp [ih]
theorem KVG.zip {ks : List κ} : ∀ {ds : List D} {vs : List V}, ks.length = ds.length → Reps T M H ds vs → KVG kf T M H (ks.zip ds) ((ks.map kf).zip vs) := by
  induction ks with
  | nil => exact fun _ _ => .nil
  | cons k ks ih =>
    intro ds vs hl r
    cases ds with
    | nil => cases hl
    | cons d ds =>
      rw [Reps] at r
      obtain ⟨v, vs, rfl, r1, r2⟩ := r
      exact .cons r1 (ih (by simpa using hl) r2)
theorem KVG.back {r : List (κ × D)} {u : List (κ' × V)} (h : KVG kf T M H r u) : ∃ vs, u = ((r.map (·.1)).map kf).zip vs ∧ Reps T M H (r.map (·.2)) vs := by
  induction h with
  | nil => exact ⟨[], rfl, Reps.nil⟩
  | cons h t ih =>
    obtain ⟨vs, e, r⟩ := ih
    exact ⟨_ :: vs, by rw [e]; rfl, Reps.cons h r⟩
variable [DecidableEq κ] [DecidableEq κ'] (inj : ∀ {a b : κ}, kf a = kf b → a = b)
include inj
theorem KVG.any {k : κ} {r : List (κ × D)} {u : List (κ' × V)} (h : KVG kf T M H r u) : (u.any fun kv => decide (kv.1 = kf k)) = r.any fun kv => decide (kv.1 = k) := by
  induction h with
  | nil => rfl
  | @cons k' d v r s h t ih =>
    rw [List.any_cons, List.any_cons, ih]
    congr 1
    exact decide_eq_decide.mpr ⟨inj, fun e => congrArg kf e⟩
theorem KVG.put {k : κ} {d : D} {v : V} {r : List (κ × D)} {u : List (κ' × V)} (h : KVG kf T M H r u) (hd : Rep T M H d v) : KVG kf T M H (putA r k d) (putK u (kf k) v) := by
  unfold putA putK
  rw [h.any inj]
  by_cases c : (r.any fun kv => decide (kv.1 = k)) = true
  · rw [if_pos c, if_pos c]
    clear c
    induction h with
    | nil => exact .nil
    | @cons k' d' v' r s h t ih =>
      rw [List.map_cons, List.map_cons]
      by_cases e : k' = k
      · subst e
        simp only [if_true]
        exact .cons hd ih
      · have e2 : ¬ kf k' = kf k := fun z => e (inj z)
        simp only [if_neg e, if_neg e2]
        exact .cons h ih
  · rw [if_neg c, if_neg c]
    exact h.app (.cons hd .nil)
theorem KVG.get {k : κ} {r : List (κ × D)} {u : List (κ' × V)} (h : KVG kf T M H r u) : match getA r k with
    | some d => ∃ v, valV u (kf k) = some v ∧ Rep T M H d v
    | none => valV u (kf k) = none := by
  induction h with
  | nil => rfl
  | @cons k' d v r s h t ih =>
    by_cases e : k' = k
    · subst e
      have : getA ((k', d) :: r) k' = some d := by simp [getA, List.find?_cons]
      rw [this]
      exact ⟨v, valV_pos rfl, h⟩
    · have e2 : ¬ kf k' = kf k := fun z => e (inj z)
      have e3 : getA ((k', d) :: r) k = getA r k := by simp [getA, List.find?_cons, e]
      have e4 : valV ((kf k', v) :: s) (kf k) = valV s (kf k) := valV_neg e2
      rw [e3, e4]; exact ih
end
theorem rep_key {x : D} {v : V} {k : K1} (r : Rep T M H x v) (h : kD x = some k) : v = kV (kOf k) := by
  cases x with
  | int i => cases h; exact rep_int r
  | str i => cases h; exact rep_str r
  | _ => cases h
end
section
variable {X : Cx} {G : Gh} {W : WX} {pos : Pos} {ea eb ec : Expr} {a b c : AE}
theorem Post.mkDic {T : Tb} {E : XK} {M : Mp} {ah : AH} {H : Hp} {Q : VK} : True := trivial
/-- the pairs of a display -/
def trsOf (W : WX) (T : Tb) (ps : List (AE × AE)) : List (TE × TE) := ps.map fun p => (tE W T p.1, tE W T p.2)
end
end Sm
end

section
set_option Elab.async false
set_option linter.all false
set_option maxRecDepth 100000
set_option maxHeartbeats 1000000
/-! Sim12: insert, reversed lists, max, min, sum, list(range(..)). -/
namespace Sm
open PySem PySem.Spec PyProof.Rows L2
theorem Reps.reverse {T : Tb} {M : Mp} {H : Hp} : ∀ {ds : List D} {vs : List V}, Reps T M H ds vs → Reps T M H ds.reverse vs.reverse
  | [], _, h => by rw [Reps] at h; subst h; exact Reps.nil
  | d :: ds, vs, h => by
    rw [Reps] at h
    obtain ⟨x, xs, rfl, f, k⟩ := h
    rw [List.reverse_cons, List.reverse_cons]
    exact (Reps.reverse k).app (Reps.cons f Reps.nil)
section
variable {X : Cx} {G : Gh} {W : WX} {pos : Pos} {ea eb ec : Expr} {a b c : AE}
section
variable {x y : Str} {p p' pos' : Pos}
end
end
end Sm
end

section
set_option Elab.async false
set_option linter.all false
set_option maxRecDepth 100000
set_option maxHeartbeats 3200000
namespace Sm
open PySem PySem.Spec PyProof.Rows L2
/-! ### set(xs) of a list of ints -/
section
variable {pr : Program} {wo : World} {Ar : Around} {Er : Value → Shared → Prop} {st : Shared}
/-- the set object as it is first laid -/
abbrev set0 (wo : World) : Obj := { cls := .type "set", dict := none, data := .set #[] 0 (.fresh 0 0 (!wo.params.followText "set-order")) }
theorem set_init_list {l : Addr} {its : Array Value} (ns : List Int) {R : Result → Shared → Prop} (hh : Ar.handled = none) (hl : st.heap.IsList l its) (hi : IntsAre its.toList ns) (hb : ns.length + 1 < scanBound)
    (k : ∀ (h' : Heap) (tk c : Nat), SetR wo h' st.heap.objs.size (fun j => decide (j ∈ ns)) c → c ≤ ns.length → (∀ b o, st.heap.get? b = some o → h'.get? b = some o) → R (.ok (.ret .none)) { st with heap := h', toks := tk }) :
    wpAny (model pr wo) Ar.in1 (Builtin.«set.__init__» ⟨[.ref st.heap.objs.size, .ref l], []⟩) (fun fin s' => match fin with | .done f => R (.ok f) s' | .again c' => c'.quiet = true ∧ codeAny (model pr wo) Ar c' R s') (fun e s' => R (.error e) s') { st with heap := st.heap.push (set0 wo) } := by
  have nsz : its.size = ns.length := by have q := IntsAre.length hi; rwa [Array.length_toList] at q
  obtain ⟨⟨c0, d0, dt, sl⟩, hol, hcl, nl, hdl⟩ := id hl
  simp only at hcl hdl
  subst hcl hdl
  have hS : (st.heap.push (set0 wo)).get? st.heap.objs.size = some (set0 wo) := Heap.get?_push_size _ rfl
  have hol1 : (st.heap.push (set0 wo)).get? l = some { cls := .type "list", dict := d0, data := .seq its nl, slots := sl } := Heap.get?_push_of_some _ hol
  have a1 := PySem.F.sub_list_set
  have a2 := PySem.F.sub_list_frozenset
  have a3 : (Value.type "list" == Value.type "dict") = false := by decide
  have hl1 : (st.heap.push (set0 wo)).IsList l its := ⟨_, hol1, rfl, nl, rfl⟩
  unfold Builtin.«set.__init__» noKeywords Builtin.Frozenset.updateFrom
  generalize hP : pyIter = PI
  wp_walk
  subst hP
  refine wpAny_pyIter_list hl1 (wpAny_bind (wpAny_runValue ?_))
  have lS : l < st.heap.objs.size := Heap.lt_size hol
  have nI : l ≠ (st.heap.push (set0 wo)).objs.size := by rw [Heap.size_push]; exact Nat.ne_of_lt (Nat.lt_succ_of_lt lS)
  have nS : st.heap.objs.size ∉ [(st.heap.push (set0 wo)).objs.size, l] := by
    rw [Heap.size_push]
    simp only [List.mem_cons, List.not_mem_nil, or_false, not_or]
    exact ⟨Nat.ne_of_lt (Nat.lt_succ_self _), Nat.ne_of_gt lS⟩
  have val : ∀ (i : Nat) (v : Value), its[i]? = some v → ∃ k t, ns[i]? = some k ∧ v = .int k t := fun i v hv => by
    have hi' : i < ns.length := by rw [← nsz]; exact (Array.getElem?_eq_some_iff.mp hv).1
    obtain ⟨t, e⟩ := IntsAre.int_at hi i v (by rw [Array.getElem?_toList]; exact hv)
    exact ⟨ns[i], t, List.getElem?_eq_getElem hi', by rw [e, List.getD_eq_getElem?_getD, List.getElem?_eq_getElem hi']; rfl⟩
  refine set_update_ints ((Walks.list (A := Ar.in1.in1) (by simp [hh]) _ l nI its).toS) st.heap.objs.size nS ns nsz hb val (its.size - 0) 0 _ (by omega) (Nat.zero_le _) ?at0 ?first fun s' c' hm hc' hS' => ?_
  case at0 => exact ⟨⟨_, Heap.get?_push_size _ rfl, rfl, rfl⟩, hl1.push _⟩
  case first =>
    have g : ((st.heap.push (set0 wo)).push { cls := .type "list_iterator", data := .fields #[.ref l, .int 0 0] }).get? st.heap.objs.size = some (set0 wo) := Heap.get?_push_of_some _ hS
    exact ⟨0, Nat.le_refl 0, setR_new_at g⟩
  obtain ⟨h', g2, d', tk', os'⟩ := s'
  have eg : g2 = st.gens := hm.gens
  have ed : d' = st.drawn := hm.drawn
  have eo : os' = st.os := hm.os
  subst eg ed eo
  rw [nsz] at hc'
  refine wpAny_pure (wpAny_pure (k h' tk' c' hS' hc' fun b o e => ?_))
  have b0 : b < st.heap.objs.size := Heap.lt_size e
  refine hm.heap b o ?_ (Heap.get?_push_of_some _ (Heap.get?_push_of_some _ e))
  simp only [List.mem_cons, List.not_mem_nil, or_false, not_or]
  exact ⟨Nat.ne_of_lt b0, by rw [Heap.size_push]; exact Nat.ne_of_lt (Nat.lt_succ_of_lt b0)⟩
theorem call_set_ints {l : Addr} {its : Array Value} (ns : List Int) {Q : Value → Shared → Prop} (hh : Ar.handled = none) (hl : st.heap.IsList l its) (hi : IntsAre its.toList ns) (hb : ns.length + 1 < scanBound)
    (k : ∀ (h' : Heap) (tk c : Nat), SetR wo h' st.heap.objs.size (fun j => decide (j ∈ ns)) c → c ≤ ns.length → (∀ b o, st.heap.get? b = some o → h'.get? b = some o) → Q (.ref st.heap.objs.size) { st with heap := h', toks := tk }) :
    wpAny (model pr wo) Ar (call (.type "set") [.ref l]) Q Er st := by
  obtain ⟨c, tl, hmro⟩ := PySem.F.called_set.mro
  have f0 := PySem.F.called_set.made
  have f1 := PySem.F.called_set.sub
  refine wpAny_call (codeAny_of_tree ?_)
  show wpAny _ _ (callAny (.type "set") _) _ _ _
  refine wpAny_pure ⟨Code.quiet_builtin _ (by decide +kernel), codeAny_builtin PySem.F.entry_type_call ?_⟩
  rw [Around.under_plain (weight_type_call_type "set" [.ref l] []) rfl]
  have f2 := PySem.F.called_set.notType
  have f3 := PySem.F.called_set.canCreate
  have f4 := PySem.F.typeCall_set_1 (.ref l)
  repeat (any_goals (first | assumption | wp_step))
  refine codeAny_mono (code_set_led1 (.ref l) (E := Er) (Q₁ := fun o t => o = .ref st.heap.objs.size ∧ t = { st with heap := st.heap.push (set0 wo) }) ⟨rfl, rfl⟩) fun r t hr => ?_
  cases r with
  | error e => exact hr
  | ok fl =>
    cases fl with
    | ret obj =>
      obtain ⟨rfl, rfl⟩ := hr
      have hT : Shared.TypeIs { st with heap := st.heap.push (set0 wo) } (.ref st.heap.objs.size) "set" := ⟨_, Heap.get?_push_size _ rfl, rfl⟩
      have g0 := PySem.F.called_set.init.lookup
      have g1 := PySem.F.called_set.init.bind (.ref st.heap.objs.size)
      repeat (any_goals (first | assumption | wp_step))
      refine codeAny_mono (codeAny_call_builtin (R := wants (fun r t => r = .none ∧ ∃ h' tk c, t = { st with heap := h', toks := tk } ∧ SetR wo h' st.heap.objs.size (fun j => decide (j ∈ ns)) c ∧ c ≤ ns.length ∧
          (∀ b o, st.heap.get? b = some o → h'.get? b = some o)) Er) PySem.F.called_set.init.plain PySem.F.entry_set_init (check_set_init_1 hT ?_)) fun r t hr => ?_
      · refine set_init_list ns ?_ hl hi hb ?_
        · simp [hh]
        · exact fun h' tk c p1 p2 p3 => ⟨rfl, h', tk, c, rfl, p1, p2, p3⟩
      cases r with
      | error e => exact hr
      | ok fl =>
        cases fl with
        | ret r =>
          obtain ⟨rfl, h', tk, c', rfl, p1, p2, p3⟩ := hr
          repeat (any_goals (first | assumption | wp_step))
          exact k _ _ _ p1 p2 p3
        | _ => exact hr.elim
    | _ => exact hr.elim
end
section
variable {X : Cx} {G : Gh} {W : WX} {ea eb ec : Expr} {a b c : AE} {pos : Pos}
theorem insU_mem (x z : Int) : ∀ ys, z ∈ insU x ys ↔ z = x ∨ z ∈ ys
  | [] => by simp [insU]
  | y :: ys => by
    rw [insU]
    split
    · simp
    · split
      · rename_i _ h; subst h; simp
      · have := insU_mem x z ys
        simp [this]
        constructor
        · rintro (h | h | h) <;> simp [h]
        · rintro (h | h | h) <;> simp [h]
theorem sortU_mem (z : Int) : ∀ xs, z ∈ sortU xs ↔ z ∈ xs
  | [] => by simp [sortU]
  | x :: xs => by rw [sortU, insU_mem, sortU_mem z xs]; simp
theorem insU_sorted (x : Int) : ∀ ys, ys.Pairwise (· < ·) → (insU x ys).Pairwise (· < ·)
  | [], _ => by simp [insU]
  | y :: ys, h => by
    rw [insU]
    rw [List.pairwise_cons] at h
    split
    · rename_i hxy
      refine List.pairwise_cons.mpr ⟨fun z hz => ?_, List.pairwise_cons.mpr h⟩
      rcases List.mem_cons.mp hz with rfl | hz
      · exact hxy
      · exact Int.lt_trans hxy (h.1 z hz)
    · split
      · exact List.pairwise_cons.mpr h
      · refine List.pairwise_cons.mpr ⟨fun z hz => ?_, insU_sorted x ys h.2⟩
        rcases (insU_mem x z ys).mp hz with rfl | hz
        · omega
        · exact h.1 z hz
theorem sortU_sorted : ∀ xs, (sortU xs).Pairwise (· < ·)
  | [] => by simp [sortU]
  | x :: xs => insU_sorted x _ (sortU_sorted xs)
theorem lt_unique : ∀ {xs ys : List Int}, xs.Pairwise (· < ·) → ys.Pairwise (· < ·) → (∀ z, z ∈ xs ↔ z ∈ ys) → xs = ys
  | [], [], _, _, _ => rfl
  | [], y :: ys, _, _, h => by have := (h y).mpr (by simp); simp at this
  | x :: xs, [], _, _, h => by have := (h x).mp (by simp); simp at this
  | x :: xs, y :: ys, h1, h2, h => by
    rw [List.pairwise_cons] at h1 h2
    have e : x = y := by
      rcases List.mem_cons.mp ((h x).mp (by simp)) with e | e
      · exact e
      · rcases List.mem_cons.mp ((h y).mpr (by simp)) with e' | e'
        · exact e'.symm
        · have := h2.1 x e
          have := h1.1 y e'
          omega
    subst e
    rw [lt_unique h1.2 h2.2 fun z => ?_]
    constructor
    · intro hz
      rcases List.mem_cons.mp ((h z).mp (by simp [hz])) with e | e
      · have := h1.1 z hz; omega
      · exact e
    · intro hz
      rcases List.mem_cons.mp ((h z).mpr (by simp [hz])) with e | e
      · have := h2.1 z hz; omega
      · exact e
theorem setR_len {wo : World} {h : Heap} {p : Addr} {ns : List Int} {c : Nat} (R : SetR wo h p (fun j => decide (j ∈ ns)) c) : c = (sortU ns).length := by
  obtain ⟨o, es, ep, t, ho, h1, h2, h3, h4, h5, h6, h7, h8, h9⟩ := R
  have nd : (sortU ns).Nodup := (sortU_sorted ns).imp fun h => by omega
  have pm : (es.toList.map keyOf).Perm (sortU ns) := (List.perm_ext_iff_of_nodup h4 nd).mpr fun k => by
    rw [sortU_mem, ← h5 k]
    simp
  have := pm.length_eq
  rw [List.length_map, Array.length_toList] at this
  omega
def rSetI (K : PySem.W.Frag) (w : World) : List V → Hp → VK → Prop := fun xs H Q => ∃ (a : Addr) (ns : List Int), xs = [.ref a] ∧ SqL K H a (ns.map V.int) ∧ ns.length + 1 < scanBound ∧ ∀ p, H p = none → Q (.ref p) (upd H p (SetO w p (fun j => decide (j ∈ ns)) (sortU ns).length))
theorem cr_setI (hc : X.calm = true) : CallR X (.type "set") (rSetI X.K X.w) := by
  intro pins s σ H xs us Q I r h
  obtain ⟨l, ns, rfl, hs, hb, q⟩ := h
  obtain ⟨u, rfl, ru⟩ := vals1 r
  cases ru
  obtain ⟨its, rv, pl, hz⟩ := I.list hs
  refine call_set_ints ns (I.ok.hd hc) pl.isList (by simpa using rv.ints) hb fun h' tk c R hc' kk => ?_
  have hn : H s.heap.objs.size = none := I.hok.fresh (Nat.le_refl _)
  have ec := setR_len R
  subst ec
  exact ⟨.ref _, _, I.laid kk (Nat.le_refl _) (setO_new R), rfl, q _ hn⟩
/-- sorted(set(xs)) -/
theorem s_sortedSet {fz : Bool} {x y : Str} {p p' pos' : Pos} (hx : x = "sorted") (hy : y = "set") (hc : X.calm = true) (hg : Gl X x) (hm : X.mg x = none) (hg' : Gl X y) (hm' : X.mg y = none) (ha : SE X G W ea a) (hs : starEach [ea] X.env = [(false, eval ea X.env)] := by rfl)
    (hs2 : starEach [(.Call (.Name y p') [ea] [] pos' : Expr)] X.env = [(false, eval (.Call (.Name y p') [ea] [] pos') X.env)] := by rfl) : SE X G W (.Call (.Name x p) [.Call (.Name y p') [ea] [] pos'] [] pos) (e1 (sortedSetD fz) a) := by
  subst hx hy
  have h1 : PE X (.Call (.Name "set" p') [ea] [] pos') _ := pe_callTy (cr_setI hc) hg' hm' (by decide +kernel) (pa_cons ha pa_nil (by rw [hs]; rfl)) (he := by rw [hs]; rfl)
  have h2 := pe_callB (pos := pos) (p := p) (cr_sortedSet hc) hg hm (by decide +kernel) (pa_cons h1 pa_nil (by rw [hs2]; rfl)) (he := by rw [hs2]; rfl)
  refine PE.imp h2 fun σ H Q h => ?_
  obtain ⟨M, e, ah, S, P⟩ := h
  refine ⟨M, e, ah, S, P.bindI fun dx M1 ah1 H1 s1 q1 P1 v hv => ?_⟩
  unfold sortedSetD at P1
  split at P1
  · rename_i xs hx
    split at P1
    · rename_i ns hn
      obtain ⟨hz, P1⟩ := P1.chk
      obtain ⟨z1, z2⟩ := of_decide_eq_true hz
      obtain ⟨l, vs, e1, f1, g1⟩ := rep_lst q1 hv hx
      obtain ⟨_, e2⟩ := g1.ints hn
      subst e1 e2
      refine ⟨l, ns, rfl, SqL.of f1, by unfold scanBound; omega, fun p2 hp2 => ?_⟩
      refine ⟨p2, _, _, rfl, upd_same, z2, fun ms r hr1 hr2 hr3 hr4 => ?_⟩
      have em : ms = sortU ns := lt_unique hr1 (sortU_sorted ns) fun z => by rw [hr2, sortU_mem]; simp
      subst em
      have st := step_new (M := M1) (SetO X.w p2 (fun j => decide (j ∈ ns)) (sortU ns).length) hp2
      exact (Post.step st P1).mkL (q1.new _ hp2) (Reps.ofInts _) r hr4
    · exact P1.elim
  · exact P1.elim
end
end Sm
end

section
set_option Elab.async false
set_option linter.all false
set_option maxRecDepth 100000
set_option maxHeartbeats 1000000
/-! SimZ: the rules as the printed derivations name them. -/
namespace Sm
open PySem PySem.Spec PyProof.Rows L2
section
variable {X : Cx} {G : Gh} {W : WX} {pos : Pos} {ea eb ec : Expr} {a b c : AE}
theorem sv (i : Nat) {x : Str} (hN : X.N[i]? = some x := by rfl) (hv : Vis X.env.scope x := by first | exact Or.inl rfl | exact Or.inr (Or.inl rfl) | exact Or.inr (Or.inr rfl)) (hd : (x == ("__debug__" : Str)) = false := by decide)
    (hcd : (x == ("__classdict__" : Str)) = false := by decide) : SE X G W (.Name x pos) (eV i) := s_var hN hv hd hcd
theorem gn (i : Nat) {x : Str} {vs : List Nat} (hN : X.N.Nodup) (hi : X.N[i]? = some x := by rfl) (hx : Loc X.env.scope x := by first | exact Or.inl rfl | exact Or.inr rfl) (hv : i ∈ vs := by decide) (hf : X.fn x = true ∨ X.env.scope.names.lookup x = some .local := by first | exact .inl rfl | exact .inr rfl)  (hj : NG G i := by first | exact ng_none | exact ng_some (by decide) | exact ng_some (by simp)) : SG X G vs (.Name x pos) (gV i) := g_name hN hi hx hv hf hj
theorem zs (i : Nat) {x : Str} {p : Pos} (hN : X.N.Nodup) (ha : SE X G W ea a) (hi : X.N[i]? = some x := by rfl) (hx : Loc X.env.scope x := by first | exact Or.inl rfl | exact Or.inr rfl) (hs : swapsWith ea (some (.Name x p)) pos.line X.env = pure false := by rfl) (hf : X.fn x = true ∨ X.env.scope.names.lookup x = some .local := by first | exact .inl rfl | exact .inr rfl)  (hj : NG G i := by first | exact ng_none | exact ng_some (by decide) | exact ng_some (by simp)) : SS X G W (.Assign [.Name x p] ea pos) (sSet i a) := z_set hN hi hx ha hs hf hj
section
variable {x : Str} {p : Pos} {e : Expr} {es : List Expr} {as : AA}
theorem c_len (hm : X.mg "len" = none) (ha : SA X G W [ea] as) (hg : Gl X "len" := by rfl) (he : starEach [ea] X.env = (false, eval ea X.env) :: starEach [] X.env := by rfl) : SE X G W (.Call (.Name "len" p) [ea] [] pos) (eA (on1 lenD) as) := s_callB call_len f_len hg hm PySem.boot_len ha (by decide) (by decide) he (by rfl)
theorem c_abs (hm : X.mg "abs" = none) (ha : SA X G W [ea] as) (hg : Gl X "abs" := by rfl) (he : starEach [ea] X.env = (false, eval ea X.env) :: starEach [] X.env := by rfl) : SE X G W (.Call (.Name "abs" p) [ea] [] pos) (eA (on1 absD) as) := s_callB call_abs f_abs hg hm (by decide +kernel) ha (by decide) (by decide) he (by rfl)
theorem c_int (hm : X.mg "int" = none) (ha : SA X G W [ea] as) (hg : Gl X "int" := by rfl) (he : starEach [ea] X.env = (false, eval ea X.env) :: starEach [] X.env := by rfl) : SE X G W (.Call (.Name "int" p) [ea] [] pos) (eA (on1 intD) as) := s_callTy call_int1 f_int hg hm (by decide +kernel) ha (by decide) (by decide) he (by rfl)
theorem c_tuple (hm : X.mg "tuple" = none) (ha : SA X G W [ea] as) (hg : Gl X "tuple" := by rfl) (he : starEach [ea] X.env = (false, eval ea X.env) :: starEach [] X.env := by rfl) : SE X G W (.Call (.Name "tuple" p) [ea] [] pos) (eA (on1 tupD) as) := s_callTy call_tuple_of f_tuple hg hm (by decide +kernel) ha (by decide) (by decide) he (by rfl)
theorem c_list {fz : Bool} (hm : X.mg "list" = none) (ha : SA X G W [ea] as) (hg : Gl X "list" := by rfl) (he : starEach [ea] X.env = (false, eval ea X.env) :: starEach [] X.env := by rfl) : SE X G W (.Call (.Name "list" p) [ea] [] pos) (eA (on1 (listD fz)) as) := s_callTy call_list_of f_list hg hm (by decide +kernel) ha (by decide) (by decide) he (by rfl)
end
section
variable {x : Str} {p : Pos} {e : Expr} {es : List Expr} {as : AA}
end
section
variable {apos cpos : Pos} {as : AA} {es : List Expr}
theorem mm_append (ho : SE X G W ea a) (ha : SA X G W [eb] as) (hbase : attributeBase ea "append" X.env (eval ea X.env) = eval ea X.env := by rfl) (hs : starEach [eb] X.env = [(false, eval eb X.env)] := by rfl) (hline : (apos.endLine == cpos.line) = true := by rfl) :
    SE X G W (.Call (.Attribute ea "append" apos) [eb] [] cpos) (eM isLst (mt1 appendD) a as) := s_bm PySem.F.plainAttrs_list PySem.F.slot_list_append PySem.F.type_list_append mt_append m_append ty_list ho ha hbase (by rw [hs]; rfl) hline (by rw [hs]; rfl) (by rfl)
theorem mm_extend (ho : SE X G W ea a) (ha : SA X G W [eb] as) (hbase : attributeBase ea "extend" X.env (eval ea X.env) = eval ea X.env := by rfl) (hs : starEach [eb] X.env = [(false, eval eb X.env)] := by rfl) (hline : (apos.endLine == cpos.line) = true := by rfl) :
    SE X G W (.Call (.Attribute ea "extend" apos) [eb] [] cpos) (eM isLst (mt1 extendD) a as) := s_bm PySem.F.plainAttrs_list PySem.F.slot_list_extend PySem.F.type_list_extend mt_extAll m_extend ty_list ho ha hbase (by rw [hs]; rfl) hline (by rw [hs]; rfl) (by rfl)
theorem mm_pop (ho : SE X G W ea a) (hbase : attributeBase ea "pop" X.env (eval ea X.env) = eval ea X.env := by rfl) (hline : (apos.endLine == cpos.line) = true := by rfl) :
    SE X G W (.Call (.Attribute ea "pop" apos) [] [] cpos) (eM isLst (mt0 popD) a (eL [])) := s_bm0 PySem.F.plainAttrs_list PySem.F.slot_list_pop PySem.F.type_list_pop mt_pop m_pop ty_list ho hbase hline
end
end
/-! ### the law's own end -/
def spLaw (K : PySem.W.Frag) : Sp := fun vs H Q _ => ∃ (a : Addr) (ns : List Int), vs = [.ref a] ∧ SqL K H a (ns.map V.int) ∧ ns.length ≤ 63 ∧ ∀ H', Q (.bl true) H'
theorem law_imp {P : Program} {w : World} {K : PySem.W.Frag} {mg : Str → Option Value} {base : Heap} {k : Nat} {f : Addr} {fd : FuncData} {ps : List Str} {F : AF} (h : FnG P w K mg base (L2N.CX P w) k f fd ps (spF ⟨K, mg, none, w⟩ 1 F))
    (hl : ∀ ns : List Int, ns.length ≤ 63 → ∃ h', F [.scr (ns.map .int)] [] = .ok (.bl true) h') : FnG P w K mg base (L2N.CX P w) k f fd ps (spLaw K) :=
  h.imp fun vs H Q E ⟨a, ns, e, hS, hn, q⟩ => by
    subst e
    obtain ⟨h', el⟩ := hl ns hn
    refine ⟨rfl, ⟨[], []⟩, [], [.scr (ns.map .int)], ⟨rfl, List.nodup_nil, by simp, by simp, by simp⟩, Reps.cons ?_ Reps.nil, ?_⟩
    · rw [Rep]
      exact ⟨a, _, rfl, hS.elim (fun r => .inl ⟨⟨by simp, by simp⟩, r⟩) .inr, Reps.ofInts ns⟩
    · rw [el]
      intro M' H' _ _ v hv
      rw [rep_bl hv]; exact q _
theorem cx_no {P : Program} {w : World} {outer : List PySem.Env} {H : Hp} {s s' : Shared} {e : Value} (h : L2N.CX P w outer H s (fun _ _ _ => False) e s') : False := by
  obtain ⟨_, _, _, _, _, _, _, _, _, _, _, _, z⟩ := h
  exact z
end Sm
end

section
set_option linter.all false
/-! Abs2: dicts whose keys are tuples. -/
namespace Sm
def kDs : List D → Option (List K1)
  | [] => some []
  | d :: ds => match kD d with
    | some k => (kDs ds).map (k :: ·)
    | none => none
def kT : D → Option (List K1)
  | .tup ds => kDs ds
  | _ => none
def dicTH (h : AH) : D → Option (Nat × List (List K1 × D))
  | .loc l => match h[l]? with
    | some (.dicT ks ds) => some (l, ks.zip ds)
    | _ => none
  | _ => none
/-- {}, its keys tuples -/
def eNewT : AE := fun _ h => .ok (.loc h.length) (h ++ [.dicT [] []])
def setTD (x y v : D) (h : AH) : R D := match dicTH h x with
  | some (l, kvs) => match kT y with
    | some k => R.chk (decide (kvs.length < big)) (.ok .non (h.set l (.dicT ((putA kvs k v).map (·.1)) ((putA kvs k v).map (·.2)))))
    | none => .no
  | none => .no
def ixTD (x y : D) (h : AH) : R D := match dicTH h x with
  | some (_, kvs) => match kT y with
    | some k => R.of (getA kvs k) h
    | none => .no
  | none => .no
end Sm
end

section
set_option Elab.async false
set_option linter.all false
set_option maxRecDepth 100000
set_option maxHeartbeats 1000000
/-! Sim13: dicts whose keys are tuples. -/
namespace Sm
open PySem PySem.Spec PyProof.Rows L2
abbrev kOfs (k : List K1) : List Key := k.map kOf
theorem kOfs_inj : ∀ {a b : List K1}, kOfs a = kOfs b → a = b
  | [], [], _ => rfl
  | [], _ :: _, h => by cases h
  | _ :: _, [], h => by cases h
  | x :: a, y :: b, h => by
    have h : kOf x :: kOfs a = kOf y :: kOfs b := h
    injection h with h1 h2
    rw [kOf_inj h1, kOfs_inj h2]
section
variable {T : Tb} {M : Mp} {ah : AH} {H : Hp}
theorem reps_keys : ∀ {ds : List D} {vs : List V} {ks : List K1}, Reps T M H ds vs → kDs ds = some ks → vs = (kOfs ks).map kV
  | [], vs, ks, r, h => by rw [Reps] at r; cases h; exact r
  | d :: ds, vs, ks, r, h => by
    rw [Reps] at r
    obtain ⟨x, xs, rfl, r1, r2⟩ := r
    unfold kDs at h
    cases hk : kD d with
    | none => rw [hk] at h; cases h
    | some k =>
      rw [hk] at h
      cases hd : kDs ds with
      | none => rw [hd] at h; cases h
      | some ks' =>
        rw [hd] at h
        cases h
        rw [rep_key r1 hk, reps_keys r2 hd]; rfl
theorem rep_tkey {x : D} {v : V} {k : List K1} (r : Rep T M H x v) (h : kT x = some k) : ∃ b, v = .ref b ∧ H b = some (.tup ((kOfs k).map kV)) := by
  cases x with
  | tup ds =>
    obtain ⟨a, vs, e, f, g⟩ := rep_tup r
    exact ⟨a, e, by rw [f.2, reps_keys g h]⟩
  | _ => cases h
theorem rep_dicT {x : D} {v : V} {l : Nat} {kvs : List (List K1 × D)} (q : RelH T M ah H) (r : Rep T M H x v) (h : dicTH ah x = some (l, kvs)) : ∃ a u, v = .ref a ∧ M.m[l]? = some a ∧ H a = some (.dT u) ∧ KVG kOfs T M H kvs u := by
  cases x with
  | loc m =>
    have h' : (match ah[m]? with
      | some (.dicT ks ds) => some (m, ks.zip ds)
      | _ => none) = some (l, kvs) := h
    rw [Rep] at r
    obtain ⟨a, rfl, hp⟩ := r
    split at h'
    · rename_i ks ds hl
      cases h'
      obtain ⟨vs, e, hl, rs⟩ := q.obj _ a _ hp hl
      exact ⟨a, _, rfl, hp, e, .zip hl rs⟩
    · cases h'
  | _ => cases h
end
section
variable {X : Cx} {G : Gh} {W : WX} {pos : Pos} {ea eb ec : Expr} {a b c : AE}
theorem s_newT : SE X G W (.Dict [] [] pos) eNewT := PE.imp pe_dnewT fun σ H Q h => by
  obtain ⟨M, e, ah, S, P⟩ := h
  intro p hp
  have P : Post (tb X G) (WE W σ) M H (fun d M' _ H' => ∀ v, Rep (tb X G) M' H' d v → Q v H') (.ok (.loc ah.length) (ah ++ [.dicT [] []])) := P
  refine P _ _ (step_loc _ hp) (S.h.loc hp ⟨[], upd_same, rfl, Reps.nil⟩) _ ?_
  rw [Rep]
  refine ⟨p, rfl, ?_⟩
  show (M.m ++ [p])[ah.length]? = some p
  rw [← S.h.len]; simp
theorem set3_dT : Set3 X G rSetD setTD := by
  intro E M ah H do_ di dv o i v Q q ro ri rv P
  unfold setTD at P
  cases hx : dicTH ah do_ with
  | none => rw [hx] at P; exact P.elim
  | some lk =>
    obtain ⟨l, kvs⟩ := lk
    rw [hx] at P
    cases hk : kT di with
    | none => rw [hk] at P; exact P.elim
    | some k =>
      rw [hk] at P
      obtain ⟨hz, P⟩ := Post.chk P
      obtain ⟨p, u, e1, hp, e2, r⟩ := rep_dicT q ro hx
      obtain ⟨b, e3, e4⟩ := rep_tkey ri hk
      subst e1 e3
      have r2 := KVG.put kOfs_inj (k := k) r rv
      refine ⟨p, _, rfl, DPut.t e2 e4 (by rw [r.len, ← big_eq]; exact of_decide_eq_true hz), ?_⟩
      obtain ⟨s, q2⟩ := q.put (o := .dT (putK u (kOfs k) v)) (u := .dicT ((putA kvs k dv).map (·.1)) ((putA kvs k dv).map (·.2))) hp fun s => by
        obtain ⟨vs, ev, rs⟩ := (r2.mono s.mono).back
        exact ⟨vs, by rw [upd_same, ev], by simp, rs⟩
      exact P M _ s q2
theorem s_ixT (hu : X.A.units + 1 < cLine) (ha : SE X G W ea a) (hb : SE X G W eb b) (hs : NoSl eb) : SE X G W (.Subscript ea eb pos) (e2 ixTD a b) :=
  PE.imp (pe_dget hu ha hb hs) fun σ H Q h => by
    obtain ⟨M, e, ah, S, P⟩ := h
    refine ⟨M, e, ah, S, Post.bindI P fun x M1 ah1 H1 s1 q1 P1 v hv => ?_⟩
    refine ⟨M1, e, ah1, S.step s1 q1, P1.bindI fun y M2 ah2 H2 s2 q2 P2 w hw => ?_⟩
    unfold ixTD at P2
    cases hx : dicTH ah2 x with
    | none => rw [hx] at P2; exact P2.elim
    | some lk =>
      obtain ⟨l, kvs⟩ := lk
      rw [hx] at P2
      cases hk : kT y with
      | none => rw [hk] at P2; exact P2.elim
      | some k =>
        rw [hk] at P2
        obtain ⟨d, hd, P2⟩ := Post.of P2
        obtain ⟨p, u, e1, hp, e2, r⟩ := rep_dicT q2 (hv.step s2) hx
        obtain ⟨b2, e3, e4⟩ := rep_tkey hw hk
        subst e1 e3
        have g := r.get kOfs_inj (k := k)
        rw [hd] at g
        obtain ⟨v2, e5, r5⟩ := g
        exact ⟨p, v2, rfl, by rw [← e5]; exact DGet.t e2 e4, P2.val q2 r5⟩
end
end Sm
end

section
set_option linter.all false
/-! Abs3: instances of own classes; errors. -/
namespace Sm
def insH (h : AH) : D → Option (String × List String × List D)
  | .ins c ns ds => some (c, ns, ds)
  | .loc l => match h[l]? with
    | some (.ins c ns ds) => some (c, ns, ds)
    | _ => none
  | _ => none
def look1 (n : String) : List String → List D → Option D
  | m :: ns, d :: ds => if m = n then some d else look1 n ns ds
  | _, _ => none
/-- o.n of an instance of one of the classes -/
def fldD (cs : List String) (n : String) (x : D) (h : AH) : R D := match insH h x with
  | some (c, ns, ds) => R.chk (cs.contains c) (R.of (look1 n ns ds) h)
  | none => .no
def putN (n : String) : List String → List String
  | [] => [n]
  | m :: ns => if m = n then m :: ns else m :: putN n ns
def putV (n : String) (v : D) : List String → List D → List D
  | m :: ns, d :: ds => if m = n then v :: ds else d :: putV n v ns ds
  | _, _ => [v]
def setFldD (cs : List String) (n : String) (x v : D) (h : AH) : R D := match x with
  | .loc l => match h[l]? with
    | some (.ins c ns ds) => R.chk (cs.contains c && decide (ns.length < 1000)) (.ok .non (h.set l (.ins c (putN n ns) (putV n v ns ds))))
    | _ => .no
  | _ => .no
/-- o.n = v -/
def sFldS (f : D → D → AH → R D) (o v : AE) : AS := fun e h => up e ((v e h).bind fun y h1 => (o e h1).bind fun x h2 => f x y h2) fun _ h3 => .ok (.nx e) h3
/-- C(..) -/
def mkIR (c : String) (F : AF) (ds : List D) (h : AH) : R D := (F (.loc h.length :: ds) (h ++ [.ins c [] []])).bind fun v h1 => match v with
  | .non => .ok (.loc h.length) h1
  | _ => .no
def mkI (c : String) (fz : Bool) (F : AF) : List D → AH → R D := fun ds h => if fz then trim h (mkIR c F ds h) else mkIR c F ds h
def findF (c : String) : List (String × AF) → Option AF
  | [] => none
  | (m, F) :: r => if m = c then some F else findF c r
/-- o.m(..); o.m where m is a property -/
def mthR (tbl : List (String × AF)) (m : String) (as : Env → AH → R (List D)) (e : Env) (d : D) (h1 : AH) : R D := match insH h1 d with
  | some (c, ns, ds) => match findF c tbl with
    | some F => R.chk (look1 m ns ds).isNone ((as e h1).bind fun xs h2 => F (d :: xs) h2)
    | none => .no
  | none => .no
def eMth (tbl : List (String × AF)) (m : String) (a : AE) (as : AA) : AE := fun e h => (a e h).bind fun d h1 => mthR tbl m as e d h1
def prR (tbl : List (String × AF)) (d : D) (h1 : AH) : R D := match insH h1 d with
  | some (c, _, _) => match findF c tbl with
    | some F => (F [d] h1).nox
    | none => .no
  | none => .no
def ePrp (tbl : List (String × AF)) (a : AE) : AE := e1 (prR tbl) a
/-- o(..) -/
def clR (tbl : List (String × AF)) (as : Env → AH → R (List D)) (e : Env) (d : D) (h1 : AH) : R D := R.chk (insH h1 d).isSome ((as e h1).bind fun xs h2 => match insH h2 d with
  | some (c, _, _) => match findF c tbl with
    | some F => F (d :: xs) h2
    | none => .no
  | none => .no)
def eCal (tbl : List (String × AF)) (a : AE) (as : AA) : AE := fun e h => (a e h).bind fun d h1 => clR tbl as e d h1
end Sm
end

section
set_option Elab.async false
set_option linter.all false
set_option maxRecDepth 100000
set_option maxHeartbeats 1000000
/-! Sim14: instances of own classes. -/
namespace Sm
open PySem PySem.Spec PyProof.Rows L2
section
variable {T : Tb} {M M1 M' : Mp} {ah ah1 ah' : AH} {H H1 H' : Hp}
end
/-- what is asked of the classes of which an attribute is read -/
def ClsN (X : Cx) (n : Str) (cs : List String) : Prop := ∀ c ∈ cs, ∃ C, X.mg (Str.ofString c) = some (.ref C) ∧ Cls X.K C ∧ NoAttr X.K C n
section
variable {X : Cx} {G : Gh} {W : WX} {pos : Pos} {ea eb ec : Expr} {a b c : AE}
/-! ### C(..) -/
def tMakeS (C : Addr) (sp : Sp) (E : L2.St → XK) (t : TA) : TE := fun σ H Q => t σ H fun vs H1 => ∀ x dx, H1 x = none → H1 dx = none → dx ≠ x →
  sp (.ref x :: vs) (upd (upd H1 dx (.own x)) x (.ins C dx [])) (fun v H2 => v = .non ∧ Q (.ref x) H2) (E σ)
/-! ### methods, calls of instances, properties -/
structure MF (X : Cx) (m : Str) (F : AF) (C : Addr) : Prop where
  cl : Cls X.K C
  ex : ∃ f fd ps k n, Meth X.K C m f ∧ FnG X.prog X.w X.K X.mg X.base (L2N.CX X.prog X.w) k f fd ps (spF (tb X none) n F) ∧ (∀ ds h, ds.length ≠ n → F ds h = .no) ∧ RoomG k X.A ∧ Binds X.K fd ps []
def MFs (X : Cx) (m : Str) (tbl : List (String × AF)) : Prop := ∀ c F, findF c tbl = some F → ∃ C, X.mg (Str.ofString c) = some (.ref C) ∧ MF X m F C
def tMthD (X : Cx) (m : Str) (E : L2.St → XK) (ta : TE) (t : TA) : TE := fun σ H Q => ta σ H fun x H1 => ∃ a C dx fs f fd ps k sp, x = .ref a ∧ H1 a = some (.ins C dx fs) ∧ fs.lookup m = none ∧ Cls X.K C ∧ Meth X.K C m f ∧ FnG X.prog X.w X.K X.mg X.base (L2N.CX X.prog X.w) k f fd ps sp ∧ RoomG k X.A ∧ Binds X.K fd ps [] ∧
  t σ H1 fun vs H2 => sp (x :: vs) H2 Q (E σ)
end
end Sm
end

section
set_option Elab.async false
set_option linter.all false
set_option maxRecDepth 100000
set_option maxHeartbeats 1000000
/-! Sim15: calls of instances, properties, constants of the module. -/
namespace Sm
open PySem PySem.Spec PyProof.Rows L2
section
variable {X : Cx} {G : Gh} {W : WX} {pos : Pos} {ea eb ec : Expr} {a b c : AE}
structure CF (X : Cx) (F : AF) (C : Addr) : Prop where
  ex : ∃ f fd ps k n, StX.CallO X.K C f ∧ FnG X.prog X.w X.K X.mg X.base (L2N.CX X.prog X.w) k f fd ps (spF (tb X none) n F) ∧ (∀ ds h, ds.length ≠ n → F ds h = .no) ∧ RoomG k X.A ∧ Binds X.K fd ps []
def CFs (X : Cx) (tbl : List (String × AF)) : Prop := ∀ c F, findF c tbl = some F → ∃ C, X.mg (Str.ofString c) = some (.ref C) ∧ CF X F C
def tCalD (X : Cx) (E : L2.St → XK) (ta : TE) (t : TA) : TE := fun σ H Q => ta σ H fun x H1 => ∃ a, x = V.ref a ∧ t σ H1 fun vs H2 => ∃ C f fd ps k sp, StX.InsC X H2 a C ∧ StX.CallO X.K C f ∧ FnG X.prog X.w X.K X.mg X.base (L2N.CX X.prog X.w) k f fd ps sp ∧ RoomG k X.A ∧ Binds X.K fd ps [] ∧ sp (V.ref a :: vs) H2 Q (E σ)
/-! ### properties -/
structure RF (X : Cx) (n : Str) (F : AF) (C : Addr) : Prop where
  cl : Cls X.K C
  ex : ∃ p g fd ps k m, PropOf X.K C n p g ∧ FnG X.prog X.w X.K X.mg X.base (L2N.CX X.prog X.w) k g fd ps (spF (tb X none) m F) ∧ (∀ ds h, ds.length ≠ m → F ds h = .no) ∧ RoomG (k + 1) X.A ∧ Binds X.K fd ps []
def RFs (X : Cx) (n : Str) (tbl : List (String × AF)) : Prop := ∀ c F, findF c tbl = some F → ∃ C, X.mg (Str.ofString c) = some (.ref C) ∧ RF X n F C
def tPrD (X : Cx) (n : Str) (ta : TE) : TE := fun σ H Q => ta σ H fun x H1 => ∃ a C dx fs p g fd ps k sp, x = V.ref a ∧ H1 a = some (.ins C dx fs) ∧ Cls X.K C ∧ PropOf X.K C n p g ∧ FnG X.prog X.w X.K X.mg X.base (L2N.CX X.prog X.w) k g fd ps sp ∧ RoomG (k + 1) X.A ∧ Binds X.K fd ps [] ∧ sp [V.ref a] H1 Q (fun _ _ _ => False)
/-! ### constants of the module -/
end
end Sm
end

section
set_option Elab.async false
set_option linter.all false
set_option maxRecDepth 100000
set_option maxHeartbeats 2000000
/-! Sim16: error classes whose __init__ says super().__init__(text) and keeps its arguments. -/
namespace Sm
open PySem PySem.Spec PyProof.Rows L2 NdefX PySem.W
section
variable {prog : Program} {w : World} {A : Around} {E : Value → Shared → Prop} {h : Heap} {g : Array GenState} {d : Drawn} {t : Nat} {os : OsState}
variable {nm q : Str} {C N : Addr} {bs bm : List Value} {hdct : Bool} {sn : List Str} {sub : List Value} {ab : Bool} {col : Option Bool} {dd : Option Addr} {k0 k1 k2 k3 k5 : Option Value}
end
/-- what the written part says of an error class and the class that has its __init__ -/
structure SupC (P : Program) (K : PySem.W.Frag) (C D : Addr) (cc cda : Addr) : Prop where
  oex : OexC K C
  cell : ∃ cl cld csl, K.lookup cc = some ⟨cl, cld, .cell (some (.ref D)), csl⟩
  cls : ∃ cd, clsIn K C = some cd ∧ alongIn K "__init__" ((cd.mro.dropWhile (· != .ref D)).drop 1) = some (some (.builtin "ValueError.__init__"))
  cD : ∃ cd, clsIn K D = some cd
  sub : mroIn K C (.ref D) = some true
  ve : subIn K (.ref C) (.type "ValueError") = some true
  op : nsIn K cStatics "thirdparty.any" = some none
  code : ∃ ccl cdd vs ccs file tf, K.lookup cda = some ⟨ccl, cdd, .fields vs, ccs⟩ ∧ vs[2]? = some (.str file tf) ∧ ((P.main.file : Str) == file) = true
  top : (P.main.scope.names.lookup ("super" : Str)).isSome = false
section
variable {CX : CXT} {P : Program} {w : World} {K : PySem.W.Frag} {mg : Str → Option Value} {base : Heap} {N ps : List Str} {f : Addr} {k : Nat} {sp : Sp}
end
end Sm
end

section
set_option linter.all false
/-! Abs4: raise, try. -/
namespace Sm
def sRaise (c : String) (ns : List String) (as : AA) : AS := fun e h => up e (as e h) fun ds h1 => R.chk (decide (ds.length = ns.length ∧ ds.length < 1000)) (.ok (.ex ⟨c, ns.reverse, ds.reverse⟩ e) h1)
/-- raise c("text"), a class without names of its own -/
def sRaise0 (c : String) : AS := fun e h => .ok (.ex ⟨c, [], []⟩ e) h
def lookB (c : String) : List (String × Bool) → Option Bool
  | [] => none
  | (m, b) :: r => if m = c then some b else lookB c r
/-- behind an except suite -/
def suK (i : Nat) : Fl → AH → R Fl := fun f2 h2 => match f2 with
  | .nx e2 => .ok (.nx (e2.set i none)) h2
  | .rt d => .ok (.rt d) h2
  | .bk e2 => .ok (.bk (e2.set i none)) h2
  | .ct e2 => .ok (.ct (e2.set i none)) h2
  | .ex _ _ => .no
def tryK (tbl : List (String × Bool)) (i : Nat) (su : Ex → AS) : Fl → AH → R Fl := fun f h1 => match f with
  | .ex x e1 => match lookB x.cls tbl with
    | some true => R.chk (decide (i < e1.length)) ((su x (e1.set i none) h1).bind (suK i))
    | some false => .ok (.ex x e1) h1
    | none => .no
  | f => .ok f h1
/-- try: b, except .. as slot i: su -/
def sTryAs (tbl : List (String × Bool)) (i : Nat) (b : AS) (su : Ex → AS) : AS := fun e h => (b e h).bind (tryK tbl i su)
/-- e.n, isinstance(e, ..) of the error at hand -/
def eXf (cs : List String) (x : Ex) (n : String) : AE := fun _ h => R.chk (cs.contains x.cls) (R.of (look1 n x.ns x.ds) h)
def eXis (x : Ex) (tbl : List (String × Bool)) : AE := fun _ h => R.of ((lookB x.cls tbl).map .bl) h
end Sm
end

section
set_option Elab.async false
set_option linter.all false
set_option maxRecDepth 100000
set_option maxHeartbeats 1000000
/-! Sim17: raise, try .. except .. as. -/
namespace Sm
open PySem PySem.Spec PyProof.Rows L2 NdefX
/-! ### what the written part says of the error classes -/
def errB (K : PySem.W.Frag) (C : Addr) : Bool := xfB K C && (decide (PySem.W.findIn K (.ref C) "__class__" = some (some (.builtin "object.__class__"))) && (decide (PySem.W.specialIn K (.builtin "object.__class__") "__get__" = some (some (.builtin "getset_descriptor.__get__"))) &&
  (decide (PySem.W.takesIn K (.builtin "object.__class__") = some true) && (decide (PySem.W.mroIn K C (.type "object") = some true) && (decide (PySem.W.typeIn K (.ref C) = some (.type "type")) && (decide (PySem.W.subIn K (.ref C) (.ref C) = some true) && PySem.W.keepIn K (.ref C)))))))
structure ErrC (K : PySem.W.Frag) (C : Addr) : Prop where
  ex : ExcC K C
  xf : XfC K C
  ty : PySem.W.typeIn K (.ref C) = some (.type "type")
  self : PySem.W.subIn K (.ref C) (.ref C) = some true
  kp : PySem.W.keepIn K (.ref C) = true
def oexB (K : PySem.W.Frag) (C : Addr) : Bool := decide (PySem.W.findIn K (.ref C) "__setattr__" = some (some (.builtin "object.__setattr__"))) && (decide (PySem.W.subIn K (.ref C) (.type "BaseException") = some true) && (decide (PySem.W.typeIn K (.ref C) = some (.type "type")) && (PySem.W.keepIn K (.ref C) && (match K.lookup C with
  | some ⟨.type "type", _, .cls cd, sl⟩ => (match cd.mro, sl.toList with
    | .ref C' :: bm, [_, _, _, _, some (.builtin n), _] => C' == C && (n == "ValueError.__new__" && (!cd.hasDel && (cd.hasDict && PySem.HandSPX.refsVE bm)))
    | _, _ => false)
  | _ => false))))
/-! ### raise -/
section
variable {X : Cx} {G : Gh} {W : WX} {pos : Pos} {ea eb ec : Expr} {a b c : AE}
/-- what such an __init__ promises -/
def spEx (C : Addr) (fs : List Str) : Sp := fun vs H Q _ => ∃ a xs, vs = .ref a :: xs ∧ xs.length = fs.length ∧ H a = some (exo a C none) ∧ ∀ dx, H dx = none → dx ≠ a → Q .non (upd (upd H dx (exd dx (fs.zip xs).reverse)) a (exo a C (some dx)))
/-! ### __init__'s bodies -/
end
end Sm
end

section
set_option Elab.async false
set_option linter.all false
set_option maxRecDepth 100000
set_option maxHeartbeats 1000000
/-! Sim18: try .. except .. as. -/
namespace Sm
open PySem PySem.Spec PyProof.Rows L2 NdefX
section
variable {K : PySem.W.Frag} {mg : Str → Option Value} {g g' : Gh} {M M' : Mp} {ah : AH} {H H' : Hp}
mutual
theorem Rep.tg : ∀ {d : D} {v : V}, Rep ⟨K, mg, g, w⟩ M H d v → Rep ⟨K, mg, g', w⟩ M H d v
  | .non, _, h => by rw [Rep] at h ⊢; exact h
  | .bl _, _, h => by rw [Rep] at h ⊢; exact h
  | .int _, _, h => by rw [Rep] at h ⊢; exact h
  | .str _, _, h => by rw [Rep] at h ⊢; exact h
  | .ty _, _, h => by rw [Rep] at h ⊢; exact h
  | .tup ds, v, h => by rw [Rep] at h ⊢; obtain ⟨a, vs, e, f, r⟩ := h; exact ⟨a, vs, e, f, Reps.tg r⟩
  | .lst ds, v, h => by rw [Rep] at h ⊢; obtain ⟨a, vs, e, f, r⟩ := h; exact ⟨a, vs, e, f, Reps.tg r⟩
  | .scr ds, v, h => by rw [Rep] at h ⊢; obtain ⟨a, vs, e, f, r⟩ := h; exact ⟨a, vs, e, f, Reps.tg r⟩
  | .dic ks ds, v, h => by rw [Rep] at h ⊢; obtain ⟨a, vs, e, f, x, z, r⟩ := h; exact ⟨a, vs, e, f, x, z, Reps.tg r⟩
  | .ins c ns ds, v, h => by rw [Rep] at h ⊢; obtain ⟨a, C, dx, vs, e, f, x, k, z, r⟩ := h; exact ⟨a, C, dx, vs, e, f, x, k, z, Reps.tg r⟩
  | .loc l, v, h => by rw [Rep] at h ⊢; exact h
theorem Reps.tg : ∀ {ds : List D} {vs : List V}, Reps ⟨K, mg, g, w⟩ M H ds vs → Reps ⟨K, mg, g', w⟩ M H ds vs
  | [], _, h => by rw [Reps] at h ⊢; exact h
  | d :: ds, vs, h => by rw [Reps] at h ⊢; obtain ⟨x, xs, e, f, r⟩ := h; exact ⟨x, xs, e, Rep.tg f, Reps.tg r⟩
end
theorem RepO.tg {a : Addr} {o : AO} (h : RepO ⟨K, mg, g, w⟩ M H a o) : RepO ⟨K, mg, g', w⟩ M H a o := by
  cases o with
  | lst ds => obtain ⟨vs, e, r⟩ := h; exact ⟨vs, e, r.tg⟩
  | dic ks ds => obtain ⟨vs, e, z, r⟩ := h; exact ⟨vs, e, z, r.tg⟩
  | dicT ks ds => obtain ⟨vs, e, z, r⟩ := h; exact ⟨vs, e, z, r.tg⟩
  | ins c ns ds => obtain ⟨C, dx, vs, x, e, z, r⟩ := h; exact ⟨C, dx, vs, x, e, z, r.tg⟩
  | set xs => exact h
theorem RelH.tg (q : RelH ⟨K, mg, g, w⟩ M ah H) : RelH ⟨K, mg, g', w⟩ M ah H := ⟨q.len, q.nd, q.off, q.exs, fun l a o e1 e2 => (q.obj l a o e1 e2).tg⟩
theorem ExRel.tg {x : Ex} {u : Value} {dx : Option Addr} (h : ExRel ⟨K, mg, g, w⟩ M H x u dx) : ExRel ⟨K, mg, g', w⟩ M H x u dx := by
  refine ⟨h.1, h.2.1, ?_⟩
  have z := h.2.2
  cases dx with
  | none => exact z
  | some d => obtain ⟨vs, f, e, r⟩ := z; exact ⟨vs, f, e, r.tg⟩
theorem Post.tg {α : Type} {W : XK} {P P' : α → Mp → AH → Hp → Prop} {r : R α} (h : Post ⟨K, mg, g, w⟩ W M H P r) (f : ∀ a M' ah' H', RelH ⟨K, mg, g, w⟩ M' ah' H' → P a M' ah' H' → P' a M' ah' H') : Post ⟨K, mg, g', w⟩ W M H P' r := by
  cases r with
  | ok a ah => exact fun M' H' s q => f a M' ah H' q.tg (h M' H' s q.tg)
  | exc x ah => exact fun M' H' u dx s q x => h M' H' u dx s q.tg x.tg
  | no => exact h
theorem Sta.drop {e : Env} {σ : L2.St} {i : Nat} (S : Sta ⟨K, mg, g, w⟩ M e ah σ H) : Sta ⟨K, mg, none, w⟩ M (e.set i none) ah (σ.set i none) H := by
  refine ⟨S.h.tg, by simp [S.len], fun j d hj => ?_, fun p hp => by cases hp⟩
  by_cases hji : j = i
  · subst hji
    by_cases z : j < e.length
    · rw [List.getElem?_set_self z] at hj; cases hj
    · rw [List.getElem?_eq_none (by simpa using z)] at hj; cases hj
  · rw [List.getElem?_set_ne (Ne.symm hji)] at hj ⊢
    obtain ⟨v, hv, rv⟩ := S.slot j d hj
    exact ⟨v, hv, rv.tg⟩
end
abbrev WN : WX := fun _ _ _ _ => False
section
variable {X : Cx} {G : Gh} {W : WX} {pos : Pos} {ea eb ec : Expr} {a b c : AE}
/-- what the handler's class makes of the errors that may come -/
def ExmT (X : Cx) (c : Value) (tbl : List (String × Bool)) : Prop := ∀ n b, lookB n tbl = some b → ∃ C, X.mg (Str.ofString n) = some (.ref C) ∧ PySem.W.exmOne X.K (.ref C) c = some b
end
end Sm
end

section
set_option Elab.async false
set_option linter.all false
set_option maxRecDepth 100000
set_option maxHeartbeats 1000000
/-! Sim19: what an except suite asks of its error: e.n, isinstance(e, ..). -/
namespace Sm
open PySem PySem.Spec PyProof.Rows L2 NdefX
section
open PySem.W PySem.Calls
variable {prog : Program} {w : World} {A : Around} {E : Value → Shared → Prop} {s : Shared} {K : Frag} {x D : Addr} {ox : Obj} {od : Option Obj}
end
section
variable {X : Cx} {G : Gh} {W : WX} {pos : Pos} {ea eb ec : Expr} {a b c : AE}
/-- the classes whose name n is read off an error -/
def XfT (X : Cx) (n : Str) (cs : List String) : Prop := ∀ c ∈ cs, ∃ C, X.mg (Str.ofString c) = some (.ref C) ∧ XfC X.K C ∧ PySem.W.findIn X.K (.ref C) n = some none
/-! ### isinstance(e, C), isinstance(e, (C, ..)) -/
def rIsX (K : PySem.W.Frag) (D av : Addr) (d : Option Addr) : List V → Hp → VK → Prop := fun xs H Q => ∃ b, Q (.bl b) H ∧ (d = none ∨ ∃ dd fs, d = some dd ∧ H dd = some (.xd fs)) ∧
  ((∃ c cv, xs = [.ref av, c] ∧ ClsV c cv ∧ PySem.W.kitOne K (.ref D) cv = some b) ∨ ∃ tp cs us, xs = [.ref av, .ref tp] ∧ H tp = some (.tup cs) ∧ Paired ClsV cs us ∧ PySem.W.kitAny K (.ref D) us = some b)
/-- names of classes as arguments -/
def PCs (X : Cx) (es : List Expr) (vs : List V) (us : List Value) : Prop := (∃ t, PA X es t ∧ ∀ σ H Q, Q vs H → t σ H Q) ∧ Paired ClsV vs us
/-- the answers for the errors that may be at hand -/
def KitT (X : Cx) (us : List Value) (tbl : List (String × Bool)) : Prop := ∀ n b, lookB n tbl = some b → ∃ C, X.mg (Str.ofString n) = some (.ref C) ∧ ExcC X.K C ∧ PySem.W.kitAny X.K (.ref C) us = some b
section
variable {av : Addr} {oe : Obj} {cls : Value} {d : Option Addr} {pn : List (Addr × Obj)} {x : Ex} {i : Nat} {nm xi : Str} {p p2 p3 : Pos} {tbl : List (String × Bool)} {us : List Value} {vs : List V}
end
end
end Sm
end

section
set_option Elab.async false
set_option linter.all false
set_option maxRecDepth 100000
set_option maxHeartbeats 1000000
/-! Sim20: small things that the printed derivations name. -/
namespace Sm
open PySem PySem.Spec PyProof.Rows L2 NdefX
def supB (K : PySem.W.Frag) (C D : Addr) (file : Str) (cvs : Array Value) : Bool := decide (PySem.W.mroIn K C (.ref D) = some true) && (decide (PySem.W.subIn K (.ref C) (.type "ValueError") = some true) && ((match PySem.W.clsIn K C with
  | some cd => decide (PySem.W.alongIn K "__init__" ((cd.mro.dropWhile (· != .ref D)).drop 1) = some (some (.builtin "ValueError.__init__")))
  | none => false) && ((PySem.W.clsIn K D).isSome && (match cvs[2]? with
  | some (Value.str f _) => file == f
  | _ => false))))
end Sm
end

section
set_option Elab.async false
set_option linter.all false
set_option maxRecDepth 100000
set_option maxHeartbeats 1000000
/-! Sim21: list(reversed(a list)). -/
namespace Sm
open PySem PySem.Spec PyProof.Rows L2 RT
section
variable {prog : Program} {w : World} {A : Around} {E : Value → Shared → Prop} {s : Shared}
end
section
variable {X : Cx}
def tLstRev (K : PySem.W.Frag) (te : TE) : TE := fun σ H Q => te σ H fun v H1 => ∃ (a : Addr) (xs : List V), v = .ref a ∧ SqL K H1 a xs ∧ ∀ q, H1 q = none → Q (.ref q) (upd H1 q (.lst xs.reverse))
end
end Sm
end

section
set_option linter.all false
/-! Abs5: all(xs), any(xs) of truth values. -/
namespace Sm
def asBls : List D → Option (List Bool)
  | [] => some []
  | .bl b :: r => (asBls r).map (b :: ·)
  | _ => none
def boolsD (f : List Bool → Bool) (x : D) (h : AH) : R D := match lstH h x with
  | some xs => match asBls xs with
    | some bs => .ok (.bl (f bs)) h
    | none => .no
  | none => .no
def allF (bs : List Bool) : Bool := bs.all id
def anyF (bs : List Bool) : Bool := bs.any id
end Sm
end

section
set_option Elab.async false
set_option linter.all false
set_option maxRecDepth 100000
set_option maxHeartbeats 1000000
/-! Sim22: all(xs), any(xs). -/
namespace Sm
open PySem PySem.Spec PyProof.Rows L2
section
variable {T : Tb} {M : Mp} {H : Hp}
end
section
variable {X : Cx} {G : Gh} {W : WX} {ea : Expr} {as : AA} {p pos : Pos}
end
end Sm
end

section
set_option linter.all false
/-! Abs6: sets of ints. -/
namespace Sm
def eNewS : AE := fun _ h => .ok (.loc h.length) (h ++ [.set []])
def setH (h : AH) : D → Option (Nat × List Int)
  | .loc l => match h[l]? with
    | some (.set xs) => some (l, xs)
    | _ => none
  | _ => none
def isSetB (h : AH) (d : D) : Bool := (setH h d).isSome
def sAddD (x y : D) (h : AH) : R D := match setH h x with
  | some (l, xs) => match y with
    | .int k => R.chk (decide (xs.length < 1000)) (.ok .non (h.set l (.set (if k ∈ xs then xs else xs ++ [k]))))
    | _ => .no
  | none => .no
def inSD (x y : D) (h : AH) : R D := match setH h y with
  | some (_, xs) => match x with
    | .int k => .ok (.bl (decide (k ∈ xs))) h
    | _ => .no
  | none => .no
def notInSD (x y : D) (h : AH) : R D := match setH h y with
  | some (_, xs) => match x with
    | .int k => .ok (.bl (!decide (k ∈ xs))) h
    | _ => .no
  | none => .no
/-- sorted(a set) -/
def sortedSD (fz : Bool) (x : D) (h : AH) : R D := match setH h x with
  | some (_, xs) => R.chk (decide (xs.length < 64)) (mkL fz ((sortU xs).map .int) h)
  | none => .no
/-- o.m(e): o's kind is looked at first -/
def eM2 (g : AH → D → Bool) (f : D → D → AH → R D) (a b : AE) : AE := fun e h => (a e h).bind fun d h1 => R.chk (g h1 d) ((b e h1).bind fun y h2 => f d y h2)
def remIx (l : Nat) (y : D) (h : AH) (xs : List D) : R D := match y with
  | .int k => match asInts xs with
    | some ns => R.chk (decide (k ∈ ns)) (.ok .non (h.set l (.lst ((ns.erase k).map .int))))
    | none => .no
  | _ => .no
def removeD (x y : D) (h : AH) : R D := onL h x fun l xs => remIx l y h xs
end Sm
end

section
set_option Elab.async false
set_option linter.all false
set_option maxRecDepth 100000
set_option maxHeartbeats 1000000
/-! Sim23: sets of ints. -/
namespace Sm
open PySem PySem.Spec PyProof.Rows L2
section
variable {X : Cx} {G : Gh} {W : WX} {pos : Pos} {ea eb ec : Expr} {a b c : AE}
end
end Sm
end

section
set_option Elab.async false
set_option linter.all false
set_option maxRecDepth 100000
set_option maxHeartbeats 1000000
/-! Sim24: xs.remove(x). -/
namespace Sm
open PySem PySem.Spec PyProof.Rows L2
section
variable {X : Cx} {G : Gh} {W : WX} {pos : Pos} {ea eb ec : Expr} {a b c : AE}
end
end Sm
end

section
set_option linter.all false
/-! Abs7: repr of plain lists and tuples. -/
namespace Sm
def digs (i : Int) : List Nat := (toString i).toList.map Char.toNat
def jn : List (List Nat) → List Nat
  | [] => []
  | [x] => x
  | x :: y :: r => x ++ ([44, 32] ++ jn (y :: r))
mutual
/-- the text that repr makes of a plain datum -/
def shw : D → List Nat
  | .int i => digs i
  | .str x => 39 :: (x ++ [39])
  | .bl b => if b then [84, 114, 117, 101] else [70, 97, 108, 115, 101]
  | .tup xs => 40 :: (jn (shws xs) ++ (if xs.length = 1 then [44, 41] else [41]))
  | .lst xs => 91 :: (jn (shws xs) ++ [93])
  | _ => [78, 111, 110, 101]
def shws : List D → List (List Nat)
  | [] => []
  | x :: xs => shw x :: shws xs
end
mutual
/-- the rule knows its text: small whole numbers, plain small letters -/
def sok : D → Bool
  | .int i => Nat.ble i.natAbs.log2 1919
  | .str x => x.all fun c => Nat.ble 97 c && Nat.ble c 122
  | .bl _ => true
  | .non => true
  | .tup xs => soks xs
  | .lst xs => soks xs
  | _ => false
def soks : List D → Bool
  | [] => true
  | x :: xs => sok x && soks xs
end
mutual
/-- no text is longer -/
def wt : D → Nat
  | .int _ => 1922
  | .str x => x.length + 2
  | .tup xs => wts xs + 4
  | .lst xs => wts xs + 4
  | _ => 5
def wts : List D → Nat
  | [] => 0
  | x :: xs => wt x + 2 + wts xs
end
def reprD (d : D) (h : AH) : R D := match pd h 64 d with
  | some (.lst xs) => R.chk (soks xs && Nat.ble (wts xs) 16000000) (.ok (.str (shw (.lst xs))) h)
  | some (.tup xs) => R.chk (soks xs && Nat.ble (wts xs) 16000000) (.ok (.str (shw (.tup xs))) h)
  | _ => .no
/-- t[::-1] of a tuple -/
def revTD (x : D) (h : AH) : R D := match x with
  | .tup xs => .ok (.tup xs.reverse) h
  | _ => .no
/-- max(a tuple of whole numbers, default=d) -/
def maxOr (d : Int) : List Int → Int
  | [] => d
  | x :: xs => xs.foldl max x
def maxTD (d : Int) (x : D) (h : AH) : R D := match x with
  | .tup xs => match asInts xs with
    | some ns => .ok (.int (maxOr d ns)) h
    | none => .no
  | _ => .no
/-- sorted of pairs of whole numbers -/
def lexI (a b : Int × Int) : Bool := decide (a.1 < b.1 ∨ (a.1 = b.1 ∧ a.2 ≤ b.2))
def insP (x : Int × Int) : List (Int × Int) → List (Int × Int)
  | [] => [x]
  | y :: ys => if lexI x y then x :: y :: ys else y :: insP x ys
def sortP : List (Int × Int) → List (Int × Int)
  | [] => []
  | x :: xs => insP x (sortP xs)
def asPair : D → Option (Int × Int)
  | .tup [.int a, .int b] => some (a, b)
  | _ => none
def pairD (p : Int × Int) : D := .tup [.int p.1, .int p.2]
def sortedPD (fz : Bool) (d : D) (h : AH) : R D := match lstH h d with
  | some xs => match mapO asPair xs with
    | some ps => mkL fz ((sortP ps).map pairD) h
    | none => .no
  | none => .no
/-- isinstance(x, C) of an instance of just this class -/
def isClsD (cn : String) (d : D) (h : AH) : R D := match insH h d with
  | some (c, _, _) => R.chk (decide (c = cn)) (.ok (.bl true) h)
  | none => .no
/-- range with a step -/
def cnt3 (i j c : Int) : Nat := (if c > 0 then (if i < j then (j - i - 1) / c + 1 else 0) else (if i > j then (i - j - 1) / (-c) + 1 else 0)).toNat
def rng3 (i c : Int) (n : Nat) : List D := (List.range n).map fun (k : Nat) => .int (i + k * c)
def iR3 (a b c : AE) : AI := fun e h => (a e h).bind fun x h1 => (b e h1).bind fun y h2 => (c e h2).bind fun z h3 => match x with
  | .int i => match y with
    | .int j => match z with
      | .int k => R.chk (inI i && inI j && Nat.ble k.natAbs 1000000000 && Nat.ble 1 k.natAbs) (.ok (.lst (rng3 i k (cnt3 i j k))) h3)
      | _ => .no
    | _ => .no
  | _ => .no
/-- x in a list of plain data of any depth -/
def inAny (h : AH) (x y : D) : Option Bool := match pd h 64 x, pd h 64 y with
  | some a, some (.lst bs) => some (bs.any fun z => ev z a)
  | _, _ => none
def inDD (x y : D) (h : AH) : R D := (R.of (inAny h x y) h).bind fun b h => .ok (.bl b) h
def notInDD (x y : D) (h : AH) : R D := (R.of (inAny h x y) h).bind fun b h => .ok (.bl (!b)) h
end Sm
end

section
set_option Elab.async false
set_option linter.all false
set_option maxRecDepth 100000
set_option maxHeartbeats 1000000
/-! Sim25: repr. -/
namespace Sm
open PySem PySem.Spec PyProof.Rows L2
theorem os_ts (s : String) : Str.ofString s = ts (s.toList.map Char.toNat) := Str.ofString_eq_toList s
theorem shown_int (i : Int) : (Str.ofString (toString i)) = ts (digs i) := os_ts _
theorem sep_ts : Str.ofString ", " = ts [44, 32] := by rw [os_ts]; rfl
theorem emp_ts : Str.ofString "" = ts [] := by rw [os_ts]; rfl
theorem jn_join : ∀ xs : List (List Nat), Str.join ", " (xs.map ts) = ts (jn xs)
  | [] => rfl
  | [x] => rfl
  | x :: y :: r => by
    have ih := jn_join (y :: r)
    show ts x ++ (", " : Str) ++ Str.join ", " ((y :: r).map ts) = ts (x ++ ([44, 32] ++ jn (y :: r)))
    rw [ih, sep_ts, ts_app, ts_app, List.append_assoc]
theorem text_from : ∀ (xs : List (List Nat)) (k : Nat) (acc : List Nat), textFrom k (ts acc) (xs.map ts) = ts (acc ++ (if 0 < k ∧ xs ≠ [] then [44, 32] else []) ++ jn xs)
  | [], k, acc => by simp [textFrom, jn]
  | x :: r, k, acc => by
    have ih := text_from r (k + 1) (acc ++ (if 0 < k then [44, 32] else []) ++ x)
    show textFrom (k + 1) (ts acc ++ (if k > 0 then ", " else "" : String) ++ ts x) (r.map ts) = _
    have e : (ts acc ++ ((if k > 0 then ", " else "" : String) : Str) ++ ts x) = ts (acc ++ (if 0 < k then [44, 32] else []) ++ x) := by
      by_cases h : 0 < k
      · rw [if_pos h, if_pos h, sep_ts, ts_app, ts_app]
      · rw [if_neg h, if_neg h, emp_ts, ts_app, ts_app]
    rw [e, ih]
    congr 1
    cases r with
    | nil => simp [jn]
    | cons y r => simp [jn]
theorem shown_list (xs : List (List Nat)) : listText (xs.map ts) = ts (91 :: (jn xs ++ [93])) := by
  have h := text_from xs 0 [91]
  unfold listText
  rw [show Str.ofString "[" = ts [91] by rw [os_ts]; rfl, show Str.ofString "]" = ts [93] by rw [os_ts]; rfl, h, ts_app]
  simp
theorem shown_tup (xs : List (List Nat)) : tupleText (xs.map ts) = ts (40 :: (jn xs ++ (if xs.length = 1 then [44, 41] else [41]))) := by
  unfold tupleText
  rw [show Str.ofString "(" = ts [40] by rw [os_ts]; rfl, jn_join, List.length_map]
  by_cases h : xs.length = 1
  · rw [if_pos (by simpa using h), if_pos h, show Str.ofString ",)" = ts [44, 41] by rw [os_ts]; rfl, ts_app, ts_app]; rfl
  · rw [if_neg (by simpa using h), if_neg h, show Str.ofString ")" = ts [41] by rw [os_ts]; rfl, ts_app, ts_app]; rfl
theorem shown_str {x : List Nat} (h : (x.all fun c => Nat.ble 97 c && Nat.ble c 122) = true) : reprText (ts x) = ts (39 :: (x ++ [39])) := by
  rw [List.all_eq_true] at h
  have hc : ∀ c ∈ x, 97 ≤ c ∧ c ≤ 122 := fun c hx => by
    have := h c hx
    rw [Bool.and_eq_true] at this
    exact ⟨Nat.le_of_ble_eq_true this.1, Nat.le_of_ble_eq_true this.2⟩
  have q : reprQuote (ts x) = 39 := by
    unfold reprQuote
    have n39 : (ts x).cps.contains 39 = false := by
      show x.toArray.contains 39 = false
      rw [Bool.eq_false_iff]
      intro z
      have : 39 ∈ x := by simpa using z
      have := hc 39 this
      omega
    rw [n39]; rfl
  have ch : ∀ c, 97 ≤ c → c ≤ 122 → Builtin.Str.reprChar 39 c = [c] := by
    intro c a b
    have : c = 97 ∨ c = 98 ∨ c = 99 ∨ c = 100 ∨ c = 101 ∨ c = 102 ∨ c = 103 ∨ c = 104 ∨ c = 105 ∨ c = 106 ∨ c = 107 ∨ c = 108 ∨ c = 109 ∨ c = 110 ∨ c = 111 ∨ c = 112 ∨ c = 113 ∨ c = 114 ∨ c = 115 ∨ c = 116 ∨ c = 117 ∨ c = 118 ∨ c = 119 ∨ c = 120 ∨ c = 121 ∨ c = 122 := by omega
    rcases this with rfl | rfl | rfl | rfl | rfl | rfl | rfl | rfl | rfl | rfl | rfl | rfl | rfl | rfl | rfl | rfl | rfl | rfl | rfl | rfl | rfl | rfl | rfl | rfl | rfl | rfl <;> decide +kernel
  have fold : ∀ (y acc : List Nat), (∀ c ∈ y, 97 ≤ c ∧ c ≤ 122) → y.foldl (fun (out : Array Nat) c => out ++ (Builtin.Str.reprChar 39 c).toArray) acc.toArray = (acc ++ y).toArray := by
    intro y
    induction y with
    | nil => intro acc _; simp
    | cons c y ih =>
      intro acc hy
      have h1 := hy c (by simp)
      rw [List.foldl_cons, ch c h1.1 h1.2]
      have := ih (acc ++ [c]) fun d hd => hy d (by simp [hd])
      simpa using this
  unfold reprText
  rw [q]
  show (⟨(x.toArray.foldl _ #[39]).push 39⟩ : Str) = ⟨(39 :: (x ++ [39])).toArray⟩
  rw [← Array.foldl_toList]
  have := fold x [39] hc
  simp at this
  simp [this]
mutual
theorem shw_ok : ∀ d : D, sok d = true → PyData.shown (pdP d) = ts (shw d) ∧ PyData.showable (pdP d) = true
  | .non, _ => ⟨by simp only [pdP, PyData.shown, shw]; rw [os_ts]; rfl, rfl⟩
  | .bl b, _ => ⟨by rw [pdP, PyData.shown, shw, os_ts]; cases b <;> rfl, rfl⟩
  | .int i, h => ⟨by rw [pdP, PyData.shown, shw]; exact shown_int i, by
      rw [pdP, PyData.showable]
      rw [sok] at h
      exact decide_eq_true (Nat.lt_succ_of_le (Nat.le_of_ble_eq_true h))⟩
  | .str x, h => ⟨by rw [pdP, PyData.shown, shw]; exact shown_str (by rw [sok] at h; exact h), rfl⟩
  | .tup xs, h => by
    rw [sok] at h
    obtain ⟨a, b, c⟩ := shws_ok xs h
    exact ⟨by rw [pdP, PyData.shown, shw, a, shown_tup, c], by rw [pdP, PyData.showable]; exact b⟩
  | .lst xs, h => by
    rw [sok] at h
    obtain ⟨a, b, c⟩ := shws_ok xs h
    exact ⟨by rw [pdP, PyData.shown, shw, a, shown_list], by rw [pdP, PyData.showable]; exact b⟩
theorem shws_ok : ∀ xs : List D, soks xs = true → PyData.shownAll (pdPs xs) = (shws xs).map ts ∧ PyData.showableAll (pdPs xs) = true ∧ (shws xs).length = xs.length
  | [], _ => ⟨rfl, rfl, rfl⟩
  | x :: xs, h => by
    rw [soks, Bool.and_eq_true] at h
    obtain ⟨a, b⟩ := shw_ok x h.1
    obtain ⟨c, d, e⟩ := shws_ok xs h.2
    exact ⟨by rw [pdPs, PyData.shownAll, a, c, shws]; rfl, by rw [pdPs, PyData.showableAll, b, d]; rfl, by rw [shws]; simp [e]⟩
end
theorem jn_len : ∀ (xs : List (List Nat)), (jn xs).length ≤ (xs.map fun x => x.length + 2).sum
  | [] => by simp [jn]
  | [x] => by simp [jn]
  | x :: y :: r => by
    have := jn_len (y :: r)
    rw [jn]
    simp at this ⊢
    omega
mutual
theorem wt_ok : ∀ d : D, sok d = true → (shw d).length ≤ wt d
  | .non, _ => by simp [shw, wt]
  | .bl b, _ => by cases b <;> simp [shw, wt]
  | .int i, h => by
    rw [sok] at h
    rw [shw, wt]
    have := int_text_length_le (a := i) (k := 1920) (by decide) (Nat.lt_succ_of_le (Nat.le_of_ble_eq_true h))
    unfold digs
    rw [List.length_map]
    have e : (toString i).toList.length = (toString i).length := by first | exact String.length_toList | exact String.length_toList _ | rfl | simp [String.length]
    omega
  | .str x, _ => by rw [shw, wt]; simp
  | .tup xs, h => by
    rw [sok] at h
    have a := wts_ok xs h
    have b := jn_len (shws xs)
    rw [shw, wt]
    by_cases c : xs.length = 1
    · rw [if_pos c]; simp; omega
    · rw [if_neg c]; simp; omega
  | .lst xs, h => by
    rw [sok] at h
    have a := wts_ok xs h
    have b := jn_len (shws xs)
    rw [shw, wt]
    simp; omega
theorem wts_ok : ∀ xs : List D, soks xs = true → ((shws xs).map fun x => x.length + 2).sum ≤ wts xs
  | [], _ => by rw [shws, wts]; decide
  | x :: xs, h => by
    rw [soks, Bool.and_eq_true] at h
    have a := wt_ok x h.1
    have b := wts_ok xs h.2
    rw [shws, wts]
    simp; omega
end
section
variable {X : Cx} {G : Gh} {W : WX} {pos : Pos} {ea : Expr} {a : AE}
def rRepr (X : Cx) : List V → Hp → VK → Prop := fun xs H Q => ∃ (b : Addr) (d : PyData) (t : List Nat), xs = [V.ref b] ∧ Dp X.K H (V.ref b) d ∧ d.canLay0 = true ∧ d.depth ≤ 64 ∧ d.showable = true ∧ d.shown = ts t ∧ t.length ≤ 16000100 ∧ Q (.str (ts t)) H
end
end Sm
end

section
set_option Elab.async false
set_option linter.all false
set_option maxRecDepth 100000
set_option maxHeartbeats 1000000
/-! Sim26: range with a step. -/
namespace Sm
open PySem PySem.Spec PyProof.Rows L2
section
variable {X : Cx} {G : Gh} {W : WX} {pos : Pos} {ea eb ec : Expr} {a b c : AE}
end
end Sm
end

section
set_option Elab.async false
set_option linter.all false
set_option maxRecDepth 100000
set_option maxHeartbeats 1000000
/-! Sim27: isinstance(x, C), C a class of the text. -/
namespace Sm
open PySem PySem.Spec PyProof.Rows L2
structure IsC (K : PySem.W.Frag) (C : Addr) : Prop where
  ha : PySem.W.findIn K (.ref C) "__class__" = some (some (.builtin "object.__class__"))
  hn : PySem.W.specialIn K (.builtin "object.__class__") "__get__" = some (some (.builtin "getset_descriptor.__get__"))
  ht : PySem.W.takesIn K (.builtin "object.__class__") = some true
  hm : PySem.W.mroIn K C (.type "object") = some true
section
variable {X : Cx} {G : Gh} {W : WX} {pos : Pos} {ea : Expr} {a : AE}
end
end Sm
end

section
set_option Elab.async false
set_option linter.all false
set_option maxRecDepth 100000
set_option maxHeartbeats 1000000
/-! Sim28: sorted of pairs of whole numbers. -/
namespace Sm
open PySem PySem.Spec PyProof.Rows L2
/-- the pair that a reference stands for -/
def pairV (H : Hp) : V → Int × Int
  | .ref t => match H t with
    | some (.tup [.int a, .int b]) => (a, b)
    | _ => (0, 0)
  | _ => (0, 0)
section
variable {X : Cx} {G : Gh} {W : WX} {pos : Pos} {ea : Expr} {a : AE}
end
end Sm
end

section
set_option Elab.async false
set_option linter.all false
set_option maxRecDepth 100000
set_option maxHeartbeats 1000000
/-! Sim29: max(a tuple, default=d). -/
namespace Sm
open PySem PySem.Spec PyProof.Rows L2
def rMaxT (K : PySem.W.Frag) : List V → List V → Hp → VK → Prop := fun xs zs H Q => ∃ (a : Addr) (ns : List Int) (d : Int), xs = [V.ref a] ∧ zs = [.int d] ∧ SqT K H a (ns.map V.int) ∧ Q (.int (maxOr d ns)) H
section
variable {X : Cx} {G : Gh} {W : WX} {pos : Pos} {ea : Expr} {a : AE}
end
end Sm
end

section
set_option Elab.async false
set_option linter.all false
set_option maxRecDepth 100000
set_option maxHeartbeats 1000000
/-! Sim30: t[::-1] of a tuple. -/
namespace Sm
open PySem PySem.Spec PyProof.Rows L2
section
variable {prog : Program} {w : World} {A : Around} {E : Value → Shared → Prop} {s : Shared}
end
section
variable {X : Cx} {G : Gh} {W : WX} {ea : Expr} {a : AE}
def tRevT (K : PySem.W.Frag) (te : TE) : TE := fun σ H Q => te σ H fun x H1 => ∃ b xs, x = .ref b ∧ SqT K H1 b xs ∧ ∀ p, H1 p = none → Q (.ref p) (upd H1 p (.tup xs.reverse))
end
end Sm
end

section
set_option linter.all false
/-! Abs8: try with several clauses. -/
namespace Sm
abbrev Cl3 := List (String × Bool) × Nat × (Ex → AS)
def clsK : List Cl3 → Ex → Env → AH → R Fl
  | [], x, e, h => .ok (.ex x e) h
  | (tbl, i, su) :: r, x, e, h => match lookB x.cls tbl with
    | some true => R.chk (decide (i < e.length)) ((su x (e.set i none) h).bind (suK i))
    | some false => clsK r x e h
    | none => .no
def tryKs (cs : List Cl3) : Fl → AH → R Fl := fun f h1 => match f with
  | .ex x e1 => clsK cs x e1 h1
  | f => .ok f h1
/-- try: b, except .. as slot i: su, .. -/
def sTryMs (cs : List Cl3) (b : AS) : AS := fun e h => (b e h).bind (tryKs cs)
end Sm
end

section
set_option Elab.async false
set_option linter.all false
set_option maxRecDepth 100000
set_option maxHeartbeats 1000000
/-! Sim31: try with several clauses, each with a name. -/
namespace Sm
open PySem PySem.Spec PyProof.Rows L2 NdefX
/-- the error a of class cls lies before the clauses of X: sI is the state without it -/
structure Cau (X : Cx) (pins : List (Addr × Obj)) (σ : L2.St) (H : Hp) (a : Addr) (G : Heap) (cls : Value) (d : Option Addr) (sI s : Shared) : Prop where
  inv : Inv X pins σ H sI
  out : ∀ b o, sI.heap.get? b = some o → b ∉ frs X.stack → G.get? b = some o
  up : sI.heap.UpToSlots s.heap
  fly : HandSPX.FlyingZ G (X.env :: X.outer) a (L2N.Zn cls d) s.heap
  na : H a = none
  os : s.os = sI.os
  ag : AllBare s.gens
section
variable {X : Cx} {pins : List (Addr × Obj)} {σ : L2.St} {H : Hp} {a : Addr} {G : Heap} {cls : Value} {d : Option Addr} {sI s : Shared}
theorem Cau.here (c : Cau X pins σ H a G cls d sI s) : Inv X pins σ H s := c.inv.landed c.out c.fly.1 c.up c.os c.ag
theorem Cau.obj (c : Cau X pins σ H a G cls d sI s) (hf : X.env.frame = some X.env.locals) : ∃ o : Obj, s.heap.get? a = some o ∧ L2N.Zn cls d o ∧ (∃ vs, o.data = .fields vs) ∧ Inv (X.suite a ((a, o) :: (X.pn ++ pins))) [] σ H s := by
  obtain ⟨o, vs, g, z, dt⟩ := c.fly.there
  have out : ∀ e ∈ X.env :: X.outer, e.frame ≠ some a := fun e he q => by
    obtain ⟨_, o2, g2, nf⟩ := c.fly.2.2.1.mem (List.mem_filterMap.mpr ⟨e, he, q⟩)
    rw [g] at g2
    cases g2
    exact nf vs dt
  refine ⟨o, g, z, ⟨vs, dt⟩, c.here.suite g dt c.na (fun q => out X.env (by simp) (by rw [hf, q])) fun q => ?_⟩
  obtain ⟨e, he, q⟩ := List.mem_filterMap.mp q
  exact out e (by simp [he]) q
/-- no clause is left: it flies on -/
theorem Cau.on {W : WX} {D : Ends} (c : Cau X pins σ H a G cls d sI s) (hX : X.stack = X.env :: X.outer) (hf : X.env.frame = some X.env.locals) (tk : L2N.Takes X W) (w : W cls d σ H) : wpAny (model X.prog X.w) X.A (handleBy (.ref a) X.env []) (SP X pins D) X.xe s := by
  obtain ⟨_, _, _, o, vs, T, _, _, g, _, dt, v1, _⟩ := id c.fly
  have last : wpAny (model X.prog X.w) X.A (setFlight (.ref a) X.env.frame) (fun _ z => wpAny (model X.prog X.w) X.A (throw (.ref a) : Sem Flow) (SP X pins D) X.xe z) X.xe s := by
    rw [hf]
    exact HandSPX.setFlight_upZ c.fly fun hp held more => wpAny_throw (tk _ _ ⟨a, G, sI, pins, σ, H, cls, d, rfl, c.inv, c.out, c.up.trans more, .inr (.inr (hX ▸ held)), c.na, c.os, c.ag, w⟩)
  refine wpAny_handleBy_nil ?_
  unfold PySem.passOn
  refine wpAny_bind (wpAny_field g dt v1 ?_)
  rw [if_neg (by simp)]
  first
    | exact wpAny_bind last
    | exact wpAny_bind (wpAny_pure (wpAny_bind last))
/-- one clause -/
theorem Cau.clause {D : Ends} {x n : Str} {cv : Value} {i : Nat} {b₀ : Stmt} {suite : List Stmt} {np cp : Pos} {more : List ExceptHandler} {b : Bool} {ts : TS} (c : Cau X pins σ H a G cls d sI s) (hf : X.env.frame = some X.env.locals) (hN : X.N.Nodup) (hi : X.N[i]? = some n) (hl : X.env.kindOf n = some .local) (hc : Names X x cv)
    (hb : PySem.W.exmOne X.K cls cv = some b)
    (yes : b = true → (∀ (o : Obj) (pn : List (Addr × Obj)), L2N.Zn cls d o → (∃ vs, o.data = .fields vs) → PSs (X.suite a ((a, o) :: pn)) (b₀ :: suite) ts) ∧ ts { nx := fun σ2 H2 => D.nx (σ2.set i none) H2, rt := D.rt, bk := fun σ2 H2 => D.bk (σ2.set i none) H2, ct := fun σ2 H2 => D.ct (σ2.set i none) H2 } (σ.set i (some (.ref a))) H)
    (no : b = false → wpAny (model X.prog X.w) X.A (handleBy (.ref a) X.env more) (SP X pins D) X.xe s) : wpAny (model X.prog X.w) X.A (handleBy (.ref a) X.env (.ExceptHandler (some (.Name x np)) (some n) (b₀ :: suite) cp :: more)) (SP X pins D) X.xe s := by
  obtain ⟨o, g, z, _, S⟩ := c.obj hf
  have ty : PySem.W.Looks (model X.prog X.w) s.heap (typeOf (.ref a)) cls := fun _ _ _ _ k q => wpAny_typeOf_ref (k _ _ g) (by rw [z.1]; exact q)
  have mt := PySem.W.exm_one (M := model X.prog X.w) c.here.kIn ty hb
  have ask : ∀ {Q E : Value → Shared → Prop}, Q cv s → wpAny (model X.prog X.w) (X.A.mark (some (.ref a))) (eval (.Name x np) X.env) Q E s := fun {Q E} q => by
    obtain ⟨h1, h2, h3 | ⟨h3, h4, h5⟩⟩ := hc
    · exact ld_glob S h1 h3 q h2
    · exact ld_blt S h1 h3 h4 q h5 h2
  refine wpAny_handleBy_cons (codeAny_handlers_test (ask (mt.here ?_))) (by intro q; cases q)
  cases b with
  | false => exact no rfl
  | true =>
    obtain ⟨hs, ht⟩ := yes rfl
    refine codeAny_handlers_suite_as (HandSPX.lands_againZ c.fly fun hp fly more => ?_)
    have c2 : Cau X pins σ H a G cls d sI { s with heap := hp } := ⟨c.inv, c.out, c.up.trans more, fly, c.na, c.os, c.ag⟩
    obtain ⟨o2, g2, z2, f2, S2⟩ := c2.obj hf
    refine store_ok (v := .ref a) (X := X.suite a ((a, o2) :: (X.pn ++ pins))) S2 hN hi (.inl hl) rfl (fun s2 S3 => ?_) (.inr hl)
    refine wpAny_mono ((hs o2 (X.pn ++ pins) z2 f2).run [] s2 _ H _ S3 ht) (fun f s3 q => ?_) (fun _ _ z => False.elim z)
    have bye : ∀ {σ2 : L2.St} {H2 : Hp} {Q : Shared → Prop}, Inv (X.suite a ((a, o2) :: (X.pn ++ pins))) [] σ2 H2 s3 → (∀ s4, Inv X pins (σ2.set i none) H2 s4 → Q s4) → wpAny (model X.prog X.w) X.A (do bindName X.env n .none; unbindBehindTheSuite X.env n cp) (fun _ s4 => Q s4) X.xe s3 := fun {σ2 H2 Q} S4 hq => gone_ok (S4.unsuite c.inv.ok) hN hi hl hq
    cases f with
    | ret u =>
      obtain ⟨v, σ2, H2, S4, rv, q⟩ := q
      exact bye S4 fun _ J => ⟨v, _, _, J, rv, q⟩
    | next =>
      obtain ⟨σ2, H2, S4, q⟩ := q
      exact bye S4 fun _ J => ⟨_, H2, J, q⟩
    | brk =>
      obtain ⟨σ2, H2, S4, q⟩ := q
      exact bye S4 fun _ J => ⟨_, H2, J, q⟩
    | cont =>
      obtain ⟨σ2, H2, S4, q⟩ := q
      exact bye S4 fun _ J => ⟨_, H2, J, q⟩
end
/-- what lies before the clauses, as a wish of the body -/
def wLie (X : Cx) (hds : List ExceptHandler) (D : Ends) : WX := fun cls d σ H => ∀ (pins : List (Addr × Obj)) (a : Addr) (G : Heap) (sI s : Shared), Cau X pins σ H a G cls d sI s → wpAny (model X.prog X.w) X.A (handleBy (.ref a) X.env hds) (SP X pins D) X.xe s
section
variable {X : Cx} {W : WX} {pos : Pos}
/-- the clauses, one after the other -/
inductive Cls3 (X : Cx) : List ExceptHandler → List Cl3 → Prop
  | nil : Cls3 X [] []
  | cons {x n : Str} {cv : Value} {i : Nat} {b₀ : Stmt} {suite : List Stmt} {np cp : Pos} {tbl : List (String × Bool)} {su : Ex → AS} {hds : List ExceptHandler} {cs : List Cl3} (hi : X.N[i]? = some n) (hl : X.env.kindOf n = some .local) (hc : Names X x cv) (he : ExmT X cv tbl)
      (hsu : ∀ (a : Addr) (oe : Obj) (cls : Value) (d : Option Addr) (pn : List (Addr × Obj)) (x : Ex), L2N.Zn cls d oe → (∃ vs, oe.data = .fields vs) → SSs (X.suite a ((a, oe) :: pn)) (some ⟨i, a, cls, d, x⟩) WN (b₀ :: suite) (su x)) (r : Cls3 X hds cs) :
      Cls3 X (.ExceptHandler (some (.Name x np)) (some n) (b₀ :: suite) cp :: hds) ((tbl, i, su) :: cs)
end
end Sm
end

section
set_option Elab.async false
set_option linter.all false
set_option maxRecDepth 100000
set_option maxHeartbeats 1000000
namespace Sm
open PySem PySem.Spec PyProof.Rows L2
section
variable {X : Cx} {G : Gh} {W : WX} {ea eb : Expr} {a b : AE} {pos : Pos}
end
end Sm
end

section
set_option linter.all false
/-! Abs9: repr of None too. -/
namespace Sm
def reprAD (d : D) (h : AH) : R D := match d with
  | .non => .ok (.str [78, 111, 110, 101]) h
  | d => reprD d h
end Sm
end

section
set_option Elab.async false
set_option linter.all false
set_option maxRecDepth 100000
set_option maxHeartbeats 1000000
/-! Sim33: repr of None. -/
namespace Sm
open PySem PySem.Spec PyProof.Rows L2
section
variable {X : Cx} {G : Gh} {W : WX} {pos : Pos} {ea : Expr} {a : AE}
def rReprA (X : Cx) : List V → Hp → VK → Prop := fun xs H Q => rRepr X xs H Q ∨ (xs = [V.non] ∧ Q (.str (ts [78, 111, 110, 101])) H)
end
end Sm
end

section
set_option Elab.async false
set_option linter.all false
set_option maxRecDepth 100000
set_option maxHeartbeats 1000000
/-! Sim34: tuple(range(a)). -/
namespace Sm
open PySem PySem.Spec PyProof.Rows L2
section
variable {X : Cx} {G : Gh} {W : WX} {pos : Pos} {ea eb : Expr} {a b : AE} {x y : Str} {p p' pos' : Pos}
end
end Sm
end

section
set_option Elab.async false
set_option linter.all false
set_option maxRecDepth 100000
set_option maxHeartbeats 1000000
/-! SimI: defs called within an except suite (loops over lists and tuples there). -/
namespace HotX
open PySem PySem.Spec PyProof.Rows
section
variable {prog : Program} {w : World} {A : Around} {E : Value → Shared → Prop} {s : Shared}
end
end HotX
namespace L2H
open PySem PySem.Spec PyProof.Rows L2 HotX
end L2H
namespace Sm
open PySem PySem.Spec PyProof.Rows L2 NdefX L2H
end Sm
end

section
set_option Elab.async false
set_option linter.all false
set_option maxRecDepth 100000
set_option maxHeartbeats 1000000
/-! SimJ: the judgement of defs called within an except suite, and their calls. -/
theorem L2H.RoomH.units {k : Nat} {A : PySem.Around} (r : L2H.RoomH k A) : A.units + 64 < PySem.cLine := by
  have := r.un
  omega
theorem L2H.RoomH.units0 {k : Nat} {A : PySem.Around} (r : L2H.RoomH k A) : A.units < PySem.cLine := by
  have := r.un
  omega
namespace Sm
open PySem PySem.Spec PyProof.Rows L2 NdefX L2H
theorem PIH.imp {X : Cx} {tg iter : Expr} {w w' : TI} (h : PIH X tg iter w) (f : ∀ σ H R, w' σ H R → w σ H R) : PIH X tg iter w' := ⟨fun pins s σ H R I q => h.run pins s σ H R I (f σ H R q)⟩
section
variable {X : Cx} {G : Gh} {W : WX} {pos : Pos} {ea eb ec : Expr} {a b c : AE}
abbrev SIH (X : Cx) (G : Gh) (W : WX) (tg iter : Expr) (it : AI) : Prop := PIH X tg iter (tI W (tb X G) it)
end
section
variable {P : Program} {w : World} {K : PySem.W.Frag} {mg : Str → Option Value} {base : Heap}
abbrev bodyH (P : Program) (w : World) (K : PySem.W.Frag) (mg : Str → Option Value) (base : Heap) (N : List Str) (qual : Str) (st : Stmt) (f : Addr) (cdv : Value) (A : Around) (outer : List PySem.Env) (s : Shared) (H : Hp) (E : XK) (p : Addr × Obj) : Cx := cxH (L2N.CX P w) P w K mg base N qual (defScope st) f cdv A outer s H E p
end
end Sm
end

section
set_option linter.all false
/-! Abs10: the keys of a dict whose keys are tuples. -/
namespace Sm
def keyD : K1 → D
  | .i k => .int k
  | .s x => .str x
def keysTD (x : D) (h : AH) : R D := match dicTH h x with
  | some (_, kvs) => R.chk (decide (kvs.length < big)) (.ok (.lst (kvs.map fun kv => .tup (kv.1.map keyD))) h)
  | none => .no
/-- [v for v in d]: i the dict's name, j the walk's own -/
def eKeysT (i j : Nat) : AE := fun e h => (eV i e h).bind fun d h1 => R.chk (decide (j < e.length)) (keysTD d h1)
end Sm
end

section
set_option Elab.async false
set_option linter.all false
set_option maxRecDepth 100000
set_option maxHeartbeats 1000000
/-! Sim36: name = [x for x in d], d a dict with tuple keys. -/
namespace Sm
open PySem PySem.Spec PyProof.Rows L2
theorem RelH.offTup {T : Tb} {M : Mp} {ah : AH} {H : Hp} (q : RelH T M ah H) {a : Addr} {xs : List V} (h : H a = some (.tup xs)) : Off M a := by
  refine ⟨fun z => ?_, fun z => ?_⟩
  · obtain ⟨l, e⟩ := List.mem_iff_getElem?.mp z
    obtain ⟨o, _, r⟩ := q.at_ e
    cases o with
    | lst ds => obtain ⟨vs, e, _⟩ := r; rw [h] at e; cases e
    | dic ks ds => obtain ⟨vs, e, _⟩ := r; rw [h] at e; cases e
    | dicT ks ds => obtain ⟨vs, e, _⟩ := r; rw [h] at e; cases e
    | ins c ns ds => obtain ⟨C, dx, vs, _, e, _⟩ := r; rw [h] at e; cases e
    | set xs => obtain ⟨S, n, e, _⟩ := r; rw [h] at e; unfold SetO at e; cases e
  · obtain ⟨o, e, n⟩ := q.exs a z
    rw [h] at e
    cases e
    exact n xs rfl
theorem rep_keyD {T : Tb} {M : Mp} {H : Hp} (k : K1) : Rep T M H (keyD k) (kV (kOf k)) := by
  cases k with
  | i k => unfold keyD; rw [Rep]; rfl
  | s x => unfold keyD; rw [Rep]; rfl
theorem reps_keyD {T : Tb} {M : Mp} {H : Hp} : ∀ ks : List K1, Reps T M H (ks.map keyD) ((ks.map kOf).map kV)
  | [] => by show Reps T M H [] []; rw [Reps]
  | k :: ks => by
    show Reps T M H (keyD k :: ks.map keyD) (kV (kOf k) :: (ks.map kOf).map kV)
    rw [Reps]
    exact ⟨_, _, rfl, rep_keyD k, reps_keyD ks⟩
theorem reps_keysT {T : Tb} {M : Mp} {ah : AH} {H : Hp} (q : RelH T M ah H) {L : Addr} {o : HO} (hL : H L = none) : ∀ {kvs : List (List K1 × D)} {u : List (List Key × V)} {us : List V}, KVG kOfs T M H kvs u → us.length = u.length → (∀ j < u.length, ∃ q k x, u[j]? = some (k, x) ∧ us[j]? = some (.ref q) ∧ H q = some (.tup (k.map kV))) → Reps T M (upd H L o) (kvs.map fun kv => .tup (kv.1.map keyD)) us
  | [], [], [], _, _, _ => by rw [List.map_nil, Reps]
  | _ :: _, _ :: _, [], _, hl, _ => by simp at hl
  | [], [], _ :: _, _, hl, _ => by simp at hl
  | (k, d) :: kvs, _ :: u, v :: us, .cons h t, hl, hu => by
    obtain ⟨p, k2, x, e1, e2, e3⟩ := hu 0 (by simp)
    cases e1
    cases e2
    have pn : p ≠ L := fun z => by rw [z, hL] at e3; cases e3
    rw [List.map_cons, Reps]
    refine ⟨_, _, rfl, ?_, reps_keysT q hL t (by simpa using hl) fun j hj => ?_⟩
    · rw [Rep]
      exact ⟨p, _, rfl, ⟨q.offTup e3, by rw [upd_ne pn]; exact e3⟩, reps_keyD k⟩
    · have := hu (j + 1) (by simp; omega)
      simpa using this
section
variable {X : Cx} {G : Gh} {W : WX} {pos : Pos}
theorem z_keysT {i kd iv : Nat} {y v dn : Str} {py pv pv2 pd spos : Pos} {scope : Scope} (hc : X.calm = true) (hN : X.N.Nodup) (hy : X.N[i]? = some y) (hyl : X.env.scope.names.lookup y = some .local)
    (hk : X.env.scope.kind = .function) (hl : (py.line == pos.line) = true) (hn : (scope.names.any fun (n, k) => n == y && (k == .local || k == .cell)) = false) (hdN : X.N[kd]? = some dn) (hdv : Vis X.env.scope dn) (ok : blkC X.N X.env.scope scope [(v, iv)] = true)
    (hg : ∀ (s : Shared) (H : Hp) (C : Addr) (cl : List (Str × Addr)) (fp : List Addr), PG (X.blk s H scope (compEnvC scope cl C X.env) fp) (.Name v pv) (gName iv))
    (he : ∀ (s : Shared) (H : Hp) (C : Addr) (cl : List (Str × Addr)) (fp : List Addr), PE (X.blk s H scope (compEnvC scope cl C X.env) fp) (.Name v pv2) (tVar iv))
    (hdb : (dn == ("__debug__" : Str)) = false := by decide) (hcd : (dn == ("__classdict__" : Str)) = false := by decide) (hs : ∀ x, foldedSetIterable (.Name dn pd) X.env x = pure x := by intro _; rfl) :
    SS X none W (.Assign [.Name y py] (.ListComp (.Name v pv2) [⟨.Name v pv, .Name dn pd, [], 0⟩] scope pos) spos) (sSet i (eKeysT kd iv)) :=
  PS.imp (ps_lock (ps_setLc (own := [(v, iv)]) hc hN hy hyl (sw_true hk hyl hl hn) (pi_keys (pe_var hdN hdv hdb hcd)) (blkOk_by ok) hg (fun _ _ _ _ _ => pts_nil) he hs)) fun D σ H h => by
    obtain ⟨M, e, ah, S, P⟩ := h
    have P := upI S P (Q := fun d M1 ah1 H1 => ∀ v, Rep (tb X none) M1 H1 d v → D.nx (σ.set i (some v)) H1) fun d M1 ah1 H1 s1 q1 P1 v hv => Post.here P1 q1 _ ((S.step s1 q1).set hv i ng_none)
    unfold eKeysT eV at P
    split at P
    · rename_i d he0
      obtain ⟨dv, es, rd⟩ := S.slot kd d he0
      have P : Post (tb X none) (WE W σ) M H (fun d M1 ah1 H1 => ∀ v, Rep (tb X none) M1 H1 d v → D.nx (σ.set i (some v)) H1) (R.chk (decide (iv < e.length)) (keysTD d ah)) := P
      by_cases hiv : iv < e.length
      · rw [decide_eq_true hiv, chk_true] at P
        unfold keysTD at P
        cases hd : dicTH ah d with
        | none => rw [hd] at P; exact P.elim
        | some lk =>
          obtain ⟨l, kvs⟩ := lk
          rw [hd] at P
          dsimp only at P
          by_cases hz : kvs.length < big
          · rw [decide_eq_true hz, chk_true] at P
            obtain ⟨a, u, rfl, hm, ha, kvg⟩ := rep_dicT S.h rd hd
            refine ⟨a, .dT u, ha, trivial, fun od => ?_⟩
            have neL : ∀ {L : Addr}, upd H a (.frz od (.dT u)) L = none → L ≠ a ∧ H L = none := fun {L} hL => by
              have : L ≠ a := fun z => by rw [z, upd_same] at hL; cases hL
              exact ⟨this, by rw [upd_ne this] at hL; exact hL⟩
            refine ⟨.ref a, es, a, od, rfl, .inr ⟨u, upd_same, fun L hL => ?_⟩⟩
            obtain ⟨Lna, hLn⟩ := neL hL
            refine ⟨fun i m Hc => ∃ us : List V, Hc = upd (upd H a (.frz od (.dT u))) L (.lst us) ∧ us.length = i ∧ i ≤ u.length ∧ m = u.length - i ∧ ∀ j < i, ∃ q k x, u[j]? = some (k, x) ∧ us[j]? = some (.ref q) ∧ H q = some (.tup (k.map kV)), ⟨_, [], rfl, rfl, Nat.zero_le _, rfl, fun j hj => absurd hj (Nat.not_lt_zero _)⟩, ?_⟩
            rintro n m Hc ⟨us, rfl, hlen, hle, rfl, hus⟩
            have hca : upd (upd H a (.frz od (.dT u))) L (.lst us) a = some (.frz od (.dT u)) := by rw [upd_ne (Ne.symm Lna), upd_same]
            by_cases hlt : n < u.length
            · refine .inr ⟨⟨hca, hlt⟩, fun H' => ∃ q k x, u[n]? = some (k, x) ∧ H q = some (.tup (k.map kV)) ∧ H' = upd (upd H a (.frz od (.dT u))) L (.lst (us ++ [.ref q])), ?_, ?_⟩
              · rintro H' ⟨q, k, x, e1, e2, rfl⟩
                refine ⟨u.length - (n + 1), by omega, us ++ [.ref q], rfl, by simp [hlen], by omega, rfl, fun j hj => ?_⟩
                by_cases hjn : j = n
                · subst hjn
                  exact ⟨q, k, x, e1, by rw [List.getElem?_append_right (by omega)]; simp [hlen], e2⟩
                · obtain ⟨q2, k2, x2, f1, f2, f3⟩ := hus j (by omega)
                  exact ⟨q2, k2, x2, f1, by rw [List.getElem?_append_left (by omega)]; exact f2, f3⟩
              · rintro x H' ⟨rfl, k, xv, q, e1, rfl, e2⟩
                have hq : H q = some (.tup (k.map kV)) := by
                  have n1 : q ≠ L := fun z => by rw [z, upd_same] at e2; cases e2
                  rw [upd_ne n1] at e2
                  have n2 : q ≠ a := fun z => by rw [z, upd_same] at e2; cases e2
                  rw [upd_ne n2] at e2; exact e2
                have hsl : iv < σ.length := by rw [← S.len]; exact hiv
                refine ⟨?_, ?_⟩
                · show ((σ.set iv none).set iv (some (.ref q))).set iv none = σ.set iv none
                  rw [List.set_set, List.set_set]
                · unfold L2.tYes; dsimp only
                  rw [if_pos rfl]
                  refine ⟨.ref q, ?_, us, upd_same, by rw [← big_eq, hlen]; have := kvg.len; omega, q, k, xv, e1, hq, by rw [upd_upd]⟩
                  show ((σ.set iv none).set iv (some (.ref q)))[iv]? = _
                  exact List.getElem?_set_self (by simpa using hsl)
            · have hn : n = u.length := by omega
              refine .inl ⟨⟨hca, by omega⟩, ?_⟩
              show upd (upd H a (.frz od (.dT u))) L (.lst us) a = some (.frz od (.dT u)) ∧ D.nx (σ.set i (some (.ref L))) (upd (upd (upd H a (.frz od (.dT u))) L (.lst us)) a (.dT u))
              refine ⟨hca, ?_⟩
              have hH : upd (upd (upd H a (.frz od (.dT u))) L (.lst us)) a (.dT u) = upd H L (.lst us) := by
                funext b
                by_cases h1 : b = a
                · subst h1; rw [upd_same, upd_ne (Ne.symm Lna), ha]
                · rw [upd_ne h1]
                  by_cases h2 : b = L
                  · subst h2; rw [upd_same, upd_same]
                  · rw [upd_ne h2, upd_ne h2, upd_ne h1]
              rw [hH]
              refine P M (upd H L (.lst us)) (step_new (.lst us) hLn) (S.h.new (.lst us) hLn) (.ref L) ?_
              rw [Rep]
              refine ⟨L, us, rfl, ⟨S.h.offNew hLn, upd_same⟩, ?_⟩
              exact reps_keysT S.h hLn kvg (by omega) (fun j hj => hus j (by omega))
          · rw [decide_eq_false hz] at P; exact P.elim
      · rw [decide_eq_false hiv] at P; exact P.elim
    · exact P.elim
end
end Sm
end

section
set_option linter.all false
/-! k06: plain computations (printed by gen2.py) -/
namespace Sm
/- never_ends: parents, field, place, _ -/
def b_never_ends : AS := sB [sSet 2 (eV 1),
  sFor (iR1 (eA (on1 lenD) (eL [eV 0]))) (gV 3) (sB [sIf (tB1 (e1 isNonD (eV 2))) (sB [sRet (eC (.bl false))]) (sB []),
    sSet 2 (e2 ixD (eV 0) (eV 2))]),
  sRet (e1 notNonD (eV 2))]
def F_never_ends : AF := fnT 2 4 b_never_ends
/- check_shape: parents, kinds, fields, field -/
def b_check_shape : AS := sB [sSet 2 (eA (on1 lenD) (eL [eV 0])),
  sIf (tOr (tB1 (e2 neD (eV 2) (eA (on1 lenD) (eL [eV 1])))) (tNot (tB1 (eChain leD leD (eC (.int 1)) (eV 2) (eC (.int 16)))))) (sB [sRaise "BadForest" ["field"] (eL [eC .non])]) (sB []),
  sFor (iR1 (eV 2)) (gV 3) (sB [sIf (tAnd (tB1 (e1 notNonD (e2 ixD (eV 0) (eV 3)))) (tNot (tB1 (eChain leD ltD (eC (.int 0)) (e2 ixD (eV 0) (eV 3)) (eV 2))))) (sB [sRaise "BadForest" ["field"] (eL [eV 3])]) (sB [])]),
  sFor (iR1 (eV 2)) (gV 3) (sB [sIf (tV (eA (F_never_ends) (eL [eV 0, eV 3]))) (sB [sRaise "BadForest" ["field"] (eL [eV 3])]) (sB [])]),
  sFor (iR1 (eV 2)) (gV 3) (sB [sIf (tAnd (tB1 (e2 inD (e2 ixD (eV 1) (eV 3)) (eTup (eL [eC (.str [102, 105, 114, 115, 116]), eC (.str [108, 97, 115, 116])])))) (tB1 (e2 inD (eV 3) (eV 0)))) (sB [sRaise "BadForest" ["field"] (eL [eV 3])]) (sB [])])]
def F_check_shape : AF := fnT 2 4 b_check_shape
/- Forest.__init__: self, parents, kinds -/
def b_Forest_init : AS := sB [sE (eA (F_check_shape) (eL [eV 1, eV 2])),
  sFldS (setFldD ["Forest"] "fields") (eV 0) (eA (on1 lenD) (eL [eV 1])),
  sFldS (setFldD ["Forest"] "parents") (eV 0) (eA (on1 tupD) (eL [eV 1])),
  sFldS (setFldD ["Forest"] "kinds") (eV 0) (eA (on1 tupD) (eL [eV 2]))]
def F_Forest_init : AF := fnT 3 3 b_Forest_init
/- _law_exchanged: _law_kinds_here, _law_one, _law_other, _law_kind -/
def b_q_exchanged : AS := sB [sRet (eLC true [3] (iS (eV 0)) (gV 3) (tYes) (eGet2 (eDisp true [(eV 1, eV 2), (eV 2, eV 1)]) (eV 3) (eV 3)))]
def F_q_exchanged : AF := fnT 3 4 b_q_exchanged
/- path_of: parents, field, path -/
def b_path_of : AS := sB [sSet 2 (eLst false (eL [eV 1])),
  sWhile (tB1 (e1 notNonD (e2 ixD (eV 0) (e2 ixD (eV 2) (e1 negD (eC (.int 1))))))) (sB [sE (eM isLst (mt1 appendD) (eV 2) (eL [e2 ixD (eV 0) (e2 ixD (eV 2) (e1 negD (eC (.int 1))))]))]),
  sRet (eA (on1 tupD) (eL [e1 (revD true) (eV 2)]))]
def F_path_of : AF := fnT 2 3 b_path_of
/- Forest.beneath: self, field, reached, place -/
def b_Forest_beneath : AS := sB [sSet 2 (eLC true [3] (iR1 (e1 (fldD ["Forest"] "fields") (eV 0))) (gV 3) (tB1 (e2 inD (eV 1) (eA (F_path_of) (eL [e1 (fldD ["Forest"] "parents") (eV 0), eV 3])))) (eV 3)),
  sRet (eA (on1 tupD) (eL [eLC true [3] (iS (eV 2)) (gV 3) (tB1 (e2 neD (eV 3) (eV 1))) (eV 3)]))]
def F_Forest_beneath : AF := fnT 2 4 b_Forest_beneath
/- Forest.children: self, field, child -/
def b_Forest_children : AS := sB [sRet (eA (on1 tupD) (eL [eLC true [2] (iR1 (e1 (fldD ["Forest"] "fields") (eV 0))) (gV 2) (tB1 (e2 eqD (e2 ixD (e1 (fldD ["Forest"] "parents") (eV 0)) (eV 2)) (eV 1))) (eV 2)]))]
def F_Forest_children : AF := fnT 2 3 b_Forest_children
/- Forest.fair: self -/
def b_Forest_fair : AS := sB [sRet (eAnd (e2 notInD (eC (.str [102, 105, 114, 115, 116])) (e1 (fldD ["Forest"] "kinds") (eV 0))) (e2 notInD (eC (.str [108, 97, 115, 116])) (e1 (fldD ["Forest"] "kinds") (eV 0))))]
def F_Forest_fair : AF := fnT 1 1 b_Forest_fair
/- Forest.leaves: self, field -/
def b_Forest_leaves : AS := sB [sRet (eA (on1 tupD) (eL [eLC true [1] (iR1 (eA (on1 lenD) (eL [e1 (fldD ["Forest"] "parents") (eV 0)]))) (gV 1) (tB1 (e2 notInD (eV 1) (e1 (fldD ["Forest"] "parents") (eV 0)))) (eV 1)]))]
def F_Forest_leaves : AF := fnT 1 2 b_Forest_leaves
/- Forest.path: self, field -/
def b_Forest_path : AS := sB [sRet (eA (F_path_of) (eL [e1 (fldD ["Forest"] "parents") (eV 0), eV 1]))]
def F_Forest_path : AF := fnT 2 2 b_Forest_path
/- Forest.roots: self, field -/
def b_Forest_roots : AS := sB [sRet (eA (on1 tupD) (eL [eLC true [1] (iR1 (eA (on1 lenD) (eL [e1 (fldD ["Forest"] "parents") (eV 0)]))) (gV 1) (tB1 (e1 isNonD (e2 ixD (e1 (fldD ["Forest"] "parents") (eV 0)) (eV 1)))) (eV 1)]))]
def F_Forest_roots : AF := fnT 1 2 b_Forest_roots
/- Forest.word: self, field, place -/
def b_Forest_word : AS := sB [sRet (eA (on1 tupD) (eL [eLC true [2] (iS (eA (F_path_of) (eL [e1 (fldD ["Forest"] "parents") (eV 0), eV 1]))) (gV 2) (tYes) (eTup (eL [eV 2, e2 ixD (e1 (fldD ["Forest"] "kinds") (eV 0)) (eV 2)]))]))]
def F_Forest_word : AF := fnT 2 3 b_Forest_word
/- _law_path: _law_parents_here, _law_field, _law_path_here, _law_k -/
def b_q_path : AS := sB [sSet 2 (eLst false (eL [eV 1])),
  sFor (iR1 (eA (on1 lenD) (eL [eV 0]))) (gV 3) (sB [sIf (tB1 (e1 notNonD (e2 ixD (eV 0) (e2 ixD (eV 2) (eC (.int 0)))))) (sB [sE (eM isLst (mt2 insertD) (eV 2) (eL [eC (.int 0), e2 ixD (eV 0) (e2 ixD (eV 2) (eC (.int 0)))]))]) (sB [])]),
  sRet (eV 2)]
def F_q_path : AF := fnT 2 4 b_q_path
/- _law_is_integer: _law_actual -/
def b_q_is_integer : AS := sB [sRet (eAnd (e1 (isTy "int") (eV 0)) (e1 notD (e1 (isTy "bool") (eV 0))))]
def F_q_is_integer : AF := fnT 1 1 b_q_is_integer
/- _law_same: _law_actual, _law_expected, _law_k -/
def b_q_same : AS := sB [sIf (tOr (tNot (tV (e1 (isTy "tuple") (eV 0)))) (tB1 (e2 neD (eA (on1 lenD) (eL [eV 0])) (eA (on1 lenD) (eL [eV 1]))))) (sB [sRet (eC (.bl false))]) (sB []),
  sFor (iR1 (eA (on1 lenD) (eL [eV 1]))) (gV 2) (sB [sIf (tB1 (e1 isNonD (e2 ixD (eV 1) (eV 2)))) (sB [sIf (tB1 (e1 notNonD (e2 ixD (eV 0) (eV 2)))) (sB [sRet (eC (.bl false))]) (sB [])]) (sB [sIf (tOr (tNot (tV (eA (F_q_is_integer) (eL [e2 ixD (eV 0) (eV 2)])))) (tB1 (e2 neD (e2 ixD (eV 0) (eV 2)) (e2 ixD (eV 1) (eV 2))))) (sB [sRet (eC (.bl false))]) (sB [])])]),
  sRet (eC (.bl true))]
def F_q_same : AF := fnT 2 3 b_q_same
/- _law_same_word: _law_actual, _law_expected, _law_k, _law_step -/
def b_q_same_word : AS := sB [sIf (tOr (tNot (tV (e1 (isTy "tuple") (eV 0)))) (tB1 (e2 neD (eA (on1 lenD) (eL [eV 0])) (eA (on1 lenD) (eL [eV 1]))))) (sB [sRet (eC (.bl false))]) (sB []),
  sFor (iR1 (eA (on1 lenD) (eL [eV 1]))) (gV 2) (sB [sSet 3 (e2 ixD (eV 0) (eV 2)),
    sIf (tOr (tNot (tV (e1 (isTy "tuple") (eV 3)))) (tOr (tB1 (e2 neD (eA (on1 lenD) (eL [eV 3])) (eC (.int 2)))) (tNot (tV (e1 (isTy "str") (e2 ixD (eV 3) (eC (.int 1)))))))) (sB [sRet (eC (.bl false))]) (sB []),
    sIf (tOr (tNot (tV (eA (F_q_is_integer) (eL [e2 ixD (eV 3) (eC (.int 0))])))) (tB1 (e2 neD (eV 3) (e2 ixD (eV 1) (eV 2))))) (sB [sRet (eC (.bl false))]) (sB [])]),
  sRet (eC (.bl true))]
def F_q_same_word : AF := fnT 2 4 b_q_same_word
/- _law_texts: _law_actual, _law_expected, _law_k -/
def b_q_texts : AS := sB [sIf (tOr (tNot (tV (e1 (isTy "tuple") (eV 0)))) (tB1 (e2 neD (eA (on1 lenD) (eL [eV 0])) (eA (on1 lenD) (eL [eV 1]))))) (sB [sRet (eC (.bl false))]) (sB []),
  sFor (iR1 (eA (on1 lenD) (eL [eV 1]))) (gV 2) (sB [sIf (tOr (tNot (tV (e1 (isTy "str") (e2 ixD (eV 0) (eV 2))))) (tB1 (e2 neD (e2 ixD (eV 0) (eV 2)) (e2 ixD (eV 1) (eV 2))))) (sB [sRet (eC (.bl false))]) (sB [])]),
  sRet (eC (.bl true))]
def F_q_texts : AF := fnT 2 3 b_q_texts
/- _law_shown: _law_forest, _law_parents_here, _law_kinds_here -/
def b_q_shown : AS := sB [sIf (tOr (tNot (tV (eA (F_q_is_integer) (eL [e1 (fldD ["Forest"] "fields") (eV 0)])))) (tB1 (e2 neD (e1 (fldD ["Forest"] "fields") (eV 0)) (eA (on1 lenD) (eL [eV 1]))))) (sB [sRet (eC (.bl false))]) (sB []),
  sRet (eAnd (eA (F_q_same) (eL [e1 (fldD ["Forest"] "parents") (eV 0), eV 1])) (eA (F_q_texts) (eL [e1 (fldD ["Forest"] "kinds") (eV 0), eV 2])))]
def F_q_shown : AF := fnT 3 3 b_q_shown
/- _law_word: _law_parents_here, _law_kinds_here, _law_field, _law_place -/
def b_q_word : AS := sB [sRet (eA (on1 tupD) (eL [eLC true [3] (iS (eA (F_q_path) (eL [eV 0, eV 2]))) (gV 3) (tYes) (eTup (eL [eV 3, e2 ixD (eV 1) (eV 3)]))]))]
def F_q_word : AF := fnT 3 4 b_q_word
/- _law_fits: _law_forest, _law_parents_here, _law_kinds_here, _law_n, _law_roots, _law_field, _law_fair, _law_paths, _law_other, _law_under -/
def b_q_fits : AS := sB [sSet 3 (eA (on1 lenD) (eL [eV 1])),
  sIf (tNot (tV (eA (F_q_shown) (eL [eV 0, eV 1, eV 2])))) (sB [sRet (eC (.bl false))]) (sB []),
  sSet 4 (eLC true [5] (iR1 (eV 3)) (gV 5) (tB1 (e1 isNonD (e2 ixD (eV 1) (eV 5)))) (eV 5)),
  sSet 6 (eAnd (e2 notInD (eC (.str [102, 105, 114, 115, 116])) (eV 2)) (e2 notInD (eC (.str [108, 97, 115, 116])) (eV 2))),
  sIf (tOr (tNot (tV (eA (F_q_same) (eL [ePrp [("Forest", F_Forest_roots)] (eV 0), eV 4])))) (tNot (tV (eA (F_q_same) (eL [eMth [("Forest", F_Forest_children)] "children" (eV 0) (eL [eC .non]), eV 4]))))) (sB [sRet (eC (.bl false))]) (sB []),
  sIf (tNot (tV (eA (F_q_same) (eL [ePrp [("Forest", F_Forest_leaves)] (eV 0), eLC true [5] (iR1 (eV 3)) (gV 5) (tB1 (e2 notInD (eV 5) (eV 1))) (eV 5)])))) (sB [sRet (eC (.bl false))]) (sB []),
  sIf (tOr (tNot (tV (e1 (isTy "bool") (ePrp [("Forest", F_Forest_fair)] (eV 0))))) (tB1 (e2 neD (ePrp [("Forest", F_Forest_fair)] (eV 0)) (eV 6)))) (sB [sRet (eC (.bl false))]) (sB []),
  sSet 7 (eLC true [5] (iR1 (eV 3)) (gV 5) (tYes) (eA (F_q_path) (eL [eV 1, eV 5]))),
  sFor (iR1 (eV 3)) (gV 5) (sB [sIf (tNot (tV (eA (F_q_same) (eL [eMth [("Forest", F_Forest_path)] "path" (eV 0) (eL [eV 5]), e2 ixD (eV 7) (eV 5)])))) (sB [sRet (eC (.bl false))]) (sB []),
    sIf (tNot (tV (eA (F_q_same_word) (eL [eMth [("Forest", F_Forest_word)] "word" (eV 0) (eL [eV 5]), eA (F_q_word) (eL [eV 1, eV 2, eV 5])])))) (sB [sRet (eC (.bl false))]) (sB []),
    sIf (tNot (tV (eA (F_q_same) (eL [eMth [("Forest", F_Forest_children)] "children" (eV 0) (eL [eV 5]), eLC true [8] (iR1 (eV 3)) (gV 8) (tB1 (e2 eqD (e2 ixD (eV 1) (eV 8)) (eV 5))) (eV 8)])))) (sB [sRet (eC (.bl false))]) (sB []),
    sSet 9 (eLC true [8] (iR1 (eV 3)) (gV 8) (tAnd (tB1 (e2 neD (eV 8) (eV 5))) (tB1 (e2 inD (eV 5) (e2 ixD (eV 7) (eV 8))))) (eV 8)),
    sIf (tNot (tV (eA (F_q_same) (eL [eMth [("Forest", F_Forest_beneath)] "beneath" (eV 0) (eL [eV 5]), eV 9])))) (sB [sRet (eC (.bl false))]) (sB [])]),
  sRet (eC (.bl true))]
def F_q_fits : AF := fnT 3 10 b_q_fits
/- _law_take: _law_tape_here, _law_size, _law_cell, _law_k, _law_mixed -/
def b_q_take : AS := sB [sSet 2 (e2 ixD (eV 0) (eC (.int 0))),
  sSub setIxD (eV 0) (eC (.int 1)) (e2 (addD true) (e2 ixD (eV 0) (eC (.int 1))) (eC (.int 1))),
  sSet 3 (e2 ixD (eV 0) (eC (.int 1))),
  sIf (tB1 (e2 geD (eV 2) (e2 powD (eC (.int 10)) (eC (.int 18))))) (sB [sSub setIxD (eV 0) (eC (.int 0)) (e2 fdivD (eV 2) (eV 1)),
    sRet (e2 modD (eA (on1 intD) (eL [eV 2])) (eV 1))]) (sB []),
  sSet 4 (e2 modD (eA (on1 intD) (eL [e2 (addD true) (e2 (addD true) (eV 2) (e2 (mulD true) (eC (.int 7919)) (eV 3))) (eC (.int 13))])) (eC (.int 2147483647))),
  sSet 4 (e2 modD (eA (on1 intD) (eL [e2 (mulD true) (eV 4) (e2 (addD true) (eV 4) (eC (.int 48271)))])) (eC (.int 2147483629))),
  sSet 4 (e2 modD (eA (on1 intD) (eL [e2 (addD true) (e2 (mulD true) (eV 4) (e2 (addD true) (eV 4) (eC (.int 69621)))) (e2 (mulD true) (eC (.int 31)) (eV 3))])) (eC (.int 2147483647))),
  sRet (e2 modD (eA (on1 intD) (eL [e2 fdivD (eV 4) (eC (.int 9))])) (eV 1))]
def F_q_take : AF := fnT 2 5 b_q_take
/- _law_kinds: _law_tape_here, _law_parents_here, _law_fair, _law_kinds_here, _law_field, _law_pick -/
def b_q_kinds : AS := sB [sSet 3 (eLst false (eL [])),
  sFor (iR1 (eA (on1 lenD) (eL [eV 1]))) (gV 4) (sB [sSet 5 (eA (F_q_take) (eL [eV 0, eC (.int 4)])),
    sIf (tOr (tV (eV 2)) (tB1 (e2 inD (eV 4) (eV 1)))) (sB [sSet 5 (e2 modD (eA (on1 intD) (eL [eV 5])) (eC (.int 2)))]) (sB []),
    sE (eM isLst (mt1 appendD) (eV 3) (eL [e2 ixD (eLst true (eL [eC (.str [117, 112]), eC (.str [100, 111, 119, 110]), eC (.str [102, 105, 114, 115, 116]), eC (.str [108, 97, 115, 116])])) (eV 5)]))]),
  sRet (eV 3)]
def F_q_kinds : AF := fnT 3 6 b_q_kinds
/- _law_turns: _law_tape_here, _law_n, _law_left, _law_turns_here, _law_k -/
def b_q_turns : AS := sB [sSet 2 (eLR false false (eC (.int 0)) (eV 1)),
  sSet 3 (eLst false (eL [])),
  sFor (iR1 (eV 1)) (gV 4) (sB [sE (eM isLst (mt1 appendD) (eV 3) (eL [eM isLst (mt1 popAtD) (eV 2) (eL [eA (F_q_take) (eL [eV 0, eA (on1 lenD) (eL [eV 2])])])]))]),
  sRet (eV 3)]
def F_q_turns : AF := fnT 2 5 b_q_turns
/- _law_parents: _law_tape_here, _law_n, _law_turns_here, _law_bend, _law_parents_here, _law_k, _law_pick -/
def b_q_parents : AS := sB [sSet 2 (eA (F_q_turns) (eL [eV 0, eV 1])),
  sSet 3 (eA (F_q_take) (eL [eV 0, eC (.int 4)])),
  sSet 4 (eLC false [5] (iR1 (eV 1)) (gV 5) (tYes) (eC .non)),
  sFor (iR2 (eC (.int 1)) (eV 1)) (gV 5) (sB [sSet 6 (eA (F_q_take) (eL [eV 0, e2 (addD true) (eV 5) (eC (.int 1))])),
    sIf (tB1 (e2 eqD (eV 3) (eC (.int 0)))) (sB [sSet 6 (eV 5)]) (sB []),
    sIf (tB1 (e2 eqD (eV 3) (eC (.int 1)))) (sB [sSet 6 (eC (.int 0))]) (sB []),
    sIf (tB1 (e2 gtD (eV 6) (eC (.int 0)))) (sB [sSub setIxD (eV 4) (e2 ixD (eV 2) (eV 5)) (e2 ixD (eV 2) (e2 subD (eV 6) (eC (.int 1))))]) (sB [])]),
  sRet (eV 4)]
def F_q_parents : AF := fnT 2 7 b_q_parents
/- _law_tape: _law_script, _law_k -/
def b_q_tape : AS := sB [sIf (tB1 (e2 ltD (eV 1) (eA (on1 lenD) (eL [eV 0])))) (sB [sRet (eLst false (eL [eA (on1 absD) (eL [e2 ixD (eV 0) (eV 1)]), eC (.int 0)]))]) (sB []),
  sRet (eLst false (eL [eV 1, eC (.int 0)]))]
def F_q_tape : AF := fnK 2 2 b_q_tape
/- swapped: kind, one, other -/
def b_swapped : AS := sB [sIf (tB1 (e2 eqD (eV 0) (eV 1))) (sB [sRet (eV 2)]) (sB []),
  sIf (tB1 (e2 eqD (eV 0) (eV 2))) (sB [sRet (eV 1)]) (sB []),
  sRet (eV 0)]
def F_swapped : AF := fnT 3 3 b_swapped
/- mirror_forest: forest, kind -/
def b_mirror_forest : AS := sB [sRet (eA (mkI "Forest" true (F_Forest_init)) (eL [e1 (fldD ["Forest"] "parents") (eV 0), eLC true [1] (iS (e1 (fldD ["Forest"] "kinds") (eV 0))) (gV 1) (tYes) (eA (F_swapped) (eL [eV 1, eC (.str [102, 105, 114, 115, 116]), eC (.str [108, 97, 115, 116])]))]))]
def F_mirror_forest : AF := fnT 1 2 b_mirror_forest
/- turned_forest: forest, kind -/
def b_turned_forest : AS := sB [sRet (eA (mkI "Forest" true (F_Forest_init)) (eL [e1 (fldD ["Forest"] "parents") (eV 0), eLC true [1] (iS (e1 (fldD ["Forest"] "kinds") (eV 0))) (gV 1) (tYes) (eA (F_swapped) (eL [eV 1, eC (.str [117, 112]), eC (.str [100, 111, 119, 110])]))]))]
def F_turned_forest : AF := fnT 1 2 b_turned_forest
/- law: _law_script, _law_shapes, _law_forests, _law_k, _law_sizes, _law_most, _law_n, _law_parents_here, _law_kinds_here, _law_given, _law_row -/
def b_law_k06 : AS := sB [sSet 1 (eLst false (eL [])),
  sSet 2 (eLst false (eL [])),
  sFor (iR1 (eC (.int 2))) (gV 3) (sB [sSet 4 (eA (F_q_tape) (eL [eV 0, e2 (mulD true) (eC (.int 2)) (eV 3)])),
    sSet 5 (e2 ixD (eLst true (eL [eC (.int 16), eC (.int 8)])) (eV 3)),
    sSet 6 (e2 subD (eV 5) (eA (F_q_take) (eL [eV 4, eV 5]))),
    sSet 7 (eA (F_q_parents) (eL [eV 4, eV 6])),
    sSet 8 (eA (F_q_kinds) (eL [eA (F_q_tape) (eL [eV 0, e2 (addD true) (e2 (mulD true) (eC (.int 2)) (eV 3)) (eC (.int 1))]), eV 7, e2 eqD (eA (F_q_take) (eL [eV 4, eC (.int 3)])) (eC (.int 0))])),
    sSet 9 (eLst false (eL [eA (on1 (listD false)) (eL [eV 7]), eA (on1 (listD false)) (eL [eV 8])])),
    sE (eM isLst (mt1 appendD) (eV 2) (eL [eA (mkI "Forest" true (F_Forest_init)) (eL [e2 ixD (eV 9) (eC (.int 0)), e2 ixD (eV 9) (eC (.int 1))])])),
    sIf (tB1 (e2 neD (eV 9) (eLst true (eL [eV 7, eV 8])))) (sB [sRet (eC (.bl false))]) (sB []),
    sFor (iS (eV 9)) (gV 10) (sB [sE (eM isLst (mt1 appendD) (eV 10) (eL [e2 ixD (eV 10) (eC (.int 0))])),
      sSub setIxD (eV 10) (eC (.int 0)) (eC (.str [108, 97, 115, 116]))]),
    sE (eM isLst (mt1 appendD) (eV 1) (eL [eLst true (eL [eV 7, eV 8])]))]),
  sFor (iR1 (eC (.int 2))) (gV 3) (sB [sSet 7 (e2 ixD (e2 ixD (eV 1) (eV 3)) (eC (.int 0))),
    sSet 8 (e2 ixD (e2 ixD (eV 1) (eV 3)) (eC (.int 1))),
    sIf (tNot (tV (eA (F_q_fits) (eL [e2 ixD (eV 2) (eV 3), eV 7, eV 8])))) (sB [sRet (eC (.bl false))]) (sB []),
    sIf (tNot (tV (eA (F_q_fits) (eL [eA (F_turned_forest) (eL [e2 ixD (eV 2) (eV 3)]), eV 7, eA (F_q_exchanged) (eL [eV 8, eC (.str [117, 112]), eC (.str [100, 111, 119, 110])])])))) (sB [sRet (eC (.bl false))]) (sB []),
    sIf (tNot (tV (eA (F_q_fits) (eL [eA (F_mirror_forest) (eL [e2 ixD (eV 2) (eV 3)]), eV 7, eA (F_q_exchanged) (eL [eV 8, eC (.str [102, 105, 114, 115, 116]), eC (.str [108, 97, 115, 116])])])))) (sB [sRet (eC (.bl false))]) (sB [])]),
  sFor (iR1 (eC (.int 2))) (gV 3) (sB [sIf (tNot (tV (eA (F_q_fits) (eL [e2 ixD (eV 2) (eV 3), e2 ixD (e2 ixD (eV 1) (eV 3)) (eC (.int 0)), e2 ixD (e2 ixD (eV 1) (eV 3)) (eC (.int 1))])))) (sB [sRet (eC (.bl false))]) (sB [])]),
  sRet (eC (.bl true))]
def F_law_k06 : AF := fnT 1 11 b_law_k06
end Sm
end

section
set_option linter.all false
/-! k19: plain computations (printed by gen2.py) -/
namespace Sm
/- _law_healed: _law_question_here, _law_parents_here, _law_n, _law_held, _law_letter, _law_field, _law_place -/
def b_q_healed : AS := sB [sSet 2 (eA (on1 lenD) (eL [eV 1])),
  sSet 3 (eSl true (e2 (addD true) (e2 ixD (eV 0) (eC (.int 0))) (eTup (eL [eC (.int 0)]))) (oN) (oS (eV 2))),
  sSet 4 (eA (on1 (listD false)) (eL [eSl true (e2 (addD true) (e2 ixD (eV 0) (eC (.int 1))) (eTup (eL [eC .non]))) (oN) (oS (eV 2))])),
  sFor (iR1 (eV 2)) (gV 5) (sB [sIf (tB1 (e2 neD (eLC true [6] (iS (eA (F_q_path) (eL [eV 1, eV 5]))) (gV 6) (tB1 (e1 isNonD (e2 ixD (eV 4) (eV 6)))) (eV 6)) (eLst true (eL [])))) (sB [sSub setIxD (eV 4) (eV 5) (eC .non)]) (sB [])]),
  sRet (eLst true (eL [eV 3, eA (on1 tupD) (eL [eV 4])]))]
def F_q_healed : AF := fnT 2 7 b_q_healed
/- check_closed: forest, letter, field, parent -/
def b_check_closed : AS := sB [sFor (iR1 (e1 (fldD ["Forest"] "fields") (eV 0))) (gV 2) (sB [sSet 3 (e2 ixD (e1 (fldD ["Forest"] "parents") (eV 0)) (eV 2)),
    sIf (tAnd (tB1 (e1 notNonD (e2 ixD (eV 1) (eV 2)))) (tAnd (tB1 (e1 notNonD (eV 3))) (tB1 (e1 isNonD (e2 ixD (eV 1) (eV 3)))))) (sB [sRaise "BadLetter" ["field"] (eL [eV 2])]) (sB [])])]
def F_check_closed : AF := fnT 2 4 b_check_closed
/- check_fair: forest, field -/
def b_check_fair : AS := sB [sFor (iR1 (e1 (fldD ["Forest"] "fields") (eV 0))) (gV 1) (sB [sIf (tB1 (e2 inD (e2 ixD (e1 (fldD ["Forest"] "kinds") (eV 0)) (eV 1)) (eTup (eL [eC (.str [102, 105, 114, 115, 116]), eC (.str [108, 97, 115, 116])])))) (sB [sRaise "NotFair" ["field"] (eL [eV 1])]) (sB [])])]
def F_check_fair : AF := fnT 1 2 b_check_fair
/- check_record: fields, record -/
def b_check_record : AS := sB [sIf (tB1 (e2 neD (eA (on1 lenD) (eL [eV 1])) (eV 0))) (sB [sRaise "BadRecord" ["record"] (eL [eV 1])]) (sB [])]
def F_check_record : AF := fnT 2 2 b_check_record
/- check_two: forest, first, second -/
def b_check_two : AS := sB [sE (eA (F_check_fair) (eL [eV 0])),
  sE (eA (F_check_record) (eL [e1 (fldD ["Forest"] "fields") (eV 0), eV 1])),
  sE (eA (F_check_record) (eL [e1 (fldD ["Forest"] "fields") (eV 0), eV 2]))]
def F_check_two : AF := fnT 3 3 b_check_two
/- better: kind, value, other -/
def b_better : AS := sB [sIf (tB1 (e2 eqD (eV 0) (eC (.str [117, 112])))) (sB [sRet (e2 gtD (eV 1) (eV 2))]) (sB []),
  sIf (tB1 (e2 eqD (eV 0) (eC (.str [100, 111, 119, 110])))) (sB [sRet (e2 ltD (eV 1) (eV 2))]) (sB []),
  sRet (eC (.bl false))]
def F_better : AF := fnT 3 3 b_better
/- first_unlike_on: path, first, second, field -/
def b_first_unlike_on : AS := sB [sFor (iS (eV 0)) (gV 3) (sB [sIf (tB1 (e2 neD (e2 ixD (eV 1) (eV 3)) (e2 ixD (eV 2) (eV 3)))) (sB [sRet (eV 3)]) (sB [])]),
  sRet (eC .non)]
def F_first_unlike_on : AF := fnT 3 4 b_first_unlike_on
/- wins: forest, field, record, other, place -/
def b_wins : AS := sB [sSet 4 (eA (F_first_unlike_on) (eL [eA (F_path_of) (eL [e1 (fldD ["Forest"] "parents") (eV 0), eV 1]), eV 2, eV 3])),
  sRet (eAnd (e1 notNonD (eV 4)) (eA (F_better) (eL [e2 ixD (e1 (fldD ["Forest"] "kinds") (eV 0)) (eV 4), e2 ixD (eV 2) (eV 4), e2 ixD (eV 3) (eV 4)])))]
def F_wins : AF := fnT 4 5 b_wins
/- receive: forest, copy, letter, result, field -/
def b_receive : AS := sB [sE (eA (F_check_two) (eL [eV 0, eV 1, eV 2])),
  sE (eA (F_check_closed) (eL [eV 0, eV 2])),
  sSet 3 (eA (on1 (listD false)) (eL [eV 1])),
  sFor (iR1 (e1 (fldD ["Forest"] "fields") (eV 0))) (gV 4) (sB [sIf (tAnd (tB1 (e1 notNonD (e2 ixD (eV 2) (eV 4)))) (tV (eA (F_wins) (eL [eV 0, eV 4, eV 2, eV 1])))) (sB [sSub setIxD (eV 3) (eV 4) (e2 ixD (eV 2) (eV 4))]) (sB [])]),
  sRet (eA (on1 tupD) (eL [eV 3]))]
def F_receive : AF := fnT 3 5 b_receive
/- _law_ask: _law_forest, _law_held, _law_letter, _law_found, e -/
def b_q_ask : AS := sB [sSet 3 (eLst false (eL [])),
  sTryAs [("BadRecord", true), ("BadTree", true), ("BadForest", true), ("NotFair", true), ("CannotLand", true), ("Overlap", true), ("BadLetter", true), ("BadAnswer", true), ("FieldsDiffer", true), ("HangsOn", true), ("BadPlace", true)] 4 (sB [sRet (eLst true (eL [eA (F_receive) (eL [eV 0, eV 1, eV 2])]))]) (fun x => sB [sIf (tOr (tNot (tV (eXis x [("BadRecord", true), ("BadTree", true), ("BadForest", true), ("NotFair", true), ("CannotLand", true), ("Overlap", true), ("BadLetter", true), ("BadAnswer", true), ("FieldsDiffer", true), ("HangsOn", true), ("BadPlace", true)]))) (tOr (tV (eXis x [("BadRecord", false), ("BadTree", false), ("BadForest", false), ("NotFair", false), ("CannotLand", false), ("Overlap", false), ("BadLetter", false), ("BadAnswer", false), ("FieldsDiffer", false), ("HangsOn", false), ("BadPlace", true)])) (tV (eXis x [("BadRecord", false), ("BadTree", false), ("BadForest", true), ("NotFair", false), ("CannotLand", false), ("Overlap", false), ("BadLetter", false), ("BadAnswer", false), ("FieldsDiffer", false), ("HangsOn", false), ("BadPlace", false)])))) (sB [sE (eM isLst (mt1 appendD) (eV 3) (eL [eTup (eL [eC (.str [97, 110, 111, 116, 104, 101, 114, 32, 99, 108, 97, 115, 115]), eC (.int 0)])]))]) (sB []),
    sIf (tV (eXis x [("BadRecord", false), ("BadTree", true), ("BadForest", false), ("NotFair", false), ("CannotLand", true), ("Overlap", true), ("BadLetter", false), ("BadAnswer", true), ("FieldsDiffer", true), ("HangsOn", true), ("BadPlace", false)])) (sB [sE (eM isLst (mt1 appendD) (eV 3) (eL [eTup (eL [eC (.str [97, 110, 111, 116, 104, 101, 114, 32, 99, 108, 97, 115, 115]), eC (.int 0)])]))]) (sB []),
    sIf (tV (eXis x [("BadRecord", false), ("BadTree", false), ("BadForest", false), ("NotFair", true), ("CannotLand", false), ("Overlap", false), ("BadLetter", false), ("BadAnswer", false), ("FieldsDiffer", false), ("HangsOn", false), ("BadPlace", false)])) (sB [sE (eM isLst (mt1 appendD) (eV 3) (eL [eTup (eL [eC (.str [78, 111, 116, 70, 97, 105, 114]), eXf ["BadTree", "BadForest", "NotFair", "CannotLand", "Overlap", "BadLetter", "BadAnswer"] x "field"])]))]) (sB []),
    sIf (tV (eXis x [("BadRecord", true), ("BadTree", false), ("BadForest", false), ("NotFair", false), ("CannotLand", false), ("Overlap", false), ("BadLetter", false), ("BadAnswer", false), ("FieldsDiffer", false), ("HangsOn", false), ("BadPlace", false)])) (sB [sE (eM isLst (mt1 appendD) (eV 3) (eL [eTup (eL [eC (.str [66, 97, 100, 82, 101, 99, 111, 114, 100]), eXf ["BadRecord"] x "record"])]))]) (sB []),
    sIf (tV (eXis x [("BadRecord", false), ("BadTree", false), ("BadForest", false), ("NotFair", false), ("CannotLand", false), ("Overlap", false), ("BadLetter", true), ("BadAnswer", false), ("FieldsDiffer", false), ("HangsOn", false), ("BadPlace", false)])) (sB [sE (eM isLst (mt1 appendD) (eV 3) (eL [eTup (eL [eC (.str [66, 97, 100, 76, 101, 116, 116, 101, 114]), eXf ["BadTree", "BadForest", "NotFair", "CannotLand", "Overlap", "BadLetter", "BadAnswer"] x "field"])]))]) (sB [])]),
  sRet (eA (on1 tupD) (eL [eV 3]))]
def F_q_ask : AF := fnT 3 5 b_q_ask
/- _law_is_record: _law_actual, _law_n, _law_value_here -/
def b_q_is_record : AS := sB [sIf (tOr (tNot (tV (e1 (isTy "tuple") (eV 0)))) (tB1 (e2 neD (eA (on1 lenD) (eL [eV 0])) (eV 1)))) (sB [sRet (eC (.bl false))]) (sB []),
  sFor (iS (eV 0)) (gV 2) (sB [sIf (tNot (tV (eA (F_q_is_integer) (eL [eV 2])))) (sB [sRet (eC (.bl false))]) (sB [])]),
  sRet (eC (.bl true))]
def F_q_is_record : AF := fnT 2 3 b_q_is_record
/- _law_is_letter: _law_actual, _law_expected, _law_k -/
def b_q_is_letter : AS := sB [sIf (tOr (tNot (tV (e1 (isTy "tuple") (eV 0)))) (tB1 (e2 neD (eA (on1 lenD) (eL [eV 0])) (eA (on1 lenD) (eL [eV 1]))))) (sB [sRet (eC (.bl false))]) (sB []),
  sFor (iR1 (eA (on1 lenD) (eL [eV 1]))) (gV 2) (sB [sIf (tAnd (tB1 (e1 isNonD (e2 ixD (eV 1) (eV 2)))) (tB1 (e1 notNonD (e2 ixD (eV 0) (eV 2))))) (sB [sRet (eC (.bl false))]) (sB []),
    sIf (tAnd (tB1 (e1 notNonD (e2 ixD (eV 1) (eV 2)))) (tOr (tNot (tV (eA (F_q_is_integer) (eL [e2 ixD (eV 0) (eV 2)])))) (tB1 (e2 neD (e2 ixD (eV 0) (eV 2)) (e2 ixD (eV 1) (eV 2)))))) (sB [sRet (eC (.bl false))]) (sB [])]),
  sRet (eC (.bl true))]
def F_q_is_letter : AF := fnT 2 3 b_q_is_letter
/- _law_is_refusal: _law_told, _law_due -/
def b_q_is_refusal : AS := sB [sIf (tOr (tNot (tV (e1 (isTy "tuple") (eV 0)))) (tOr (tB1 (e2 neD (eA (on1 lenD) (eL [eV 0])) (eC (.int 1)))) (tB1 (e2 neD (e2 ixD (e2 ixD (eV 0) (eC (.int 0))) (eC (.int 0))) (e2 ixD (eV 1) (eC (.int 0))))))) (sB [sRet (eC (.bl false))]) (sB []),
  sIf (tB1 (e2 eqD (e2 ixD (eV 1) (eC (.int 0))) (eC (.str [66, 97, 100, 82, 101, 99, 111, 114, 100])))) (sB [sRet (eA (F_q_is_letter) (eL [e2 ixD (e2 ixD (eV 0) (eC (.int 0))) (eC (.int 1)), e2 ixD (eV 1) (eC (.int 1))]))]) (sB []),
  sRet (eAnd (eA (F_q_is_integer) (eL [e2 ixD (e2 ixD (eV 0) (eC (.int 0))) (eC (.int 1))])) (e2 eqD (e2 ixD (e2 ixD (eV 0) (eC (.int 0))) (eC (.int 1))) (e2 ixD (eV 1) (eC (.int 1)))))]
def F_q_is_refusal : AF := fnT 2 2 b_q_is_refusal
/- _law_unfair: _law_kinds_here, _law_field -/
def b_q_unfair : AS := sB [sFor (iR1 (eA (on1 lenD) (eL [eV 0]))) (gV 1) (sB [sIf (tOr (tB1 (e2 eqD (e2 ixD (eV 0) (eV 1)) (eC (.str [102, 105, 114, 115, 116])))) (tB1 (e2 eqD (e2 ixD (eV 0) (eV 1)) (eC (.str [108, 97, 115, 116]))))) (sB [sRet (eTup (eL [eC (.str [78, 111, 116, 70, 97, 105, 114]), eV 1]))]) (sB [])]),
  sRet (eC .non)]
def F_q_unfair : AF := fnT 1 2 b_q_unfair
/- _law_refusal: _law_parents_here, _law_kinds_here, _law_held, _law_letter, _law_unfair_here, _law_record_here, _law_field -/
def b_q_refusal : AS := sB [sSet 4 (eA (F_q_unfair) (eL [eV 1])),
  sIf (tB1 (e1 notNonD (eV 4))) (sB [sRet (eV 4)]) (sB []),
  sFor (iS (eLst true (eL [eV 2, eV 3]))) (gV 5) (sB [sIf (tB1 (e2 neD (eA (on1 lenD) (eL [eV 5])) (eA (on1 lenD) (eL [eV 1])))) (sB [sRet (eTup (eL [eC (.str [66, 97, 100, 82, 101, 99, 111, 114, 100]), eV 5]))]) (sB [])]),
  sFor (iR1 (eA (on1 lenD) (eL [eV 1]))) (gV 6) (sB [sIf (tAnd (tB1 (e1 notNonD (e2 ixD (eV 3) (eV 6)))) (tAnd (tB1 (e1 notNonD (e2 ixD (eV 0) (eV 6)))) (tB1 (e1 isNonD (e2 ixD (eV 3) (e2 ixD (eV 0) (eV 6))))))) (sB [sRet (eTup (eL [eC (.str [66, 97, 100, 76, 101, 116, 116, 101, 114]), eV 6]))]) (sB [])]),
  sRet (eC .non)]
def F_q_refusal : AF := fnT 4 7 b_q_refusal
/- _law_side: _law_parents_here, _law_kinds_here, _law_field, _law_older, _law_newer, _law_place -/
def b_q_side : AS := sB [sFor (iS (eA (F_q_path) (eL [eV 0, eV 2]))) (gV 5) (sB [sIf (tB1 (e2 neD (e2 ixD (eV 3) (eV 5)) (e2 ixD (eV 4) (eV 5)))) (sB [sIf (tB1 (e2 eqD (e2 ixD (eV 1) (eV 5)) (eC (.str [102, 105, 114, 115, 116])))) (sB [sRet (eC (.int 0))]) (sB []),
      sIf (tB1 (e2 eqD (e2 ixD (eV 1) (eV 5)) (eC (.str [108, 97, 115, 116])))) (sB [sRet (eC (.int 1))]) (sB []),
      sRet (eA (on1 intD) (eL [e2 neD (e2 gtD (e2 ixD (eV 3) (eV 5)) (e2 ixD (eV 4) (eV 5))) (e2 eqD (e2 ixD (eV 1) (eV 5)) (eC (.str [117, 112])))]))]) (sB [])]),
  sRet (eC (.int 0))]
def F_q_side : AF := fnT 5 6 b_q_side
/- _law_holds: _law_forest, _law_parents_here, _law_kinds_here, _law_held, _law_letter, _law_due, _law_told, _law_expected, _law_field, _law_value_here, _law_k -/
def b_q_holds : AS := sB [sSet 5 (eA (F_q_refusal) (eL [eV 1, eV 2, eV 3, eV 4])),
  sSet 6 (eA (F_q_ask) (eL [eV 0, eV 3, eV 4])),
  sIf (tB1 (e1 notNonD (eV 5))) (sB [sRet (eA (F_q_is_refusal) (eL [eV 6, eV 5]))]) (sB []),
  sSet 7 (eLst false (eL [])),
  sFor (iR1 (eA (on1 lenD) (eL [eV 2]))) (gV 8) (sB [sSet 9 (e2 ixD (eV 3) (eV 8)),
    sIf (tAnd (tB1 (e1 notNonD (e2 ixD (eV 4) (eV 8)))) (tB1 (e2 eqD (eA (F_q_side) (eL [eV 1, eV 2, eV 8, eV 3, eV 4])) (eC (.int 1))))) (sB [sSet 9 (e2 ixD (eV 4) (eV 8))]) (sB []),
    sE (eM isLst (mt1 appendD) (eV 7) (eL [eV 9]))]),
  sFor (iR1 (eC (.int 2))) (gV 10) (sB [sIf (tOr (tNot (tV (e1 (isTy "list") (eV 6)))) (tOr (tNot (tV (eA (F_q_is_record) (eL [e2 ixD (eV 6) (eC (.int 0)), eA (on1 lenD) (eL [eV 2])])))) (tB1 (e2 neD (e2 ixD (eV 6) (eC (.int 0))) (eA (on1 tupD) (eL [eV 7])))))) (sB [sRet (eC (.bl false))]) (sB []),
    sSet 6 (eA (F_q_ask) (eL [eV 0, e2 ixD (eV 6) (eC (.int 0)), eV 4]))]),
  sRet (eAnd (e1 (isTy "list") (eV 6)) (eAnd (eA (F_q_is_record) (eL [e2 ixD (eV 6) (eC (.int 0)), eA (on1 lenD) (eL [eV 2])])) (e2 eqD (e2 ixD (eV 6) (eC (.int 0))) (eA (on1 tupD) (eL [eV 7])))))]
def F_q_holds : AF := fnT 5 11 b_q_holds
/- _law_level: _law_kinds_here, _law_level_here, _law_kind -/
def b_q_level : AS := sB [sSet 1 (eLst false (eL [])),
  sFor (iS (eV 0)) (gV 2) (sB [sIf (tB1 (e2 eqD (eV 2) (eC (.str [102, 105, 114, 115, 116])))) (sB [sE (eM isLst (mt1 appendD) (eV 1) (eL [eC (.str [117, 112])]))]) (sB [sIf (tB1 (e2 eqD (eV 2) (eC (.str [108, 97, 115, 116])))) (sB [sE (eM isLst (mt1 appendD) (eV 1) (eL [eC (.str [100, 111, 119, 110])]))]) (sB [sE (eM isLst (mt1 appendD) (eV 1) (eL [eV 2]))])])]),
  sRet (eV 1)]
def F_q_level : AF := fnT 1 3 b_q_level
/- _law_choice: _law_tape_here, _law_parents_here, _law_sent, _law_pick, _law_letter, _law_field, _law_place -/
def b_q_choice : AS := sB [sSet 3 (eA (F_q_take) (eL [eV 0, eC (.int 8)])),
  sSet 4 (eLC false [5] (iR1 (eA (on1 lenD) (eL [eV 1]))) (gV 5) (tYes) (eC .non)),
  sFor (iR1 (eA (on1 lenD) (eL [eV 1]))) (gV 5) (sB [sIf (tB1 (e2 gtD (eV 3) (eC (.int 4)))) (sB [sIf (tB1 (e2 eqD (eA (F_q_take) (eL [eV 0, eC (.int 2)])) (eC (.int 0)))) (sB [sSub setIxD (eV 4) (eV 5) (e2 ixD (eV 2) (eV 5))]) (sB [])]) (sB [sIf (tOr (tB1 (e2 eqD (eV 3) (eC (.int 0)))) (tAnd (tB1 (e2 gtD (eV 3) (eC (.int 1)))) (tB1 (e2 eqD (eA (F_q_take) (eL [eV 0, eC (.int 3)])) (eC (.int 0)))))) (sB [sFor (iS (eA (F_q_path) (eL [eV 1, eV 5]))) (gV 6) (sB [sSub setIxD (eV 4) (eV 6) (e2 ixD (eV 2) (eV 6))])]) (sB [])])]),
  sRet (eV 4)]
def F_q_choice : AF := fnK 3 7 b_q_choice
/- _law_value: _law_tape_here, _law_span, _law_pick -/
def b_q_value : AS := sB [sSet 2 (eA (F_q_take) (eL [eV 0, eC (.int 8)])),
  sIf (tB1 (e2 eqD (eV 2) (eC (.int 0)))) (sB [sRet (e2 subD (e2 (mulD true) (eA (F_q_take) (eL [eV 0, e2 powD (eC (.int 10)) (eC (.int 9))])) (e2 powD (eC (.int 10)) (eC (.int 30)))) (eA (F_q_take) (eL [eV 0, e2 powD (eC (.int 10)) (eC (.int 9))])))]) (sB []),
  sIf (tB1 (e2 eqD (eV 2) (eC (.int 1)))) (sB [sRet (e2 subD (eC (.int 0)) (eA (F_q_take) (eL [eV 0, eV 1])))]) (sB []),
  sRet (eA (F_q_take) (eL [eV 0, eV 1]))]
def F_q_value : AF := fnT 2 3 b_q_value
/- _law_record: _law_tape_here, _law_n, _law_span, _law_k -/
def b_q_record : AS := sB [sRet (eA (on1 tupD) (eL [eLC true [3] (iR1 (eV 1)) (gV 3) (tYes) (eA (F_q_value) (eL [eV 0, eV 2]))]))]
def F_q_record : AF := fnT 3 4 b_q_record
/- _law_question: _law_script, _law_turn, _law_parents_here, _law_n, _law_held, _law_tape_here, _law_sent, _law_field, _law_value_here, _law_letter, _law_k, _law_place, _law_spoil -/
def b_q_question : AS := sB [sSet 3 (eA (on1 lenD) (eL [eV 2])),
  sSet 4 (eA (F_q_record) (eL [eA (F_q_tape) (eL [eV 0, e2 (addD true) (eC (.int 2)) (e2 (mulD true) (eC (.int 3)) (eV 1))]), eV 3, eC (.int 3)])),
  sSet 5 (eA (F_q_tape) (eL [eV 0, e2 (addD true) (eC (.int 3)) (e2 (mulD true) (eC (.int 3)) (eV 1))])),
  sSet 6 (eLst false (eL [])),
  sFor (iR1 (eV 3)) (gV 7) (sB [sSet 8 (eA (F_q_value) (eL [eV 5, eC (.int 3)])),
    sIf (tB1 (e2 eqD (eA (F_q_take) (eL [eV 5, eC (.int 3)])) (eC (.int 0)))) (sB [sSet 8 (e2 ixD (eV 4) (eV 7))]) (sB []),
    sE (eM isLst (mt1 appendD) (eV 6) (eL [eV 8]))]),
  sSet 5 (eA (F_q_tape) (eL [eV 0, e2 (addD true) (eC (.int 4)) (e2 (mulD true) (eC (.int 3)) (eV 1))])),
  sSet 9 (eA (F_q_choice) (eL [eV 5, eV 2, eV 6])),
  sFor (iR1 (e2 ixD (eLst true (eL [eC (.int 0), eC (.int 0), eC (.int 0), eC (.int 1)])) (eA (F_q_take) (eL [eV 5, eC (.int 4)])))) (gV 10) (sB [sSet 11 (eA (F_q_take) (eL [eV 5, eV 3])),
    sIf (tB1 (e1 isNonD (e2 ixD (eV 9) (eV 11)))) (sB [sSub setIxD (eV 9) (eV 11) (e2 ixD (eV 6) (eV 11))]) (sB [sSub setIxD (eV 9) (eV 11) (eC .non)])]),
  sSet 12 (eA (F_q_take) (eL [eV 5, eC (.int 16)])),
  sIf (tOr (tB1 (e2 eqD (eV 12) (eC (.int 0)))) (tB1 (e2 eqD (eV 12) (eC (.int 4))))) (sB [sE (eM isLst (mt1 appendD) (eV 9) (eL [e2 ixD (eLst true (eL [eC .non, eC (.int 7)])) (eA (F_q_take) (eL [eV 5, eC (.int 2)]))]))]) (sB []),
  sIf (tB1 (e2 eqD (eV 12) (eC (.int 1)))) (sB [sE (eM isLst (mt1 popAtD) (eV 9) (eL [eC (.int 0)]))]) (sB []),
  sIf (tOr (tB1 (e2 eqD (eV 12) (eC (.int 2)))) (tB1 (e2 eqD (eV 12) (eC (.int 4))))) (sB [sSet 4 (e2 (addD true) (eV 4) (eTup (eL [eC (.int 7)])))]) (sB []),
  sIf (tB1 (e2 eqD (eV 12) (eC (.int 3)))) (sB [sSet 4 (eSl true (eV 4) (oS (eC (.int 1))) (oN))]) (sB []),
  sRet (eLst true (eL [eV 4, eA (on1 tupD) (eL [eV 9])]))]
def F_q_question : AF := fnT 3 13 b_q_question
/- _law_size: _law_tape_here, _law_size_here -/
def b_q_size : AS := sB [sSet 1 (e2 (addD true) (eC (.int 1)) (eA (F_q_take) (eL [eV 0, eC (.int 6)]))),
  sIf (tB1 (e2 eqD (eA (F_q_take) (eL [eV 0, eC (.int 8)])) (eC (.int 0)))) (sB [sSet 1 (e2 (addD true) (eC (.int 7)) (eA (F_q_take) (eL [eV 0, eC (.int 2)])))]) (sB []),
  sRet (eV 1)]
def F_q_size : AF := fnT 1 2 b_q_size
/- _law_stays: _law_forest, _law_parents_here, _law_kinds_here -/
def b_q_stays : AS := sB [sRet (eAnd (e2 eqD (e1 (fldD ["Forest"] "parents") (eV 0)) (eA (on1 tupD) (eL [eV 1]))) (e2 eqD (e1 (fldD ["Forest"] "kinds") (eV 0)) (eA (on1 tupD) (eL [eV 2]))))]
def F_q_stays : AF := fnT 3 3 b_q_stays
/- law: _law_script, _law_tape_here, _law_n, _law_parents_here, _law_fair, _law_kinds_here, _law_level_here, _law_ranks, _law_forests, _law_turns_here, _law_at, _law_question_here, _law_asked, _law_k, _law_pick -/
def b_law_k19 : AS := sB [sSet 1 (eA (F_q_tape) (eL [eV 0, eC (.int 0)])),
  sSet 2 (eA (F_q_size) (eL [eV 1])),
  sSet 3 (eA (F_q_parents) (eL [eV 1, eV 2])),
  sSet 1 (eA (F_q_tape) (eL [eV 0, eC (.int 1)])),
  sSet 4 (e2 gtD (eA (F_q_take) (eL [eV 1, eC (.int 6)])) (eC (.int 0))),
  sSet 5 (eA (F_q_kinds) (eL [eV 1, eV 3, eV 4])),
  sSet 6 (eA (F_q_level) (eL [eV 5])),
  sSet 7 (eLst true (eL [eV 5, eV 6])),
  sSet 8 (eLst true (eL [eA (mkI "Forest" true (F_Forest_init)) (eL [eA (on1 (listD true)) (eL [eV 3]), eA (on1 (listD true)) (eL [eV 5])]), eA (mkI "Forest" true (F_Forest_init)) (eL [eA (on1 (listD true)) (eL [eV 3]), eA (on1 (listD true)) (eL [eV 6])])])),
  sSet 9 (eLst true (eL [eC (.int 0), eC (.int 1), eC (.int 2), eC (.int 3), eC (.int 0)])),
  sFor (iR1 (eA (on1 lenD) (eL [eV 9]))) (gV 10) (sB [sSet 11 (eA (F_q_question) (eL [eV 0, e2 ixD (eV 9) (eV 10), eV 3])),
    sSet 12 (eLst true (eL [eV 11, eA (F_q_healed) (eL [eV 11, eV 3])])),
    sFor (iR1 (eC (.int 2))) (gV 13) (sB [sSet 14 (e2 modD (eA (on1 intD) (eL [e2 (addD true) (eV 13) (eV 10)])) (eC (.int 2))),
      sIf (tNot (tV (eA (F_q_holds) (eL [e2 ixD (eV 8) (eV 14), eV 3, e2 ixD (eV 7) (eV 14), e2 ixD (e2 ixD (eV 12) (eV 13)) (eC (.int 0)), e2 ixD (e2 ixD (eV 12) (eV 13)) (eC (.int 1))])))) (sB [sRet (eC (.bl false))]) (sB [])])]),
  sRet (eAnd (eA (F_q_stays) (eL [e2 ixD (eV 8) (eC (.int 0)), eV 3, eV 5])) (eA (F_q_stays) (eL [e2 ixD (eV 8) (eC (.int 1)), eV 3, eV 6])))]
def F_law_k19 : AF := fnT 1 15 b_law_k19
end Sm
end

section
set_option linter.all false
/-! k48: plain computations (printed by gen2.py) -/
namespace Sm
/- _law_bears: _law_path, _law_record_here, _law_end, _law_place -/
def b_q_bears : AS := sB [sFor (iS (eV 0)) (gV 3) (sB [sIf (tB1 (e2 neD (e2 ixD (eV 1) (eV 3)) (e2 ixD (eV 2) (eV 3)))) (sB [sRet (eC (.bl false))]) (sB [])]),
  sRet (eC (.bl true))]
def F_q_bears : AF := fnT 3 4 b_q_bears
/- _law_same: _law_actual, _law_wanted, _law_k -/
def b_q_same_v2 (F : AF) : AS := sB [sIf (tB1 (e1 isNonD (eV 1))) (sB [sRet (e1 isNonD (eV 0))]) (sB []),
  sIf (tV (e1 (isTy "bool") (eV 1))) (sB [sRet (eAnd (e1 (isTy "bool") (eV 0)) (e2 eqD (eV 0) (eV 1)))]) (sB []),
  sIf (tV (e1 (isTy "int") (eV 1))) (sB [sRet (eAnd (e1 (isTy "int") (eV 0)) (eAnd (e1 notD (e1 (isTy "bool") (eV 0))) (e2 eqD (eV 0) (eV 1))))]) (sB []),
  sIf (tV (e1 (isTy "str") (eV 1))) (sB [sRet (eAnd (e1 (isTy "str") (eV 0)) (e2 eqD (eV 0) (eV 1)))]) (sB []),
  sIf (tOr (tB1 (e2 neD (e1 (isTy "tuple") (eV 1)) (e1 (isTy "tuple") (eV 0)))) (tB1 (e2 neD (e1 (isTy "list") (eV 1)) (e1 (isTy "list") (eV 0))))) (sB [sRet (eC (.bl false))]) (sB []),
  sIf (tB1 (e2 neD (eA (on1 lenD) (eL [eV 0])) (eA (on1 lenD) (eL [eV 1])))) (sB [sRet (eC (.bl false))]) (sB []),
  sFor (iR1 (eA (on1 lenD) (eL [eV 1]))) (gV 2) (sB [sIf (tNot (tV (eA (F) (eL [e2 ixD (eV 0) (eV 2), e2 ixD (eV 1) (eV 2)])))) (sB [sRet (eC (.bl false))]) (sB [])]),
  sRet (eC (.bl true))]
def F_q_same_v2 : Nat → AF
  | 0 => fun _ _ => .no
  | n + 1 => fnT 2 3 (b_q_same_v2 (F_q_same_v2 n))
/- bearing: parents, records, end, field, path, at -/
def b_bearing : AS := sB [sSet 4 (eA (F_path_of) (eL [eV 0, eV 3])),
  sRet (eA (on1 tupD) (eL [eLC true [5] (iR1 (eA (on1 lenD) (eL [eV 1]))) (gV 5) (tB1 (e1 isNonD (eA (F_first_unlike_on) (eL [eV 4, e2 ixD (eV 1) (eV 5), eV 2])))) (eV 5)]))]
def F_bearing : AF := fnT 4 6 b_bearing
/- check_place: fields, place -/
def b_check_place : AS := sB [sIf (tNot (tB1 (eChain leD ltD (eC (.int 0)) (eV 1) (eV 0)))) (sB [sRaise "BadPlace" ["place"] (eL [eV 1])]) (sB [])]
def F_check_place : AF := fnT 2 2 b_check_place
/- check_records: fields, records, record -/
def b_check_records : AS := sB [sIf (tB1 (e2 eqD (eA (on1 lenD) (eL [eV 1])) (eC (.int 0)))) (sB [sRaise0 "NoRecord"]) (sB []),
  sFor (iS (eV 1)) (gV 2) (sB [sE (eA (F_check_record) (eL [eV 0, eV 2]))])]
def F_check_records : AF := fnT 2 3 b_check_records
/- best_of: kind, field, records, best, record -/
def b_best_of : AS := sB [sIf (tB1 (e2 eqD (eV 0) (eC (.str [102, 105, 114, 115, 116])))) (sB [sRet (eLst true (eL [e2 ixD (eV 2) (eC (.int 0))]))]) (sB []),
  sIf (tB1 (e2 eqD (eV 0) (eC (.str [108, 97, 115, 116])))) (sB [sRet (eLst true (eL [e2 ixD (eV 2) (e1 negD (eC (.int 1)))]))]) (sB []),
  sSet 3 (e2 ixD (e2 ixD (eV 2) (eC (.int 0))) (eV 1)),
  sFor (iS (eV 2)) (gV 4) (sB [sIf (tV (eA (F_better) (eL [eV 0, e2 ixD (eV 4) (eV 1), eV 3]))) (sB [sSet 3 (e2 ixD (eV 4) (eV 1))]) (sB [])]),
  sRet (eLC true [4] (iS (eV 2)) (gV 4) (tB1 (e2 eqD (e2 ixD (eV 4) (eV 1)) (eV 3))) (eV 4))]
def F_best_of : AF := fnT 3 5 b_best_of
/- end_of_row: parents, kinds, records, result, field, left, place -/
def b_end_of_row : AS := sB [sSet 3 (eLst false (eL [])),
  sFor (iR1 (eA (on1 lenD) (eL [eV 0]))) (gV 4) (sB [sSet 5 (eA (on1 (listD true)) (eL [eV 2])),
    sFor (iS (eA (F_path_of) (eL [eV 0, eV 4]))) (gV 6) (sB [sSet 5 (eA (F_best_of) (eL [e2 ixD (eV 1) (eV 6), eV 6, eV 5]))]),
    sE (eM isLst (mt1 appendD) (eV 3) (eL [e2 ixD (e2 ixD (eV 5) (eC (.int 0))) (eV 4)]))]),
  sRet (eA (on1 tupD) (eL [eV 3]))]
def F_end_of_row : AF := fnT 3 7 b_end_of_row
/- bearers: forest, records, field, lot -/
def b_bearers : AS := sB [sE (eA (F_check_fair) (eL [eV 0])),
  sE (eA (F_check_records) (eL [e1 (fldD ["Forest"] "fields") (eV 0), eV 1])),
  sE (eA (F_check_place) (eL [e1 (fldD ["Forest"] "fields") (eV 0), eV 2])),
  sSet 3 (eA (on1 (listD true)) (eL [eV 1])),
  sRet (eA (F_bearing) (eL [e1 (fldD ["Forest"] "parents") (eV 0), eV 3, eA (F_end_of_row) (eL [e1 (fldD ["Forest"] "parents") (eV 0), e1 (fldD ["Forest"] "kinds") (eV 0), eV 3]), eV 2]))]
def F_bearers : AF := fnT 3 4 b_bearers
/- _law_answers: _law_forest, _law_paths_here, _law_handed, _law_end, _law_lot_here, _law_field, _law_due_here, _law_k -/
def b_q_answers : AS := sB [sSet 4 (eA (on1 (listD true)) (eL [eV 2])),
  sFor (iR1 (eA (on1 lenD) (eL [eV 1]))) (gV 5) (sB [sSet 6 (eLC true [7] (iR1 (eA (on1 lenD) (eL [eV 4]))) (gV 7) (tV (eA (F_q_bears) (eL [e2 ixD (eV 1) (eV 5), e2 ixD (eV 4) (eV 7), eV 3]))) (eV 7)),
    sIf (tOr (tB1 (e2 eqD (eA (on1 lenD) (eL [eV 6])) (eC (.int 0)))) (tNot (tV (eA (F_q_same_v2 12) (eL [eA (F_bearers) (eL [eV 0, eV 2, eV 5]), eA (on1 tupD) (eL [eV 6])]))))) (sB [sRet (eC (.bl false))]) (sB [])]),
  sRet (eA (F_q_same_v2 12) (eL [eV 2, eV 4]))]
def F_q_answers : AF := fnT 4 8 b_q_answers
/- _law_count: _law_tape_here, _law_least -/
def b_q_count : AS := sB [sIf (tB1 (e2 eqD (eA (F_q_take) (eL [eV 0, eC (.int 8)])) (eC (.int 0)))) (sB [sRet (e2 (addD true) (eC (.int 7)) (eA (F_q_take) (eL [eV 0, eC (.int 14)])))]) (sB []),
  sRet (e2 (addD true) (eV 1) (eA (F_q_take) (eL [eV 0, e2 subD (eC (.int 7)) (eV 1)])))]
def F_q_count : AF := fnT 2 2 b_q_count
/- _law_fields: _law_tape_here -/
def b_q_fields : AS := sB [sIf (tB1 (e2 eqD (eA (F_q_take) (eL [eV 0, eC (.int 8)])) (eC (.int 0)))) (sB [sRet (e2 (addD true) (eC (.int 7)) (eA (F_q_take) (eL [eV 0, eC (.int 2)])))]) (sB []),
  sRet (e2 (addD true) (eC (.int 1)) (eA (F_q_take) (eL [eV 0, eC (.int 6)])))]
def F_q_fields : AF := fnT 1 1 b_q_fields
/- _law_side: _law_path, _law_kinds_here, _law_older, _law_newer, _law_place -/
def b_q_side_v2 : AS := sB [sFor (iS (eV 0)) (gV 4) (sB [sIf (tB1 (e2 neD (e2 ixD (eV 2) (eV 4)) (e2 ixD (eV 3) (eV 4)))) (sB [sRet (eA (on1 intD) (eL [e2 neD (e2 gtD (e2 ixD (eV 2) (eV 4)) (e2 ixD (eV 3) (eV 4))) (e2 eqD (e2 ixD (eV 1) (eV 4)) (eC (.str [117, 112])))]))]) (sB [])]),
  sRet (eC (.int 0))]
def F_q_side_v2 : AF := fnT 4 5 b_q_side_v2
/- _law_merge: _law_paths_here, _law_kinds_here, _law_older, _law_newer, _law_pair, _law_f -/
def b_q_merge : AS := sB [sSet 4 (eLst true (eL [eV 2, eV 3])),
  sRet (eA (on1 tupD) (eL [eLC true [5] (iR1 (eA (on1 lenD) (eL [eV 0]))) (gV 5) (tYes) (e2 ixD (e2 ixD (eV 4) (eA (F_q_side_v2) (eL [e2 ixD (eV 0) (eV 5), eV 1, eV 2, eV 3]))) (eV 5))]))]
def F_q_merge : AF := fnT 4 6 b_q_merge
/- _law_fold: _law_paths_here, _law_kinds_here, _law_records, _law_end, _law_record_here -/
def b_q_fold : AS := sB [sSet 3 (e2 ixD (eV 2) (eC (.int 0))),
  sFor (iS (eSl true (eV 2) (oS (eC (.int 1))) (oN))) (gV 4) (sB [sSet 3 (eA (F_q_merge) (eL [eV 0, eV 1, eV 3, eV 4]))]),
  sRet (eV 3)]
def F_q_fold : AF := fnT 3 5 b_q_fold
/- _law_lot: _law_script, _law_place, _law_n, _law_count_here, _law_span_here, _law_lot_here, _law_k, _law_tape_here, _law_record_here, _law_kin, _law_field -/
def b_q_lot : AS := sB [sSet 5 (eLst false (eL [])),
  sFor (iR1 (eV 3)) (gV 6) (sB [sSet 7 (eA (F_q_tape) (eL [eV 0, e2 (addD true) (eV 1) (eV 6)])),
    sSet 8 (eA (F_q_record) (eL [eV 7, eV 2, eV 4])),
    sIf (tAnd (tB1 (e2 gtD (eV 6) (eC (.int 0)))) (tB1 (e2 eqD (eA (F_q_take) (eL [eV 7, eC (.int 3)])) (eC (.int 0))))) (sB [sSet 9 (eA (on1 (listD false)) (eL [e2 ixD (eV 5) (eA (F_q_take) (eL [eV 7, eV 6]))])),
      sSet 10 (eA (F_q_take) (eL [eV 7, eV 2])),
      sSub setIxD (eV 9) (eV 10) (e2 ixD (eV 8) (eV 10)),
      sSet 8 (eA (on1 tupD) (eL [eV 9]))]) (sB []),
    sE (eM isLst (mt1 appendD) (eV 5) (eL [eV 8]))]),
  sRet (eV 5)]
def F_q_lot : AF := fnT 5 11 b_q_lot
/- _law_paths: _law_parents_here, _law_paths_here, _law_field, _law_path, _law_k -/
def b_q_paths : AS := sB [sSet 1 (eLst false (eL [])),
  sFor (iR1 (eA (on1 lenD) (eL [eV 0]))) (gV 2) (sB [sSet 3 (eLst false (eL [eV 2])),
    sFor (iR1 (eA (on1 lenD) (eL [eV 0]))) (gV 4) (sB [sIf (tB1 (e1 notNonD (e2 ixD (eV 0) (e2 ixD (eV 3) (eC (.int 0)))))) (sB [sE (eM isLst (mt2 insertD) (eV 3) (eL [eC (.int 0), e2 ixD (eV 0) (e2 ixD (eV 3) (eC (.int 0)))]))]) (sB [])]),
    sE (eM isLst (mt1 appendD) (eV 1) (eL [eV 3]))]),
  sRet (eV 1)]
def F_q_paths : AF := fnT 1 5 b_q_paths
/- _law_raised: _law_kinds_here, _law_record_here, _law_field, _law_by, _law_row -/
def b_q_raised : AS := sB [sSet 4 (eA (on1 (listD false)) (eL [eV 1])),
  sIf (tB1 (e2 eqD (e2 ixD (eV 0) (eV 2)) (eC (.str [117, 112])))) (sB [sSub setIxD (eV 4) (eV 2) (e2 (addD true) (e2 ixD (eV 4) (eV 2)) (eV 3))]) (sB [sSub setIxD (eV 4) (eV 2) (e2 subD (e2 ixD (eV 4) (eV 2)) (eV 3))]),
  sRet (eA (on1 tupD) (eL [eV 4]))]
def F_q_raised : AF := fnT 4 5 b_q_raised
/- _law_lowest: _law_kinds_here, _law_field -/
def b_q_lowest : AS := sB [sFor (iR1 (eA (on1 lenD) (eL [eV 0]))) (gV 1) (sB [sIf (tOr (tB1 (e2 eqD (e2 ixD (eV 0) (eV 1)) (eC (.str [102, 105, 114, 115, 116])))) (tB1 (e2 eqD (e2 ixD (eV 0) (eV 1)) (eC (.str [108, 97, 115, 116]))))) (sB [sRet (eV 1)]) (sB [])]),
  sRet (eC .non)]
def F_q_lowest : AF := fnT 1 2 b_q_lowest
/- _law_due: _law_kinds_here, _law_rows, _law_field, _law_record_here -/
def b_q_due : AS := sB [sIf (tB1 (e1 notNonD (eA (F_q_lowest) (eL [eV 0])))) (sB [sRet (eTup (eL [eC (.str [78, 111, 116, 70, 97, 105, 114]), eA (F_q_lowest) (eL [eV 0])]))]) (sB []),
  sIf (tB1 (e2 eqD (eA (on1 lenD) (eL [eV 1])) (eC (.int 0)))) (sB [sRet (eTup (eL [eC (.str [78, 111, 82, 101, 99, 111, 114, 100])]))]) (sB []),
  sFor (iS (eV 1)) (gV 3) (sB [sIf (tB1 (e2 neD (eA (on1 lenD) (eL [eV 3])) (eA (on1 lenD) (eL [eV 0])))) (sB [sRet (eTup (eL [eC (.str [66, 97, 100, 82, 101, 99, 111, 114, 100]), eV 3]))]) (sB [])]),
  sIf (tOr (tB1 (e2 ltD (eV 2) (eC (.int 0)))) (tB1 (e2 geD (eV 2) (eA (on1 lenD) (eL [eV 0]))))) (sB [sRet (eTup (eL [eC (.str [66, 97, 100, 80, 108, 97, 99, 101]), eV 2]))]) (sB []),
  sRet (eC .non)]
def F_q_due : AF := fnT 3 4 b_q_due
/- _law_wrong: _law_tape_here, _law_record_here, _law_pick -/
def b_q_wrong : AS := sB [sSet 2 (eA (F_q_take) (eL [eV 0, eC (.int 4)])),
  sIf (tB1 (e2 eqD (eV 2) (eC (.int 0)))) (sB [sRet (eSl true (eV 1) (oN) (oS (e1 negD (eC (.int 1)))))]) (sB []),
  sIf (tB1 (e2 eqD (eV 2) (eC (.int 1)))) (sB [sRet (e2 (addD true) (eV 1) (eTup (eL [eC (.int 0)])))]) (sB []),
  sIf (tB1 (e2 eqD (eV 2) (eC (.int 2)))) (sB [sRet (eTup (eL []))]) (sB []),
  sRet (e2 (addD true) (eV 1) (eV 1))]
def F_q_wrong : AF := fnT 2 3 b_q_wrong
/- _law_faulty: _law_tape_here, _law_lot_here, _law_rows, _law_k, _law_place -/
def b_q_faulty : AS := sB [sSet 2 (eA (on1 (listD false)) (eL [eV 1])),
  sFor (iR1 (eA (F_q_take) (eL [eV 0, eC (.int 3)]))) (gV 3) (sB [sIf (tB1 (e2 gtD (eA (on1 lenD) (eL [eV 2])) (eC (.int 0)))) (sB [sSet 4 (eA (F_q_take) (eL [eV 0, eA (on1 lenD) (eL [eV 2])])),
      sSub setIxD (eV 2) (eV 4) (eA (F_q_wrong) (eL [eV 0, e2 ixD (eV 2) (eV 4)]))]) (sB [])]),
  sRet (eV 2)]
def F_q_faulty : AF := fnT 2 5 b_q_faulty
/- _law_told: _law_forest, _law_rows, _law_field, e, _law_family -/
def b_q_told : AS := sB [sTryAs [("BadRecord", true), ("NoRecord", true), ("BadForest", true), ("NotFair", true), ("FieldsDiffer", true), ("BadNumber", true), ("BadPlace", true), ("Marked", true), ("BadSizes", true)] 3 (sB [sE (eA (F_bearers) (eL [eV 0, eV 1, eV 2]))]) (fun x => sB [sSet 4 (eLst true (eL [eXis x [("BadRecord", false), ("NoRecord", false), ("BadForest", false), ("NotFair", true), ("FieldsDiffer", false), ("BadNumber", false), ("BadPlace", false), ("Marked", false), ("BadSizes", false)], eXis x [("BadRecord", false), ("NoRecord", true), ("BadForest", false), ("NotFair", false), ("FieldsDiffer", false), ("BadNumber", false), ("BadPlace", false), ("Marked", false), ("BadSizes", false)], eXis x [("BadRecord", true), ("NoRecord", false), ("BadForest", false), ("NotFair", false), ("FieldsDiffer", false), ("BadNumber", false), ("BadPlace", false), ("Marked", false), ("BadSizes", false)], eXis x [("BadRecord", false), ("NoRecord", false), ("BadForest", false), ("NotFair", false), ("FieldsDiffer", false), ("BadNumber", false), ("BadPlace", true), ("Marked", true), ("BadSizes", false)]])),
    sIf (tOr (tNot (tV (eXis x [("BadRecord", true), ("NoRecord", true), ("BadForest", true), ("NotFair", true), ("FieldsDiffer", true), ("BadNumber", true), ("BadPlace", true), ("Marked", true), ("BadSizes", true)]))) (tV (eXis x [("BadRecord", false), ("NoRecord", false), ("BadForest", true), ("NotFair", false), ("FieldsDiffer", true), ("BadNumber", true), ("BadPlace", false), ("Marked", true), ("BadSizes", true)]))) (sB [sRet (eTup (eL [eC (.str [97, 110, 111, 116, 104, 101, 114])]))]) (sB []),
    sIf (tB1 (e2 eqD (eV 4) (eLst true (eL [eC (.bl true), eC (.bl false), eC (.bl false), eC (.bl false)])))) (sB [sRet (eTup (eL [eC (.str [78, 111, 116, 70, 97, 105, 114]), eXf ["BadForest", "NotFair"] x "field"]))]) (sB []),
    sIf (tB1 (e2 eqD (eV 4) (eLst true (eL [eC (.bl false), eC (.bl true), eC (.bl false), eC (.bl false)])))) (sB [sRet (eTup (eL [eC (.str [78, 111, 82, 101, 99, 111, 114, 100])]))]) (sB []),
    sIf (tB1 (e2 eqD (eV 4) (eLst true (eL [eC (.bl false), eC (.bl false), eC (.bl true), eC (.bl false)])))) (sB [sRet (eTup (eL [eC (.str [66, 97, 100, 82, 101, 99, 111, 114, 100]), eXf ["BadRecord"] x "record"]))]) (sB []),
    sIf (tB1 (e2 eqD (eV 4) (eLst true (eL [eC (.bl false), eC (.bl false), eC (.bl false), eC (.bl true)])))) (sB [sRet (eTup (eL [eC (.str [66, 97, 100, 80, 108, 97, 99, 101]), eXf ["BadPlace", "Marked"] x "place"]))]) (sB []),
    sRet (eTup (eL [eC (.str [97, 110, 111, 116, 104, 101, 114])]))]),
  sRet (eC .non)]
def F_q_told : AF := fnT 3 5 b_q_told
/- _law_unfair: _law_tape_here, _law_parents_here, _law_kinds_here, _law_spoilt, _law_field -/
def b_q_unfair_v2 : AS := sB [sSet 3 (eA (on1 (listD false)) (eL [eV 2])),
  sFor (iR1 (eA (on1 lenD) (eL [eV 1]))) (gV 4) (sB [sIf (tAnd (tB1 (e2 notInD (eV 4) (eV 1))) (tB1 (e2 eqD (eA (F_q_take) (eL [eV 0, eC (.int 2)])) (eC (.int 0))))) (sB [sSub setIxD (eV 3) (eV 4) (e2 ixD (eLst true (eL [eC (.str [102, 105, 114, 115, 116]), eC (.str [108, 97, 115, 116])])) (eA (F_q_take) (eL [eV 0, eC (.int 2)])))]) (sB [])]),
  sRet (eV 3)]
def F_q_unfair_v2 : AF := fnT 3 5 b_q_unfair_v2
/- _law_refuses: _law_tape_here, _law_forest, _law_parents_here, _law_kinds_here, _law_lot_here, _law_spoilt, _law_rows, _law_n, _law_field, _law_pick, _law_asked, _law_handed, _law_told_here -/
def b_q_refuses : AS := sB [sSet 5 (eA (on1 (listD true)) (eL [eV 3])),
  sIf (tB1 (e2 eqD (eA (F_q_take) (eL [eV 0, eC (.int 2)])) (eC (.int 0)))) (sB [sSet 5 (eA (F_q_unfair_v2) (eL [eV 0, eV 2, eV 3]))]) (sB []),
  sSet 6 (eA (on1 (listD true)) (eL [eV 4])),
  sIf (tB1 (e2 eqD (eA (F_q_take) (eL [eV 0, eC (.int 2)])) (eC (.int 0)))) (sB [sSet 6 (eSl true (eV 4) (oN) (oS (eA (F_q_take) (eL [eV 0, eC (.int 2)]))))]) (sB []),
  sSet 6 (eA (F_q_faulty) (eL [eV 0, eV 6])),
  sSet 7 (eA (on1 lenD) (eL [eV 2])),
  sSet 8 (eA (F_q_take) (eL [eV 0, eV 7])),
  sSet 9 (eA (F_q_take) (eL [eV 0, eC (.int 8)])),
  sIf (tB1 (e2 ltD (eV 9) (eC (.int 4)))) (sB [sSet 8 (e2 ixD (eLst true (eL [e2 subD (eC (.int 0)) (eC (.int 1)), eV 7, e2 subD (eC (.int 0)) (eV 7), e2 (addD true) (e2 (addD true) (eV 7) (eC (.int 1))) (eA (F_q_take) (eL [eV 0, e2 powD (eC (.int 10)) (eC (.int 9))]))])) (eV 9))]) (sB []),
  sSet 10 (eV 1),
  sIf (tB1 (e2 neD (eV 5) (eV 3))) (sB [sSet 10 (eA (mkI "Forest" true (F_Forest_init)) (eL [eA (on1 (listD true)) (eL [eV 2]), eA (on1 (listD true)) (eL [eV 5])]))]) (sB []),
  sSet 11 (eA (on1 (listD true)) (eL [eV 6])),
  sSet 12 (eA (F_q_told) (eL [eV 10, eV 11, eV 8])),
  sRet (eAnd (eA (F_q_same_v2 12) (eL [eV 12, eA (F_q_due) (eL [eV 5, eV 6, eV 8])])) (eA (F_q_same_v2 12) (eL [eV 11, eV 6])))]
def F_q_refuses : AF := fnT 5 13 b_q_refuses
/- _law_span: _law_tape_here -/
def b_q_span : AS := sB [sRet (e2 ixD (eLst true (eL [eC (.int 3), eC (.int 3), eC (.int 3), eC (.int 3), eC (.int 3), eC (.int 2), eC (.int 1000), e2 powD (eC (.int 10)) (eC (.int 59))])) (eA (F_q_take) (eL [eV 0, eC (.int 8)])))]
def F_q_span : AF := fnT 1 1 b_q_span
/- _law_turned: _law_kinds_here, _law_kind -/
def b_q_turned : AS := sB [sRet (eLC true [1] (iS (eV 0)) (gV 1) (tYes) (e2 ixD (eLst true (eL [eC (.str [117, 112]), eC (.str [100, 111, 119, 110])])) (eA (on1 intD) (eL [e2 eqD (eV 1) (eC (.str [117, 112]))]))))]
def F_q_turned : AF := fnT 1 2 b_q_turned
/- _law_worse: _law_parents_here, _law_kinds_here, _law_lot_here, _law_low, _law_parent, _law_field, _law_record_here -/
def b_q_worse : AS := sB [sSet 3 (eLC false [4] (iS (eV 0)) (gV 4) (tYes) (eC (.int 0))),
  sFor (iR1 (eA (on1 lenD) (eL [eV 0]))) (gV 5) (sB [sIf (tAnd (tB1 (e1 isNonD (e2 ixD (eV 0) (eV 5)))) (tB1 (e2 eqD (e2 ixD (eV 1) (eV 5)) (eC (.str [117, 112]))))) (sB [sSub setIxD (eV 3) (eV 5) (e2 subD (eA (on1 (intsD minF)) (eL [eLC true [6] (iS (eV 2)) (gV 6) (tYes) (e2 ixD (eV 6) (eV 5))])) (eC (.int 1)))]) (sB []),
    sIf (tAnd (tB1 (e1 isNonD (e2 ixD (eV 0) (eV 5)))) (tB1 (e2 eqD (e2 ixD (eV 1) (eV 5)) (eC (.str [100, 111, 119, 110]))))) (sB [sSub setIxD (eV 3) (eV 5) (e2 (addD true) (eA (on1 (intsD maxF)) (eL [eLC true [6] (iS (eV 2)) (gV 6) (tYes) (e2 ixD (eV 6) (eV 5))])) (eC (.int 1)))]) (sB [])]),
  sRet (eA (on1 tupD) (eL [eV 3]))]
def F_q_worse : AF := fnT 3 7 b_q_worse
/- law: _law_script, _law_tape_here, _law_n, _law_parents_here, _law_count_here, _law_span_here, _law_many, _law_place, _law_field, _law_turn, _law_kinds_here, _law_lot_here, _law_paths_here, _law_worse_here, _law_handed, _law_k, _law_forest, _law_end, _law_low, _law_best -/
def b_law_k48 : AS := sB [sSet 1 (eA (F_q_tape) (eL [eV 0, eC (.int 0)])),
  sSet 2 (eA (F_q_fields) (eL [eV 1])),
  sSet 3 (eA (F_q_parents) (eL [eV 1, eV 2])),
  sSet 4 (eA (F_q_count) (eL [eV 1, eC (.int 1)])),
  sSet 5 (eA (F_q_span) (eL [eV 1])),
  sSet 6 (eC (.int 0)),
  sIf (tAnd (tB1 (e2 eqD (eA (F_q_take) (eL [eV 1, eC (.int 8)])) (eC (.int 0)))) (tB1 (e2 ltD (eV 2) (eC (.int 5))))) (sB [sSet 6 (e2 (addD true) (eC (.int 60)) (eA (F_q_take) (eL [eV 1, eC (.int 20)])))]) (sB []),
  sSet 7 (eA (F_q_take) (eL [eV 1, e2 (addD true) (eV 4) (eC (.int 1))])),
  sSet 8 (eA (F_q_take) (eL [eV 1, eV 2])),
  sSet 9 (eA (F_q_tape) (eL [eV 0, eC (.int 1)])),
  sSet 10 (eA (F_q_kinds) (eL [eV 9, eV 3, eC (.bl true)])),
  sSet 11 (eA (F_q_lot) (eL [eV 0, eC (.int 2), eV 2, eV 4, eV 5])),
  sSet 12 (eA (F_q_paths) (eL [eV 3])),
  sSet 13 (eA (F_q_worse) (eL [eV 3, eV 10, eV 11])),
  sSet 14 (e2 (addD false) (e2 (addD true) (eSl true (eV 11) (oN) (oS (eV 7))) (eLC true [15] (iR1 (eV 6)) (gV 15) (tYes) (eV 13))) (eSl true (eV 11) (oS (eV 7)) (oN))),
  sSet 16 (eA (mkI "Forest" true (F_Forest_init)) (eL [eA (on1 (listD true)) (eL [eV 3]), eA (on1 (listD true)) (eL [eV 10])])),
  sSet 17 (eA (F_q_fold) (eL [eV 12, eV 10, eV 11])),
  sIf (tNot (tV (eA (F_q_answers) (eL [eV 16, eV 12, eV 14, eV 17])))) (sB [sRet (eC (.bl false))]) (sB []),
  sSet 18 (eA (F_q_turned) (eL [eV 10])),
  sIf (tNot (tV (eA (F_q_answers) (eL [eA (mkI "Forest" true (F_Forest_init)) (eL [eA (on1 (listD true)) (eL [eV 3]), eA (on1 (listD true)) (eL [eV 18])]), eV 12, eA (on1 (listD true)) (eL [eV 11]), eA (F_q_fold) (eL [eV 12, eV 18, eV 11])])))) (sB [sRet (eC (.bl false))]) (sB []),
  sIf (tNot (tV (eA (F_q_refuses) (eL [eV 9, eV 16, eV 3, eV 10, eV 11])))) (sB [sRet (eC (.bl false))]) (sB []),
  sSet 19 (eA (F_q_raised) (eL [eV 10, eV 17, eV 8, eC (.int 1)])),
  sE (eM isLst (mt1 appendD) (eV 14) (eL [eV 19])),
  sIf (tNot (tV (eA (F_q_answers) (eL [eV 16, eV 12, eV 14, eV 19])))) (sB [sRet (eC (.bl false))]) (sB []),
  sE (eM isLst (mt0 popD) (eV 14) (eL [])),
  sRet (eA (F_q_answers) (eL [eV 16, eV 12, eV 14, eV 17]))]
def F_law_k48 : AF := fnT 1 20 b_law_k48
end Sm
end

section
set_option linter.all false
/-! k15: plain computations (printed by gen2.py) -/
namespace Sm
/- _law_by_bearers: _law_paths_here, _law_lot_here, _law_end, _law_ends, _law_told_here, _law_field, _law_bearing, _law_k, _law_differs -/
def b_q_by_bearers : AS := sB [sFor (iR1 (eA (on1 lenD) (eL [eV 0]))) (gV 5) (sB [sSet 6 (eLC true [7] (iR1 (eA (on1 lenD) (eL [eV 1]))) (gV 7) (tV (eA (F_q_bears) (eL [e2 ixD (eV 0) (eV 5), e2 ixD (eV 1) (eV 7), eV 2]))) (eV 7)),
    sFor (iR1 (eA (on1 lenD) (eL [eV 1]))) (gV 7) (sB [sSet 8 (e2 neD (e2 ixD (e2 ixD (eV 4) (eV 7)) (eV 5)) (e2 ixD (eV 2) (eV 5))),
      sIf (tB1 (e2 neD (eV 8) (eAnd (e2 eqD (eV 6) (eLst true (eL [eV 7]))) (e2 neD (e2 ixD (e2 ixD (eV 3) (eV 7)) (eV 5)) (e2 ixD (eV 2) (eV 5)))))) (sB [sRet (eC (.bl false))]) (sB [])])]),
  sRet (eC (.bl true))]
def F_q_by_bearers : AF := fnT 5 9 b_q_by_bearers
/- merged_record: parents, kinds, older, newer, result, field, place -/
def b_merged_record : AS := sB [sSet 4 (eLst false (eL [])),
  sFor (iR1 (eA (on1 lenD) (eL [eV 0]))) (gV 5) (sB [sSet 6 (eA (F_first_unlike_on) (eL [eA (F_path_of) (eL [eV 0, eV 5]), eV 2, eV 3])),
    sIf (tOr (tB1 (e1 isNonD (eV 6))) (tOr (tB1 (e2 eqD (e2 ixD (eV 1) (eV 6)) (eC (.str [102, 105, 114, 115, 116])))) (tV (eA (F_better) (eL [e2 ixD (eV 1) (eV 6), e2 ixD (eV 2) (eV 6), e2 ixD (eV 3) (eV 6)]))))) (sB [sE (eM isLst (mt1 appendD) (eV 4) (eL [e2 ixD (eV 2) (eV 5)]))]) (sB [sE (eM isLst (mt1 appendD) (eV 4) (eL [e2 ixD (eV 3) (eV 5)]))])]),
  sRet (eA (on1 tupD) (eL [eV 4]))]
def F_merged_record : AF := fnT 4 7 b_merged_record
/- running_ends: forest, records, ends, record -/
def b_running_ends : AS := sB [sSet 2 (eLst false (eL [e2 ixD (eV 1) (eC (.int 0))])),
  sFor (iS (eSl true (eV 1) (oS (eC (.int 1))) (oN))) (gV 3) (sB [sE (eM isLst (mt1 appendD) (eV 2) (eL [eA (F_merged_record) (eL [e1 (fldD ["Forest"] "parents") (eV 0), e1 (fldD ["Forest"] "kinds") (eV 0), e2 ixD (eV 2) (e1 negD (eC (.int 1))), eV 3])]))]),
  sRet (eV 2)]
def F_running_ends : AF := fnT 2 4 b_running_ends
/- ends_without: forest, records, lot, ahead, after, ends, at -/
def b_ends_without : AS := sB [sE (eA (F_check_fair) (eL [eV 0])),
  sIf (tB1 (e2 ltD (eA (on1 lenD) (eL [eV 1])) (eC (.int 2)))) (sB [sRaise0 "NoRecord"]) (sB []),
  sE (eA (F_check_records) (eL [e1 (fldD ["Forest"] "fields") (eV 0), eV 1])),
  sSet 2 (eA (on1 (listD true)) (eL [eV 1])),
  sSet 3 (eA (F_running_ends) (eL [eV 0, eV 2])),
  sSet 4 (e1 (revD true) (eA (F_running_ends) (eL [eV 0, e1 (revD true) (eV 2)]))),
  sSet 5 (eLst false (eL [e2 ixD (eV 4) (eC (.int 1))])),
  sFor (iR2 (eC (.int 1)) (e2 subD (eA (on1 lenD) (eL [eV 2])) (eC (.int 1)))) (gV 6) (sB [sE (eM isLst (mt1 appendD) (eV 5) (eL [eA (F_merged_record) (eL [e1 (fldD ["Forest"] "parents") (eV 0), e1 (fldD ["Forest"] "kinds") (eV 0), e2 ixD (eV 3) (e2 subD (eV 6) (eC (.int 1))), e2 ixD (eV 4) (e2 (addD true) (eV 6) (eC (.int 1)))])]))]),
  sE (eM isLst (mt1 appendD) (eV 5) (eL [e2 ixD (eV 3) (e1 negD (eC (.int 2)))])),
  sRet (eV 5)]
def F_ends_without : AF := fnK 2 7 b_ends_without
/- _law_answers: _law_forest, _law_paths_here, _law_kinds_here, _law_lot_here, _law_place, _law_many, _law_worse_here, _law_end, _law_ends, _law_k, _law_whole, _law_wanted, _law_handed, _law_told_here, _law_first -/
def b_q_answers_v2 : AS := sB [sSet 7 (eA (F_q_fold) (eL [eV 1, eV 2, eV 3])),
  sSet 8 (eLC true [9] (iR1 (eA (on1 lenD) (eL [eV 3]))) (gV 9) (tYes) (eA (F_q_fold) (eL [eV 1, eV 2, e2 (addD true) (eSl true (eV 3) (oN) (oS (eV 9))) (eSl true (eV 3) (oS (e2 (addD true) (eV 9) (eC (.int 1)))) (oN))]))),
  sSet 10 (e2 (addD true) (e2 (addD true) (eSl true (eV 3) (oN) (oS (eV 4))) (eLC true [9] (iR1 (eV 5)) (gV 9) (tYes) (eV 6))) (eSl true (eV 3) (oS (eV 4)) (oN))),
  sSet 11 (e2 (addD true) (e2 (addD true) (eSl true (eV 8) (oN) (oS (eV 4))) (eLC true [9] (iR1 (eV 5)) (gV 9) (tYes) (eV 7))) (eSl true (eV 8) (oS (eV 4)) (oN))),
  sSet 12 (eA (on1 (listD false)) (eL [eV 10])),
  sSet 13 (eA (F_ends_without) (eL [eV 0, eV 12])),
  sIf (tOr (tNot (tV (eA (F_q_same_v2 12) (eL [eV 13, eV 11])))) (tNot (tV (eA (F_q_same_v2 12) (eL [eV 12, eV 10]))))) (sB [sRet (eC (.bl false))]) (sB []),
  sIf (tNot (tV (eA (F_q_by_bearers) (eL [eV 1, eV 3, eV 7, eV 8, e2 (addD true) (eSl true (eV 13) (oN) (oS (eV 4))) (eSl true (eV 13) (oS (e2 (addD true) (eV 4) (eV 5))) (oN))])))) (sB [sRet (eC (.bl false))]) (sB []),
  sSub setIxD (eV 13) (eC (.int 0)) (eV 6),
  sE (eM isLst (mt1 appendD) (eV 13) (eL [eV 6])),
  sIf (tOr (tNot (tV (eA (F_q_same_v2 12) (eL [eA (F_ends_without) (eL [eV 0, eV 12]), eV 11])))) (tNot (tV (eA (F_q_same_v2 12) (eL [eV 12, eV 10]))))) (sB [sRet (eC (.bl false))]) (sB []),
  sSet 14 (eM isLst (mt1 popAtD) (eV 12) (eL [eC (.int 0)])),
  sE (eM isLst (mt1 appendD) (eV 12) (eL [eV 14])),
  sRet (eA (F_q_same_v2 12) (eL [eA (F_ends_without) (eL [eV 0, eV 12]), e2 (addD true) (eSl true (eV 11) (oS (eC (.int 1))) (oN)) (eSl true (eV 11) (oN) (oS (eC (.int 1))))]))]
def F_q_answers_v2 : AF := fnT 7 15 b_q_answers_v2
/- _law_due: _law_kinds_here, _law_rows, _law_record_here -/
def b_q_due_v2 : AS := sB [sIf (tB1 (e1 notNonD (eA (F_q_lowest) (eL [eV 0])))) (sB [sRet (eTup (eL [eC (.str [78, 111, 116, 70, 97, 105, 114]), eA (F_q_lowest) (eL [eV 0])]))]) (sB []),
  sIf (tB1 (e2 ltD (eA (on1 lenD) (eL [eV 1])) (eC (.int 2)))) (sB [sRet (eTup (eL [eC (.str [78, 111, 82, 101, 99, 111, 114, 100])]))]) (sB []),
  sFor (iS (eV 1)) (gV 2) (sB [sIf (tB1 (e2 neD (eA (on1 lenD) (eL [eV 2])) (eA (on1 lenD) (eL [eV 0])))) (sB [sRet (eTup (eL [eC (.str [66, 97, 100, 82, 101, 99, 111, 114, 100]), eV 2]))]) (sB [])]),
  sRet (eC .non)]
def F_q_due_v2 : AF := fnT 2 3 b_q_due_v2
/- _law_told: _law_forest, _law_rows, e, _law_family -/
def b_q_told_v2 : AS := sB [sTryAs [("BadRecord", true), ("NoRecord", true), ("BadForest", true), ("NotFair", true), ("FieldsDiffer", true), ("BadNumber", true), ("BadPlace", true), ("BadSizes", true)] 2 (sB [sE (eA (F_ends_without) (eL [eV 0, eV 1]))]) (fun x => sB [sSet 3 (eLst true (eL [eXis x [("BadRecord", true), ("NoRecord", true), ("BadForest", true), ("NotFair", true), ("FieldsDiffer", true), ("BadNumber", true), ("BadPlace", true), ("BadSizes", true)], eXis x [("BadRecord", false), ("NoRecord", false), ("BadForest", false), ("NotFair", true), ("FieldsDiffer", false), ("BadNumber", false), ("BadPlace", false), ("BadSizes", false)], eXis x [("BadRecord", false), ("NoRecord", true), ("BadForest", false), ("NotFair", false), ("FieldsDiffer", false), ("BadNumber", false), ("BadPlace", false), ("BadSizes", false)], eXis x [("BadRecord", true), ("NoRecord", false), ("BadForest", false), ("NotFair", false), ("FieldsDiffer", false), ("BadNumber", false), ("BadPlace", false), ("BadSizes", false)]])),
    sIf (tV (eXis x [("BadRecord", false), ("NoRecord", false), ("BadForest", true), ("NotFair", false), ("FieldsDiffer", true), ("BadNumber", true), ("BadPlace", true), ("BadSizes", true)])) (sB [sRet (eTup (eL [eC (.str [97, 110, 111, 116, 104, 101, 114])]))]) (sB []),
    sIf (tB1 (e2 eqD (eV 3) (eLst true (eL [eC (.bl true), eC (.bl true), eC (.bl false), eC (.bl false)])))) (sB [sRet (eTup (eL [eC (.str [78, 111, 116, 70, 97, 105, 114]), eXf ["BadForest", "NotFair"] x "field"]))]) (sB []),
    sIf (tB1 (e2 eqD (eV 3) (eLst true (eL [eC (.bl true), eC (.bl false), eC (.bl true), eC (.bl false)])))) (sB [sRet (eTup (eL [eC (.str [78, 111, 82, 101, 99, 111, 114, 100])]))]) (sB []),
    sIf (tB1 (e2 eqD (eV 3) (eLst true (eL [eC (.bl true), eC (.bl false), eC (.bl false), eC (.bl true)])))) (sB [sRet (eTup (eL [eC (.str [66, 97, 100, 82, 101, 99, 111, 114, 100]), eXf ["BadRecord"] x "record"]))]) (sB []),
    sRet (eTup (eL [eC (.str [97, 110, 111, 116, 104, 101, 114])]))]),
  sRet (eC .non)]
def F_q_told_v2 : AF := fnT 2 4 b_q_told_v2
/- _law_refuses: _law_tape_here, _law_forest, _law_parents_here, _law_kinds_here, _law_lot_here, _law_spoilt, _law_rows, _law_asked, _law_handed, _law_told_here -/
def b_q_refuses_v2 : AS := sB [sSet 5 (eA (on1 (listD true)) (eL [eV 3])),
  sIf (tB1 (e2 eqD (eA (F_q_take) (eL [eV 0, eC (.int 2)])) (eC (.int 0)))) (sB [sSet 5 (eA (F_q_unfair_v2) (eL [eV 0, eV 2, eV 3]))]) (sB []),
  sSet 6 (eA (on1 (listD true)) (eL [eV 4])),
  sIf (tB1 (e2 eqD (eA (F_q_take) (eL [eV 0, eC (.int 2)])) (eC (.int 0)))) (sB [sSet 6 (eSl true (eV 4) (oN) (oS (eA (F_q_take) (eL [eV 0, eC (.int 2)]))))]) (sB []),
  sSet 6 (eA (F_q_faulty) (eL [eV 0, eV 6])),
  sSet 7 (eV 1),
  sIf (tB1 (e2 neD (eV 5) (eV 3))) (sB [sSet 7 (eA (mkI "Forest" true (F_Forest_init)) (eL [eA (on1 (listD true)) (eL [eV 2]), eA (on1 (listD true)) (eL [eV 5])]))]) (sB []),
  sSet 8 (eA (on1 (listD true)) (eL [eV 6])),
  sSet 9 (eA (F_q_told_v2) (eL [eV 7, eV 8])),
  sRet (eAnd (eA (F_q_same_v2 12) (eL [eV 9, eA (F_q_due_v2) (eL [eV 5, eV 6])])) (eA (F_q_same_v2 12) (eL [eV 8, eV 6])))]
def F_q_refuses_v2 : AF := fnT 5 10 b_q_refuses_v2
/- law: _law_script, _law_tape_here, _law_n, _law_parents_here, _law_count_here, _law_span_here, _law_many, _law_place, _law_turn, _law_kinds_here, _law_lot_here, _law_paths_here, _law_worse_here, _law_forest -/
def b_law_k15 : AS := sB [sSet 1 (eA (F_q_tape) (eL [eV 0, eC (.int 0)])),
  sSet 2 (eA (F_q_fields) (eL [eV 1])),
  sSet 3 (eA (F_q_parents) (eL [eV 1, eV 2])),
  sSet 4 (eA (F_q_count) (eL [eV 1, eC (.int 2)])),
  sSet 5 (eA (F_q_span) (eL [eV 1])),
  sSet 6 (eC (.int 0)),
  sIf (tAnd (tB1 (e2 eqD (eA (F_q_take) (eL [eV 1, eC (.int 8)])) (eC (.int 0)))) (tB1 (e2 ltD (eV 2) (eC (.int 5))))) (sB [sSet 6 (e2 (addD true) (eC (.int 60)) (eA (F_q_take) (eL [eV 1, eC (.int 20)])))]) (sB []),
  sSet 7 (eA (F_q_take) (eL [eV 1, e2 (addD true) (eV 4) (eC (.int 1))])),
  sSet 8 (eA (F_q_tape) (eL [eV 0, eC (.int 1)])),
  sSet 9 (eA (F_q_kinds) (eL [eV 8, eV 3, eC (.bl true)])),
  sSet 10 (eA (F_q_lot) (eL [eV 0, eC (.int 2), eV 2, eV 4, eV 5])),
  sSet 11 (eA (F_q_paths) (eL [eV 3])),
  sSet 12 (eA (F_q_worse) (eL [eV 3, eV 9, eV 10])),
  sSet 13 (eA (mkI "Forest" true (F_Forest_init)) (eL [eA (on1 (listD true)) (eL [eV 3]), eA (on1 (listD true)) (eL [eV 9])])),
  sIf (tNot (tV (eA (F_q_answers_v2) (eL [eV 13, eV 11, eV 9, eV 10, eV 7, eV 6, eV 12])))) (sB [sRet (eC (.bl false))]) (sB []),
  sIf (tNot (tV (eA (F_q_refuses_v2) (eL [eV 8, eV 13, eV 3, eV 9, eV 10])))) (sB [sRet (eC (.bl false))]) (sB []),
  sRet (eA (F_q_answers_v2) (eL [eV 13, eV 11, eV 9, e2 (addD true) (eV 10) (eLst true (eL [e2 ixD (eV 10) (eC (.int 0))])), eC (.int 0), eC (.int 0), eV 12]))]
def F_law_k15 : AF := fnT 1 14 b_law_k15
end Sm
end

section
set_option linter.all false
/-! k59: plain computations (printed by gen2.py) -/
namespace Sm
/- check_bound: forest, copy, bound -/
def b_check_bound : AS := sB [sE (eA (F_check_fair) (eL [eV 0])),
  sE (eA (F_check_record) (eL [e1 (fldD ["Forest"] "fields") (eV 0), eV 1])),
  sE (eA (F_check_record) (eL [e1 (fldD ["Forest"] "fields") (eV 0), eV 2]))]
def F_check_bound : AF := fnT 3 3 b_check_bound
/- is_firm: forest, copy, bound, field, place -/
def b_is_firm : AS := sB [sSet 4 (eA (F_first_unlike_on) (eL [eA (F_path_of) (eL [e1 (fldD ["Forest"] "parents") (eV 0), eV 3]), eV 1, eV 2])),
  sRet (eOr (e1 isNonD (eV 4)) (eA (F_better) (eL [e2 ixD (e1 (fldD ["Forest"] "kinds") (eV 0)) (eV 4), e2 ixD (eV 1) (eV 4), e2 ixD (eV 2) (eV 4)])))]
def F_is_firm : AF := fnT 4 5 b_is_firm
/- firm_fields: forest, copy, bound, field -/
def b_firm_fields : AS := sB [sE (eA (F_check_bound) (eL [eV 0, eV 1, eV 2])),
  sRet (eA (on1 tupD) (eL [eLC true [3] (iR1 (e1 (fldD ["Forest"] "fields") (eV 0))) (gV 3) (tV (eA (F_is_firm) (eL [eV 0, eV 1, eV 2, eV 3]))) (eV 3)]))]
def F_firm_fields : AF := fnT 3 4 b_firm_fields
/- raised: kind, value, by -/
def b_raised : AS := sB [sIf (tB1 (e2 eqD (eV 0) (eC (.str [100, 111, 119, 110])))) (sB [sRet (e2 subD (eV 1) (eV 2))]) (sB []),
  sRet (e2 (addD true) (eV 1) (eV 2))]
def F_raised : AF := fnT 3 3 b_raised
/- moving_letter: forest, copy, bound, field, result -/
def b_moving_letter : AS := sB [sE (eA (F_check_bound) (eL [eV 0, eV 1, eV 2])),
  sE (eA (F_check_place) (eL [e1 (fldD ["Forest"] "fields") (eV 0), eV 3])),
  sIf (tV (eA (F_is_firm) (eL [eV 0, eV 1, eV 2, eV 3]))) (sB [sRet (eC .non)]) (sB []),
  sSet 4 (eA (on1 (listD false)) (eL [eV 2])),
  sIf (tB1 (e2 eqD (e2 ixD (eV 1) (eV 3)) (e2 ixD (eV 2) (eV 3)))) (sB [sSub setIxD (eV 4) (eV 3) (eA (F_raised) (eL [e2 ixD (e1 (fldD ["Forest"] "kinds") (eV 0)) (eV 3), e2 ixD (eV 2) (eV 3), e1 negD (eC (.int 1))]))]) (sB []),
  sRet (eA (on1 tupD) (eL [eV 4]))]
def F_moving_letter : AF := fnT 4 5 b_moving_letter
/- _law_ask: _law_which, _law_forest, _law_held, _law_bound, _law_field, _law_found, e -/
def b_q_ask_v2 : AS := sB [sSet 5 (eLst false (eL [])),
  sTryAs [("BadRecord", true), ("BadTree", true), ("BadForest", true), ("NotFair", true), ("CannotLand", true), ("BadLetter", true), ("BadAnswer", true), ("BadPlace", true), ("Marked", true)] 6 (sB [sIf (tB1 (e2 eqD (eV 0) (eC (.int 0)))) (sB [sRet (eLst true (eL [eA (F_firm_fields) (eL [eV 1, eV 2, eV 3])]))]) (sB []),
    sRet (eLst true (eL [eA (F_moving_letter) (eL [eV 1, eV 2, eV 3, eV 4])]))]) (fun x => sB [sIf (tOr (tNot (tV (eXis x [("BadRecord", true), ("BadTree", true), ("BadForest", true), ("NotFair", true), ("CannotLand", true), ("BadLetter", true), ("BadAnswer", true), ("BadPlace", true), ("Marked", true)]))) (tOr (tV (eXis x [("BadRecord", false), ("BadTree", false), ("BadForest", false), ("NotFair", false), ("CannotLand", false), ("BadLetter", false), ("BadAnswer", false), ("BadPlace", false), ("Marked", true)])) (tV (eXis x [("BadRecord", false), ("BadTree", false), ("BadForest", true), ("NotFair", false), ("CannotLand", false), ("BadLetter", false), ("BadAnswer", false), ("BadPlace", false), ("Marked", false)])))) (sB [sE (eM isLst (mt1 appendD) (eV 5) (eL [eTup (eL [eC (.str [97, 110, 111, 116, 104, 101, 114, 32, 99, 108, 97, 115, 115]), eC (.int 0)])]))]) (sB []),
    sIf (tV (eXis x [("BadRecord", false), ("BadTree", true), ("BadForest", false), ("NotFair", false), ("CannotLand", true), ("BadLetter", true), ("BadAnswer", true), ("BadPlace", false), ("Marked", false)])) (sB [sE (eM isLst (mt1 appendD) (eV 5) (eL [eTup (eL [eC (.str [97, 110, 111, 116, 104, 101, 114, 32, 99, 108, 97, 115, 115]), eC (.int 0)])]))]) (sB []),
    sIf (tV (eXis x [("BadRecord", false), ("BadTree", false), ("BadForest", false), ("NotFair", true), ("CannotLand", false), ("BadLetter", false), ("BadAnswer", false), ("BadPlace", false), ("Marked", false)])) (sB [sE (eM isLst (mt1 appendD) (eV 5) (eL [eTup (eL [eC (.str [78, 111, 116, 70, 97, 105, 114]), eXf ["BadTree", "BadForest", "NotFair", "CannotLand", "BadLetter", "BadAnswer"] x "field"])]))]) (sB []),
    sIf (tV (eXis x [("BadRecord", true), ("BadTree", false), ("BadForest", false), ("NotFair", false), ("CannotLand", false), ("BadLetter", false), ("BadAnswer", false), ("BadPlace", false), ("Marked", false)])) (sB [sE (eM isLst (mt1 appendD) (eV 5) (eL [eTup (eL [eC (.str [66, 97, 100, 82, 101, 99, 111, 114, 100]), eXf ["BadRecord"] x "record"])]))]) (sB []),
    sIf (tV (eXis x [("BadRecord", false), ("BadTree", false), ("BadForest", false), ("NotFair", false), ("CannotLand", false), ("BadLetter", false), ("BadAnswer", false), ("BadPlace", true), ("Marked", true)])) (sB [sE (eM isLst (mt1 appendD) (eV 5) (eL [eTup (eL [eC (.str [66, 97, 100, 80, 108, 97, 99, 101]), eXf ["BadPlace", "Marked"] x "place"])]))]) (sB [])]),
  sRet (eA (on1 tupD) (eL [eV 5]))]
def F_q_ask_v2 : AF := fnT 5 7 b_q_ask_v2
/- _law_closed: _law_parents_here, _law_firm_here, _law_field, _law_place -/
def b_q_closed : AS := sB [sFor (iS (eV 1)) (gV 2) (sB [sIf (tB1 (e2 neD (eLC true [3] (iS (eA (F_q_path) (eL [eV 0, eV 2]))) (gV 3) (tB1 (e2 notInD (eV 3) (eV 1))) (eV 3)) (eLst true (eL [])))) (sB [sRet (eC (.bl false))]) (sB [])]),
  sRet (eC (.bl true))]
def F_q_closed : AF := fnT 2 4 b_q_closed
/- _law_firm: _law_parents_here, _law_kinds_here, _law_held, _law_bound, _law_field -/
def b_q_firm : AS := sB [sRet (eLC true [4] (iR1 (eA (on1 lenD) (eL [eV 1]))) (gV 4) (tB1 (e2 eqD (eA (F_q_side) (eL [eV 0, eV 1, eV 4, eV 2, eV 3])) (eC (.int 0)))) (eV 4))]
def F_q_firm : AF := fnT 4 5 b_q_firm
/- _law_is_ascending: _law_actual, _law_n, _law_last, _law_value_here -/
def b_q_is_ascending : AS := sB [sIf (tNot (tV (e1 (isTy "tuple") (eV 0)))) (sB [sRet (eC (.bl false))]) (sB []),
  sSet 2 (e2 subD (eC (.int 0)) (eC (.int 1))),
  sFor (iS (eV 0)) (gV 3) (sB [sIf (tOr (tNot (tV (eA (F_q_is_integer) (eL [eV 3])))) (tNot (tB1 (eChain ltD ltD (eV 2) (eV 3) (eV 1))))) (sB [sRet (eC (.bl false))]) (sB []),
    sSet 2 (eV 3)]),
  sRet (eC (.bl true))]
def F_q_is_ascending : AF := fnT 2 4 b_q_is_ascending
/- _law_is_firm: _law_told, _law_firm_here, _law_n -/
def b_q_is_firm : AS := sB [sRet (eAnd (e1 (isTy "list") (eV 0)) (eAnd (eA (F_q_is_ascending) (eL [e2 ixD (eV 0) (eC (.int 0)), eV 2])) (e2 eqD (e2 ixD (eV 0) (eC (.int 0))) (eA (on1 tupD) (eL [eV 1])))))]
def F_q_is_firm : AF := fnT 3 3 b_q_is_firm
/- _law_is_refusal: _law_told, _law_due -/
def b_q_is_refusal_v2 : AS := sB [sIf (tOr (tNot (tV (e1 (isTy "tuple") (eV 0)))) (tOr (tB1 (e2 neD (eA (on1 lenD) (eL [eV 0])) (eC (.int 1)))) (tB1 (e2 neD (e2 ixD (e2 ixD (eV 0) (eC (.int 0))) (eC (.int 0))) (e2 ixD (eV 1) (eC (.int 0))))))) (sB [sRet (eC (.bl false))]) (sB []),
  sIf (tB1 (e2 eqD (e2 ixD (eV 1) (eC (.int 0))) (eC (.str [66, 97, 100, 82, 101, 99, 111, 114, 100])))) (sB [sRet (eAnd (eA (F_q_is_record) (eL [e2 ixD (e2 ixD (eV 0) (eC (.int 0))) (eC (.int 1)), eA (on1 lenD) (eL [e2 ixD (eV 1) (eC (.int 1))])])) (e2 eqD (e2 ixD (e2 ixD (eV 0) (eC (.int 0))) (eC (.int 1))) (e2 ixD (eV 1) (eC (.int 1)))))]) (sB []),
  sRet (eAnd (eA (F_q_is_integer) (eL [e2 ixD (e2 ixD (eV 0) (eC (.int 0))) (eC (.int 1))])) (e2 eqD (e2 ixD (e2 ixD (eV 0) (eC (.int 0))) (eC (.int 1))) (e2 ixD (eV 1) (eC (.int 1)))))]
def F_q_is_refusal_v2 : AF := fnT 2 2 b_q_is_refusal_v2
/- Forest.__call__: self, older, newer -/
def b_Forest_call : AS := sB [sE (eA (F_check_record) (eL [e1 (fldD ["Forest"] "fields") (eV 0), eV 1])),
  sE (eA (F_check_record) (eL [e1 (fldD ["Forest"] "fields") (eV 0), eV 2])),
  sRet (eA (F_merged_record) (eL [e1 (fldD ["Forest"] "parents") (eV 0), e1 (fldD ["Forest"] "kinds") (eV 0), eV 1, eV 2]))]
def F_Forest_call : AF := fnT 3 3 b_Forest_call
/- _law_merge: _law_parents_here, _law_kinds_here, _law_older, _law_newer, _law_pair, _law_f -/
def b_q_merge_v2 : AS := sB [sSet 4 (eLst true (eL [eV 2, eV 3])),
  sRet (eA (on1 tupD) (eL [eLC true [5] (iR1 (eA (on1 lenD) (eL [eV 0]))) (gV 5) (tYes) (e2 ixD (e2 ixD (eV 4) (eA (F_q_side) (eL [eV 0, eV 1, eV 5, eV 2, eV 3]))) (eV 5))]))]
def F_q_merge_v2 : AF := fnT 4 6 b_q_merge_v2
/- _law_step: _law_kind, _law_old, _law_new -/
def b_q_step : AS := sB [sIf (tB1 (e2 eqD (eV 1) (eV 2))) (sB [sRet (eC (.int 0))]) (sB []),
  sIf (tB1 (e2 eqD (e2 gtD (eV 2) (eV 1)) (e2 eqD (eV 0) (eC (.str [117, 112]))))) (sB [sRet (eC (.int 1))]) (sB []),
  sRet (e2 subD (eC (.int 0)) (eC (.int 1)))]
def F_q_step : AF := fnT 3 3 b_q_step
/- _law_moves: _law_forest, _law_parents_here, _law_kinds_here, _law_question_here, _law_field, _law_told, _law_held, _law_bound, _law_place, _law_end, _law_pair, _law_merged -/
def b_q_moves : AS := sB [sSet 6 (e2 ixD (eV 3) (eC (.int 0))),
  sSet 7 (e2 ixD (eV 3) (eC (.int 1))),
  sIf (tOr (tNot (tV (e1 (isTy "list") (eV 5)))) (tNot (tV (eA (F_q_is_record) (eL [e2 ixD (eV 5) (eC (.int 0)), eA (on1 lenD) (eL [eV 2])]))))) (sB [sRet (eC (.bl false))]) (sB []),
  sFor (iR1 (eA (on1 lenD) (eL [eV 2]))) (gV 8) (sB [sIf (tB1 (e2 gtD (eA (F_q_step) (eL [e2 ixD (eV 2) (eV 8), e2 ixD (eV 7) (eV 8), e2 ixD (e2 ixD (eV 5) (eC (.int 0))) (eV 8)])) (eC (.int 0)))) (sB [sRet (eC (.bl false))]) (sB [])]),
  sSet 9 (eA (F_q_merge_v2) (eL [eV 1, eV 2, eV 6, e2 ixD (eV 5) (eC (.int 0))])),
  sFor (iS (eLst true (eL [eTup (eL [eV 6, e2 ixD (eV 5) (eC (.int 0))]), eTup (eL [e2 ixD (eV 5) (eC (.int 0)), eV 6])]))) (gV 10) (sB [sSet 11 (eCal [("Forest", F_Forest_call)] (eV 0) (eL [e2 ixD (eV 10) (eC (.int 0)), e2 ixD (eV 10) (eC (.int 1))])),
    sIf (tOr (tNot (tV (eA (F_q_is_record) (eL [eV 11, eA (on1 lenD) (eL [eV 2])])))) (tB1 (e2 neD (eV 11) (eV 9)))) (sB [sRet (eC (.bl false))]) (sB [])]),
  sRet (e2 neD (e2 ixD (eV 9) (eV 4)) (e2 ixD (eV 6) (eV 4)))]
def F_q_moves : AF := fnT 6 12 b_q_moves
/- _law_refusal: _law_kinds_here, _law_held, _law_bound, _law_unfair_here, _law_record_here -/
def b_q_refusal_v2 : AS := sB [sSet 3 (eA (F_q_unfair) (eL [eV 0])),
  sIf (tB1 (e1 notNonD (eV 3))) (sB [sRet (eV 3)]) (sB []),
  sFor (iS (eLst true (eL [eV 1, eV 2]))) (gV 4) (sB [sIf (tB1 (e2 neD (eA (on1 lenD) (eL [eV 4])) (eA (on1 lenD) (eL [eV 0])))) (sB [sRet (eTup (eL [eC (.str [66, 97, 100, 82, 101, 99, 111, 114, 100]), eV 4]))]) (sB [])]),
  sRet (eC .non)]
def F_q_refusal_v2 : AF := fnT 3 5 b_q_refusal_v2
/- _law_stay_firm: _law_forest, _law_parents_here, _law_kinds_here, _law_question_here, _law_firm_here, _law_now, _law_letter, _law_merged, _law_later, _law_field -/
def b_q_stay_firm : AS := sB [sSet 5 (e2 ixD (eV 3) (eC (.int 0))),
  sFor (iS (e2 ixD (eV 3) (eC (.int 2)))) (gV 6) (sB [sSet 7 (eCal [("Forest", F_Forest_call)] (eV 0) (eL [eV 5, eV 6])),
    sIf (tOr (tNot (tV (eA (F_q_is_record) (eL [eV 7, eA (on1 lenD) (eL [eV 2])])))) (tB1 (e2 neD (eV 7) (eA (F_q_merge_v2) (eL [eV 1, eV 2, eV 5, eV 6]))))) (sB [sRet (eC (.bl false))]) (sB []),
    sSet 8 (eA (F_q_firm) (eL [eV 1, eV 2, eV 7, e2 ixD (eV 3) (eC (.int 1))])),
    sFor (iS (eV 4)) (gV 9) (sB [sIf (tOr (tB1 (e2 neD (e2 ixD (eV 7) (eV 9)) (e2 ixD (eV 5) (eV 9)))) (tB1 (e2 notInD (eV 9) (eV 8)))) (sB [sRet (eC (.bl false))]) (sB [])]),
    sIf (tNot (tV (eA (F_q_is_firm) (eL [eA (F_q_ask_v2) (eL [eC (.int 0), eV 0, eV 7, e2 ixD (eV 3) (eC (.int 1)), eC (.int 0)]), eV 8, eA (on1 lenD) (eL [eV 2])])))) (sB [sRet (eC (.bl false))]) (sB []),
    sSet 5 (eV 7),
    sSet 4 (eV 8)]),
  sRet (eC (.bl true))]
def F_q_stay_firm : AF := fnT 5 10 b_q_stay_firm
/- _law_holds: _law_forest, _law_parents_here, _law_kinds_here, _law_question_here, _law_due, _law_told, _law_strange, _law_shown, _law_field, _law_answer, _law_firm_here -/
def b_q_holds_v2 : AS := sB [sSet 4 (eA (F_q_refusal_v2) (eL [eV 2, e2 ixD (eV 3) (eC (.int 0)), e2 ixD (eV 3) (eC (.int 1))])),
  sSet 5 (eA (F_q_ask_v2) (eL [eC (.int 0), eV 0, e2 ixD (eV 3) (eC (.int 0)), e2 ixD (eV 3) (eC (.int 1)), eC (.int 0)])),
  sSet 6 (eA (F_q_ask_v2) (eL [eC (.int 1), eV 0, e2 ixD (eV 3) (eC (.int 0)), e2 ixD (eV 3) (eC (.int 1)), e2 ixD (eV 3) (eC (.int 3))])),
  sSet 7 (eLC true [8] (iR1 (eA (on1 lenD) (eL [eV 2]))) (gV 8) (tYes) (eA (F_q_ask_v2) (eL [eC (.int 1), eV 0, e2 ixD (eV 3) (eC (.int 0)), e2 ixD (eV 3) (eC (.int 1)), eV 8]))),
  sIf (tB1 (e1 notNonD (eV 4))) (sB [sFor (iS (e2 (addD true) (eLst true (eL [eV 5, eV 6])) (eV 7))) (gV 9) (sB [sIf (tNot (tV (eA (F_q_is_refusal_v2) (eL [eV 9, eV 4])))) (sB [sRet (eC (.bl false))]) (sB [])]),
    sRet (eC (.bl true))]) (sB []),
  sSet 10 (eA (F_q_firm) (eL [eV 1, eV 2, e2 ixD (eV 3) (eC (.int 0)), e2 ixD (eV 3) (eC (.int 1))])),
  sIf (tOr (tNot (tV (eA (F_q_is_firm) (eL [eV 5, eV 10, eA (on1 lenD) (eL [eV 2])])))) (tNot (tV (eA (F_q_closed) (eL [eV 1, eV 10]))))) (sB [sRet (eC (.bl false))]) (sB []),
  sIf (tNot (tV (eA (F_q_is_refusal_v2) (eL [eV 6, eTup (eL [eC (.str [66, 97, 100, 80, 108, 97, 99, 101]), e2 ixD (eV 3) (eC (.int 3))])])))) (sB [sRet (eC (.bl false))]) (sB []),
  sFor (iR1 (eA (on1 lenD) (eL [eV 2]))) (gV 8) (sB [sIf (tB1 (e2 inD (eV 8) (eV 10))) (sB [sIf (tOr (tNot (tV (e1 (isTy "list") (e2 ixD (eV 7) (eV 8))))) (tB1 (e1 notNonD (e2 ixD (e2 ixD (eV 7) (eV 8)) (eC (.int 0)))))) (sB [sRet (eC (.bl false))]) (sB [])]) (sB [sIf (tNot (tV (eA (F_q_moves) (eL [eV 0, eV 1, eV 2, eV 3, eV 8, e2 ixD (eV 7) (eV 8)])))) (sB [sRet (eC (.bl false))]) (sB [])])]),
  sRet (eA (F_q_stay_firm) (eL [eV 0, eV 1, eV 2, eV 3, eV 10]))]
def F_q_holds_v2 : AF := fnT 4 11 b_q_holds_v2
/- _law_no_field: _law_tape_here, _law_n -/
def b_q_no_field : AS := sB [sRet (e2 ixD (eLst true (eL [e2 subD (eC (.int 0)) (eC (.int 1)), eV 1, e2 (addD true) (eV 1) (eC (.int 1)), e2 subD (eC (.int 0)) (eV 1), e2 subD (e2 subD (eC (.int 0)) (eV 1)) (eC (.int 1)), e2 powD (eC (.int 10)) (eC (.int 20))])) (eA (F_q_take) (eL [eV 0, eC (.int 6)])))]
def F_q_no_field : AF := fnT 2 2 b_q_no_field
/- _law_raised: _law_kind, _law_value_here, _law_by -/
def b_q_raised_v2 : AS := sB [sIf (tB1 (e2 eqD (eV 0) (eC (.str [100, 111, 119, 110])))) (sB [sRet (e2 subD (eV 1) (eV 2))]) (sB []),
  sRet (e2 (addD true) (eV 1) (eV 2))]
def F_q_raised_v2 : AF := fnT 3 3 b_q_raised_v2
/- _law_question: _law_script, _law_turn, _law_kinds_here, _law_n, _law_held, _law_tape_here, _law_bound, _law_steps, _law_field, _law_strange, _law_spoil, _law_letters, _law_k, _law_healed -/
def b_q_question_v2 : AS := sB [sSet 3 (eA (on1 lenD) (eL [eV 2])),
  sSet 4 (eA (F_q_record) (eL [eA (F_q_tape) (eL [eV 0, e2 (addD true) (eC (.int 2)) (e2 (mulD true) (eC (.int 8)) (eV 1))]), eV 3, eC (.int 3)])),
  sSet 5 (eA (F_q_tape) (eL [eV 0, e2 (addD true) (eC (.int 3)) (e2 (mulD true) (eC (.int 8)) (eV 1))])),
  sSet 6 (eA (F_q_record) (eL [eV 5, eV 3, eC (.int 3)])),
  sIf (tB1 (e2 gtD (eA (F_q_take) (eL [eV 5, eC (.int 3)])) (eC (.int 0)))) (sB [sSet 7 (eLC true [8] (iR1 (eV 3)) (gV 8) (tYes) (e2 ixD (eLst true (eL [eC (.int 0), eC (.int 0), eC (.int 0), eC (.int 1), eC (.int 2), eC (.int 3), e2 powD (eC (.int 10)) (eC (.int 30)), e2 subD (eC (.int 0)) (eC (.int 1)), e2 subD (eC (.int 0)) (eC (.int 2)), e2 subD (eC (.int 0)) (e2 powD (eC (.int 10)) (eC (.int 30)))])) (eA (F_q_take) (eL [eV 5, eC (.int 10)])))),
    sSet 6 (eA (on1 tupD) (eL [eLC true [8] (iR1 (eV 3)) (gV 8) (tYes) (eA (F_q_raised_v2) (eL [e2 ixD (eV 2) (eV 8), e2 ixD (eV 4) (eV 8), e2 ixD (eV 7) (eV 8)]))]))]) (sB []),
  sSet 9 (eA (F_q_no_field) (eL [eV 5, eV 3])),
  sSet 10 (eA (F_q_take) (eL [eV 5, eC (.int 16)])),
  sSet 11 (eLst false (eL [])),
  sFor (iR1 (eA (F_q_take) (eL [eV 5, eC (.int 7)]))) (gV 12) (sB [sSet 5 (eA (F_q_tape) (eL [eV 0, e2 (addD true) (e2 (addD true) (eC (.int 4)) (e2 (mulD true) (eC (.int 8)) (eV 1))) (eV 12)])),
    sSet 7 (eLC true [8] (iR1 (eV 3)) (gV 8) (tYes) (e2 ixD (eLst true (eL [eC (.int 0), eC (.int 0), e2 subD (eC (.int 0)) (eC (.int 1)), e2 subD (eC (.int 0)) (eC (.int 2)), e2 subD (eC (.int 0)) (eC (.int 3)), e2 subD (eC (.int 0)) (e2 powD (eC (.int 10)) (eC (.int 30)))])) (eA (F_q_take) (eL [eV 5, eC (.int 6)])))),
    sE (eM isLst (mt1 appendD) (eV 11) (eL [eA (on1 tupD) (eL [eLC true [8] (iR1 (eV 3)) (gV 8) (tYes) (eA (F_q_raised_v2) (eL [e2 ixD (eV 2) (eV 8), e2 ixD (eV 6) (eV 8), e2 ixD (eV 7) (eV 8)]))])]))]),
  sSet 13 (eLst true (eL [eV 4, eV 6, eV 11, eV 9])),
  sIf (tOr (tB1 (e2 eqD (eV 10) (eC (.int 0)))) (tB1 (e2 eqD (eV 10) (eC (.int 2))))) (sB [sSet 4 (e2 (addD true) (eV 4) (eTup (eL [eC (.int 7)])))]) (sB []),
  sIf (tB1 (e2 eqD (eV 10) (eC (.int 1)))) (sB [sSet 4 (eSl true (eV 4) (oS (eC (.int 1))) (oN))]) (sB []),
  sIf (tOr (tB1 (e2 eqD (eV 10) (eC (.int 2)))) (tB1 (e2 eqD (eV 10) (eC (.int 3))))) (sB [sSet 6 (eSl true (eV 6) (oS (eC (.int 1))) (oN))]) (sB []),
  sRet (eLst true (eL [eLst true (eL [eV 4, eV 6, eV 11, eV 9]), eV 13]))]
def F_q_question_v2 : AF := fnT 3 14 b_q_question_v2
/- law: _law_script, _law_tape_here, _law_n, _law_parents_here, _law_fair, _law_kinds_here, _law_level_here, _law_ranks, _law_forests, _law_turns_here, _law_at, _law_asked, _law_k, _law_pick -/
def b_law_k59 : AS := sB [sSet 1 (eA (F_q_tape) (eL [eV 0, eC (.int 0)])),
  sSet 2 (eA (F_q_size) (eL [eV 1])),
  sSet 3 (eA (F_q_parents) (eL [eV 1, eV 2])),
  sSet 1 (eA (F_q_tape) (eL [eV 0, eC (.int 1)])),
  sSet 4 (e2 gtD (eA (F_q_take) (eL [eV 1, eC (.int 6)])) (eC (.int 0))),
  sSet 5 (eA (F_q_kinds) (eL [eV 1, eV 3, eV 4])),
  sSet 6 (eA (F_q_level) (eL [eV 5])),
  sSet 7 (eLst true (eL [eV 5, eV 6])),
  sSet 8 (eLst true (eL [eA (mkI "Forest" true (F_Forest_init)) (eL [eA (on1 (listD true)) (eL [eV 3]), eA (on1 (listD true)) (eL [eV 5])]), eA (mkI "Forest" true (F_Forest_init)) (eL [eA (on1 (listD true)) (eL [eV 3]), eA (on1 (listD true)) (eL [eV 6])])])),
  sSet 9 (eLst true (eL [eC (.int 0), eC (.int 1), eC (.int 0)])),
  sFor (iR1 (eA (on1 lenD) (eL [eV 9]))) (gV 10) (sB [sSet 11 (eA (F_q_question_v2) (eL [eV 0, e2 ixD (eV 9) (eV 10), eV 6])),
    sFor (iR1 (eC (.int 2))) (gV 12) (sB [sSet 13 (e2 modD (eA (on1 intD) (eL [e2 (addD true) (eV 12) (eV 10)])) (eC (.int 2))),
      sIf (tNot (tV (eA (F_q_holds_v2) (eL [e2 ixD (eV 8) (eV 13), eV 3, e2 ixD (eV 7) (eV 13), e2 ixD (eV 11) (eV 12)])))) (sB [sRet (eC (.bl false))]) (sB [])])]),
  sRet (eAnd (eA (F_q_stays) (eL [e2 ixD (eV 8) (eC (.int 0)), eV 3, eV 5])) (eA (F_q_stays) (eL [e2 ixD (eV 8) (eC (.int 1)), eV 3, eV 6])))]
def F_law_k59 : AF := fnT 1 14 b_law_k59
end Sm
end

section
set_option linter.all false
/-! k64: plain computations (printed by gen2.py) -/
namespace Sm
/- PlainBook.__init__: self, forest, hangs, hang -/
def b_PlainBook_init : AS := sB [sE (eA (F_check_fair) (eL [eV 1])),
  sFor (iS (eV 2)) (gV 3) (sB [sIf (tB1 (e1 notNonD (eV 3))) (sB [sE (eA (F_check_place) (eL [e1 (fldD ["Forest"] "fields") (eV 1), eV 3]))]) (sB [])]),
  sFldS (setFldD ["PlainBook"] "forest") (eV 0) (eV 1),
  sFldS (setFldD ["PlainBook"] "hangs") (eV 0) (eA (on1 tupD) (eL [eV 2]))]
def F_PlainBook_init : AF := fnT 3 4 b_PlainBook_init
/- check_plain: fields, plain, record -/
def b_check_plain : AS := sB [sIf (tOr (tB1 (e2 neD (eA (on1 lenD) (eL [e2 ixD (eV 2) (eC (.int 0))])) (eV 0))) (tB1 (e2 neD (eA (on1 lenD) (eL [e2 ixD (eV 2) (eC (.int 1))])) (eV 1)))) (sB [sRaise "BadRecord" ["record"] (eL [eV 2])]) (sB [])]
def F_check_plain : AF := fnT 3 3 b_check_plain
/- check_plain_records: fields, plain, records, record -/
def b_check_plain_records : AS := sB [sIf (tB1 (e2 eqD (eA (on1 lenD) (eL [eV 2])) (eC (.int 0)))) (sB [sRaise0 "NoRecord"]) (sB []),
  sFor (iS (eV 2)) (gV 3) (sB [sE (eA (F_check_plain) (eL [eV 0, eV 1, eV 3]))])]
def F_check_plain_records : AF := fnT 3 4 b_check_plain_records
/- plain_value: forest, hang, one, two, which, field -/
def b_plain_value : AS := sB [sIf (tB1 (e2 eqD (e2 ixD (e2 ixD (eV 2) (eC (.int 1))) (eV 4)) (e2 ixD (e2 ixD (eV 3) (eC (.int 1))) (eV 4)))) (sB [sRet (e2 ixD (e2 ixD (eV 2) (eC (.int 1))) (eV 4))]) (sB []),
  sIf (tB1 (e1 isNonD (eV 1))) (sB [sRet (eC (.int 0))]) (sB []),
  sSet 5 (eA (F_first_unlike_on) (eL [eA (F_path_of) (eL [e1 (fldD ["Forest"] "parents") (eV 0), eV 1]), e2 ixD (eV 2) (eC (.int 0)), e2 ixD (eV 3) (eC (.int 0))])),
  sIf (tB1 (e1 isNonD (eV 5))) (sB [sRet (eC (.int 0))]) (sB []),
  sIf (tV (eA (F_better) (eL [e2 ixD (e1 (fldD ["Forest"] "kinds") (eV 0)) (eV 5), e2 ixD (e2 ixD (eV 2) (eC (.int 0))) (eV 5), e2 ixD (e2 ixD (eV 3) (eC (.int 0))) (eV 5)]))) (sB [sRet (e2 ixD (e2 ixD (eV 2) (eC (.int 1))) (eV 4))]) (sB []),
  sRet (e2 ixD (e2 ixD (eV 3) (eC (.int 1))) (eV 4))]
def F_plain_value : AF := fnT 5 6 b_plain_value
/- merged_plain: forest, hangs, older, newer, ranked, plain, which -/
def b_merged_plain : AS := sB [sSet 4 (eA (F_merged_record) (eL [e1 (fldD ["Forest"] "parents") (eV 0), e1 (fldD ["Forest"] "kinds") (eV 0), e2 ixD (eV 2) (eC (.int 0)), e2 ixD (eV 3) (eC (.int 0))])),
  sSet 5 (eLC true [6] (iR1 (eA (on1 lenD) (eL [eV 1]))) (gV 6) (tYes) (eA (F_plain_value) (eL [eV 0, e2 ixD (eV 1) (eV 6), eV 2, eV 3, eV 6]))),
  sRet (eTup (eL [eV 4, eA (on1 tupD) (eL [eV 5])]))]
def F_merged_plain : AF := fnT 4 7 b_merged_plain
/- PlainBook.end: self, records, result, record -/
def b_PlainBook_end : AS := sB [sE (eA (F_check_plain_records) (eL [e1 (fldD ["Forest"] "fields") (e1 (fldD ["PlainBook"] "forest") (eV 0)), eA (on1 lenD) (eL [e1 (fldD ["PlainBook"] "hangs") (eV 0)]), eV 1])),
  sSet 2 (e2 ixD (eV 1) (eC (.int 0))),
  sFor (iS (eSl true (eV 1) (oS (eC (.int 1))) (oN))) (gV 3) (sB [sSet 2 (eA (F_merged_plain) (eL [e1 (fldD ["PlainBook"] "forest") (eV 0), e1 (fldD ["PlainBook"] "hangs") (eV 0), eV 2, eV 3]))]),
  sRet (eV 2)]
def F_PlainBook_end : AF := fnT 2 4 b_PlainBook_end
/- _law_count: _law_tape_here -/
def b_q_count_v2 : AS := sB [sIf (tB1 (e2 eqD (eA (F_q_take) (eL [eV 0, eC (.int 8)])) (eC (.int 0)))) (sB [sRet (e2 (addD true) (eC (.int 9)) (eA (F_q_take) (eL [eV 0, eC (.int 12)])))]) (sB []),
  sRet (e2 (addD true) (eC (.int 1)) (eA (F_q_take) (eL [eV 0, eC (.int 8)])))]
def F_q_count_v2 : AF := fnT 1 1 b_q_count_v2
/- _law_bearers_value: _law_parents_here, _law_records, _law_end, _law_hang, _law_which, _law_path_here, _law_values, _law_record_here, _law_place, _law_value_here -/
def b_q_bearers_value : AS := sB [sSet 5 (eLst true (eL [])),
  sIf (tB1 (e1 notNonD (eV 3))) (sB [sSet 5 (eA (F_q_path) (eL [eV 0, eV 3]))]) (sB []),
  sSet 6 (eLst false (eL [])),
  sFor (iS (eV 1)) (gV 7) (sB [sIf (tB1 (e2 eqD (eLC true [8] (iS (eV 5)) (gV 8) (tYes) (e2 ixD (e2 ixD (eV 7) (eC (.int 0))) (eV 8))) (eLC true [8] (iS (eV 5)) (gV 8) (tYes) (e2 ixD (eV 2) (eV 8))))) (sB [sE (eM isLst (mt1 appendD) (eV 6) (eL [e2 ixD (e2 ixD (eV 7) (eC (.int 1))) (eV 4)]))]) (sB [])]),
  sFor (iS (eV 6)) (gV 9) (sB [sIf (tB1 (e2 neD (eV 9) (e2 ixD (eV 6) (eC (.int 0))))) (sB [sRet (eC (.int 0))]) (sB [])]),
  sRet (e2 ixD (eV 6) (eC (.int 0)))]
def F_q_bearers_value : AF := fnT 5 10 b_q_bearers_value
/- _law_fold: _law_parents_here, _law_kinds_here, _law_records, _law_end, _law_record_here -/
def b_q_fold_v2 : AS := sB [sSet 3 (e2 ixD (eV 2) (eC (.int 0))),
  sFor (iS (eSl true (eV 2) (oS (eC (.int 1))) (oN))) (gV 4) (sB [sSet 3 (eA (F_q_merge_v2) (eL [eV 0, eV 1, eV 3, eV 4]))]),
  sRet (eV 3)]
def F_q_fold_v2 : AF := fnT 3 5 b_q_fold_v2
/- _law_due_end: _law_parents_here, _law_kinds_here, _law_hangs_here, _law_records, _law_end, _law_record_here, _law_plain, _law_which -/
def b_q_due_end : AS := sB [sSet 4 (eA (F_q_fold_v2) (eL [eV 0, eV 1, eLC true [5] (iS (eV 3)) (gV 5) (tYes) (e2 ixD (eV 5) (eC (.int 0)))])),
  sSet 6 (eLst false (eL [])),
  sFor (iR1 (eA (on1 lenD) (eL [eV 2]))) (gV 7) (sB [sE (eM isLst (mt1 appendD) (eV 6) (eL [eA (F_q_bearers_value) (eL [eV 0, eV 3, eV 4, e2 ixD (eV 2) (eV 7), eV 7])]))]),
  sRet (eTup (eL [eV 4, eA (on1 tupD) (eL [eV 6])]))]
def F_q_due_end : AF := fnT 4 8 b_q_due_end
/- _law_hangs: _law_tape_here, _law_n, _law_m, _law_hangs_here, _law_k, _law_pick -/
def b_q_hangs : AS := sB [sSet 3 (eLst false (eL [])),
  sFor (iR1 (eV 2)) (gV 4) (sB [sSet 5 (eA (F_q_take) (eL [eV 0, e2 (addD true) (eV 1) (eC (.int 1))])),
    sE (eM isLst (mt1 appendD) (eV 3) (eL [e2 ixD (eLst true (eL [eC .non, e2 subD (eV 5) (eC (.int 1))])) (eA (on1 intD) (eL [e2 gtD (eV 5) (eC (.int 0))]))]))]),
  sRet (eV 3)]
def F_q_hangs : AF := fnT 3 6 b_q_hangs
/- _law_turns: _law_tape_here, _law_n, _law_left, _law_turns_here, _law_k -/
def b_q_turns_v2 : AS := sB [sSet 2 (eLR false false (eC (.int 0)) (eV 1)),
  sSet 3 (eLst false (eL [])),
  sFor (iR1 (eV 1)) (gV 4) (sB [sE (eM isLst (mt1 appendD) (eV 3) (eL [eM isLst (mt1 popAtD) (eV 2) (eL [eA (F_q_take) (eL [eV 0, eA (on1 lenD) (eL [eV 2])])])]))]),
  sRet (eV 3)]
def F_q_turns_v2 : AF := fnK 2 5 b_q_turns_v2
/- _law_parents: _law_tape_here, _law_n, _law_turns_here, _law_bend, _law_parents_here, _law_k, _law_pick -/
def b_q_parents_v2 : AS := sB [sSet 2 (eA (F_q_turns_v2) (eL [eV 0, eV 1])),
  sSet 3 (eA (F_q_take) (eL [eV 0, eC (.int 4)])),
  sSet 4 (eLC false [5] (iR1 (eV 1)) (gV 5) (tYes) (eC .non)),
  sFor (iR2 (eC (.int 1)) (eV 1)) (gV 5) (sB [sSet 6 (eA (F_q_take) (eL [eV 0, e2 (addD true) (eV 5) (eC (.int 1))])),
    sIf (tB1 (e2 eqD (eV 3) (eC (.int 0)))) (sB [sSet 6 (eV 5)]) (sB []),
    sIf (tB1 (e2 eqD (eV 3) (eC (.int 1)))) (sB [sSet 6 (eC (.int 0))]) (sB []),
    sIf (tB1 (e2 gtD (eV 6) (eC (.int 0)))) (sB [sSub setIxD (eV 4) (e2 ixD (eV 2) (eV 5)) (e2 ixD (eV 2) (e2 subD (eV 6) (eC (.int 1))))]) (sB [])]),
  sRet (eV 4)]
def F_q_parents_v2 : AF := fnT 2 7 b_q_parents_v2
/- _law_plain_record: _law_tape_here, _law_n, _law_m, _law_ranked, _law_plain, _law_k, _law_pick -/
def b_q_plain_record : AS := sB [sSet 3 (eA (F_q_record) (eL [eV 0, eV 1, eC (.int 3)])),
  sSet 4 (eLst false (eL [])),
  sFor (iR1 (eV 2)) (gV 5) (sB [sSet 6 (eA (F_q_take) (eL [eV 0, eC (.int 9)])),
    sE (eM isLst (mt1 appendD) (eV 4) (eL [e2 ixD (eLst true (eL [eC (.int 1), eC (.int 1), eC (.int 1), eC (.int 2), eC (.int 2), eC (.int 3), eC (.int 0), e2 (addD true) (e2 powD (eC (.int 10)) (eC (.int 30))) (eC (.int 1)), e2 (addD true) (e2 powD (eC (.int 10)) (eC (.int 30))) (eC (.int 2))])) (eV 6)]))]),
  sRet (eTup (eL [eV 3, eA (on1 tupD) (eL [eV 4])]))]
def F_q_plain_record : AF := fnT 3 7 b_q_plain_record
/- _law_plains: _law_tape_here -/
def b_q_plains : AS := sB [sIf (tB1 (e2 eqD (eA (F_q_take) (eL [eV 0, eC (.int 8)])) (eC (.int 0)))) (sB [sRet (e2 (addD true) (eC (.int 5)) (eA (F_q_take) (eL [eV 0, eC (.int 2)])))]) (sB []),
  sRet (eA (F_q_take) (eL [eV 0, eC (.int 5)]))]
def F_q_plains : AF := fnT 1 1 b_q_plains
/- _law_same: _law_actual, _law_due, _law_k -/
def b_q_same_v4 (F : AF) : AS := sB [sIf (tB1 (e1 isNonD (eV 1))) (sB [sRet (e1 isNonD (eV 0))]) (sB []),
  sIf (tV (e1 (isTy "str") (eV 1))) (sB [sRet (eAnd (e1 (isTy "str") (eV 0)) (e2 eqD (eV 0) (eV 1)))]) (sB []),
  sIf (tV (e1 (isTy "int") (eV 1))) (sB [sRet (eAnd (eA (F_q_is_integer) (eL [eV 0])) (e2 eqD (eV 0) (eV 1)))]) (sB []),
  sIf (tV (e1 (isTy "tuple") (eV 1))) (sB [sIf (tOr (tNot (tV (e1 (isTy "tuple") (eV 0)))) (tB1 (e2 neD (eA (on1 lenD) (eL [eV 0])) (eA (on1 lenD) (eL [eV 1]))))) (sB [sRet (eC (.bl false))]) (sB [])]) (sB [sIf (tOr (tNot (tV (e1 (isTy "list") (eV 0)))) (tB1 (e2 neD (eA (on1 lenD) (eL [eV 0])) (eA (on1 lenD) (eL [eV 1]))))) (sB [sRet (eC (.bl false))]) (sB [])]),
  sFor (iR1 (eA (on1 lenD) (eL [eV 1]))) (gV 2) (sB [sIf (tNot (tV (eA (F) (eL [e2 ixD (eV 0) (eV 2), e2 ixD (eV 1) (eV 2)])))) (sB [sRet (eC (.bl false))]) (sB [])]),
  sRet (eC (.bl true))]
def F_q_same_v4 : Nat → AF
  | 0 => fun _ _ => .no
  | n + 1 => fnT 2 3 (b_q_same_v4 (F_q_same_v4 n))
/- _law_sequence: _law_tape_here, _law_records, _law_turns_here, _law_k, _law_place, _law_turn -/
def b_q_sequence : AS := sB [sSet 2 (eA (F_q_turns_v2) (eL [eV 0, eA (on1 lenD) (eL [eV 1])])),
  sFor (iR1 (eA (F_q_take) (eL [eV 0, e2 (addD true) (eA (on1 lenD) (eL [eV 1])) (eC (.int 1))]))) (gV 3) (sB [sSet 4 (eA (F_q_take) (eL [eV 0, e2 (addD true) (eA (on1 lenD) (eL [eV 2])) (eC (.int 1))])),
    sE (eM isLst (mt2 insertD) (eV 2) (eL [eV 4, eA (F_q_take) (eL [eV 0, eA (on1 lenD) (eL [eV 1])])]))]),
  sRet (eLC true [5] (iS (eV 2)) (gV 5) (tYes) (e2 ixD (eV 1) (eV 5)))]
def F_q_sequence : AF := fnT 2 6 b_q_sequence
/- _law_size: _law_tape_here -/
def b_q_size_v2 : AS := sB [sIf (tB1 (e2 eqD (eA (F_q_take) (eL [eV 0, eC (.int 8)])) (eC (.int 0)))) (sB [sRet (e2 (addD true) (eC (.int 6)) (eA (F_q_take) (eL [eV 0, eC (.int 3)])))]) (sB []),
  sRet (e2 (addD true) (eC (.int 1)) (eA (F_q_take) (eL [eV 0, eC (.int 5)])))]
def F_q_size_v2 : AF := fnT 1 1 b_q_size_v2
/- PlainBook.__call__: self, older, newer -/
def b_PlainBook_call : AS := sB [sE (eA (F_check_plain_records) (eL [e1 (fldD ["Forest"] "fields") (e1 (fldD ["PlainBook"] "forest") (eV 0)), eA (on1 lenD) (eL [e1 (fldD ["PlainBook"] "hangs") (eV 0)]), eTup (eL [eV 1, eV 2])])),
  sRet (eA (F_merged_plain) (eL [e1 (fldD ["PlainBook"] "forest") (eV 0), e1 (fldD ["PlainBook"] "hangs") (eV 0), eV 1, eV 2]))]
def F_PlainBook_call : AF := fnT 3 3 b_PlainBook_call
/- _law_plain_value: _law_parents_here, _law_kinds_here, _law_hang, _law_older, _law_newer, _law_which, _law_place, _law_pair -/
def b_q_plain_value : AS := sB [sIf (tB1 (e2 eqD (e2 ixD (e2 ixD (eV 3) (eC (.int 1))) (eV 5)) (e2 ixD (e2 ixD (eV 4) (eC (.int 1))) (eV 5)))) (sB [sRet (e2 ixD (e2 ixD (eV 3) (eC (.int 1))) (eV 5))]) (sB []),
  sIf (tB1 (e1 isNonD (eV 2))) (sB [sRet (eC (.int 0))]) (sB []),
  sFor (iS (eA (F_q_path) (eL [eV 0, eV 2]))) (gV 6) (sB [sIf (tB1 (e2 neD (e2 ixD (e2 ixD (eV 3) (eC (.int 0))) (eV 6)) (e2 ixD (e2 ixD (eV 4) (eC (.int 0))) (eV 6)))) (sB [sSet 7 (eLst true (eL [eV 3, eV 4])),
      sRet (e2 ixD (e2 ixD (e2 ixD (eV 7) (eA (F_q_side) (eL [eV 0, eV 1, eV 2, e2 ixD (eV 3) (eC (.int 0)), e2 ixD (eV 4) (eC (.int 0))]))) (eC (.int 1))) (eV 5))]) (sB [])]),
  sRet (eC (.int 0))]
def F_q_plain_value : AF := fnT 6 8 b_q_plain_value
/- _law_plain_merge: _law_parents_here, _law_kinds_here, _law_hangs_here, _law_older, _law_newer, _law_plain, _law_which -/
def b_q_plain_merge : AS := sB [sSet 5 (eLst false (eL [])),
  sFor (iR1 (eA (on1 lenD) (eL [eV 2]))) (gV 6) (sB [sE (eM isLst (mt1 appendD) (eV 5) (eL [eA (F_q_plain_value) (eL [eV 0, eV 1, e2 ixD (eV 2) (eV 6), eV 3, eV 4, eV 6])]))]),
  sRet (eTup (eL [eA (F_q_merge_v2) (eL [eV 0, eV 1, e2 ixD (eV 3) (eC (.int 0)), e2 ixD (eV 4) (eC (.int 0))]), eA (on1 tupD) (eL [eV 5])]))]
def F_q_plain_merge : AF := fnT 5 7 b_q_plain_merge
/- _law_way_right: _law_tape_here, _law_book, _law_parents_here, _law_kinds_here, _law_hangs_here, _law_records, _law_due, _law_row, _law_k, _law_place, _law_merged -/
def b_q_way_right : AS := sB [sSet 7 (eA (on1 (listD false)) (eL [eV 5])),
  sFor (iR1 (e2 subD (eA (on1 lenD) (eL [eV 5])) (eC (.int 1)))) (gV 8) (sB [sSet 9 (eA (F_q_take) (eL [eV 0, e2 subD (eA (on1 lenD) (eL [eV 7])) (eC (.int 1))])),
    sSet 10 (eA (F_q_plain_merge) (eL [eV 2, eV 3, eV 4, e2 ixD (eV 7) (eV 9), e2 ixD (eV 7) (e2 (addD true) (eV 9) (eC (.int 1)))])),
    sIf (tNot (tV (eA (F_q_same_v4 12) (eL [eCal [("PlainBook", F_PlainBook_call), ("Forest", F_Forest_call)] (eV 1) (eL [e2 ixD (eV 7) (eV 9), e2 ixD (eV 7) (e2 (addD true) (eV 9) (eC (.int 1)))]), eV 10])))) (sB [sRet (eC (.bl false))]) (sB []),
    sSub setIxD (eV 7) (eV 9) (eV 10),
    sE (eM isLst (mt1 popAtD) (eV 7) (eL [e2 (addD true) (eV 9) (eC (.int 1))]))]),
  sRet (eA (F_q_same_v4 12) (eL [e2 ixD (eV 7) (eC (.int 0)), eV 6]))]
def F_q_way_right : AF := fnT 7 11 b_q_way_right
/- law: _law_script, _law_tape_here, _law_n, _law_m, _law_count_here, _law_again, _law_parents_here, _law_kinds_here, _law_hangs_here, _law_forest, _law_book, _law_turned, _law_k, _law_other, _law_records, _law_shuffled, _law_due, _law_given, _law_passed, _law_grown, _law_record_here -/
def b_law_k64 : AS := sB [sSet 1 (eA (F_q_tape) (eL [eV 0, eC (.int 0)])),
  sSet 2 (eA (F_q_size_v2) (eL [eV 1])),
  sSet 3 (eA (F_q_plains) (eL [eV 1])),
  sSet 4 (eA (F_q_count_v2) (eL [eV 1])),
  sSet 5 (e2 eqD (eA (F_q_take) (eL [eV 1, eC (.int 3)])) (eC (.int 0))),
  sSet 6 (eA (F_q_parents_v2) (eL [eV 1, eV 2])),
  sSet 1 (eA (F_q_tape) (eL [eV 0, eC (.int 1)])),
  sSet 7 (eA (F_q_kinds) (eL [eV 1, eV 6, eC (.bl true)])),
  sSet 8 (eA (F_q_hangs) (eL [eV 1, eV 2, eV 3])),
  sSet 9 (eA (mkI "Forest" true (F_Forest_init)) (eL [eA (on1 (listD true)) (eL [eV 6]), eA (on1 (listD true)) (eL [eV 7])])),
  sSet 10 (eA (mkI "PlainBook" true (F_PlainBook_init)) (eL [eV 9, eA (on1 (listD true)) (eL [eV 8])])),
  sSet 11 (eLC true [12] (iR1 (eV 3)) (gV 12) (tYes) (e2 ixD (eV 8) (e2 subD (e2 subD (eV 3) (eC (.int 1))) (eV 12)))),
  sSet 13 (eA (mkI "PlainBook" true (F_PlainBook_init)) (eL [eV 9, eA (on1 (listD true)) (eL [eV 11])])),
  sSet 14 (eLC false [12] (iR1 (eV 4)) (gV 12) (tYes) (eA (F_q_plain_record) (eL [eA (F_q_tape) (eL [eV 0, e2 (addD true) (eC (.int 3)) (eV 12)]), eV 2, eV 3]))),
  sIf (tAnd (tB1 (e2 gtD (eV 4) (eC (.int 1)))) (tV (eV 5))) (sB [sSub setIxD (eV 14) (e2 subD (eV 4) (eC (.int 1))) (e2 ixD (eV 14) (eC (.int 0)))]) (sB []),
  sSet 1 (eA (F_q_tape) (eL [eV 0, eC (.int 2)])),
  sSet 15 (eA (F_q_sequence) (eL [eV 1, eV 14])),
  sSet 16 (eA (F_q_due_end) (eL [eV 6, eV 7, eV 8, eV 14])),
  sFor (iS (eLst true (eL [eV 14, eV 15, eV 14]))) (gV 17) (sB [sSet 18 (eA (on1 (listD false)) (eL [eV 17])),
    sIf (tOr (tNot (tV (eA (F_q_same_v4 12) (eL [eMth [("PlainBook", F_PlainBook_end)] "end" (eV 10) (eL [eV 18]), eV 16])))) (tB1 (e2 neD (eV 18) (eV 17)))) (sB [sRet (eC (.bl false))]) (sB []),
    sE (eM isLst (mt1 appendD) (eV 18) (eL [e2 ixD (eV 14) (eC (.int 0))])),
    sIf (tNot (tV (eA (F_q_same_v4 12) (eL [eMth [("PlainBook", F_PlainBook_end)] "end" (eV 13) (eL [eA (on1 (listD true)) (eL [eV 17])]), eA (F_q_due_end) (eL [eV 6, eV 7, eV 11, eV 14])])))) (sB [sRet (eC (.bl false))]) (sB []),
    sIf (tNot (tV (eA (F_q_same_v4 12) (eL [eMth [("PlainBook", F_PlainBook_end)] "end" (eV 10) (eL [eLst true (eL [e2 ixD (eV 14) (eC (.int 0))])]), e2 ixD (eV 14) (eC (.int 0))])))) (sB [sRet (eC (.bl false))]) (sB [])]),
  sSet 19 (eLst false (eL [e2 ixD (eV 14) (eC (.int 0))])),
  sIf (tNot (tV (eA (F_q_same_v4 12) (eL [eMth [("PlainBook", F_PlainBook_end)] "end" (eV 10) (eL [eV 19]), e2 ixD (eV 14) (eC (.int 0))])))) (sB [sRet (eC (.bl false))]) (sB []),
  sFor (iS (eSl true (eV 14) (oS (eC (.int 1))) (oN))) (gV 20) (sB [sE (eM isLst (mt1 appendD) (eV 19) (eL [eV 20]))]),
  sIf (tNot (tV (eA (F_q_same_v4 12) (eL [eMth [("PlainBook", F_PlainBook_end)] "end" (eV 10) (eL [eV 19]), eV 16])))) (sB [sRet (eC (.bl false))]) (sB []),
  sIf (tNot (tV (eA (F_q_way_right) (eL [eV 1, eV 10, eV 6, eV 7, eV 8, eV 15, eV 16])))) (sB [sRet (eC (.bl false))]) (sB []),
  sRet (eA (F_q_way_right) (eL [eV 1, eV 10, eV 6, eV 7, eV 8, eV 14, eV 16]))]
def F_law_k64 : AF := fnT 1 21 b_law_k64
end Sm
end

section
set_option linter.all false
/-! k29: plain computations (printed by gen2.py) -/
namespace Sm
/- follow: tree, row -/
def b_follow : AS := sB [sWhile (tNot (tV (e1 (isTy "str") (eV 0)))) (sB [sSet 0 (e2 ixD (eV 0) (e2 (addD true) (eC (.int 2)) (e2 ixD (eV 1) (e2 ixD (eV 0) (eC (.int 0))))))]),
  sRet (eV 0)]
def F_follow : AF := fnT 2 2 b_follow
/- Book.side: self, field, row -/
def b_Book_side : AS := sB [sIf (tB1 (e2 eqD (e2 ixD (eV 2) (eV 1)) (eC (.int 0)))) (sB [sRet (eC (.str [115, 97, 109, 101]))]) (sB []),
  sRet (eA (F_follow) (eL [e2 ixD (e1 (fldD ["Book"] "trees") (eV 0)) (eV 1), eV 2]))]
def F_Book_side : AF := fnT 3 3 b_Book_side
/- sign: older, newer -/
def b_sign : AS := sB [sIf (tB1 (e2 ltD (eV 0) (eV 1))) (sB [sRet (e1 negD (eC (.int 1)))]) (sB []),
  sIf (tB1 (e2 gtD (eV 0) (eV 1))) (sB [sRet (eC (.int 1))]) (sB []),
  sRet (eC (.int 0))]
def F_sign : AF := fnT 2 2 b_sign
/- signs: older, newer, field -/
def b_signs : AS := sB [sIf (tB1 (e2 neD (eA (on1 lenD) (eL [eV 0])) (eA (on1 lenD) (eL [eV 1])))) (sB [sRaise "BadRecord" ["record"] (eL [eV 1])]) (sB []),
  sRet (eA (on1 tupD) (eL [eLC true [2] (iR1 (eA (on1 lenD) (eL [eV 0]))) (gV 2) (tYes) (eA (F_sign) (eL [e2 ixD (eV 0) (eV 2), e2 ixD (eV 1) (eV 2)]))]))]
def F_signs : AF := fnT 2 3 b_signs
/- Book.__call__: self, older, newer, row, merged, field -/
def b_Book_call : AS := sB [sE (eA (F_check_record) (eL [e1 (fldD ["Book"] "fields") (eV 0), eV 1])),
  sE (eA (F_check_record) (eL [e1 (fldD ["Book"] "fields") (eV 0), eV 2])),
  sSet 3 (eA (F_signs) (eL [eV 1, eV 2])),
  sSet 4 (eLst false (eL [])),
  sFor (iR1 (e1 (fldD ["Book"] "fields") (eV 0))) (gV 5) (sB [sIf (tB1 (e2 eqD (eMth [("Book", F_Book_side)] "side" (eV 0) (eL [eV 5, eV 3])) (eC (.str [110, 101, 119, 101, 114])))) (sB [sE (eM isLst (mt1 appendD) (eV 4) (eL [e2 ixD (eV 2) (eV 5)]))]) (sB [sE (eM isLst (mt1 appendD) (eV 4) (eL [e2 ixD (eV 1) (eV 5)]))])]),
  sRet (eA (on1 tupD) (eL [eV 4]))]
def F_Book_call : AF := fnT 3 6 b_Book_call
/- _law_is: _law_actual, _law_due -/
def b_q_is : AS := sB [sRet (eAnd (eA (F_q_is_record) (eL [eV 0, eA (on1 lenD) (eL [eV 1])])) (e2 eqD (eV 0) (eV 1)))]
def F_q_is : AF := fnT 2 2 b_q_is
/- _law_rows: _law_n, _law_rows_here, _law_k, _law_longer, _law_row, _law_s -/
def b_q_rows : AS := sB [sSet 1 (eLst true (eL [eTup (eL [])])),
  sFor (iR1 (eV 0)) (gV 2) (sB [sSet 3 (eLst false (eL [])),
    sFor (iS (eV 1)) (gV 4) (sB [sFor (iS (eLst true (eL [eC (.int 0), eC (.int 1), eC (.int 2)]))) (gV 5) (sB [sE (eM isLst (mt1 appendD) (eV 3) (eL [e2 (addD true) (eV 4) (eTup (eL [e2 subD (eV 5) (eC (.int 1))]))]))])]),
    sSet 1 (eA (on1 (listD true)) (eL [eV 3]))]),
  sRet (eV 1)]
def F_q_rows : AF := fnT 1 6 b_q_rows
/- _law_three: _law_forest, _law_book, _law_parents_here, _law_kinds_here, _law_records, _law_x, _law_y, _law_z, _law_due -/
def b_q_three : AS := sB [sSet 5 (e2 ixD (eV 4) (eC (.int 0))),
  sSet 6 (e2 ixD (eV 4) (eC (.int 1))),
  sSet 7 (e2 ixD (eV 4) (eC (.int 2))),
  sSet 8 (eA (F_q_fold_v2) (eL [eV 2, eV 3, eLst true (eL [eV 5, eV 6, eV 7])])),
  sIf (tOr (tNot (tV (eA (F_q_is) (eL [eCal [("Forest", F_Forest_call)] (eV 0) (eL [eCal [("Forest", F_Forest_call)] (eV 0) (eL [eV 5, eV 6]), eV 7]), eV 8])))) (tNot (tV (eA (F_q_is) (eL [eCal [("Forest", F_Forest_call)] (eV 0) (eL [eV 5, eCal [("Forest", F_Forest_call)] (eV 0) (eL [eV 6, eV 7])]), eV 8]))))) (sB [sRet (eC (.bl false))]) (sB []),
  sIf (tOr (tNot (tV (eA (F_q_is) (eL [eCal [("Book", F_Book_call)] (eV 1) (eL [eCal [("Book", F_Book_call)] (eV 1) (eL [eV 5, eV 6]), eV 7]), eV 8])))) (tNot (tV (eA (F_q_is) (eL [eCal [("Book", F_Book_call)] (eV 1) (eL [eV 5, eCal [("Book", F_Book_call)] (eV 1) (eL [eV 6, eV 7])]), eV 8]))))) (sB [sRet (eC (.bl false))]) (sB []),
  sRet (eAnd (eA (F_q_is) (eL [eCal [("Book", F_Book_call)] (eV 1) (eL [eCal [("Forest", F_Forest_call)] (eV 0) (eL [eV 5, eV 6]), eV 7]), eV 8])) (eA (F_q_is) (eL [eCal [("Forest", F_Forest_call)] (eV 0) (eL [eV 5, eCal [("Book", F_Book_call)] (eV 1) (eL [eV 6, eV 7])]), eV 8])))]
def F_q_three : AF := fnT 5 9 b_q_three
/- _law_same_tree: _law_actual, _law_expected, _law_k -/
def b_q_same_tree (F : AF) : AS := sB [sIf (tV (e1 (isTy "str") (eV 1))) (sB [sRet (eAnd (e1 (isTy "str") (eV 0)) (e2 eqD (eV 0) (eV 1)))]) (sB []),
  sIf (tOr (tNot (tV (e1 (isTy "tuple") (eV 0)))) (tB1 (e2 neD (eA (on1 lenD) (eL [eV 0])) (eC (.int 4))))) (sB [sRet (eC (.bl false))]) (sB []),
  sIf (tOr (tNot (tV (eA (F_q_is_integer) (eL [e2 ixD (eV 0) (eC (.int 0))])))) (tB1 (e2 neD (e2 ixD (eV 0) (eC (.int 0))) (e2 ixD (eV 1) (eC (.int 0)))))) (sB [sRet (eC (.bl false))]) (sB []),
  sFor (iS (eLst true (eL [eC (.int 1), eC (.int 2), eC (.int 3)]))) (gV 2) (sB [sIf (tNot (tV (eA (F) (eL [e2 ixD (eV 0) (eV 2), e2 ixD (eV 1) (eV 2)])))) (sB [sRet (eC (.bl false))]) (sB [])]),
  sRet (eC (.bl true))]
def F_q_same_tree : Nat → AF
  | 0 => fun _ _ => .no
  | n + 1 => fnT 2 3 (b_q_same_tree (F_q_same_tree n))
/- _law_word_tree: _law_word_here, _law_tree, _law_k, _law_step -/
def b_q_word_tree : AS := sB [sSet 1 (eC (.str [111, 108, 100, 101, 114])),
  sIf (tB1 (e2 eqD (e2 ixD (e2 ixD (eV 0) (e2 subD (eA (on1 lenD) (eL [eV 0])) (eC (.int 1)))) (eC (.int 1))) (eC (.str [108, 97, 115, 116])))) (sB [sSet 1 (eC (.str [110, 101, 119, 101, 114]))]) (sB []),
  sFor (iR1 (eA (on1 lenD) (eL [eV 0]))) (gV 2) (sB [sSet 3 (e2 ixD (eV 0) (e2 subD (e2 subD (eA (on1 lenD) (eL [eV 0])) (eC (.int 1))) (eV 2))),
    sIf (tB1 (e2 eqD (e2 ixD (eV 3) (eC (.int 1))) (eC (.str [117, 112])))) (sB [sSet 1 (eTup (eL [e2 ixD (eV 3) (eC (.int 0)), eC (.str [110, 101, 119, 101, 114]), eV 1, eC (.str [111, 108, 100, 101, 114])]))]) (sB []),
    sIf (tB1 (e2 eqD (e2 ixD (eV 3) (eC (.int 1))) (eC (.str [100, 111, 119, 110])))) (sB [sSet 1 (eTup (eL [e2 ixD (eV 3) (eC (.int 0)), eC (.str [111, 108, 100, 101, 114]), eV 1, eC (.str [110, 101, 119, 101, 114])]))]) (sB [])]),
  sRet (eV 1)]
def F_q_word_tree : AF := fnT 1 4 b_q_word_tree
/- _law_trees_fit: _law_book, _law_parents_here, _law_kinds_here, _law_n, _law_field -/
def b_q_trees_fit : AS := sB [sSet 3 (eA (on1 lenD) (eL [eV 1])),
  sIf (tOr (tNot (tV (eA (F_q_is_integer) (eL [e1 (fldD ["Book"] "fields") (eV 0)])))) (tB1 (e2 neD (e1 (fldD ["Book"] "fields") (eV 0)) (eV 3)))) (sB [sRet (eC (.bl false))]) (sB []),
  sIf (tOr (tNot (tV (e1 (isTy "tuple") (e1 (fldD ["Book"] "trees") (eV 0))))) (tB1 (e2 neD (eA (on1 lenD) (eL [e1 (fldD ["Book"] "trees") (eV 0)])) (eV 3)))) (sB [sRet (eC (.bl false))]) (sB []),
  sFor (iR1 (eV 3)) (gV 4) (sB [sIf (tNot (tV (eA (F_q_same_tree 12) (eL [e2 ixD (e1 (fldD ["Book"] "trees") (eV 0)) (eV 4), eA (F_q_word_tree) (eL [eA (F_q_word) (eL [eV 1, eV 2, eV 4])])])))) (sB [sRet (eC (.bl false))]) (sB [])]),
  sRet (eC (.bl true))]
def F_q_trees_fit : AF := fnT 3 5 b_q_trees_fit
/- asked: tree, fields, left, part -/
def b_asked : AS := sB [sSet 1 (eLst false (eL [])),
  sSet 2 (eLst false (eL [eV 0])),
  sWhile (tV (eV 2)) (sB [sSet 3 (eM isLst (mt0 popD) (eV 2) (eL [])),
    sIf (tNot (tV (e1 (isTy "str") (eV 3)))) (sB [sE (eM isLst (mt1 appendD) (eV 1) (eL [e2 ixD (eV 3) (eC (.int 0))])),
      sE (eM isLst (mt1 extendD) (eV 2) (eL [eSl true (eV 3) (oS (eC (.int 1))) (oN)]))]) (sB [])]),
  sRet (eA (on1 tupD) (eL [e1 (sortedSetD true) (eV 1)]))]
def F_asked : AF := fnT 1 4 b_asked
/- Book.__init__: self, trees, field -/
def b_Book_init : AS := sB [sFldS (setFldD ["Book"] "trees") (eV 0) (eA (on1 tupD) (eL [eV 1])),
  sFldS (setFldD ["Book"] "fields") (eV 0) (eA (on1 lenD) (eL [e1 (fldD ["Book"] "trees") (eV 0)])),
  sIf (tB1 (e2 eqD (e1 (fldD ["Book"] "fields") (eV 0)) (eC (.int 0)))) (sB [sRaise "BadTree" ["field"] (eL [eC .non])]) (sB []),
  sFor (iR1 (e1 (fldD ["Book"] "fields") (eV 0))) (gV 2) (sB [sIf (tB1 (e2 geD (e1 (maxTD 0) (eA (F_asked) (eL [e2 ixD (e1 (fldD ["Book"] "trees") (eV 0)) (eV 2)]))) (e1 (fldD ["Book"] "fields") (eV 0)))) (sB [sRaise "BadTree" ["field"] (eL [eV 2])]) (sB [])])]
def F_Book_init : AF := fnT 2 3 b_Book_init
/- tree_of_steps: steps, tree, field, kind -/
def b_tree_of_steps : AS := sB [sSet 1 (eIf (tB1 (e2 eqD (e2 ixD (e2 ixD (eV 0) (e1 negD (eC (.int 1)))) (eC (.int 1))) (eC (.str [108, 97, 115, 116])))) (eC (.str [110, 101, 119, 101, 114])) (eC (.str [111, 108, 100, 101, 114]))),
  sFor (iS (e1 revTD (eV 0))) (gT [gV 2, gV 3]) (sB [sIf (tB1 (e2 eqD (eV 3) (eC (.str [117, 112])))) (sB [sSet 1 (eTup (eL [eV 2, eC (.str [110, 101, 119, 101, 114]), eV 1, eC (.str [111, 108, 100, 101, 114])]))]) (sB []),
    sIf (tB1 (e2 eqD (eV 3) (eC (.str [100, 111, 119, 110])))) (sB [sSet 1 (eTup (eL [eV 2, eC (.str [111, 108, 100, 101, 114]), eV 1, eC (.str [110, 101, 119, 101, 114])]))]) (sB [])]),
  sRet (eV 1)]
def F_tree_of_steps : AF := fnT 1 4 b_tree_of_steps
/- book_of: forest, field -/
def b_book_of : AS := sB [sRet (eA (mkI "Book" true (F_Book_init)) (eL [eLC true [1] (iR1 (e1 (fldD ["Forest"] "fields") (eV 0))) (gV 1) (tYes) (eA (F_tree_of_steps) (eL [eMth [("Forest", F_Forest_word)] "word" (eV 0) (eL [eV 1])]))]))]
def F_book_of : AF := fnT 1 2 b_book_of
/- law: _law_script, _law_sizes, _law_n, _law_parents_here, _law_kinds_here, _law_forest, _law_book, _law_records, _law_k, _law_pairs, _law_x, _law_y, _law_row, _law_s, _law_fair, _law_pair, _law_due, _law_turned -/
def b_law_k29 : AS := sB [sSet 1 (eA (F_q_tape) (eL [eV 0, eC (.int 0)])),
  sSet 2 (e2 (addD true) (eC (.int 1)) (eA (F_q_take) (eL [eV 1, eC (.int 6)]))),
  sSet 3 (eA (F_q_parents) (eL [eV 1, eV 2])),
  sSet 4 (eA (F_q_kinds) (eL [eA (F_q_tape) (eL [eV 0, eC (.int 1)]), eV 3, e2 eqD (eA (F_q_take) (eL [eV 1, eC (.int 2)])) (eC (.int 0))])),
  sSet 5 (eA (mkI "Forest" true (F_Forest_init)) (eL [eA (on1 (listD true)) (eL [eV 3]), eA (on1 (listD true)) (eL [eV 4])])),
  sSet 6 (eA (F_book_of) (eL [eV 5])),
  sIf (tOr (tNot (tV (eA (F_q_trees_fit) (eL [eV 6, eV 3, eV 4])))) (tNot (tV (eA (F_q_trees_fit) (eL [eA (F_book_of) (eL [eV 5]), eV 3, eV 4]))))) (sB [sRet (eC (.bl false))]) (sB []),
  sSet 7 (eLC true [8] (iR1 (eC (.int 3))) (gV 8) (tYes) (eA (F_q_record) (eL [eA (F_q_tape) (eL [eV 0, e2 (addD true) (eC (.int 2)) (eV 8)]), eV 2, eC (.int 3)]))),
  sSet 9 (eLst false (eL [])),
  sFor (iS (eV 7)) (gV 10) (sB [sFor (iS (eV 7)) (gV 11) (sB [sE (eM isLst (mt1 appendD) (eV 9) (eL [eLst true (eL [eV 10, eV 11])]))])]),
  sIf (tB1 (e2 ltD (eV 2) (eC (.int 5)))) (sB [sFor (iS (eA (F_q_rows) (eL [eV 2]))) (gV 12) (sB [sE (eM isLst (mt1 appendD) (eV 9) (eL [eLst true (eL [eA (on1 tupD) (eL [eLC true [13] (iS (eV 12)) (gV 13) (tYes) (eA (on1 intD) (eL [e2 gtD (eV 13) (eC (.int 0))]))]), eA (on1 tupD) (eL [eLC true [13] (iS (eV 12)) (gV 13) (tYes) (eA (on1 intD) (eL [e2 ltD (eV 13) (eC (.int 0))]))])])]))])]) (sB []),
  sSet 14 (eAnd (e2 notInD (eC (.str [102, 105, 114, 115, 116])) (eV 4)) (e2 notInD (eC (.str [108, 97, 115, 116])) (eV 4))),
  sFor (iS (eV 9)) (gV 15) (sB [sSet 16 (eA (F_q_merge_v2) (eL [eV 3, eV 4, e2 ixD (eV 15) (eC (.int 0)), e2 ixD (eV 15) (eC (.int 1))])),
    sIf (tOr (tNot (tV (eA (F_q_is) (eL [eCal [("Forest", F_Forest_call)] (eV 5) (eL [e2 ixD (eV 15) (eC (.int 0)), e2 ixD (eV 15) (eC (.int 1))]), eV 16])))) (tNot (tV (eA (F_q_is) (eL [eCal [("Book", F_Book_call)] (eV 6) (eL [e2 ixD (eV 15) (eC (.int 0)), e2 ixD (eV 15) (eC (.int 1))]), eV 16]))))) (sB [sRet (eC (.bl false))]) (sB []),
    sIf (tAnd (tV (eV 14)) (tOr (tNot (tV (eA (F_q_is) (eL [eCal [("Forest", F_Forest_call)] (eV 5) (eL [e2 ixD (eV 15) (eC (.int 1)), e2 ixD (eV 15) (eC (.int 0))]), eV 16])))) (tNot (tV (eA (F_q_is) (eL [eCal [("Book", F_Book_call)] (eV 6) (eL [e2 ixD (eV 15) (eC (.int 1)), e2 ixD (eV 15) (eC (.int 0))]), eV 16])))))) (sB [sRet (eC (.bl false))]) (sB [])]),
  sFor (iR1 (eC (.int 3))) (gV 8) (sB [sSet 17 (e2 (addD true) (eSl true (eV 7) (oS (eV 8)) (oN)) (eSl true (eV 7) (oN) (oS (eV 8)))),
    sIf (tNot (tV (eA (F_q_three) (eL [eV 5, eV 6, eV 3, eV 4, eV 17])))) (sB [sRet (eC (.bl false))]) (sB [])]),
  sRet (eA (F_q_trees_fit) (eL [eV 6, eV 3, eV 4]))]
def F_law_k29 : AF := fnT 1 18 b_law_k29
end Sm
end

section
set_option linter.all false
/-! k03: plain computations (printed by gen2.py) -/
namespace Sm
/- _law_same: _law_actual, _law_expected, _law_k -/
def b_q_same_v5 (F : AF) : AS := sB [sIf (tV (e1 (isTy "str") (eV 1))) (sB [sRet (eAnd (e1 (isTy "str") (eV 0)) (e2 eqD (eV 0) (eV 1)))]) (sB []),
  sIf (tOr (tNot (tV (e1 (isTy "tuple") (eV 0)))) (tB1 (e2 neD (eA (on1 lenD) (eL [eV 0])) (eC (.int 4))))) (sB [sRet (eC (.bl false))]) (sB []),
  sIf (tOr (tNot (tV (eA (F_q_is_integer) (eL [e2 ixD (eV 0) (eC (.int 0))])))) (tB1 (e2 neD (e2 ixD (eV 0) (eC (.int 0))) (e2 ixD (eV 1) (eC (.int 0)))))) (sB [sRet (eC (.bl false))]) (sB []),
  sFor (iR2 (eC (.int 1)) (eC (.int 4))) (gV 2) (sB [sIf (tNot (tV (eA (F) (eL [e2 ixD (eV 0) (eV 2), e2 ixD (eV 1) (eV 2)])))) (sB [sRet (eC (.bl false))]) (sB [])]),
  sRet (eC (.bl true))]
def F_q_same_v5 : Nat → AF
  | 0 => fun _ _ => .no
  | n + 1 => fnT 2 3 (b_q_same_v5 (F_q_same_v5 n))
/- _law_are_trees: _law_actual, _law_expected, _law_k -/
def b_q_are_trees : AS := sB [sIf (tOr (tNot (tV (e1 (isTy "tuple") (eV 0)))) (tB1 (e2 neD (eA (on1 lenD) (eL [eV 0])) (eA (on1 lenD) (eL [eV 1]))))) (sB [sRet (eC (.bl false))]) (sB []),
  sFor (iR1 (eA (on1 lenD) (eL [eV 1]))) (gV 2) (sB [sIf (tNot (tV (eA (F_q_same_v5 30) (eL [e2 ixD (eV 0) (eV 2), e2 ixD (eV 1) (eV 2)])))) (sB [sRet (eC (.bl false))]) (sB [])]),
  sRet (eC (.bl true))]
def F_q_are_trees : AF := fnT 2 3 b_q_are_trees
/- _law_follow: _law_tree_here, _law_row, _law_k -/
def b_q_follow : AS := sB [sFor (iR1 (eC (.int 60))) (gV 2) (sB [sIf (tV (e1 (isTy "str") (eV 0))) (sB [sRet (eV 0)]) (sB []),
    sSet 0 (e2 ixD (eV 0) (e2 (addD true) (eC (.int 2)) (e2 ixD (eV 1) (e2 ixD (eV 0) (eC (.int 0))))))]),
  sRet (eV 0)]
def F_q_follow : AF := fnT 2 3 b_q_follow
/- _law_signs: _law_older, _law_newer, _law_f -/
def b_q_signs : AS := sB [sRet (eA (on1 tupD) (eL [eLC true [2] (iR1 (eA (on1 lenD) (eL [eV 0]))) (gV 2) (tYes) (e2 subD (eA (on1 intD) (eL [e2 gtD (e2 ixD (eV 0) (eV 2)) (e2 ixD (eV 1) (eV 2))])) (eA (on1 intD) (eL [e2 ltD (e2 ixD (eV 0) (eV 2)) (e2 ixD (eV 1) (eV 2))])))]))]
def F_q_signs : AF := fnT 2 3 b_q_signs
/- _law_book_merge: _law_trees, _law_older, _law_newer, _law_row, _law_pair, _law_end, _law_field -/
def b_q_book_merge : AS := sB [sSet 3 (eA (F_q_signs) (eL [eV 1, eV 2])),
  sSet 4 (eDisp true [(eC (.str [111, 108, 100, 101, 114]), eV 1), (eC (.str [110, 101, 119, 101, 114]), eV 2)]),
  sSet 5 (eLst false (eL [])),
  sFor (iR1 (eA (on1 lenD) (eL [eV 0]))) (gV 6) (sB [sIf (tB1 (e2 eqD (e2 ixD (eV 3) (eV 6)) (eC (.int 0)))) (sB [sE (eM isLst (mt1 appendD) (eV 5) (eL [e2 ixD (eV 1) (eV 6)]))]) (sB [sE (eM isLst (mt1 appendD) (eV 5) (eL [e2 ixD (e2 dixD (eV 4) (eA (F_q_follow) (eL [e2 ixD (eV 0) (eV 6), eV 3]))) (eV 6)]))])]),
  sRet (eA (on1 tupD) (eL [eV 5]))]
def F_q_book_merge : AF := fnT 3 7 b_q_book_merge
/- _law_is_same_record: _law_actual, _law_expected -/
def b_q_is_same_record : AS := sB [sRet (eAnd (eA (F_q_is_record) (eL [eV 0, eA (on1 lenD) (eL [eV 1])])) (e2 eqD (eV 0) (eV 1)))]
def F_q_is_same_record : AF := fnT 2 2 b_q_is_same_record
/- _law_book_is: _law_book, _law_trees, _law_older, _law_newer, _law_pair, _law_row, _law_field, _law_expected, _law_actual -/
def b_q_book_is : AS := sB [sIf (tOr (tNot (tV (eA (F_q_is_integer) (eL [e1 (fldD ["Book"] "fields") (eV 0)])))) (tOr (tB1 (e2 neD (e1 (fldD ["Book"] "fields") (eV 0)) (eA (on1 lenD) (eL [eV 1])))) (tNot (tV (eA (F_q_are_trees) (eL [e1 (fldD ["Book"] "trees") (eV 0), eV 1])))))) (sB [sRet (eC (.bl false))]) (sB []),
  sFor (iS (eLst true (eL [eLst true (eL [eV 2, eV 3]), eLst true (eL [eV 3, eV 2]), eLst true (eL [eV 2, eV 2])]))) (gV 4) (sB [sIf (tNot (tV (eA (F_q_is_same_record) (eL [eCal [("Book", F_Book_call)] (eV 0) (eL [e2 ixD (eV 4) (eC (.int 0)), e2 ixD (eV 4) (eC (.int 1))]), eA (F_q_book_merge) (eL [eV 1, e2 ixD (eV 4) (eC (.int 0)), e2 ixD (eV 4) (eC (.int 1))])])))) (sB [sRet (eC (.bl false))]) (sB [])]),
  sFor (iS (eLst true (eL [eA (F_q_signs) (eL [eV 2, eV 3]), eA (F_q_signs) (eL [eV 3, eV 2])]))) (gV 5) (sB [sFor (iR1 (eA (on1 lenD) (eL [eV 1]))) (gV 6) (sB [sSet 7 (eC (.str [115, 97, 109, 101])),
      sIf (tB1 (e2 neD (e2 ixD (eV 5) (eV 6)) (eC (.int 0)))) (sB [sSet 7 (eA (F_q_follow) (eL [e2 ixD (eV 1) (eV 6), eV 5]))]) (sB []),
      sSet 8 (eMth [("Book", F_Book_side)] "side" (eV 0) (eL [eV 6, eV 5])),
      sIf (tOr (tNot (tV (e1 (isTy "str") (eV 8)))) (tB1 (e2 neD (eV 8) (eV 7)))) (sB [sRet (eC (.bl false))]) (sB [])])]),
  sRet (eC (.bl true))]
def F_q_book_is : AF := fnT 4 9 b_q_book_is
/- _law_refuses_records: _law_book, _law_older, _law_newer, _law_wrong, e -/
def b_q_refuses_records : AS := sB [sTryAs [("BadRecord", true), ("NoRecord", true), ("BadTree", true), ("BadForest", true), ("BadText", true), ("BadPlace", true)] 4 (sB [sE (eCal [("Book", F_Book_call)] (eV 0) (eL [eV 1, eV 2]))]) (fun x => sB [sIf (tOr (tNot (tV (eXis x [("BadRecord", true), ("NoRecord", false), ("BadTree", false), ("BadForest", false), ("BadText", false), ("BadPlace", false)]))) (tNot (tV (eXis x [("BadRecord", true), ("NoRecord", true), ("BadTree", true), ("BadForest", true), ("BadText", true), ("BadPlace", true)])))) (sB [sRet (eC (.bl false))]) (sB []),
    sIf (tOr (tV (eXis x [("BadRecord", false), ("NoRecord", true), ("BadTree", false), ("BadForest", false), ("BadText", false), ("BadPlace", false)])) (tOr (tV (eXis x [("BadRecord", false), ("NoRecord", false), ("BadTree", true), ("BadForest", false), ("BadText", false), ("BadPlace", false)])) (tV (eXis x [("BadRecord", false), ("NoRecord", false), ("BadTree", false), ("BadForest", false), ("BadText", false), ("BadPlace", true)])))) (sB [sRet (eC (.bl false))]) (sB []),
    sRet (eA (F_q_is_same_record) (eL [eXf ["BadRecord"] x "record", eV 3]))]),
  sRet (eC (.bl false))]
def F_q_refuses_records : AF := fnT 4 5 b_q_refuses_records
/- _law_signs_are: _law_older, _law_newer, e -/
def b_q_signs_are : AS := sB [sIf (tB1 (e2 eqD (eA (on1 lenD) (eL [eV 0])) (eA (on1 lenD) (eL [eV 1])))) (sB [sRet (eA (F_q_is_same_record) (eL [eA (F_signs) (eL [eV 0, eV 1]), eA (F_q_signs) (eL [eV 0, eV 1])]))]) (sB []),
  sTryAs [("BadRecord", true), ("NoRecord", false), ("BadTree", false), ("BadForest", false), ("BadText", false), ("BadPlace", false)] 2 (sB [sE (eA (F_signs) (eL [eV 0, eV 1]))]) (fun x => sB [sRet (eA (F_q_is_same_record) (eL [eXf ["BadRecord"] x "record", eV 1]))]),
  sRet (eC (.bl false))]
def F_q_signs_are : AF := fnT 2 3 b_q_signs_are
/- _law_tree: _law_tape_here, _law_n, _law_levels, _law_field, _law_less, _law_same_here, _law_more -/
def b_q_tree (F : AF) : AS := sB [sIf (tOr (tB1 (e2 eqD (eV 2) (eC (.int 0)))) (tB1 (e2 eqD (eA (F_q_take) (eL [eV 0, eC (.int 4)])) (eC (.int 0))))) (sB [sRet (e2 ixD (eLst true (eL [eC (.str [111, 108, 100, 101, 114]), eC (.str [110, 101, 119, 101, 114])])) (eA (F_q_take) (eL [eV 0, eC (.int 2)])))]) (sB []),
  sSet 3 (eA (F_q_take) (eL [eV 0, eV 1])),
  sSet 4 (eA (F) (eL [eV 0, eV 1, e2 subD (eV 2) (eC (.int 1))])),
  sSet 5 (eA (F) (eL [eV 0, eV 1, e2 subD (eV 2) (eC (.int 1))])),
  sSet 6 (eA (F) (eL [eV 0, eV 1, e2 subD (eV 2) (eC (.int 1))])),
  sRet (eTup (eL [eV 3, eV 4, eV 5, eV 6]))]
def F_q_tree : Nat → AF
  | 0 => fun _ _ => .no
  | n + 1 => fnT 3 7 (b_q_tree (F_q_tree n))
/- _law_bad_tree: _law_tape_here, _law_n, _law_levels, _law_tree_here, _law_k, _law_branches, _law_m -/
def b_q_bad_tree : AS := sB [sSet 3 (eTup (eL [e2 (addD true) (eV 1) (eA (F_q_take) (eL [eV 0, e2 subD (eC (.int 10)) (eV 1)])), eC (.str [111, 108, 100, 101, 114]), eC (.str [110, 101, 119, 101, 114]), eC (.str [111, 108, 100, 101, 114])])),
  sFor (iR1 (eV 2)) (gV 4) (sB [sSet 5 (eLC false [6] (iR1 (eC (.int 3))) (gV 6) (tYes) (e2 ixD (eLst true (eL [eC (.str [111, 108, 100, 101, 114]), eC (.str [110, 101, 119, 101, 114])])) (eA (F_q_take) (eL [eV 0, eC (.int 2)])))),
    sSub setIxD (eV 5) (eA (F_q_take) (eL [eV 0, eC (.int 3)])) (eV 3),
    sSet 3 (eTup (eL [eA (F_q_take) (eL [eV 0, eV 1]), e2 ixD (eV 5) (eC (.int 0)), e2 ixD (eV 5) (eC (.int 1)), e2 ixD (eV 5) (eC (.int 2))]))]),
  sRet (eV 3)]
def F_q_bad_tree : AF := fnT 3 7 b_q_bad_tree
/- _law_refuses_trees: _law_trees, _law_wrong, e -/
def b_q_refuses_trees : AS := sB [sTryAs [("BadRecord", true), ("NoRecord", true), ("BadTree", true), ("BadForest", true), ("BadText", true), ("BadPlace", true)] 2 (sB [sE (eA (mkI "Book" true (F_Book_init)) (eL [eV 0]))]) (fun x => sB [sIf (tOr (tNot (tV (eXis x [("BadRecord", false), ("NoRecord", false), ("BadTree", true), ("BadForest", false), ("BadText", false), ("BadPlace", false)]))) (tNot (tV (eXis x [("BadRecord", true), ("NoRecord", true), ("BadTree", true), ("BadForest", true), ("BadText", true), ("BadPlace", true)])))) (sB [sRet (eC (.bl false))]) (sB []),
    sIf (tOr (tV (eXis x [("BadRecord", false), ("NoRecord", false), ("BadTree", false), ("BadForest", true), ("BadText", false), ("BadPlace", false)])) (tOr (tV (eXis x [("BadRecord", false), ("NoRecord", false), ("BadTree", false), ("BadForest", false), ("BadText", true), ("BadPlace", false)])) (tV (eXis x [("BadRecord", false), ("NoRecord", false), ("BadTree", false), ("BadForest", false), ("BadText", false), ("BadPlace", true)])))) (sB [sRet (eC (.bl false))]) (sB []),
    sIf (tB1 (e1 isNonD (eV 1))) (sB [sRet (e1 isNonD (eXf ["BadTree", "BadForest"] x "field"))]) (sB []),
    sRet (eAnd (eA (F_q_is_integer) (eL [eXf ["BadTree", "BadForest"] x "field"])) (e2 eqD (eXf ["BadTree", "BadForest"] x "field") (eV 1)))]),
  sRet (eC (.bl false))]
def F_q_refuses_trees : AF := fnT 2 3 b_q_refuses_trees
/- _law_trees_refused: _law_tape_here, _law_trees, _law_n, _law_wrong, _law_places, _law_place, _law_kept -/
def b_q_trees_refused : AS := sB [sSet 2 (eA (on1 lenD) (eL [eV 1])),
  sSet 3 (eA (on1 (listD false)) (eL [eV 1])),
  sSet 4 (eSl true (eA (F_q_turns) (eL [eV 0, eV 2])) (oN) (oS (eA (F_q_take) (eL [eV 0, eC (.int 3)])))),
  sFor (iS (eV 4)) (gV 5) (sB [sSub setIxD (eV 3) (eV 5) (eA (F_q_bad_tree) (eL [eV 0, eV 2, eA (F_q_take) (eL [eV 0, eC (.int 3)])]))]),
  sIf (tB1 (e2 eqD (eA (on1 lenD) (eL [eV 4])) (eC (.int 0)))) (sB [sRet (eAnd (eA (F_q_refuses_trees) (eL [eLst true (eL []), eC .non])) (eA (F_q_refuses_trees) (eL [eTup (eL []), eC .non])))]) (sB []),
  sSet 6 (eA (on1 tupD) (eL [eV 3])),
  sIf (tOr (tNot (tV (eA (F_q_refuses_trees) (eL [eV 3, eA (on1 (intsD minF)) (eL [eV 4])])))) (tNot (tV (eA (F_q_refuses_trees) (eL [eV 6, eA (on1 (intsD minF)) (eL [eV 4])]))))) (sB [sRet (eC (.bl false))]) (sB []),
  sIf (tNot (tV (eA (F_q_are_trees) (eL [eA (on1 tupD) (eL [eV 3]), eV 6])))) (sB [sRet (eC (.bl false))]) (sB []),
  sFor (iS (eV 4)) (gV 5) (sB [sSub setIxD (eV 3) (eV 5) (e2 ixD (eV 1) (eV 5))]),
  sRet (eA (F_q_are_trees) (eL [e1 (fldD ["Book"] "trees") (eA (mkI "Book" true (F_Book_init)) (eL [eV 3])), eV 1]))]
def F_q_trees_refused : AF := fnT 2 7 b_q_trees_refused
/- _law_vine: _law_tape_here, _law_n, _law_asks, _law_row, _law_tree_here, _law_k, _law_field, _law_place, _law_branches, _law_m -/
def b_q_vine : AS := sB [sSet 4 (e2 ixD (eLst true (eL [eC (.str [111, 108, 100, 101, 114]), eC (.str [110, 101, 119, 101, 114])])) (eA (F_q_take) (eL [eV 0, eC (.int 2)]))),
  sFor (iR1 (eV 2)) (gV 5) (sB [sSet 6 (eA (F_q_take) (eL [eV 0, eV 1])),
    sSet 7 (e2 (addD true) (eC (.int 1)) (e2 ixD (eV 3) (eV 6))),
    sIf (tB1 (e2 eqD (eA (F_q_take) (eL [eV 0, eC (.int 8)])) (eC (.int 0)))) (sB [sSet 7 (eA (F_q_take) (eL [eV 0, eC (.int 3)]))]) (sB []),
    sSet 8 (eLC false [9] (iR1 (eC (.int 3))) (gV 9) (tYes) (e2 ixD (eLst true (eL [eC (.str [111, 108, 100, 101, 114]), eC (.str [110, 101, 119, 101, 114])])) (eA (F_q_take) (eL [eV 0, eC (.int 2)])))),
    sSub setIxD (eV 8) (eV 7) (eV 4),
    sSet 4 (eTup (eL [eV 6, e2 ixD (eV 8) (eC (.int 0)), e2 ixD (eV 8) (eC (.int 1)), e2 ixD (eV 8) (eC (.int 2))]))]),
  sRet (eV 4)]
def F_q_vine : AF := fnT 4 10 b_q_vine
/- law: _law_script, _law_tape_here, _law_n, _law_mode, _law_trees, _law_f, _law_others, _law_older, _law_newer, _law_field, _law_handed, _law_book, _law_second, _law_actual, _law_pair, _law_k -/
def b_law_k03 : AS := sB [sSet 1 (eA (F_q_tape) (eL [eV 0, eC (.int 0)])),
  sSet 2 (e2 (addD true) (eC (.int 1)) (eA (F_q_take) (eL [eV 1, eC (.int 6)]))),
  sSet 3 (eA (F_q_take) (eL [eV 1, eC (.int 4)])),
  sSet 4 (eLC false [5] (iR1 (eV 2)) (gV 5) (tYes) (eA (F_q_tree 8) (eL [eA (F_q_tape) (eL [eV 0, e2 (addD true) (eC (.int 5)) (eV 5)]), eV 2, eC (.int 3)]))),
  sSet 6 (eLC true [5] (iR1 (eV 2)) (gV 5) (tYes) (eA (F_q_tree 8) (eL [eA (F_q_tape) (eL [eV 0, e2 (addD true) (eC (.int 11)) (eV 5)]), eV 2, eC (.int 2)]))),
  sSet 7 (eA (F_q_record) (eL [eA (F_q_tape) (eL [eV 0, eC (.int 1)]), eV 2, eC (.int 3)])),
  sSet 8 (eA (F_q_record) (eL [eA (F_q_tape) (eL [eV 0, eC (.int 2)]), eV 2, eC (.int 3)])),
  sIf (tB1 (e2 eqD (eA (F_q_take) (eL [eV 1, eC (.int 8)])) (eC (.int 0)))) (sB [sSet 8 (eV 7)]) (sB []),
  sIf (tB1 (e2 eqD (eA (F_q_take) (eL [eV 1, eC (.int 8)])) (eC (.int 0)))) (sB [sSet 9 (eA (F_q_take) (eL [eV 1, eV 2])),
    sSub setIxD (eV 4) (eV 9) (eA (F_q_vine) (eL [eV 1, eV 2, e2 (addD true) (eC (.int 5)) (eA (F_q_take) (eL [eV 1, eC (.int 16)])), eA (F_q_signs) (eL [eV 7, eV 8])]))]) (sB []),
  sSet 10 (eA (on1 (listD false)) (eL [eV 4])),
  sSet 11 (eA (mkI "Book" true (F_Book_init)) (eL [eV 10])),
  sSet 12 (eA (mkI "Book" true (F_Book_init)) (eL [eA (on1 tupD) (eL [eV 6])])),
  sIf (tNot (tV (eA (F_q_are_trees) (eL [eA (on1 tupD) (eL [eV 10]), eV 4])))) (sB [sRet (eC (.bl false))]) (sB []),
  sSub setIxD (eV 10) (eC (.int 0)) (eC (.str [111, 108, 100, 101, 114])),
  sE (eM isLst (mt1 appendD) (eV 10) (eL [eC (.str [110, 101, 119, 101, 114])])),
  sIf (tOr (tNot (tV (eA (F_q_book_is) (eL [eV 11, eV 4, eV 7, eV 8])))) (tNot (tV (eA (F_q_book_is) (eL [eV 12, eV 6, eV 7, eV 8]))))) (sB [sRet (eC (.bl false))]) (sB []),
  sFor (iR1 (eV 2)) (gV 9) (sB [sSet 13 (eA (F_sign) (eL [e2 ixD (eV 7) (eV 9), e2 ixD (eV 8) (eV 9)])),
    sIf (tOr (tNot (tV (eA (F_q_is_integer) (eL [eV 13])))) (tB1 (e2 neD (eV 13) (e2 ixD (eA (F_q_signs) (eL [eV 7, eV 8])) (eV 9))))) (sB [sRet (eC (.bl false))]) (sB [])]),
  sSet 14 (eLst false (eL [eV 7, eV 8])),
  sFor (iR1 (eC (.int 2))) (gV 15) (sB [sIf (tOr (tB1 (e2 eqD (eV 3) (eV 15))) (tB1 (e2 eqD (eV 3) (eC (.int 2))))) (sB [sSub setIxD (eV 14) (eV 15) (eA (F_q_record) (eL [eA (F_q_tape) (eL [eV 0, e2 (addD true) (eC (.int 3)) (eV 15)]), e2 modD (eA (on1 intD) (eL [e2 (addD true) (e2 (addD true) (eV 2) (eC (.int 1))) (eA (F_q_take) (eL [eV 1, eC (.int 8)]))])) (eC (.int 9)), eC (.int 3)]))]) (sB [])]),
  sIf (tAnd (tB1 (e2 neD (eA (on1 lenD) (eL [e2 ixD (eV 14) (eC (.int 0))])) (eV 2))) (tNot (tV (eA (F_q_refuses_records) (eL [eV 11, e2 ixD (eV 14) (eC (.int 0)), e2 ixD (eV 14) (eC (.int 1)), e2 ixD (eV 14) (eC (.int 0))]))))) (sB [sRet (eC (.bl false))]) (sB []),
  sIf (tAnd (tB1 (e2 eqD (eA (on1 lenD) (eL [e2 ixD (eV 14) (eC (.int 0))])) (eV 2))) (tAnd (tB1 (e2 neD (eA (on1 lenD) (eL [e2 ixD (eV 14) (eC (.int 1))])) (eV 2))) (tNot (tV (eA (F_q_refuses_records) (eL [eV 11, e2 ixD (eV 14) (eC (.int 0)), e2 ixD (eV 14) (eC (.int 1)), e2 ixD (eV 14) (eC (.int 1))])))))) (sB [sRet (eC (.bl false))]) (sB []),
  sIf (tOr (tNot (tV (eA (F_q_signs_are) (eL [e2 ixD (eV 14) (eC (.int 0)), e2 ixD (eV 14) (eC (.int 1))])))) (tNot (tV (eA (F_q_trees_refused) (eL [eA (F_q_tape) (eL [eV 0, eC (.int 17)]), eV 4]))))) (sB [sRet (eC (.bl false))]) (sB []),
  sRet (eA (F_q_book_is) (eL [eV 11, eV 4, eV 7, eV 8]))]
def F_law_k03 : AF := fnT 1 16 b_law_k03
end Sm
end

section
set_option linter.all false
/-! k28: plain computations (printed by gen2.py) -/
namespace Sm
/- _law_has_trees: _law_book, _law_trees_here, _law_field -/
def b_q_has_trees : AS := sB [sIf (tOr (tNot (tV (e1 (isClsD "Book") (eV 0)))) (tOr (tNot (tV (eA (F_q_is_integer) (eL [e1 (fldD ["Book"] "fields") (eV 0)])))) (tB1 (e2 neD (e1 (fldD ["Book"] "fields") (eV 0)) (eA (on1 lenD) (eL [eV 1])))))) (sB [sRet (eC (.bl false))]) (sB []),
  sIf (tOr (tNot (tV (e1 (isTy "tuple") (e1 (fldD ["Book"] "trees") (eV 0))))) (tB1 (e2 neD (eA (on1 lenD) (eL [e1 (fldD ["Book"] "trees") (eV 0)])) (eA (on1 lenD) (eL [eV 1]))))) (sB [sRet (eC (.bl false))]) (sB []),
  sFor (iR1 (eA (on1 lenD) (eL [eV 1]))) (gV 2) (sB [sIf (tNot (tV (eA (F_q_same_v5 30) (eL [e2 ixD (e1 (fldD ["Book"] "trees") (eV 0)) (eV 2), e2 ixD (eV 1) (eV 2)])))) (sB [sRet (eC (.bl false))]) (sB [])]),
  sRet (eC (.bl true))]
def F_q_has_trees : AF := fnT 2 3 b_q_has_trees
/- _law_is_fair: _law_trees_here, _law_row, _law_twin, _law_s, _law_field -/
def b_q_is_fair : AS := sB [sFor (iS (eA (F_q_rows) (eL [eA (on1 lenD) (eL [eV 0])]))) (gV 1) (sB [sSet 2 (eA (on1 tupD) (eL [eLC true [3] (iS (eV 1)) (gV 3) (tYes) (e2 subD (eC (.int 0)) (eV 3))])),
    sFor (iR1 (eA (on1 lenD) (eL [eV 0]))) (gV 4) (sB [sIf (tAnd (tB1 (e2 eqD (e2 ixD (eV 1) (eV 4)) (eC (.int 1)))) (tB1 (e2 eqD (eA (F_q_follow) (eL [e2 ixD (eV 0) (eV 4), eV 1])) (eA (F_q_follow) (eL [e2 ixD (eV 0) (eV 4), eV 2]))))) (sB [sRet (eC (.bl false))]) (sB [])])]),
  sRet (eC (.bl true))]
def F_q_is_fair : AF := fnT 1 5 b_q_is_fair
/- _law_merges: _law_book, _law_trees_here, _law_older, _law_newer, _law_actual -/
def b_q_merges : AS := sB [sSet 4 (eCal [("Book", F_Book_call)] (eV 0) (eL [eV 2, eV 3])),
  sRet (eAnd (eA (F_q_is_record) (eL [eV 4, eA (on1 lenD) (eL [eV 1])])) (e2 eqD (eV 4) (eA (F_q_book_merge) (eL [eV 1, eV 2, eV 3]))))]
def F_q_merges : AF := fnT 4 5 b_q_merges
/- _law_mirror: _law_tree_here -/
def b_q_mirror (F : AF) : AS := sB [sIf (tB1 (e2 eqD (eV 0) (eC (.str [111, 108, 100, 101, 114])))) (sB [sRet (eC (.str [110, 101, 119, 101, 114]))]) (sB []),
  sIf (tB1 (e2 eqD (eV 0) (eC (.str [110, 101, 119, 101, 114])))) (sB [sRet (eC (.str [111, 108, 100, 101, 114]))]) (sB []),
  sRet (eTup (eL [e2 ixD (eV 0) (eC (.int 0)), eA (F) (eL [e2 ixD (eV 0) (eC (.int 3))]), eA (F) (eL [e2 ixD (eV 0) (eC (.int 2))]), eA (F) (eL [e2 ixD (eV 0) (eC (.int 1))])]))]
def F_q_mirror : Nat → AF
  | 0 => fun _ _ => .no
  | n + 1 => fnT 1 1 (b_q_mirror (F_q_mirror n))
/- _law_is_pair: _law_actual, _law_n, _law_record_here, _law_value_here -/
def b_q_is_pair : AS := sB [sIf (tOr (tNot (tV (e1 (isTy "tuple") (eV 0)))) (tB1 (e2 neD (eA (on1 lenD) (eL [eV 0])) (eC (.int 2))))) (sB [sRet (eC (.bl false))]) (sB []),
  sFor (iS (eV 0)) (gV 2) (sB [sIf (tNot (tV (eA (F_q_is_record) (eL [eV 2, eV 1])))) (sB [sRet (eC (.bl false))]) (sB []),
    sFor (iS (eV 2)) (gV 3) (sB [sIf (tNot (tB1 (eChain leD leD (eC (.int 0)) (eV 3) (eC (.int 1))))) (sB [sRet (eC (.bl false))]) (sB [])])]),
  sRet (eC (.bl true))]
def F_q_is_pair : AF := fnT 2 4 b_q_is_pair
/- _law_shows: _law_actual, _law_trees_here, _law_fair -/
def b_q_shows_v2 : AS := sB [sIf (tV (eV 2)) (sB [sRet (e1 isNonD (eV 0))]) (sB []),
  sIf (tNot (tV (eA (F_q_is_pair) (eL [eV 0, eA (on1 lenD) (eL [eV 1])])))) (sB [sRet (eC (.bl false))]) (sB []),
  sRet (e2 neD (eA (F_q_book_merge) (eL [eV 1, e2 ixD (eV 0) (eC (.int 0)), e2 ixD (eV 0) (eC (.int 1))])) (eA (F_q_book_merge) (eL [eV 1, e2 ixD (eV 0) (eC (.int 1)), e2 ixD (eV 0) (eC (.int 0))])))]
def F_q_shows_v2 : AF := fnT 3 3 b_q_shows_v2
/- _law_dressed: _law_tape_here, _law_path_here, _law_kinds_here, _law_k, _law_n, _law_levels, _law_extra, _law_less, _law_same_here, _law_more, _law_kind, _law_rest -/
def b_q_dressed (F : AF) : AS := sB [sIf (tAnd (tB1 (e2 gtD (eV 5) (eC (.int 0)))) (tB1 (e2 eqD (eA (F_q_take) (eL [eV 0, eC (.int 3)])) (eC (.int 0))))) (sB [sSet 6 (eA (F_q_take) (eL [eV 0, eV 4])),
    sSet 7 (eA (F) (eL [eV 0, eV 1, eV 2, eV 3, eV 4, e2 subD (eV 5) (eC (.int 1))])),
    sSet 8 (eA (F) (eL [eV 0, eV 1, eV 2, eV 3, eV 4, e2 subD (eV 5) (eC (.int 1))])),
    sSet 9 (eA (F) (eL [eV 0, eV 1, eV 2, eV 3, eV 4, e2 subD (eV 5) (eC (.int 1))])),
    sRet (eTup (eL [eV 6, eV 7, eV 8, eV 9]))]) (sB []),
  sSet 10 (e2 ixD (eV 2) (e2 ixD (eV 1) (eV 3))),
  sIf (tB1 (e2 eqD (eV 10) (eC (.str [102, 105, 114, 115, 116])))) (sB [sRet (eC (.str [111, 108, 100, 101, 114]))]) (sB []),
  sIf (tB1 (e2 eqD (eV 10) (eC (.str [108, 97, 115, 116])))) (sB [sRet (eC (.str [110, 101, 119, 101, 114]))]) (sB []),
  sSet 11 (eC (.str [111, 108, 100, 101, 114])),
  sIf (tB1 (e2 ltD (e2 (addD true) (eV 3) (eC (.int 1))) (eA (on1 lenD) (eL [eV 1])))) (sB [sSet 11 (eA (F) (eL [eV 0, eV 1, eV 2, e2 (addD true) (eV 3) (eC (.int 1)), eV 4, eV 5]))]) (sB []),
  sIf (tB1 (e2 eqD (eV 10) (eC (.str [117, 112])))) (sB [sRet (eTup (eL [e2 ixD (eV 1) (eV 3), eC (.str [110, 101, 119, 101, 114]), eV 11, eC (.str [111, 108, 100, 101, 114])]))]) (sB []),
  sRet (eTup (eL [e2 ixD (eV 1) (eV 3), eC (.str [111, 108, 100, 101, 114]), eV 11, eC (.str [110, 101, 119, 101, 114])]))]
def F_q_dressed : Nat → AF
  | 0 => fun _ _ => .no
  | n + 1 => fnT 6 12 (b_q_dressed (F_q_dressed n))
/- _law_trees: _law_script, _law_n, _law_levels, _law_pick, _law_parents_here, _law_kinds_here, _law_f, _law_trees_here, _law_fair, _law_same_here -/
def b_q_trees : AS := sB [sIf (tAnd (tB1 (e2 ltD (eV 3) (eC (.int 3)))) (tB1 (e2 ltD (eV 1) (eC (.int 5))))) (sB [sSet 4 (eA (F_q_parents) (eL [eA (F_q_tape) (eL [eV 0, eC (.int 1)]), eV 1])),
    sSet 5 (eA (F_q_kinds) (eL [eA (F_q_tape) (eL [eV 0, eC (.int 2)]), eV 4, e2 gtD (eV 3) (eC (.int 0))])),
    sRet (eLC false [6] (iR1 (eV 1)) (gV 6) (tYes) (eA (F_q_dressed 12) (eL [eA (F_q_tape) (eL [eV 0, e2 (addD true) (eC (.int 6)) (eV 6)]), eA (F_q_path) (eL [eV 4, eV 6]), eV 5, eC (.int 0), eV 1, eC (.int 2)])))]) (sB []),
  sSet 7 (eLC true [6] (iR1 (eV 1)) (gV 6) (tYes) (eA (F_q_tree 8) (eL [eA (F_q_tape) (eL [eV 0, e2 (addD true) (eC (.int 6)) (eV 6)]), eV 1, eV 2]))),
  sIf (tB1 (e2 eqD (eV 3) (eC (.int 5)))) (sB [sRet (eV 7)]) (sB []),
  sSet 8 (eLst false (eL [])),
  sFor (iR1 (eV 1)) (gV 6) (sB [sSet 9 (eA (F_q_tree 8) (eL [eA (F_q_tape) (eL [eV 0, e2 (addD true) (eC (.int 12)) (eV 6)]), eV 1, eC (.int 1)])),
    sE (eM isLst (mt1 appendD) (eV 8) (eL [eTup (eL [eV 6, e2 ixD (eV 7) (eV 6), eV 9, eA (F_q_mirror 12) (eL [e2 ixD (eV 7) (eV 6)])])]))]),
  sRet (eV 8)]
def F_q_trees : AF := fnK 4 10 b_q_trees
/- _law_turn: _law_tape_here, _law_tree_here, _law_place -/
def b_q_turn (F : AF) : AS := sB [sIf (tB1 (e2 eqD (eV 1) (eC (.str [111, 108, 100, 101, 114])))) (sB [sRet (eC (.str [110, 101, 119, 101, 114]))]) (sB []),
  sIf (tB1 (e2 eqD (eV 1) (eC (.str [110, 101, 119, 101, 114])))) (sB [sRet (eC (.str [111, 108, 100, 101, 114]))]) (sB []),
  sSet 2 (e2 (addD true) (eC (.int 1)) (eA (F_q_take) (eL [eV 0, eC (.int 3)]))),
  sRet (e2 (addD true) (e2 (addD true) (eSl true (eV 1) (oN) (oS (eV 2))) (eTup (eL [eA (F) (eL [eV 0, e2 ixD (eV 1) (eV 2)])]))) (eSl true (eV 1) (oS (e2 (addD true) (eV 2) (eC (.int 1)))) (oN)))]
def F_q_turn : Nat → AF
  | 0 => fun _ _ => .no
  | n + 1 => fnT 2 3 (b_q_turn (F_q_turn n))
/- mirror_tree: tree -/
def b_mirror_tree (F : AF) : AS := sB [sIf (tB1 (e2 eqD (eV 0) (eC (.str [111, 108, 100, 101, 114])))) (sB [sRet (eC (.str [110, 101, 119, 101, 114]))]) (sB []),
  sIf (tB1 (e2 eqD (eV 0) (eC (.str [110, 101, 119, 101, 114])))) (sB [sRet (eC (.str [111, 108, 100, 101, 114]))]) (sB []),
  sIf (tV (e1 (isTy "str") (eV 0))) (sB [sRet (eV 0)]) (sB []),
  sRet (eTup (eL [e2 ixD (eV 0) (eC (.int 0)), eA (F) (eL [e2 ixD (eV 0) (eC (.int 3))]), eA (F) (eL [e2 ixD (eV 0) (eC (.int 2))]), eA (F) (eL [e2 ixD (eV 0) (eC (.int 1))])]))]
def F_mirror_tree : Nat → AF
  | 0 => fun _ _ => .no
  | n + 1 => fnT 1 1 (b_mirror_tree (F_mirror_tree n))
/- mirror_book: book, tree -/
def b_mirror_book : AS := sB [sRet (eA (mkI "Book" true (F_Book_init)) (eL [eLC true [1] (iS (e1 (fldD ["Book"] "trees") (eV 0))) (gV 1) (tYes) (eA (F_mirror_tree 12) (eL [eV 1]))]))]
def F_mirror_book : AF := fnT 1 2 b_mirror_book
/- field_order: field, fields, other -/
def b_field_order : AS := sB [sRet (e2 (addD true) (eTup (eL [eV 0])) (eA (on1 tupD) (eL [eLC true [2] (iR1 (eV 1)) (gV 2) (tB1 (e2 neD (eV 2) (eV 0))) (eV 2)])))]
def F_field_order : AF := fnT 2 3 b_field_order
/- with_sign: row, field, value -/
def b_with_sign : AS := sB [sRet (e2 (addD true) (e2 (addD true) (eSl true (eV 0) (oN) (oS (eV 1))) (eTup (eL [eV 2]))) (eSl true (eV 0) (oS (e2 (addD true) (eV 1) (eC (.int 1)))) (oN)))]
def F_with_sign : AF := fnT 3 3 b_with_sign
/- least_from: tree, field, row, left, less, more, same, alike -/
def b_least_from (F : AF) : AS := sB [sIf (tNot (tV (eV 3))) (sB [sRet (eA (F_follow) (eL [eV 0, eV 2]))]) (sB []),
  sSet 4 (eA (F) (eL [eV 0, eV 1, eA (F_with_sign) (eL [eV 2, e2 ixD (eV 3) (eC (.int 0)), e1 negD (eC (.int 1))]), eSl true (eV 3) (oS (eC (.int 1))) (oN)])),
  sSet 5 (eA (F) (eL [eV 0, eV 1, eA (F_with_sign) (eL [eV 2, e2 ixD (eV 3) (eC (.int 0)), eC (.int 1)]), eSl true (eV 3) (oS (eC (.int 1))) (oN)])),
  sIf (tB1 (e2 eqD (e2 ixD (eV 3) (eC (.int 0))) (eV 1))) (sB [sSet 6 (eC (.str [111, 108, 100, 101, 114])),
    sSet 7 (e2 eqD (eV 4) (eV 5))]) (sB [sSet 6 (eA (F) (eL [eV 0, eV 1, eA (F_with_sign) (eL [eV 2, e2 ixD (eV 3) (eC (.int 0)), eC (.int 0)]), eSl true (eV 3) (oS (eC (.int 1))) (oN)])),
    sSet 7 (eChain eqD eqD (eV 4) (eV 6) (eV 5))]),
  sIf (tV (eV 7)) (sB [sRet (eV 4)]) (sB []),
  sRet (eTup (eL [e2 ixD (eV 3) (eC (.int 0)), eV 4, eV 6, eV 5]))]
def F_least_from : Nat → AF
  | 0 => fun _ _ => .no
  | n + 1 => fnT 4 8 (b_least_from (F_least_from n))
/- least_tree: tree, field, fields, known, left, other -/
def b_least_tree : AS := sB [sSet 3 (eA (F_asked) (eL [eV 0])),
  sSet 4 (eLC true [5] (iS (eA (F_field_order) (eL [eV 1, eV 2]))) (gV 5) (tB1 (e2 inD (eV 5) (eV 3))) (eV 5)),
  sRet (eA (F_least_from 12) (eL [eV 0, eV 1, e2 (mulD true) (eTup (eL [eC (.int 0)])) (eV 2), eA (on1 tupD) (eL [eV 4])]))]
def F_least_tree : AF := fnT 3 6 b_least_tree
/- records_of: row, older, value, newer -/
def b_records_of : AS := sB [sSet 1 (eA (on1 tupD) (eL [eLC true [2] (iS (eV 0)) (gV 2) (tYes) (eA (on2 max2D) (eL [eV 2, eC (.int 0)]))])),
  sSet 3 (eA (on1 tupD) (eL [eLC true [2] (iS (eV 0)) (gV 2) (tYes) (eA (on2 max2D) (eL [e1 negD (eV 2), eC (.int 0)]))])),
  sRet (eTup (eL [eV 1, eV 3]))]
def F_records_of : AF := fnT 1 4 b_records_of
/- next_branch: tree, field, value -/
def b_next_branch : AS := sB [sIf (tOr (tV (e1 (isTy "str") (eV 0))) (tB1 (e2 neD (e2 ixD (eV 0) (eC (.int 0))) (eV 1)))) (sB [sRet (eV 0)]) (sB []),
  sRet (e2 ixD (eV 0) (e2 (addD true) (eC (.int 2)) (eV 2)))]
def F_next_branch : AF := fnT 3 3 b_next_branch
/- unlike_signs: first, second, field, fields, row, place, choices, unlike, value -/
def b_unlike_signs : AS := sB [sSet 4 (e2 (mulD false) (eLst true (eL [eC (.int 0)])) (eV 3)),
  sFor (iS (eA (F_field_order) (eL [eV 2, eV 3]))) (gV 5) (sB [sSet 6 (eTup (eL [eC (.int 0), e1 negD (eC (.int 1)), eC (.int 1)])),
    sIf (tB1 (e2 eqD (eV 5) (eV 2))) (sB [sSet 6 (eTup (eL [e1 negD (eC (.int 1)), eC (.int 1)]))]) (sB []),
    sSet 7 (eLC true [8] (iS (eV 6)) (gV 8) (tB1 (e2 neD (eA (F_next_branch) (eL [eV 0, eV 5, eV 8])) (eA (F_next_branch) (eL [eV 1, eV 5, eV 8])))) (eV 8)),
    sSub setIxD (eV 4) (eV 5) (e2 ixD (eV 7) (eC (.int 0))),
    sSet 0 (eA (F_next_branch) (eL [eV 0, eV 5, e2 ixD (eV 4) (eV 5)])),
    sSet 1 (eA (F_next_branch) (eL [eV 1, eV 5, e2 ixD (eV 4) (eV 5)]))]),
  sRet (eA (on1 tupD) (eL [eV 4]))]
def F_unlike_signs : AF := fnT 4 9 b_unlike_signs
/- differing_pair: first, second, field, one, other -/
def b_differing_pair : AS := sB [sIf (tB1 (e2 neD (e1 (fldD ["Book"] "fields") (eV 0)) (e1 (fldD ["Book"] "fields") (eV 1)))) (sB [sRaise "FieldsDiffer" ["first", "second"] (eL [e1 (fldD ["Book"] "fields") (eV 0), e1 (fldD ["Book"] "fields") (eV 1)])]) (sB []),
  sFor (iR1 (e1 (fldD ["Book"] "fields") (eV 0))) (gV 2) (sB [sSet 3 (eA (F_least_tree) (eL [e2 ixD (e1 (fldD ["Book"] "trees") (eV 0)) (eV 2), eV 2, e1 (fldD ["Book"] "fields") (eV 0)])),
    sSet 4 (eA (F_least_tree) (eL [e2 ixD (e1 (fldD ["Book"] "trees") (eV 1)) (eV 2), eV 2, e1 (fldD ["Book"] "fields") (eV 1)])),
    sIf (tB1 (e2 neD (eV 3) (eV 4))) (sB [sRet (eA (F_records_of) (eL [eA (F_unlike_signs) (eL [eV 3, eV 4, eV 2, e1 (fldD ["Book"] "fields") (eV 0)])]))]) (sB [])]),
  sRet (eC .non)]
def F_differing_pair : AF := fnT 2 5 b_differing_pair
/- unfair_pair: book -/
def b_unfair_pair : AS := sB [sRet (eA (F_differing_pair) (eL [eV 0, eA (F_mirror_book) (eL [eV 0])]))]
def F_unfair_pair : AF := fnT 1 1 b_unfair_pair
/- law: _law_script, _law_tape_here, _law_size, _law_pick, _law_n, _law_levels, _law_trees_here, _law_turned, _law_field, _law_fair, _law_mirrors, _law_tree_here, _law_older, _law_newer, _law_f, _law_actual, _law_book, _law_mirror_here -/
def b_law_k28 : AS := sB [sSet 1 (eA (F_q_tape) (eL [eV 0, eC (.int 0)])),
  sSet 2 (eA (F_q_take) (eL [eV 1, eC (.int 16)])),
  sSet 3 (eA (F_q_take) (eL [eV 1, eC (.int 6)])),
  sSet 4 (e2 (addD true) (eC (.int 1)) (eA (F_q_take) (eL [eV 1, eC (.int 3)]))),
  sSet 5 (eC (.int 3)),
  sIf (tB1 (e2 eqD (eV 2) (eC (.int 0)))) (sB [sSet 4 (e2 (addD true) (eC (.int 5)) (e2 fdivD (eA (F_q_take) (eL [eV 1, eC (.int 4)])) (eC (.int 3)))),
    sSet 5 (eC (.int 1))]) (sB [sIf (tB1 (e2 ltD (eV 2) (eC (.int 3)))) (sB [sSet 4 (eC (.int 4)),
      sSet 5 (eC (.int 2))]) (sB [])]),
  sSet 6 (eA (F_q_trees) (eL [eV 0, eV 4, eV 5, eV 3])),
  sIf (tOr (tB1 (e2 eqD (eV 3) (eC (.int 2)))) (tB1 (e2 eqD (eV 3) (eC (.int 4))))) (sB [sSet 7 (eA (F_q_tape) (eL [eV 0, eC (.int 3)])),
    sSet 8 (eA (F_q_take) (eL [eV 7, eV 4])),
    sSub setIxD (eV 6) (eV 8) (eA (F_q_turn 12) (eL [eV 7, e2 ixD (eV 6) (eV 8)]))]) (sB []),
  sSet 9 (eA (F_q_is_fair) (eL [eV 6])),
  sSet 10 (eLC true [11] (iS (eV 6)) (gV 11) (tYes) (eA (F_q_mirror 12) (eL [eV 11]))),
  sSet 12 (eA (F_q_record) (eL [eA (F_q_tape) (eL [eV 0, eC (.int 4)]), eV 4, eC (.int 3)])),
  sSet 13 (eA (F_q_record) (eL [eA (F_q_tape) (eL [eV 0, eC (.int 5)]), eV 4, eC (.int 3)])),
  sFor (iR1 (eV 4)) (gV 14) (sB [sSet 15 (eA (F_mirror_tree 12) (eL [e2 ixD (eV 6) (eV 14)])),
    sIf (tOr (tNot (tV (eA (F_q_same_v5 30) (eL [eV 15, e2 ixD (eV 10) (eV 14)])))) (tNot (tV (eA (F_q_same_v5 30) (eL [eA (F_mirror_tree 12) (eL [eV 15]), e2 ixD (eV 6) (eV 14)]))))) (sB [sRet (eC (.bl false))]) (sB [])]),
  sSet 16 (eA (mkI "Book" true (F_Book_init)) (eL [eA (on1 (listD true)) (eL [eV 6])])),
  sIf (tNot (tV (eA (F_q_shows_v2) (eL [eA (F_unfair_pair) (eL [eV 16]), eV 6, eV 9])))) (sB [sRet (eC (.bl false))]) (sB []),
  sSet 17 (eA (F_mirror_book) (eL [eV 16])),
  sIf (tOr (tNot (tV (eA (F_q_has_trees) (eL [eV 17, eV 10])))) (tNot (tV (eA (F_q_shows_v2) (eL [eA (F_unfair_pair) (eL [eV 17]), eV 10, eV 9]))))) (sB [sRet (eC (.bl false))]) (sB []),
  sSet 15 (eCal [("Book", F_Book_call)] (eV 17) (eL [eV 12, eV 13])),
  sIf (tOr (tNot (tV (eA (F_q_is_record) (eL [eV 15, eV 4])))) (tB1 (e2 neD (eV 15) (eA (F_q_book_merge) (eL [eV 6, eV 13, eV 12]))))) (sB [sRet (eC (.bl false))]) (sB []),
  sIf (tOr (tNot (tV (eA (F_q_merges) (eL [eV 17, eV 10, eV 12, eV 13])))) (tNot (tV (eA (F_q_merges) (eL [eV 16, eV 6, eV 12, eV 13]))))) (sB [sRet (eC (.bl false))]) (sB []),
  sRet (eAnd (eA (F_q_shows_v2) (eL [eA (F_unfair_pair) (eL [eV 16]), eV 6, eV 9])) (eA (F_q_has_trees) (eL [eV 16, eV 6])))]
def F_law_k28 : AF := fnT 1 18 b_law_k28
end Sm
end

section
set_option linter.all false
/-! k27: plain computations (printed by gen2.py) -/
namespace Sm
/- _law_padded: _law_tape_here, _law_tree_here, _law_field, _law_known, _law_levels, _law_extra, _law_place, _law_branches, _law_s, _law_fixed -/
def b_q_padded (F : AF) : AS := sB [sIf (tAnd (tB1 (e2 gtD (eV 4) (eC (.int 0)))) (tB1 (e2 eqD (eA (F_q_take) (eL [eV 0, eC (.int 3)])) (eC (.int 0))))) (sB [sSet 5 (eA (F_q_take) (eL [eV 0, eA (on1 lenD) (eL [eV 3])])),
    sSet 1 (eTup (eL [eV 5, eV 1, eV 1, eV 1])),
    sSet 4 (e2 subD (eV 4) (eC (.int 1)))]) (sB []),
  sIf (tV (e1 (isTy "str") (eV 1))) (sB [sRet (eV 1)]) (sB []),
  sSet 6 (e2 ixD (eV 1) (eC (.int 0))),
  sIf (tAnd (tB1 (e1 notNonD (e2 ixD (eV 3) (eV 6)))) (tB1 (e2 eqD (eA (F_q_take) (eL [eV 0, eC (.int 2)])) (eC (.int 0))))) (sB [sRet (eA (F) (eL [eV 0, e2 ixD (eV 1) (e2 (addD true) (eC (.int 2)) (e2 ixD (eV 3) (eV 6))), eV 2, eV 3, eV 4]))]) (sB []),
  sSet 7 (eLst false (eL [])),
  sFor (iS (eLst true (eL [e2 subD (eC (.int 0)) (eC (.int 1)), eC (.int 0), eC (.int 1)]))) (gV 8) (sB [sIf (tOr (tAnd (tB1 (e2 eqD (eV 6) (eV 2))) (tB1 (e2 eqD (eV 8) (eC (.int 0))))) (tAnd (tB1 (e1 notNonD (e2 ixD (eV 3) (eV 6)))) (tB1 (e2 neD (e2 ixD (eV 3) (eV 6)) (eV 8))))) (sB [sE (eM isLst (mt1 appendD) (eV 7) (eL [eA (F_q_tree 8) (eL [eV 0, eA (on1 lenD) (eL [eV 3]), eC (.int 1)])]))]) (sB [sSet 9 (e2 (addD true) (e2 (addD true) (eSl true (eV 3) (oN) (oS (eV 6))) (eLst true (eL [eV 8]))) (eSl true (eV 3) (oS (e2 (addD true) (eV 6) (eC (.int 1)))) (oN))),
      sE (eM isLst (mt1 appendD) (eV 7) (eL [eA (F) (eL [eV 0, e2 ixD (eV 1) (e2 (addD true) (eC (.int 2)) (eV 8)), eV 2, eV 9, eV 4])]))])]),
  sRet (eTup (eL [eV 6, e2 ixD (eV 7) (eC (.int 0)), e2 ixD (eV 7) (eC (.int 1)), e2 ixD (eV 7) (eC (.int 2))]))]
def F_q_padded : Nat → AF
  | 0 => fun _ _ => .no
  | n + 1 => fnT 5 10 (b_q_padded (F_q_padded n))
/- _law_books: _law_script, _law_n, _law_levels, _law_pick, _law_parents_here, _law_kinds_here, _law_paths, _law_f, _law_first, _law_second, _law_fields, _law_g, _law_tape_here, _law_field -/
def b_q_books : AS := sB [sIf (tAnd (tB1 (e2 ltD (eV 3) (eC (.int 2)))) (tB1 (e2 ltD (eV 1) (eC (.int 5))))) (sB [sSet 4 (eA (F_q_parents) (eL [eA (F_q_tape) (eL [eV 0, eC (.int 1)]), eV 1])),
    sSet 5 (eA (F_q_kinds) (eL [eA (F_q_tape) (eL [eV 0, eC (.int 2)]), eV 4, eC (.bl false)])),
    sSet 6 (eLC true [7] (iR1 (eV 1)) (gV 7) (tYes) (eA (F_q_path) (eL [eV 4, eV 7]))),
    sSet 8 (eLC true [7] (iR1 (eV 1)) (gV 7) (tYes) (eA (F_q_dressed 12) (eL [eA (F_q_tape) (eL [eV 0, e2 (addD true) (eC (.int 4)) (eV 7)]), e2 ixD (eV 6) (eV 7), eV 5, eC (.int 0), eV 1, eC (.int 2)]))),
    sSet 9 (eLC false [7] (iR1 (eV 1)) (gV 7) (tYes) (eA (F_q_dressed 12) (eL [eA (F_q_tape) (eL [eV 0, e2 (addD true) (eC (.int 10)) (eV 7)]), e2 ixD (eV 6) (eV 7), eV 5, eC (.int 0), eV 1, eC (.int 2)])))]) (sB [sSet 8 (eLC true [7] (iR1 (eV 1)) (gV 7) (tYes) (eA (F_q_tree 8) (eL [eA (F_q_tape) (eL [eV 0, e2 (addD true) (eC (.int 4)) (eV 7)]), eV 1, eV 2]))),
    sSet 10 (eLC true [11] (iR1 (eV 1)) (gV 11) (tYes) (eC .non)),
    sSet 9 (eLC false [7] (iR1 (eV 1)) (gV 7) (tYes) (eA (F_q_padded 12) (eL [eA (F_q_tape) (eL [eV 0, e2 (addD true) (eC (.int 10)) (eV 7)]), e2 ixD (eV 8) (eV 7), eV 7, eV 10, e2 fdivD (e2 (addD true) (eV 2) (eC (.int 1))) (eC (.int 2))])))]),
  sIf (tOr (tB1 (e2 eqD (eV 3) (eC (.int 1)))) (tB1 (e2 eqD (eV 3) (eC (.int 3))))) (sB [sSet 12 (eA (F_q_tape) (eL [eV 0, eC (.int 3)])),
    sSet 13 (eA (F_q_take) (eL [eV 12, eV 1])),
    sSub setIxD (eV 9) (eV 13) (eA (F_q_turn 12) (eL [eV 12, e2 ixD (eV 9) (eV 13)]))]) (sB []),
  sIf (tB1 (e2 eqD (eV 3) (eC (.int 4)))) (sB [sSet 9 (eLC false [7] (iR1 (eV 1)) (gV 7) (tYes) (eA (F_q_tree 8) (eL [eA (F_q_tape) (eL [eV 0, e2 (addD true) (eC (.int 10)) (eV 7)]), eV 1, eV 2])))]) (sB []),
  sRet (eLst true (eL [eV 8, eV 9]))]
def F_q_books : AF := fnT 4 14 b_q_books
/- _law_is_least: _law_tree_here, _law_left, _law_field, _law_rest, _law_k -/
def b_q_is_least (F : AF) : AS := sB [sIf (tV (e1 (isTy "str") (eV 0))) (sB [sRet (eOr (e2 eqD (eV 0) (eC (.str [111, 108, 100, 101, 114]))) (e2 eqD (eV 0) (eC (.str [110, 101, 119, 101, 114]))))]) (sB []),
  sIf (tOr (tNot (tV (e1 (isTy "tuple") (eV 0)))) (tOr (tB1 (e2 neD (eA (on1 lenD) (eL [eV 0])) (eC (.int 4)))) (tOr (tNot (tV (eA (F_q_is_integer) (eL [e2 ixD (eV 0) (eC (.int 0))])))) (tB1 (e2 notInD (e2 ixD (eV 0) (eC (.int 0))) (eV 1)))))) (sB [sRet (eC (.bl false))]) (sB []),
  sSet 3 (eSl true (eV 1) (oS (e2 (addD true) (eM isLst (mt1 indexD) (eV 1) (eL [e2 ixD (eV 0) (eC (.int 0))])) (eC (.int 1)))) (oN)),
  sFor (iR2 (eC (.int 1)) (eC (.int 4))) (gV 4) (sB [sIf (tNot (tV (eA (F) (eL [e2 ixD (eV 0) (eV 4), eV 3, eV 2])))) (sB [sRet (eC (.bl false))]) (sB [])]),
  sIf (tB1 (e2 eqD (e2 ixD (eV 0) (eC (.int 0))) (eV 2))) (sB [sRet (eAnd (e2 eqD (e2 ixD (eV 0) (eC (.int 2))) (eC (.str [111, 108, 100, 101, 114]))) (e1 notD (eA (F_q_same_v5 30) (eL [e2 ixD (eV 0) (eC (.int 1)), e2 ixD (eV 0) (eC (.int 3))]))))]) (sB []),
  sRet (eOr (e1 notD (eA (F_q_same_v5 30) (eL [e2 ixD (eV 0) (eC (.int 1)), e2 ixD (eV 0) (eC (.int 2))]))) (e1 notD (eA (F_q_same_v5 30) (eL [e2 ixD (eV 0) (eC (.int 2)), e2 ixD (eV 0) (eC (.int 3))]))))]
def F_q_is_least : Nat → AF
  | 0 => fun _ _ => .no
  | n + 1 => fnT 3 5 (b_q_is_least (F_q_is_least n))
/- _law_is_least_book: _law_book, _law_n, _law_field, _law_g -/
def b_q_is_least_book : AS := sB [sIf (tOr (tNot (tV (e1 (isClsD "Book") (eV 0)))) (tOr (tNot (tV (eA (F_q_is_integer) (eL [e1 (fldD ["Book"] "fields") (eV 0)])))) (tB1 (e2 neD (e1 (fldD ["Book"] "fields") (eV 0)) (eV 1))))) (sB [sRet (eC (.bl false))]) (sB []),
  sIf (tOr (tNot (tV (e1 (isTy "tuple") (e1 (fldD ["Book"] "trees") (eV 0))))) (tB1 (e2 neD (eA (on1 lenD) (eL [e1 (fldD ["Book"] "trees") (eV 0)])) (eV 1)))) (sB [sRet (eC (.bl false))]) (sB []),
  sFor (iR1 (eV 1)) (gV 2) (sB [sIf (tNot (tV (eA (F_q_is_least 12) (eL [e2 ixD (e1 (fldD ["Book"] "trees") (eV 0)) (eV 2), e2 (addD true) (eLst true (eL [eV 2])) (eLC true [3] (iR1 (eV 1)) (gV 3) (tB1 (e2 neD (eV 3) (eV 2))) (eV 3)), eV 2])))) (sB [sRet (eC (.bl false))]) (sB [])]),
  sRet (eC (.bl true))]
def F_q_is_least_book : AF := fnT 2 4 b_q_is_least_book
/- _law_shows: _law_actual, _law_first, _law_second, _law_alike -/
def b_q_shows_v3 : AS := sB [sIf (tV (eV 3)) (sB [sRet (e1 isNonD (eV 0))]) (sB []),
  sIf (tNot (tV (eA (F_q_is_pair) (eL [eV 0, eA (on1 lenD) (eL [eV 1])])))) (sB [sRet (eC (.bl false))]) (sB []),
  sRet (e2 neD (eA (F_q_book_merge) (eL [eV 1, e2 ixD (eV 0) (eC (.int 0)), e2 ixD (eV 0) (eC (.int 1))])) (eA (F_q_book_merge) (eL [eV 2, e2 ixD (eV 0) (eC (.int 0)), e2 ixD (eV 0) (eC (.int 1))])))]
def F_q_shows_v3 : AF := fnT 4 4 b_q_shows_v3
/- _law_sides: _law_trees, _law_sides_here, _law_rows_here, _law_field, _law_row -/
def b_q_sides : AS := sB [sSet 1 (eLst false (eL [])),
  sSet 2 (eA (F_q_rows) (eL [eA (on1 lenD) (eL [eV 0])])),
  sFor (iR1 (eA (on1 lenD) (eL [eV 0]))) (gV 3) (sB [sE (eM isLst (mt1 appendD) (eV 1) (eL [eLC true [4] (iS (eV 2)) (gV 4) (tB1 (e2 neD (e2 ixD (eV 4) (eV 3)) (eC (.int 0)))) (eA (F_q_follow) (eL [e2 ixD (eV 0) (eV 3), eV 4]))]))]),
  sRet (eV 1)]
def F_q_sides : AF := fnT 1 5 b_q_sides
/- _law_refuses: _law_first, _law_second, _law_n, _law_m, e -/
def b_q_refuses_v7 : AS := sB [sTryAs [("BadRecord", true), ("BadTree", true), ("FieldsDiffer", true), ("WordsClash", true), ("ForestsDiffer", true)] 4 (sB [sE (eA (F_differing_pair) (eL [eV 0, eV 1]))]) (fun x => sB [sIf (tOr (tNot (tV (eXis x [("BadRecord", false), ("BadTree", false), ("FieldsDiffer", true), ("WordsClash", false), ("ForestsDiffer", false)]))) (tNot (tV (eXis x [("BadRecord", true), ("BadTree", true), ("FieldsDiffer", true), ("WordsClash", true), ("ForestsDiffer", true)])))) (sB [sRet (eC (.bl false))]) (sB []),
    sIf (tOr (tV (eXis x [("BadRecord", false), ("BadTree", false), ("FieldsDiffer", false), ("WordsClash", false), ("ForestsDiffer", true)])) (tOr (tV (eXis x [("BadRecord", false), ("BadTree", false), ("FieldsDiffer", false), ("WordsClash", true), ("ForestsDiffer", false)])) (tV (eXis x [("BadRecord", false), ("BadTree", true), ("FieldsDiffer", false), ("WordsClash", false), ("ForestsDiffer", false)])))) (sB [sRet (eC (.bl false))]) (sB []),
    sIf (tOr (tNot (tV (eA (F_q_is_integer) (eL [eXf ["FieldsDiffer", "WordsClash"] x "first"])))) (tNot (tV (eA (F_q_is_integer) (eL [eXf ["FieldsDiffer", "WordsClash"] x "second"]))))) (sB [sRet (eC (.bl false))]) (sB []),
    sRet (eAnd (e2 eqD (eXf ["FieldsDiffer", "WordsClash"] x "first") (eV 2)) (e2 eqD (eXf ["FieldsDiffer", "WordsClash"] x "second") (eV 3)))]),
  sRet (eC (.bl false))]
def F_q_refuses_v7 : AF := fnT 4 5 b_q_refuses_v7
/- _law_unlike_numbers: _law_script, _law_tape_here, _law_n, _law_m, _law_first, _law_f, _law_second -/
def b_q_unlike_numbers : AS := sB [sSet 3 (e2 (addD true) (eC (.int 1)) (e2 modD (eA (on1 intD) (eL [e2 (addD true) (eV 2) (eA (F_q_take) (eL [eV 1, eC (.int 5)]))])) (eC (.int 6)))),
  sSet 4 (eA (mkI "Book" true (F_Book_init)) (eL [eLC true [5] (iR1 (eV 2)) (gV 5) (tYes) (eA (F_q_tree 8) (eL [eA (F_q_tape) (eL [eV 0, e2 (addD true) (eC (.int 4)) (eV 5)]), eV 2, eC (.int 2)]))])),
  sSet 6 (eA (mkI "Book" true (F_Book_init)) (eL [eLC true [5] (iR1 (eV 3)) (gV 5) (tYes) (eA (F_q_tree 8) (eL [eA (F_q_tape) (eL [eV 0, e2 (addD true) (eC (.int 10)) (eV 5)]), eV 3, eC (.int 2)]))])),
  sIf (tOr (tNot (tV (eA (F_q_refuses_v7) (eL [eV 4, eV 6, eV 2, eV 3])))) (tNot (tV (eA (F_q_refuses_v7) (eL [eV 6, eV 4, eV 3, eV 2]))))) (sB [sRet (eC (.bl false))]) (sB []),
  sRet (eAnd (e1 isNonD (eA (F_differing_pair) (eL [eV 4, eV 4]))) (e1 isNonD (eA (F_differing_pair) (eL [eV 6, eV 6]))))]
def F_q_unlike_numbers : AF := fnT 3 7 b_q_unlike_numbers
/- least_book: book, field -/
def b_least_book : AS := sB [sRet (eA (mkI "Book" true (F_Book_init)) (eL [eLC true [1] (iR1 (e1 (fldD ["Book"] "fields") (eV 0))) (gV 1) (tYes) (eA (F_least_tree) (eL [e2 ixD (e1 (fldD ["Book"] "trees") (eV 0)) (eV 1), eV 1, e1 (fldD ["Book"] "fields") (eV 0)]))]))]
def F_least_book : AF := fnT 1 2 b_least_book
/- law: _law_script, _law_tape_here, _law_size, _law_pick, _law_n, _law_levels, _law_pair, _law_sides_here, _law_alike, _law_first, _law_second, _law_least -/
def b_law_k27 : AS := sB [sSet 1 (eA (F_q_tape) (eL [eV 0, eC (.int 0)])),
  sSet 2 (eA (F_q_take) (eL [eV 1, eC (.int 16)])),
  sSet 3 (eA (F_q_take) (eL [eV 1, eC (.int 6)])),
  sSet 4 (e2 (addD true) (eC (.int 1)) (eA (F_q_take) (eL [eV 1, eC (.int 3)]))),
  sSet 5 (eC (.int 3)),
  sIf (tB1 (e2 eqD (eV 2) (eC (.int 0)))) (sB [sSet 4 (e2 (addD true) (eC (.int 5)) (e2 fdivD (eA (F_q_take) (eL [eV 1, eC (.int 4)])) (eC (.int 3)))),
    sSet 5 (eC (.int 1))]) (sB [sIf (tB1 (e2 ltD (eV 2) (eC (.int 3)))) (sB [sSet 4 (eC (.int 4)),
      sSet 5 (eC (.int 2))]) (sB [])]),
  sIf (tB1 (e2 eqD (eV 3) (eC (.int 5)))) (sB [sRet (eA (F_q_unlike_numbers) (eL [eV 0, eV 1, eV 4]))]) (sB []),
  sSet 6 (eA (F_q_books) (eL [eV 0, eV 4, eV 5, eV 3])),
  sSet 7 (eA (F_q_sides) (eL [e2 ixD (eV 6) (eC (.int 0))])),
  sSet 8 (e2 eqD (eV 7) (eA (F_q_sides) (eL [e2 ixD (eV 6) (eC (.int 1))]))),
  sSet 9 (eA (mkI "Book" true (F_Book_init)) (eL [eA (on1 (listD true)) (eL [e2 ixD (eV 6) (eC (.int 0))])])),
  sSet 10 (eA (mkI "Book" true (F_Book_init)) (eL [eA (on1 (listD true)) (eL [e2 ixD (eV 6) (eC (.int 1))])])),
  sIf (tB1 (e1 notNonD (eA (F_differing_pair) (eL [eV 9, eV 9])))) (sB [sRet (eC (.bl false))]) (sB []),
  sIf (tNot (tV (eA (F_q_shows_v3) (eL [eA (F_differing_pair) (eL [eV 9, eV 10]), e2 ixD (eV 6) (eC (.int 0)), e2 ixD (eV 6) (eC (.int 1)), eV 8])))) (sB [sRet (eC (.bl false))]) (sB []),
  sIf (tOr (tB1 (e1 notNonD (eA (F_differing_pair) (eL [eV 9, eV 9])))) (tAnd (tB1 (e2 ltD (eV 4) (eC (.int 5)))) (tB1 (e1 notNonD (eA (F_differing_pair) (eL [eV 10, eV 10])))))) (sB [sRet (eC (.bl false))]) (sB []),
  sIf (tNot (tV (eA (F_q_shows_v3) (eL [eA (F_differing_pair) (eL [eV 10, eV 9]), e2 ixD (eV 6) (eC (.int 1)), e2 ixD (eV 6) (eC (.int 0)), eV 8])))) (sB [sRet (eC (.bl false))]) (sB []),
  sSet 11 (eA (F_least_book) (eL [eV 9])),
  sIf (tOr (tNot (tV (eA (F_q_is_least_book) (eL [eV 11, eV 4])))) (tAnd (tB1 (e2 ltD (eV 4) (eC (.int 5)))) (tB1 (e2 neD (eA (F_q_sides) (eL [eA (on1 (listD true)) (eL [e1 (fldD ["Book"] "trees") (eV 11)])])) (eV 7))))) (sB [sRet (eC (.bl false))]) (sB []),
  sIf (tNot (tV (eA (F_q_shows_v3) (eL [eA (F_differing_pair) (eL [eV 9, eA (F_least_book) (eL [eV 10])]), e2 ixD (eV 6) (eC (.int 0)), e2 ixD (eV 6) (eC (.int 1)), eV 8])))) (sB [sRet (eC (.bl false))]) (sB []),
  sIf (tNot (tV (eA (F_q_shows_v3) (eL [eA (F_differing_pair) (eL [eV 9, eV 10]), e2 ixD (eV 6) (eC (.int 0)), e2 ixD (eV 6) (eC (.int 1)), eV 8])))) (sB [sRet (eC (.bl false))]) (sB []),
  sRet (eAnd (eA (F_q_has_trees) (eL [eV 9, e2 ixD (eV 6) (eC (.int 0))])) (eA (F_q_has_trees) (eL [eV 10, e2 ixD (eV 6) (eC (.int 1))])))]
def F_law_k27 : AF := fnT 1 12 b_law_k27
end Sm
end

section
set_option linter.all false
/-! k26: plain computations (printed by gen2.py) -/
namespace Sm
/- _law_needed: _law_tree_here, _law_field, _law_n, _law_sides, _law_row, _law_rows_here, _law_needed_here, _law_g -/
def b_q_needed : AS := sB [sSet 3 (eNewT),
  sFor (iS (eA (F_q_rows) (eL [eV 2]))) (gV 4) (sB [sIf (tB1 (e2 neD (e2 ixD (eV 4) (eV 1)) (eC (.int 0)))) (sB [sSub setTD (eV 3) (eV 4) (eA (F_q_follow) (eL [eV 0, eV 4]))]) (sB [])]),
  sSet 5 (eKeysT 3 4),
  sSet 6 (eLst false (eL [])),
  sFor (iR1 (eV 2)) (gV 7) (sB [sFor (iS (eV 5)) (gV 4) (sB [sIf (tB1 (e2 neD (e2 ixTD (eV 3) (eV 4)) (e2 ixTD (eV 3) (e2 (addD true) (e2 (addD true) (eSl true (eV 4) (oN) (oS (eV 7))) (eTup (eL [e2 subD (eC (.int 0)) (eC (.int 1))]))) (eSl true (eV 4) (oS (e2 (addD true) (eV 7) (eC (.int 1)))) (oN)))))) (sB [sE (eM isLst (mt1 appendD) (eV 6) (eL [eV 7])),
        sBrk]) (sB [])])]),
  sRet (eV 6)]
def F_q_needed : AF := fnT 3 8 b_q_needed
/- needed_fields: tree, field, fields -/
def b_needed_fields : AS := sB [sRet (eA (F_asked) (eL [eA (F_least_tree) (eL [eV 0, eV 1, eV 2])]))]
def F_needed_fields : AF := fnT 3 3 b_needed_fields
/- law: _law_script, _law_tape_here, _law_n, _law_field, _law_tree_here, _law_g, _law_place, _law_actual -/
def b_law_k26 : AS := sB [sSet 1 (eA (F_q_tape) (eL [eV 0, eC (.int 0)])),
  sSet 2 (e2 (addD true) (eC (.int 1)) (eA (F_q_take) (eL [eV 1, eC (.int 4)]))),
  sIf (tB1 (e2 eqD (eA (F_q_take) (eL [eV 1, eC (.int 8)])) (eC (.int 0)))) (sB [sSet 2 (e2 (addD true) (eC (.int 5)) (e2 fdivD (eA (F_q_take) (eL [eV 1, eC (.int 8)])) (eC (.int 7))))]) (sB []),
  sSet 3 (eA (F_q_take) (eL [eV 1, eV 2])),
  sSet 4 (eA (F_q_tree 8) (eL [eA (F_q_tape) (eL [eV 0, eC (.int 1)]), eV 2, eC (.int 3)])),
  sIf (tB1 (e2 eqD (eA (F_q_take) (eL [eV 1, eC (.int 2)])) (eC (.int 0)))) (sB [sSet 4 (eA (F_q_padded 12) (eL [eA (F_q_tape) (eL [eV 0, eC (.int 2)]), eV 4, eV 3, eLC true [5] (iR1 (eV 2)) (gV 5) (tYes) (eC .non), eC (.int 2)]))]) (sB []),
  sFor (iS (eLst true (eL [eV 3, e2 modD (eA (on1 intD) (eL [e2 (addD true) (eV 3) (eC (.int 1))])) (eV 2), eV 3]))) (gV 6) (sB [sSet 7 (eA (F_needed_fields) (eL [eV 4, eV 6, eV 2])),
    sIf (tOr (tNot (tV (eA (F_q_is_ascending) (eL [eV 7, eV 2])))) (tB1 (e2 neD (eA (on1 (listD true)) (eL [eV 7])) (eA (F_q_needed) (eL [eV 4, eV 6, eV 2]))))) (sB [sRet (eC (.bl false))]) (sB [])]),
  sRet (eC (.bl true))]
def F_law_k26 : AF := fnT 1 8 b_law_k26
end Sm
end

section
set_option linter.all false
set_option maxRecDepth 10000
/-! Pl: how the plain computations run (no model in sight). -/
namespace Sm
section
variable {e : Env} {h : AH}
/-! continuations by name: simp does not look into them before their turn -/
def kV : Option (Option D) → AH → R D := fun o h => match o with
  | some (some d) => .ok d h
  | _ => .no
@[simp] theorem kV_s (d : D) : kV (some (some d)) h = .ok d h := rfl
@[simp] theorem eV_def (i : Nat) : eV i e h = kV e[i]? h := by unfold eV kV; rfl
@[simp] theorem eC_def (d : D) : eC d e h = .ok d h := rfl
@[simp] theorem e1_def (f : D → AH → R D) (a : AE) : e1 f a e h = (a e h).bind f := rfl
def k2b (f : D → D → AH → R D) (x : D) : D → AH → R D := fun y h => f x y h
@[simp] theorem k2b_def (f : D → D → AH → R D) (x y : D) : k2b f x y h = f x y h := rfl
def k2 (f : D → D → AH → R D) (b : AE) (e : Env) : D → AH → R D := fun x h => (b e h).bind (k2b f x)
@[simp] theorem k2_def (f : D → D → AH → R D) (b : AE) (x : D) : k2 f b e x h = (b e h).bind (k2b f x) := rfl
@[simp] theorem e2_def (f : D → D → AH → R D) (a b : AE) : e2 f a b e h = (a e h).bind (k2 f b e) := rfl
def kcons (x : D) : List D → AH → R (List D) := fun xs h => .ok (x :: xs) h
@[simp] theorem kcons_def (x : D) (xs : List D) : kcons x xs h = .ok (x :: xs) h := rfl
def kL (as : List AE) (e : Env) : D → AH → R (List D) := fun x h => (eL as e h).bind (kcons x)
@[simp] theorem kL_def (as : List AE) (x : D) : kL as e x h = (eL as e h).bind (kcons x) := rfl
@[simp] theorem eL_nil : eL [] e h = .ok [] h := rfl
@[simp] theorem eL_cons (a : AE) (as : List AE) : eL (a :: as) e h = (a e h).bind (kL as e) := rfl
@[simp] theorem eA_def (f : List D → AH → R D) (as : AA) : eA f as e h = (as e h).bind f := rfl
def kIf (a b : AE) (e : Env) : Bool → AH → R D := fun c h => if c then a e h else b e h
@[simp] theorem kIf_t (a b : AE) : kIf a b e true h = a e h := rfl
@[simp] theorem kIf_f (a b : AE) : kIf a b e false h = b e h := rfl
@[simp] theorem eIf_def (t : AB) (a b : AE) : eIf t a b e h = (t e h).bind (kIf a b e) := rfl
def kAnd (b : AE) (e : Env) : D → AH → R D := fun x h1 => match x with
  | .bl true => b e h1
  | .bl false => .ok (.bl false) h1
  | _ => .no
@[simp] theorem kAnd_t (b : AE) : kAnd b e (.bl true) h = b e h := rfl
@[simp] theorem kAnd_f (b : AE) : kAnd b e (.bl false) h = .ok (.bl false) h := rfl
@[simp] theorem eAnd_def (a b : AE) : eAnd a b e h = (a e h).bind (kAnd b e) := rfl
def kOr (b : AE) (e : Env) : D → AH → R D := fun x h1 => match x with
  | .bl true => .ok (.bl true) h1
  | .bl false => b e h1
  | _ => .no
@[simp] theorem kOr_t (b : AE) : kOr b e (.bl true) h = .ok (.bl true) h := rfl
@[simp] theorem kOr_f (b : AE) : kOr b e (.bl false) h = b e h := rfl
@[simp] theorem eOr_def (a b : AE) : eOr a b e h = (a e h).bind (kOr b e) := rfl
def kC2 (g : D → D → AH → R D) (c : AE) (e : Env) (y : D) : D → AH → R D := fun z h3 => match z with
  | .bl true => (c e h3).bind (k2b g y)
  | .bl false => .ok (.bl false) h3
  | _ => .no
@[simp] theorem kC2_t (g : D → D → AH → R D) (c : AE) (y : D) : kC2 g c e y (.bl true) h = (c e h).bind (k2b g y) := rfl
@[simp] theorem kC2_f (g : D → D → AH → R D) (c : AE) (y : D) : kC2 g c e y (.bl false) h = .ok (.bl false) h := rfl
def kC1 (f g : D → D → AH → R D) (c : AE) (e : Env) (x : D) : D → AH → R D := fun y h2 => (f x y h2).bind (kC2 g c e y)
@[simp] theorem kC1_def (f g : D → D → AH → R D) (c : AE) (x y : D) : kC1 f g c e x y h = (f x y h).bind (kC2 g c e y) := rfl
def kC0 (f g : D → D → AH → R D) (b c : AE) (e : Env) : D → AH → R D := fun x h1 => (b e h1).bind (kC1 f g c e x)
@[simp] theorem kC0_def (f g : D → D → AH → R D) (b c : AE) (x : D) : kC0 f g b c e x h = (b e h).bind (kC1 f g c e x) := rfl
@[simp] theorem eChain_def (f g : D → D → AH → R D) (a b c : AE) : eChain f g a b c e h = (a e h).bind (kC0 f g b c e) := rfl
@[simp] theorem notD_def (b : Bool) : notD (.bl b) h = .ok (.bl (!b)) h := rfl
@[simp] theorem tB_def (b : Bool) : tB (.bl b) = some b := rfl
def kB : D → AH → R Bool := fun d h => R.of (tB d) h
@[simp] theorem kB_def (b : Bool) : kB (.bl b) h = .ok b h := rfl
@[simp] theorem tB1_def (a : AE) : tB1 a e h = (a e h).bind kB := rfl
def kTr : D → AH → R Bool := fun d h => R.of (truth h d) h
@[simp] theorem kTr_def (d : D) : kTr d h = R.of (truth h d) h := rfl
@[simp] theorem tV_def (a : AE) : tV a e h = (a e h).bind kTr := rfl
def kN : Bool → AH → R Bool := fun c h => .ok (!c) h
@[simp] theorem kN_def (c : Bool) : kN c h = .ok (!c) h := rfl
@[simp] theorem tNot_def (t : AB) : tNot t e h = (t e h).bind kN := rfl
def kTA (u : AB) (e : Env) : Bool → AH → R Bool := fun c h => if c then u e h else .ok false h
@[simp] theorem kTA_t (u : AB) : kTA u e true h = u e h := rfl
@[simp] theorem kTA_f (u : AB) : kTA u e false h = .ok false h := rfl
@[simp] theorem tAnd_def (t u : AB) : tAnd t u e h = (t e h).bind (kTA u e) := rfl
def kTO (u : AB) (e : Env) : Bool → AH → R Bool := fun c h => if c then .ok true h else u e h
@[simp] theorem kTO_t (u : AB) : kTO u e true h = .ok true h := rfl
@[simp] theorem kTO_f (u : AB) : kTO u e false h = u e h := rfl
@[simp] theorem tOr_def (t u : AB) : tOr t u e h = (t e h).bind (kTO u e) := rfl
@[simp] theorem tYes_def : tYes e h = .ok true h := rfl
@[simp] theorem oN_def : oN e h = .ok none h := rfl
def kO : D → AH → R (Option Int) := fun d h => match d with
  | .int i => .ok (some i) h
  | _ => .no
@[simp] theorem kO_def (i : Int) : kO (.int i) h = .ok (some i) h := rfl
@[simp] theorem oS_def (a : AE) : oS a e h = (a e h).bind kO := rfl
def kS3 (fz : Bool) (x : D) (l : Option Int) : Option Int → AH → R D := fun u h => slD fz x l u h
@[simp] theorem kS3_def (fz : Bool) (x : D) (l u : Option Int) : kS3 fz x l u h = slD fz x l u h := rfl
def kS2 (fz : Bool) (hi : AO1) (e : Env) (x : D) : Option Int → AH → R D := fun l h => (hi e h).bind (kS3 fz x l)
@[simp] theorem kS2_def (fz : Bool) (hi : AO1) (x : D) (l : Option Int) : kS2 fz hi e x l h = (hi e h).bind (kS3 fz x l) := rfl
def kS1 (fz : Bool) (lo hi : AO1) (e : Env) : D → AH → R D := fun x h => (lo e h).bind (kS2 fz hi e x)
@[simp] theorem kS1_def (fz : Bool) (lo hi : AO1) (x : D) : kS1 fz lo hi e x h = (lo e h).bind (kS2 fz hi e x) := rfl
@[simp] theorem eSl_def (fz : Bool) (a : AE) (lo hi : AO1) : eSl fz a lo hi e h = (a e h).bind (kS1 fz lo hi e) := rfl
def kTup : List D → AH → R D := fun xs h1 => R.chk (decide (xs.length ≤ big)) (.ok (.tup xs) h1)
@[simp] theorem kTup_def (xs : List D) : kTup xs h = R.chk (decide (xs.length ≤ big)) (.ok (.tup xs) h) := rfl
@[simp] theorem eTup_def (as : AA) : eTup as e h = (as e h).bind kTup := rfl
def kLst (fz : Bool) : List D → AH → R D := fun xs h1 => R.chk (decide (xs.length ≤ big)) (mkL fz xs h1)
@[simp] theorem kLst_def (fz : Bool) (xs : List D) : kLst fz xs h = R.chk (decide (xs.length ≤ big)) (mkL fz xs h) := rfl
@[simp] theorem eLst_def (fz : Bool) (as : AA) : eLst fz as e h = (as e h).bind (kLst fz) := rfl
def kM (g : AH → D → Bool) (f : D → List D → AH → R D) (as : AA) (e : Env) : D → AH → R D := fun d h1 => R.chk (g h1 d) ((as e h1).bind (f d))
@[simp] theorem kM_def (g : AH → D → Bool) (f : D → List D → AH → R D) (as : AA) (d : D) : kM g f as e d h = R.chk (g h d) ((as e h).bind (f d)) := rfl
@[simp] theorem eM_def (g : AH → D → Bool) (f : D → List D → AH → R D) (a : AE) (as : AA) : eM g f a as e h = (a e h).bind (kM g f as e) := rfl
@[simp] theorem sB_nil : sB [] e h = .ok (.nx e) h := rfl
def kB2 (ss : List AS) : Fl → AH → R Fl := fun f h1 => match f with
  | .nx e1 => sB ss e1 h1
  | f => .ok f h1
@[simp] theorem kB2_nx (ss : List AS) : kB2 ss (.nx e) h = sB ss e h := (rfl)
@[simp] theorem kB2_rt (ss : List AS) (d : D) : kB2 ss (.rt d) h = .ok (.rt d) h := rfl
@[simp] theorem kB2_bk (ss : List AS) : kB2 ss (.bk e) h = .ok (.bk e) h := rfl
@[simp] theorem kB2_ct (ss : List AS) : kB2 ss (.ct e) h = .ok (.ct e) h := rfl
@[simp] theorem kB2_ex (ss : List AS) (x : Ex) : kB2 ss (.ex x e) h = .ok (.ex x e) h := rfl
@[simp] theorem sB_cons (s : AS) (ss : List AS) : sB (s :: ss) e h = (s e h).bind (kB2 ss) := (rfl)
def kE (e : Env) : D → AH → R Fl := fun _ h1 => .ok (.nx e) h1
@[simp] theorem kE_def (d : D) : kE e d h = .ok (.nx e) h := rfl
@[simp] theorem sE_def (a : AE) : sE a e h = up e (a e h) (kE e) := rfl
def kSet (e : Env) (i : Nat) : D → AH → R Fl := fun d h1 => .ok (.nx (e.set i (some d))) h1
@[simp] theorem kSet_def (i : Nat) (d : D) : kSet e i d h = .ok (.nx (e.set i (some d))) h := rfl
@[simp] theorem sSet_def (i : Nat) (a : AE) : sSet i a e h = up e (a e h) (kSet e i) := rfl
def kU3 (f : D → D → D → AH → R D) (z x : D) : D → AH → R D := fun y h3 => f x y z h3
@[simp] theorem kU3_def (f : D → D → D → AH → R D) (z x y : D) : kU3 f z x y h = f x y z h := rfl
def kU2 (f : D → D → D → AH → R D) (i : AE) (e : Env) (z : D) : D → AH → R D := fun x h2 => (i e h2).bind (kU3 f z x)
@[simp] theorem kU2_def (f : D → D → D → AH → R D) (i : AE) (z x : D) : kU2 f i e z x h = (i e h).bind (kU3 f z x) := rfl
def kU1 (f : D → D → D → AH → R D) (o i : AE) (e : Env) : D → AH → R D := fun z h1 => (o e h1).bind (kU2 f i e z)
@[simp] theorem kU1_def (f : D → D → D → AH → R D) (o i : AE) (z : D) : kU1 f o i e z h = (o e h).bind (kU2 f i e z) := rfl
@[simp] theorem sSub_def (f : D → D → D → AH → R D) (o i v : AE) : sSub f o i v e h = up e ((v e h).bind (kU1 f o i e)) (kE e) := rfl
def kAug (i : Nat) (f : D → D → AH → R D) (a : AE) (e : Env) : Option (Option D) → AH → R Fl := fun o h => match o with
  | some (some x) => up e ((a e h).bind (k2b f x)) (kSet e i)
  | _ => .no
@[simp] theorem kAug_def (i : Nat) (f : D → D → AH → R D) (a : AE) (x : D) : kAug i f a e (some (some x)) h = up e ((a e h).bind (k2b f x)) (kSet e i) := rfl
@[simp] theorem sAug_def (i : Nat) (f : D → D → AH → R D) (a : AE) : sAug i f a e h = kAug i f a e e[i]? h := by unfold sAug kAug; rfl
def kSI (a b : AS) (e : Env) : Bool → AH → R Fl := fun c h1 => if c then a e h1 else b e h1
@[simp] theorem kSI_t (a b : AS) : kSI a b e true h = a e h := rfl
@[simp] theorem kSI_f (a b : AS) : kSI a b e false h = b e h := rfl
@[simp] theorem sIf_def (t : AB) (a b : AS) : sIf t a b e h = up e (t e h) (kSI a b e) := rfl
def kRet : D → AH → R Fl := fun d h => .ok (.rt d) h
@[simp] theorem kRet_def (d : D) : kRet d h = .ok (.rt d) h := rfl
@[simp] theorem sRet_def (a : AE) : sRet a e h = up e (a e h) kRet := rfl
@[simp] theorem sRetN_def : sRetN e h = .ok (.rt .non) h := rfl
@[simp] theorem sBrk_def : sBrk e h = .ok (.bk e) h := rfl
@[simp] theorem sCt_def : sCt e h = .ok (.ct e) h := rfl
@[simp] theorem sPass_def : sPass e h = .ok (.nx e) h := rfl
@[simp] theorem gV_def (i : Nat) (d : D) : gV i d e h = .ok (e.set i (some d)) h := rfl
@[simp] theorem on1_def (f : D → AH → R D) (d : D) : on1 f [d] h = f d h := rfl
@[simp] theorem mt0_def (f : D → AH → R D) (d : D) : mt0 f d [] h = f d h := rfl
@[simp] theorem mt1_def (f : D → D → AH → R D) (d x : D) : mt1 f d [x] h = f d x h := rfl
@[simp] theorem add_int (fz : Bool) (i j : Int) : addD fz (.int i) (.int j) h = .ok (.int (i + j)) h := rfl
@[simp] theorem sub_int (i j : Int) : subD (.int i) (.int j) h = .ok (.int (i - j)) h := rfl
@[simp] theorem mul_int (fz : Bool) (i j : Int) : mulD fz (.int i) (.int j) h = R.chk (small i || small j || (midB i && midB j)) (.ok (.int (i * j)) h) := rfl
@[simp] theorem mod_int (i j : Int) : modD (.int i) (.int j) h = R.chk (decide (0 < j)) (.ok (.int (i % j)) h) := rfl
@[simp] theorem fdiv_int (i j : Int) : fdivD (.int i) (.int j) h = R.chk (wideJ j) (.ok (.int (i / j)) h) := rfl
@[simp] theorem wideJ_9 : wideJ 9 = true := rfl
@[simp] theorem neg_int (i : Int) : negD (.int i) h = .ok (.int (-i)) h := rfl
@[simp] theorem lt_int (i j : Int) : ltD (.int i) (.int j) h = .ok (.bl (decide (i < j))) h := rfl
@[simp] theorem le_int (i j : Int) : leD (.int i) (.int j) h = .ok (.bl (decide (i ≤ j))) h := rfl
@[simp] theorem gt_int (i j : Int) : gtD (.int i) (.int j) h = .ok (.bl (decide (j < i))) h := rfl
@[simp] theorem ge_int (i j : Int) : geD (.int i) (.int j) h = .ok (.bl (decide (j ≤ i))) h := rfl
@[simp] theorem eq_int (i j : Int) : eqD (.int i) (.int j) h = .ok (.bl (decide (i = j))) h := by
  have : decide (D.int i = D.int j) = decide (i = j) := decide_eq_decide.mpr ⟨fun e => D.int.inj e, fun e => by rw [e]⟩
  show R.ok (D.bl (decide (D.int i = D.int j))) h = _
  rw [this]
@[simp] theorem ne_int (i j : Int) : neD (.int i) (.int j) h = .ok (.bl (!decide (i = j))) h := by
  have : decide (D.int i = D.int j) = decide (i = j) := decide_eq_decide.mpr ⟨fun e => D.int.inj e, fun e => by rw [e]⟩
  show R.ok (D.bl (!decide (D.int i = D.int j))) h = _
  rw [this]
@[simp] theorem eq_str (i j : List Nat) : eqD (.str i) (.str j) h = .ok (.bl (decide (i = j))) h := by
  have : decide (D.str i = D.str j) = decide (i = j) := decide_eq_decide.mpr ⟨fun e => D.str.inj e, fun e => by rw [e]⟩
  show R.ok (D.bl (decide (D.str i = D.str j))) h = _
  rw [this]
@[simp] theorem ne_str (i j : List Nat) : neD (.str i) (.str j) h = .ok (.bl (!decide (i = j))) h := by
  have : decide (D.str i = D.str j) = decide (i = j) := decide_eq_decide.mpr ⟨fun e => D.str.inj e, fun e => by rw [e]⟩
  show R.ok (D.bl (!decide (D.str i = D.str j))) h = _
  rw [this]
@[simp] theorem abs_int (i : Int) : absD (.int i) h = .ok (.int (if i < 0 then -i else i)) h := rfl
@[simp] theorem int_int (i : Int) : intD (.int i) h = .ok (.int i) h := rfl
@[simp] theorem isTy_str_str (s : List Nat) : isTy "str" (.str s) h = .ok (.bl true) h := rfl
@[simp] theorem isTy_str_tup (s : List D) : isTy "str" (.tup s) h = .ok (.bl false) h := rfl
@[simp] theorem isTy_str_int (s : Int) : isTy "str" (.int s) h = .ok (.bl false) h := rfl
@[simp] theorem isTy_tup_str (s : List Nat) : isTy "tuple" (.str s) h = .ok (.bl false) h := rfl
@[simp] theorem isTy_tup_tup (s : List D) : isTy "tuple" (.tup s) h = .ok (.bl true) h := rfl
@[simp] theorem isTy_int_int (i : Int) : isTy "int" (.int i) h = .ok (.bl true) h := rfl
@[simp] theorem isTy_bl_int (i : Int) : isTy "bool" (.int i) h = .ok (.bl false) h := rfl
@[simp] theorem len_lst (xs : List D) : lenD (.lst xs) h = .ok (.int xs.length) h := rfl
@[simp] theorem len_tup (xs : List D) : lenD (.tup xs) h = .ok (.int xs.length) h := rfl
@[simp] theorem len_scr (xs : List D) : lenD (.scr xs) h = .ok (.int xs.length) h := rfl
@[simp] theorem tupD_lst (xs : List D) : tupD (.lst xs) h = .ok (.tup xs) h := rfl
@[simp] theorem tupD_tup (xs : List D) : tupD (.tup xs) h = .ok (.tup xs) h := rfl
@[simp] theorem listD_tup (xs : List D) : listD true (.tup xs) h = .ok (.lst xs) h := rfl
@[simp] theorem listD_lst (xs : List D) : listD true (.lst xs) h = .ok (.lst xs) h := rfl
@[simp] theorem ix_tup (xs : List D) (i : Int) : ixD (.tup xs) (.int i) h = R.of (at? xs i) h := rfl
@[simp] theorem ix_lst (xs : List D) (i : Int) : ixD (.lst xs) (.int i) h = R.of (at? xs i) h := rfl
@[simp] theorem ix_scr (xs : List D) (i : Int) : ixD (.scr xs) (.int i) h = R.of (at? xs i) h := rfl
@[simp] theorem truth_bl (b : Bool) : truth h (.bl b) = some b := rfl
@[simp] theorem sl_tup (fz : Bool) (xs : List D) (lo hi : Option Int) : slD fz (.tup xs) lo hi h = .ok (.tup (cut xs lo hi)) h := rfl
@[simp] theorem add_tup (fz : Bool) (xs ys : List D) : addD fz (.tup xs) (.tup ys) h = R.chk (xs.length + ys.length ≤ big) (.ok (.tup (xs ++ ys)) h) := rfl
def kR1 : D → AH → R Src := fun d h1 => match d with
  | .int j => R.chk (inI j) (.ok (.lst (rng 0 j.toNat)) h1)
  | _ => .no
@[simp] theorem kR1_def (j : Int) : kR1 (.int j) h = R.chk (inI j) (.ok (.lst (rng 0 j.toNat)) h) := rfl
@[simp] theorem iR1_def (a : AE) : iR1 a e h = (a e h).bind kR1 := rfl
def kR2 (x : D) : D → AH → R Src := fun y h2 => match x with
  | .int i => match y with
    | .int j => R.chk (inI i && inI j) (.ok (.lst (rng i (j - i).toNat)) h2)
    | _ => .no
  | _ => .no
@[simp] theorem kR2_def (i j : Int) : kR2 (.int i) (.int j) h = R.chk (inI i && inI j) (.ok (.lst (rng i (j - i).toNat)) h) := rfl
def kR2a (b : AE) (e : Env) : D → AH → R Src := fun x h => (b e h).bind (kR2 x)
@[simp] theorem kR2a_def (b : AE) (x : D) : kR2a b e x h = (b e h).bind (kR2 x) := rfl
@[simp] theorem iR2_def (a b : AE) : iR2 a b e h = (a e h).bind (kR2a b e) := rfl
def kIS : D → AH → R Src := fun d h1 => match d with
  | .loc l => match h1[l]? with
    | some (.lst _) => .ok (.live l) h1
    | _ => .no
  | d => match seqH h1 d with
    | some xs => .ok (.lst xs) h1
    | none => .no
@[simp] theorem kIS_tup (xs : List D) : kIS (.tup xs) h = .ok (.lst xs) h := rfl
@[simp] theorem kIS_lst (xs : List D) : kIS (.lst xs) h = .ok (.lst xs) h := rfl
@[simp] theorem kIS_scr (xs : List D) : kIS (.scr xs) h = .ok (.lst xs) h := rfl
@[simp] theorem iS_def (a : AE) : iS a e h = (a e h).bind kIS := rfl
def kFor (g : AG) (b : AS) (e : Env) : Src → AH → R Fl := fun s h1 => forN g b s s.fuel 0 e h1
@[simp] theorem kFor_def (g : AG) (b : AS) (s : Src) : kFor g b e s h = forN g b s s.fuel 0 e h := (rfl)
@[simp] theorem sFor_def (it : AI) (g : AG) (b : AS) : sFor it g b e h = up e (it e h) (kFor g b e) := (rfl)
@[simp] theorem sWhile_def (t : AB) (b : AS) : sWhile t b e h = whileN t b (2 ^ 40) e h := (rfl)
def kmkL (fz : Bool) : List D → AH → R D := fun ys h => mkL fz ys h
@[simp] theorem kmkL_def (fz : Bool) (ys : List D) : kmkL fz ys h = mkL fz ys h := rfl
def kLC (fz : Bool) (own : List Nat) (g : AG) (t : AB) (a : AE) (e : Env) : Src → AH → R D := fun s h1 => (lcN g t a (wipeE e own) s s.fuel 0 [] h1).bind (kmkL fz)
@[simp] theorem kLC_def (fz : Bool) (own : List Nat) (g : AG) (t : AB) (a : AE) (s : Src) : kLC fz own g t a e s h = (lcN g t a (wipeE e own) s s.fuel 0 [] h).bind (kmkL fz) := (rfl)
@[simp] theorem eLC_def (fz : Bool) (own : List Nat) (it : AI) (g : AG) (t : AB) (a : AE) : eLC fz own it g t a e h = (it e h).bind (kLC fz own g t a e) := (rfl)
@[simp] theorem turn_nx (k : Env → AH → R Fl) : turn (.nx e) h k = k e h := rfl
@[simp] theorem turn_ct (k : Env → AH → R Fl) : turn (.ct e) h k = k e h := rfl
@[simp] theorem turn_bk (k : Env → AH → R Fl) : turn (.bk e) h k = .ok (.nx e) h := rfl
@[simp] theorem turn_rt (d : D) (k : Env → AH → R Fl) : turn (.rt d) h k = .ok (.rt d) h := rfl
end
/-! ### places -/
@[simp] theorem at_nat {α : Type} (xs : List α) (i : Nat) : at? xs (i : Int) = xs[i]? := by
  unfold at? ixN
  by_cases h : i < xs.length
  · rw [if_pos (Int.natCast_nonneg i), if_pos (by omega)]; simp
  · rw [if_pos (Int.natCast_nonneg i), if_neg (by omega), List.getElem?_eq_none (by omega)]; rfl
@[simp] theorem at_2 {α : Type} (xs : List α) : at? xs 2 = xs[2]? := at_nat xs 2
@[simp] theorem at_3 {α : Type} (xs : List α) : at? xs 3 = xs[3]? := at_nat xs 3
@[simp] theorem at_4 {α : Type} (xs : List α) : at? xs 4 = xs[4]? := at_nat xs 4
@[simp] theorem at_0 {α : Type} (xs : List α) : at? xs 0 = xs[0]? := at_nat xs 0
@[simp] theorem at_1 {α : Type} (xs : List α) : at? xs 1 = xs[1]? := at_nat xs 1
/-! ### the heap: what stood before, and the new objects -/
theorem get_new {h : AH} {L : AH} {n : Nat} (hn : h.length ≤ n) : (h ++ L)[n]? = L[n - h.length]? := List.getElem?_append_right hn
theorem set_new {h : AH} {L : AH} {n : Nat} {o : AO} (hn : h.length ≤ n) : (h ++ L).set n o = h ++ L.set (n - h.length) o := List.set_append_right _ _ hn
theorem set_old {h : AH} {L : AH} {n : Nat} {o : AO} (hn : n < h.length) : (h ++ L).set n o = h.set n o ++ L := List.set_append_left _ _ hn
/-! ### list objects -/
def getL (h : AH) (l : Nat) : Option (List D) := match h[l]? with
  | some (.lst xs) => some xs
  | _ => none
theorem getL_of {h : AH} {l : Nat} {xs : List D} (e : h[l]? = some (.lst xs)) : getL h l = some xs := by unfold getL; rw [e]
@[simp] theorem lstH_loc (h : AH) (l : Nat) : lstH h (.loc l) = getL h l := by unfold lstH getL; rfl
@[simp] theorem getL_set {h : AH} {l : Nat} {xs : List D} (hl : l < h.length) : getL (h.set l (.lst xs)) l = some xs := getL_of (by simp [hl])
theorem getL_set_ne {h : AH} {l m : Nat} {o : AO} (hl : l ≠ m) : getL (h.set l o) m = getL h m := by unfold getL; rw [List.getElem?_set_ne hl]
@[simp] theorem getL_old {h L : AH} {l : Nat} (hl : l < h.length) : getL (h ++ L) l = getL h l := by unfold getL; rw [List.getElem?_append_left hl]
theorem getL_new {h L : AH} {l : Nat} (hl : h.length ≤ l) : getL (h ++ L) l = getL L (l - h.length) := by unfold getL; rw [List.getElem?_append_right hl]
@[simp] theorem getL_0 (xs : List D) (L : AH) : getL (.lst xs :: L) 0 = some xs := rfl
@[simp] theorem getL_1 (o : AO) (xs : List D) (L : AH) : getL (o :: .lst xs :: L) 1 = some xs := rfl
@[simp] theorem getL_2 (o o2 : AO) (xs : List D) (L : AH) : getL (o :: o2 :: .lst xs :: L) 2 = some xs := rfl
def kOn (f : Nat → List D → R D) (l : Nat) : Option (List D) → R D
  | some xs => f l xs
  | none => .no
@[simp] theorem kOn_s (f : Nat → List D → R D) (l : Nat) (xs : List D) : kOn f l (some xs) = f l xs := rfl
theorem onL_def (h : AH) (l : Nat) (f : Nat → List D → R D) : onL h (.loc l) f = kOn f l (getL h l) := by
  unfold getL
  show (match h[l]? with
    | some (.lst xs) => f l xs
    | _ => .no) = _
  split <;> simp_all [kOn]
section
variable {h : AH}
theorem append_ok {l : Nat} {xs : List D} (y : D) (e : getL h l = some xs) (hl : xs.length < big) : appendD (.loc l) y h = .ok .non (h.set l (.lst (xs ++ [y]))) := by
  unfold appendD
  rw [onL_def, e]
  show R.chk (decide (xs.length < big)) _ = _
  rw [decide_eq_true hl]; rfl
theorem pop_ok {l : Nat} {xs : List D} {y : D} (e : getL h l = some (xs ++ [y])) : popD (.loc l) h = .ok y (h.set l (.lst xs)) := by
  unfold popD
  rw [onL_def, e]
  simp [kOn]
theorem extT_ok {l : Nat} {xs ys : List D} (e : getL h l = some xs) (hl : xs.length + ys.length ≤ big) : extendD (.loc l) (.tup ys) h = .ok .non (h.set l (.lst (xs ++ ys))) := by
  unfold extendD
  rw [onL_def, e]
  show R.chk (decide (xs.length + ys.length ≤ big)) _ = _
  rw [decide_eq_true hl]; rfl
theorem setIx_ok {l k : Nat} {xs : List D} {i : Int} (v : D) (e : getL h l = some xs) (hk : ixN xs.length i = some k) : setIxD (.loc l) (.int i) v h = .ok .non (h.set l (.lst (xs.set k v))) := by
  unfold setIxD
  dsimp only
  rw [onL_def, e]
  show (R.of (ixN xs.length i) h).bind _ = _
  rw [hk]; rfl
theorem ixL {l : Nat} {xs : List D} (i : Int) (e : getL h l = some xs) : ixD (.loc l) (.int i) h = R.of (at? xs i) h := by
  show (match seqH h (.loc l) with
    | some xs => R.of (at? xs i) h
    | none => .no) = _
  have : seqH h (.loc l) = some xs := (lstH_loc h l).trans e
  rw [this]
theorem lenL {l : Nat} {xs : List D} (e : getL h l = some xs) : lenD (.loc l) h = .ok (.int xs.length) h := by
  show (match seqH h (.loc l) with
    | some xs => R.ok (D.int xs.length) h
    | none => R.no) = _
  have : seqH h (.loc l) = some xs := (lstH_loc h l).trans e
  rw [this]
theorem isL {l : Nat} {xs : List D} (e : getL h l = some xs) : isLst h (.loc l) = true := by
  unfold getL at e
  unfold isLst
  split at e <;> simp_all
theorem truthL {l : Nat} {xs : List D} (e : getL h l = some xs) : truth h (.loc l) = some (!xs.isEmpty) := by
  unfold getL at e
  unfold truth
  split at e <;> simp_all
end
/-! ### loops -/
theorem for_inv {g : AG} {b : AS} {xs : List D} {P : Nat → Env → AH → Prop} {Z : R Fl → Prop}
    (step : ∀ i x e h (k : Env → AH → R Fl), xs[i]? = some x → P i e h → (∀ e2 h2, P (i + 1) e2 h2 → Z (k e2 h2)) → Z ((g x e h).bind fun e1 h1 => (b e1 h1).bind fun f h2 => turn f h2 k))
    (fin : ∀ e h, P xs.length e h → Z (.ok (.nx e) h)) {e : Env} {h : AH} (h0 : P 0 e h) : Z (forN g b (.lst xs) (Src.lst xs).fuel 0 e h) := by
  have main : ∀ n i e h, i ≤ xs.length → xs.length - i < n → P i e h → Z (forN g b (.lst xs) n i e h) := by
    intro n
    induction n with
    | zero => intro i e h _ hn; omega
    | succ n ih =>
      intro i e h hi hn hp
      show Z (match nxt (.lst xs) i h with
        | none => .no
        | some none => .ok (.nx e) h
        | some (some x) => (g x e h).bind fun e1 h1 => (b e1 h1).bind fun f h2 => turn f h2 (forN g b (.lst xs) n (i + 1)))
      show Z (match some xs[i]? with
        | none => .no
        | some none => .ok (.nx e) h
        | some (some x) => (g x e h).bind fun e1 h1 => (b e1 h1).bind fun f h2 => turn f h2 (forN g b (.lst xs) n (i + 1)))
      by_cases hl : i < xs.length
      · rw [List.getElem?_eq_getElem hl]
        exact step i _ e h _ (List.getElem?_eq_getElem hl) hp fun e2 h2 hp2 => ih (i + 1) e2 h2 hl (by omega) hp2
      · rw [List.getElem?_eq_none (by omega)]
        have : i = xs.length := by omega
        subst this
        exact fin e h hp
  exact main _ 0 e h (Nat.zero_le _) (by show _ < xs.length + 1; omega) h0
theorem lc_inv {g : AG} {t : AB} {a : AE} {e0 : Env} {xs : List D} {P : Nat → List D → AH → Prop} {Z : R (List D) → Prop}
    (step : ∀ i x acc h (k : List D → AH → R (List D)), xs[i]? = some x → P i acc h → (∀ acc2 h2, P (i + 1) acc2 h2 → Z (k acc2 h2)) → Z ((g x e0 h).nox.bind fun e1 h1 => (t e1 h1).nox.bind fun c h2 => if c then (a e1 h2).nox.bind fun y h3 => R.chk (decide (acc.length < big)) (k (acc ++ [y]) h3) else k acc h2))
    (fin : ∀ acc h, P xs.length acc h → Z (.ok acc h)) {h : AH} (h0 : P 0 [] h) : Z (lcN g t a e0 (.lst xs) (Src.lst xs).fuel 0 [] h) := by
  have main : ∀ n i acc h, i ≤ xs.length → xs.length - i < n → P i acc h → Z (lcN g t a e0 (.lst xs) n i acc h) := by
    intro n
    induction n with
    | zero => intro i e h _ hn; omega
    | succ n ih =>
      intro i acc h hi hn hp
      show Z (match some xs[i]? with
        | none => .no
        | some none => .ok acc h
        | some (some x) => (g x e0 h).nox.bind fun e1 h1 => (t e1 h1).nox.bind fun c h2 => if c then (a e1 h2).nox.bind fun y h3 => R.chk (decide (acc.length < big)) (lcN g t a e0 (.lst xs) n (i + 1) (acc ++ [y]) h3) else lcN g t a e0 (.lst xs) n (i + 1) acc h2)
      by_cases hl : i < xs.length
      · rw [List.getElem?_eq_getElem hl]
        exact step i _ acc h (fun acc h => lcN g t a e0 (.lst xs) n (i + 1) acc h) (List.getElem?_eq_getElem hl) hp fun e2 h2 hp2 => ih (i + 1) e2 h2 hl (by omega) hp2
      · rw [List.getElem?_eq_none (by omega)]
        have : i = xs.length := by omega
        subst this
        exact fin acc h hp
  exact main _ 0 [] h (Nat.zero_le _) (by show _ < xs.length + 1; omega) h0
theorem while_inv {t : AB} {b : AS} {P : Nat → Env → AH → Prop} {Z : R Fl → Prop}
    (step : ∀ m e h (k : Env → AH → R Fl), P m e h → (∀ m' e2 h2, m' < m → P m' e2 h2 → Z (k e2 h2)) → Z (up e (t e h) fun c h1 => if c then (b e h1).bind fun f h2 => turn f h2 k else .ok (.nx e) h1)) :
    ∀ (n m : Nat) {e : Env} {h : AH}, m < n → P m e h → Z (whileN t b n e h) := by
  intro n
  induction n with
  | zero => intro m e h hm; omega
  | succ n ih => exact fun m e h hm hp => step m e h (whileN t b n) hp fun m' e2 h2 hm' hp' => ih m' (by omega) hp'
theorem rng_get {lo : Int} {n i : Nat} {x : D} (h : (rng lo n)[i]? = some x) : i < n ∧ x = .int (lo + i) := by
  unfold rng at h
  rw [List.getElem?_map] at h
  by_cases hi : i < n
  · rw [List.getElem?_range hi] at h; simp at h; exact ⟨hi, h.symm⟩
  · rw [List.getElem?_eq_none (by simp; omega)] at h; cases h
@[simp] theorem rng_len {lo : Int} {n : Nat} : (rng lo n).length = n := by simp [rng]
/-! ### closed values -/
@[simp] theorem clo_int (n : Nat) (i : Int) : clo n (.int i) = true := rfl
@[simp] theorem clo_str (n : Nat) (i : List Nat) : clo n (.str i) = true := rfl
@[simp] theorem clo_bl (n : Nat) (i : Bool) : clo n (.bl i) = true := rfl
@[simp] theorem clo_non (n : Nat) : clo n .non = true := rfl
@[simp] theorem clo_tup (n : Nat) (ds : List D) : clo n (.tup ds) = clos n ds := by rw [clo]
@[simp] theorem clo_lst (n : Nat) (ds : List D) : clo n (.lst ds) = clos n ds := by rw [clo]
@[simp] theorem clos_nil (n : Nat) : clos n [] = true := by rw [clos]
@[simp] theorem clos_cons (n : Nat) (d : D) (ds : List D) : clos n (d :: ds) = (clo n d && clos n ds) := by rw [clos]
theorem clos_all (n : Nat) : ∀ ds : List D, clos n ds = ds.all (clo n)
  | [] => by simp
  | d :: ds => by simp [clos_all n ds]
@[simp] theorem clos_ints (n : Nat) (ns : List Int) : clos n (ns.map .int) = true := by
  rw [clos_all]; simp
/-- a def's end -/
theorem pre_app {h h1 : AH} {L : AH} (hl : h1.length = h.length) (hp : pre h.length h h1 = true) : pre h.length h (h1 ++ L) = true := by
  unfold pre at hp ⊢
  rw [List.all_eq_true] at hp ⊢
  intro i hi
  have := List.mem_range.mp hi
  rw [List.getElem?_append_left (by omega)]
  exact hp i hi
theorem pre_refl (h : AH) : pre h.length h h = true := by
  unfold pre
  rw [List.all_eq_true]
  intro i _
  simp
theorem pre_set {h : AH} {l : Nat} {o : AO} (ho : cloO h.length o = true) : pre h.length h (h.set l o) = true := by
  unfold pre
  rw [List.all_eq_true]
  intro i hi
  by_cases e : l = i
  · subst e
    rw [List.getElem?_set_self (List.mem_range.mp hi)]
    simp [ho]
  · rw [List.getElem?_set_ne e]; simp
theorem trim_val {h h1 L : AH} {d : D} (hl : h1.length = h.length) (hp : pre h.length h h1 = true) (hd : ∀ l, d ≠ .loc l) (hc : clo h.length d = true) : trim h (.ok d (h1 ++ L)) = .ok d h1 := by
  have hz : frz h.length (h1 ++ L) d = some d := by
    cases d with
    | loc l => exact absurd rfl (hd l)
    | _ =>
      unfold frz
      simp only [hc]
      rfl
  unfold trim
  dsimp only
  rw [hz]
  dsimp only
  rw [pre_app hl hp]
  show R.ok d ((h1 ++ L).take h.length) = _
  rw [← hl, List.take_left]
theorem trim_lst {h h1 L : AH} {l : Nat} {xs : List D} (hl : h1.length = h.length) (hp : pre h.length h h1 = true) (hn : h.length ≤ l) (hg : (h1 ++ L)[l]? = some (.lst xs)) (hc : clos h.length xs = true) : trim h (.ok (.loc l) (h1 ++ L)) = .ok (.lst xs) h1 := by
  have hz : frz h.length (h1 ++ L) (.loc l) = some (.lst xs) := by
    unfold frz
    dsimp only
    rw [if_neg (by omega), hg]
    dsimp only
    rw [hc]; rfl
  unfold trim
  dsimp only
  rw [hz]
  dsimp only
  rw [pre_app hl hp]
  show R.ok _ ((h1 ++ L).take h.length) = _
  rw [← hl, List.take_left]
theorem fnT_eq {p n : Nat} {b : AS} {ds : List D} {h : AH} {d d' : D} {h1 h2 : AH} (hl : ds.length = p) (hb : b (envOf n ds) h = .ok (.rt d) h1) (ht : trim h (.ok d h1) = .ok d' h2) : fnT p n b ds h = .ok d' h2 := by
  unfold fnT
  rw [decide_eq_true hl, hb]
  exact ht
end Sm
end

section
set_option linter.all false
set_option maxRecDepth 10000
/-! Dr: the draws that every law makes. -/
namespace Sm
def takeB : AS := sB [sSet 2 (e2 ixD (eV 0) (eC (.int 0))),
  sSub setIxD (eV 0) (eC (.int 1)) (e2 (addD true) (e2 ixD (eV 0) (eC (.int 1))) (eC (.int 1))),
  sSet 3 (e2 ixD (eV 0) (eC (.int 1))),
  sIf (tB1 (e2 geD (eV 2) (e2 powD (eC (.int 10)) (eC (.int 18))))) (sB [sSub setIxD (eV 0) (eC (.int 0)) (e2 fdivD (eV 2) (eV 1)),
    sRet (e2 modD (eA (on1 intD) (eL [eV 2])) (eV 1))]) (sB []),
  sSet 4 (e2 modD (eA (on1 intD) (eL [e2 (addD true) (e2 (addD true) (eV 2) (e2 (mulD true) (eC (.int 7919)) (eV 3))) (eC (.int 13))])) (eC (.int 2147483647))),
  sSet 4 (e2 modD (eA (on1 intD) (eL [e2 (mulD true) (eV 4) (e2 (addD true) (eV 4) (eC (.int 48271)))])) (eC (.int 2147483629))),
  sSet 4 (e2 modD (eA (on1 intD) (eL [e2 (addD true) (e2 (mulD true) (eV 4) (e2 (addD true) (eV 4) (eC (.int 69621)))) (e2 (mulD true) (eC (.int 31)) (eV 3))])) (eC (.int 2147483647))),
  sRet (e2 modD (eA (on1 intD) (eL [e2 fdivD (eV 4) (eC (.int 9))])) (eV 1))]
def tapeB : AS := sB [sIf (tB1 (e2 ltD (eV 1) (eA (on1 lenD) (eL [eV 0])))) (sB [sRet (eLst false (eL [eA (on1 absD) (eL [e2 ixD (eV 0) (eV 1)]), eC (.int 0)]))]) (sB []),
  sRet (eLst false (eL [eV 1, eC (.int 0)]))]
def tape (c k : Int) : AO := .lst [.int c, .int k]
structure Tp (h : AH) (l : Nat) : Prop where
  ex : ∃ c k, h[l]? = some (tape c k) ∧ 0 ≤ c
def IsTp (o : AO) : Prop := ∃ c k, o = tape c k ∧ 0 ≤ c
theorem Tp.lt {h : AH} {l : Nat} (t : Tp h l) : l < h.length := by
  obtain ⟨c, k, e, _⟩ := t.ex
  exact (List.getElem?_eq_some_iff.mp e).1
theorem IsTp.clo {o : AO} (t : IsTp o) (n : Nat) : cloO n o = true := by
  obtain ⟨c, k, rfl, _⟩ := t
  simp [tape, cloO]
theorem Tp.set {h : AH} {l : Nat} {o : AO} (t : IsTp o) (hl : l < h.length) : Tp (h.set l o) l := by
  obtain ⟨c, k, rfl, hc⟩ := t
  exact ⟨c, k, by simp [hl], hc⟩
theorem Tp.app {h L : AH} {l : Nat} (t : Tp h l) : Tp (h ++ L) l := by
  obtain ⟨c, k, e, hc⟩ := t.ex
  exact ⟨c, k, by rw [List.getElem?_append_left t.lt]; exact e, hc⟩
theorem take_ok {h : AH} {l : Nat} {n : Int} (t : Tp h l) (h0 : 0 < n) (h1 : n ≤ 10000000000000000000000000000000000000000000000000000000000000000000000000000000000000000000000000000) : ∃ r o, 0 ≤ r ∧ r < n ∧ IsTp o ∧ fnT 2 5 takeB [.loc l, .int n] h = .ok (.int r) (h.set l o) := by
  have hl := t.lt
  obtain ⟨c, k, e, hc⟩ := t.ex
  have e0 : getL h l = some [.int c, .int k] := getL_of e
  have hx : ∀ o, pre h.length h (h.set l (tape o (k + 1))) = true := fun o => pre_set (by simp [tape, cloO])
  have fin : ∀ (r o : Int), 0 ≤ r → r < n → 0 ≤ o → takeB (envOf 5 [.loc l, .int n]) h = .ok (.rt (.int r)) (h.set l (tape o (k + 1))) → ∃ r o, 0 ≤ r ∧ r < n ∧ IsTp o ∧ fnT 2 5 takeB [.loc l, .int n] h = .ok (.int r) (h.set l o) := fun r o h1 h2 h3 hb =>
    ⟨r, tape o (k + 1), h1, h2, ⟨o, k + 1, rfl, h3⟩, fnT_eq rfl hb (by
      have := trim_val (h := h) (h1 := h.set l (tape o (k + 1))) (L := []) (d := .int r) (by simp) (hx o) (by simp) (by simp)
      simpa using this)⟩
  have e1 : getL (h.set l (.lst [.int c, .int (k + 1)])) l = some [.int c, .int (k + 1)] := getL_set hl
  have x1 := setIx_ok (h := h) (i := 1) (k := 1) (.int (k + 1)) e0 rfl
  have x2 := fun v => setIx_ok (i := 0) (k := 0) v e1 rfl
  have h1 := (wideJ_iff n).mpr ⟨h0, h1⟩
  have p1 : powD (.int 10) (.int 18) = fun h => .ok (.int 1000000000000000000) h := by
    funext h; rfl
  by_cases hb : 1000000000000000000 ≤ c
  · refine fin (c % n) (c / n) (Int.emod_nonneg c (by omega)) (Int.emod_lt_of_pos c h0) (Int.ediv_nonneg hc (by omega)) ?_
    simp [takeB, envOf, ixL _ e0, ixL _ e1, x1, x2, p1, hb, h0, h1, tape]
  · have s1 : ∀ x m : Int, m < 2147483648 → 0 < m → small (x % m) = true := fun x m h1 h2 => by
      have a1 := Int.emod_nonneg x (show m ≠ 0 by omega)
      have a2 := Int.emod_lt_of_pos x h2
      exact (small_iff _).mpr ⟨by omega, by omega⟩
    refine fin ((let m1 := (c + 7919 * (k + 1) + 13) % 2147483647; let m2 := (m1 * (m1 + 48271)) % 2147483629; let m3 := (m2 * (m2 + 69621) + 31 * (k + 1)) % 2147483647; m3 / 9) % n) c (Int.emod_nonneg _ (by omega)) (Int.emod_lt_of_pos _ h0) hc ?_
    have s2 : small 7919 = true := by decide
    have s3 : small 31 = true := by decide
    simp [takeB, envOf, ixL _ e0, ixL _ e1, x1, x2, p1, hb, h0, h1, tape, s1, s2, s3]
end Sm
end

section
set_option linter.all false
set_option maxRecDepth 10000
/-! Pw: what holds behind a plain computation. -/
namespace Sm
def wp {α : Type} (r : R α) (Q : α → AH → Prop) : Prop := match r with
  | .ok a h => Q a h
  | _ => False
section
variable {α β : Type} {r : R α} {h h1 : AH} {Q : α → AH → Prop}
@[simp] theorem wp_ok (a : α) : wp (.ok a h) Q = Q a h := rfl
theorem wp_iff : wp r Q ↔ ∃ a h, r = .ok a h ∧ Q a h := by
  cases r with
  | ok a h => exact ⟨fun q => ⟨a, h, rfl, q⟩, fun ⟨_, _, e, q⟩ => by cases e; exact q⟩
  | exc x h => exact ⟨False.elim, fun ⟨_, _, e, _⟩ => by cases e⟩
  | no => exact ⟨False.elim, fun ⟨_, _, e, _⟩ => by cases e⟩
theorem wp_bind {f : α → AH → R β} {Q : β → AH → Prop} (q : wp r fun a h => wp (f a h) Q) : wp (r.bind f) Q := by
  cases r with
  | ok a h => exact q
  | exc x h => exact q.elim
  | no => exact q.elim
theorem wp_mono {P : α → AH → Prop} (q : wp r P) (f : ∀ a h, P a h → Q a h) : wp r Q := by
  cases r with
  | ok a h => exact f a h q
  | exc x h => exact q.elim
  | no => exact q.elim
theorem wp_nox (q : wp r Q) : wp r.nox Q := by
  cases r with
  | ok a h => exact q
  | exc x h => exact q.elim
  | no => exact q.elim
end
/-! ### loops -/
def after (I : Nat → Env → AH → Prop) (i : Nat) (Q : Fl → AH → Prop) : Fl → AH → Prop := fun f h => match f with
  | .nx e => I (i + 1) e h
  | .ct e => I (i + 1) e h
  | .bk e => Q (.nx e) h
  | .rt d => Q (.rt d) h
  | .ex x e => Q (.ex x e) h
section
variable {I : Nat → Env → AH → Prop} {i : Nat} {Q : Fl → AH → Prop} {h : AH} {e : Env}
@[simp] theorem after_nx : after I i Q (.nx e) h = I (i + 1) e h := rfl
@[simp] theorem after_ct : after I i Q (.ct e) h = I (i + 1) e h := rfl
@[simp] theorem after_bk : after I i Q (.bk e) h = Q (.nx e) h := rfl
@[simp] theorem after_rt (d : D) : after I i Q (.rt d) h = Q (.rt d) h := rfl
end
theorem for_w {g : AG} {b : AS} {xs : List D} {e : Env} {h : AH} {Q : Fl → AH → Prop} (I : Nat → Env → AH → Prop) (h0 : I 0 e h)
    (step : ∀ i x e h, xs[i]? = some x → I i e h → wp ((g x e h).bind b) (after I i Q)) (fin : ∀ e h, I xs.length e h → Q (.nx e) h) : wp (forN g b (.lst xs) (Src.lst xs).fuel 0 e h) Q := by
  refine for_inv (P := I) (Z := fun r => wp r Q) (fun i x e h k hx hi ih => ?_) (fun e h hi => fin e h hi) h0
  have s := step i x e h hx hi
  cases hg : g x e h with
  | no => rw [hg] at s; exact s.elim
  | exc y h => rw [hg] at s; exact s.elim
  | ok e1 h1 =>
    rw [hg, bind_ok] at s
    show wp ((b e1 h1).bind fun f h2 => turn f h2 k) Q
    refine wp_bind (wp_mono s fun f h2 q => ?_)
    cases f with
    | nx e2 => exact ih e2 h2 q
    | ct e2 => exact ih e2 h2 q
    | bk e2 => exact q
    | rt d => exact q
    | ex y e2 => exact q
theorem lc_w {g : AG} {t : AB} {a : AE} {e0 : Env} {xs : List D} {h : AH} {Q : List D → AH → Prop} (I : Nat → List D → AH → Prop) (h0 : I 0 [] h)
    (step : ∀ i x acc h, xs[i]? = some x → I i acc h → wp (g x e0 h) fun e1 h1 => wp (t e1 h1) fun c h2 => if c then wp (a e1 h2) fun y h3 => acc.length < big ∧ I (i + 1) (acc ++ [y]) h3 else I (i + 1) acc h2)
    (fin : ∀ acc h, I xs.length acc h → Q acc h) : wp (lcN g t a e0 (.lst xs) (Src.lst xs).fuel 0 [] h) Q := by
  refine lc_inv (P := I) (Z := fun r => wp r Q) (fun i x acc h k hx hi ih => ?_) fin h0
  refine wp_bind (wp_nox (wp_mono (step i x acc h hx hi) fun e1 h1 q => ?_))
  refine wp_bind (wp_nox (wp_mono q fun c h2 q => ?_))
  cases c with
  | false => exact ih _ _ q
  | true =>
    rw [if_pos rfl] at q ⊢
    refine wp_bind (wp_nox (wp_mono q fun y h3 q => ?_))
    rw [decide_eq_true q.1]
    exact ih _ _ q.2
theorem wp_eq {α : Type} {r : R α} {a : α} {h : AH} (q : wp r fun b k => b = a ∧ k = h) : r = .ok a h := by
  obtain ⟨b, k, e, rfl, rfl⟩ := wp_iff.mp q
  exact e
/-- a comprehension whose parts do nothing to the heap -/
theorem lc_pure {v : Nat} {t : AB} {a : AE} {e0 : Env} {xs : List D} {h : AH} {p : D → Bool} {f : D → D} (hl : xs.length ≤ big) (ht : ∀ x ∈ xs, t (e0.set v (some x)) h = .ok (p x) h) (ha : ∀ x ∈ xs, p x = true → a (e0.set v (some x)) h = .ok (f x) h) :
    lcN (gV v) t a e0 (.lst xs) (Src.lst xs).fuel 0 [] h = .ok ((xs.filter p).map f) h := by
  refine wp_eq (lc_w (I := fun i acc k => acc = ((xs.take i).filter p).map f ∧ k = h) ⟨by simp, rfl⟩ ?_ ?_)
  · rintro i x acc k hx ⟨rfl, rfl⟩
    have hm := List.mem_of_getElem? hx
    have hi := (List.getElem?_eq_some_iff.mp hx).1
    have et : xs.take (i + 1) = xs.take i ++ [x] := by rw [List.take_add_one, hx]; rfl
    have hlen : (((xs.take i).filter p).map f).length < big := by
      rw [List.length_map]
      have h1 : ((xs.take i).filter p).length ≤ (xs.take i).length := List.length_filter_le _ _
      have h2 : (xs.take i).length = i := by rw [List.length_take]; omega
      omega
    simp only [gV_def, wp_ok, ht x hm]
    cases hp : p x with
    | false => simp [et, hp]
    | true => simp [ha x hm hp, et, hp]; simpa using hlen
  · rintro acc k ⟨rfl, rfl⟩
    simp
theorem filt_t {α : Type} (xs : List α) : xs.filter (fun _ => true) = xs := List.filter_eq_self.mpr fun _ _ => rfl
theorem rng_filter (lo : Int) (n : Nat) (p : D → Bool) (f : D → D) : ((rng lo n).filter p).map f = ((List.range n).filter fun (k : Nat) => p (.int (lo + k))).map fun (k : Nat) => f (.int (lo + k)) := by
  unfold rng; rw [List.filter_map, List.map_map]; rfl
theorem rng_mem {lo : Int} {n : Nat} {x : D} (h : x ∈ rng lo n) : ∃ k : Nat, k < n ∧ x = .int (lo + k) := by
  unfold rng at h
  obtain ⟨k, h1, rfl⟩ := List.mem_map.mp h
  exact ⟨k, List.mem_range.mp h1, rfl⟩
/-- .. over a range -/
theorem lc_rng {v : Nat} {t : AB} {a : AE} {e0 : Env} {n : Nat} {h : AH} {p : Nat → Bool} {f : Nat → D} (hl : n ≤ big) (ht : ∀ k < n, t (e0.set v (some (.int k))) h = .ok (p k) h) (ha : ∀ k < n, p k = true → a (e0.set v (some (.int k))) h = .ok (f k) h) :
    lcN (gV v) t a e0 (.lst (rng 0 n)) (Src.lst (rng 0 n)).fuel 0 [] h = .ok (((List.range n).filter p).map f) h := by
  have := lc_pure (v := v) (t := t) (a := a) (e0 := e0) (xs := rng 0 n) (h := h) (p := fun x => match x with | .int i => p i.toNat | _ => false) (f := fun x => match x with | .int i => f i.toNat | _ => x) (by simpa using hl)
    (fun x hx => by obtain ⟨k, hk, rfl⟩ := rng_mem hx; simpa using ht k hk) (fun x hx hp => by obtain ⟨k, hk, rfl⟩ := rng_mem hx; simp at hp; simpa using ha k hk hp)
  rw [this, rng_filter]
  simp
theorem lc_rngm {v : Nat} {a : AE} {e0 : Env} {n : Nat} {h : AH} {f : Nat → D} (hl : n ≤ big) (ha : ∀ k < n, a (e0.set v (some (.int k))) h = .ok (f k) h) : lcN (gV v) tYes a e0 (.lst (rng 0 n)) (Src.lst (rng 0 n)).fuel 0 [] h = .ok ((List.range n).map f) h := by
  have := lc_rng (v := v) (t := tYes) (a := a) (e0 := e0) (p := fun _ => true) (f := f) hl (fun _ _ => rfl) fun k hk _ => ha k hk
  rw [this, filt_t]
/-! ### a def's end -/
def nloc : D → Bool
  | .loc _ => false
  | _ => true
def endT (h : AH) (Q : D → AH → Prop) : Fl → AH → Prop := fun f h1 => match f with
  | .rt d => wp (trim h (.ok d h1)) Q
  | .nx _ => wp (trim h (.ok .non h1)) Q
  | _ => False
section
variable {h h1 : AH} {Q : D → AH → Prop} {d : D} {e : Env}
@[simp] theorem endT_rt : endT h Q (.rt d) h1 = wp (trim h (.ok d h1)) Q := rfl
@[simp] theorem endT_nx : endT h Q (.nx e) h1 = wp (trim h (.ok .non h1)) Q := rfl
theorem fnT_w {p n : Nat} {b : AS} {ds : List D} (hl : ds.length = p) (hb : wp (b (envOf n ds) h) (endT h Q)) : wp (fnT p n b ds h) Q := by
  unfold fnT
  rw [decide_eq_true hl]
  show wp (trim h (fnR (b (envOf n ds) h))) Q
  obtain ⟨f, h2, e, q⟩ := wp_iff.mp hb
  rw [e]
  cases f with
  | rt d => exact q
  | nx e => exact q
  | bk _ => exact q.elim
  | ct _ => exact q.elim
  | ex _ _ => exact q.elim
theorem fnT_eq' {p n : Nat} {b : AS} {ds : List D} {h2 : AH} (hl : ds.length = p) (hb : wp (b (envOf n ds) h) (endT h fun x k => x = d ∧ k = h2)) : fnT p n b ds h = .ok d h2 := wp_eq (fnT_w hl hb)
theorem trim_app {L : AH} (hd : nloc d = true) (hc : clo h.length d = true) : trim h (.ok d (h ++ L)) = .ok d h := trim_val rfl (pre_refl h) (fun l e => by rw [e] at hd; cases hd) hc
theorem trim_same (hd : nloc d = true) (hc : clo h.length d = true) : trim h (.ok d h) = .ok d h := by
  have := trim_app (L := []) hd hc
  simpa using this
theorem trim_set {L : AH} {l : Nat} {o : AO} (ho : IsTp o) (hd : nloc d = true) (hc : clo h.length d = true) : trim h (.ok d (h.set l o ++ L)) = .ok d (h.set l o) := trim_val (by simp) (pre_set (ho.clo _)) (fun l e => by rw [e] at hd; cases hd) hc
theorem trim_set0 {l : Nat} {o : AO} (ho : IsTp o) (hd : nloc d = true) (hc : clo h.length d = true) : trim h (.ok d (h.set l o)) = .ok d (h.set l o) := by
  have := trim_set (h := h) (L := []) (l := l) ho hd hc
  simpa using this
end
@[simp] theorem nloc_int (i : Int) : nloc (.int i) = true := rfl
@[simp] theorem nloc_str (i : List Nat) : nloc (.str i) = true := rfl
@[simp] theorem nloc_bl (i : Bool) : nloc (.bl i) = true := rfl
@[simp] theorem nloc_non : nloc .non = true := rfl
@[simp] theorem nloc_tup (xs : List D) : nloc (.tup xs) = true := rfl
@[simp] theorem nloc_lst (xs : List D) : nloc (.lst xs) = true := rfl
@[simp] theorem nloc_ins (c : String) (ns : List String) (xs : List D) : nloc (.ins c ns xs) = true := rfl
@[simp] theorem clo_ins (n : Nat) (c : String) (ns : List String) (ds : List D) : clo n (.ins c ns ds) = clos n ds := by rw [clo]
@[simp] theorem clo_scr (n : Nat) (ds : List D) : clo n (.scr ds) = clos n ds := by rw [clo]
theorem bigv : big = 16777216 := rfl
@[simp] theorem leBig (n : Nat) (h : n ≤ 16777216 := by omega) : decide (n ≤ big) = true := by rw [bigv]; simpa using h
/-! ### attributes -/
def kF2 (f : D → D → AH → R D) (y : D) : D → AH → R D := fun x h2 => f x y h2
@[simp] theorem kF2_def (f : D → D → AH → R D) (y x : D) (h : AH) : kF2 f y x h = f x y h := rfl
def kF1 (f : D → D → AH → R D) (o : AE) (e : Env) : D → AH → R D := fun y h1 => (o e h1).bind (kF2 f y)
@[simp] theorem kF1_def (f : D → D → AH → R D) (o : AE) (e : Env) (y : D) (h : AH) : kF1 f o e y h = (o e h).bind (kF2 f y) := rfl
@[simp] theorem sFldS_def (f : D → D → AH → R D) (o v : AE) (e : Env) (h : AH) : sFldS f o v e h = up e ((v e h).bind (kF1 f o e)) (kE e) := rfl
def kMth (tbl : List (String × AF)) (m : String) (as : AA) (e : Env) : D → AH → R D := fun d h1 => mthR tbl m as e d h1
@[simp] theorem eMth_def (tbl : List (String × AF)) (m : String) (a : AE) (as : AA) (e : Env) (h : AH) : eMth tbl m a as e h = (a e h).bind (kMth tbl m as e) := rfl
def kCal (tbl : List (String × AF)) (as : AA) (e : Env) : D → AH → R D := fun d h1 => clR tbl as e d h1
@[simp] theorem eCal_def (tbl : List (String × AF)) (a : AE) (as : AA) (e : Env) (h : AH) : eCal tbl a as e h = (a e h).bind (kCal tbl as e) := rfl
@[simp] theorem ePrp_def (tbl : List (String × AF)) (a : AE) (e : Env) (h : AH) : ePrp tbl a e h = (a e h).bind (prR tbl) := rfl

section
variable {h : AH} {c : String} {ns : List String} {ds : List D}
@[simp] theorem insH_ins : insH h (.ins c ns ds) = some (c, ns, ds) := rfl
end
end Sm
end

section
set_option linter.all false
set_option maxRecDepth 10000
/-! Eqd: == of plain data. -/
namespace Sm
mutual
/-- plain data without truth values -/
def nb : D → Bool
  | .non => true
  | .int _ => true
  | .str x => x.all fun c => decide (c < 1114112)
  | .tup xs => nbs xs
  | .lst xs => nbs xs
  | _ => false
def nbs : List D → Bool
  | [] => true
  | x :: xs => nb x && nbs xs
end
mutual
def dp : D → Nat
  | .tup xs => dps xs + 1
  | .lst xs => dps xs + 1
  | _ => 0
def dps : List D → Nat
  | [] => 0
  | x :: xs => max (dp x) (dps xs)
end
@[simp] theorem nb_non : nb .non = true := by rw [nb]
@[simp] theorem nb_int (i : Int) : nb (.int i) = true := by rw [nb]
@[simp] theorem nb_str (x : List Nat) : nb (.str x) = x.all fun c => decide (c < 1114112) := by rw [nb]
@[simp] theorem nb_tup (xs : List D) : nb (.tup xs) = nbs xs := by rw [nb]
@[simp] theorem nb_lst (xs : List D) : nb (.lst xs) = nbs xs := by rw [nb]
@[simp] theorem nbs_nil : nbs [] = true := by rw [nbs]
@[simp] theorem nbs_cons (x : D) (xs : List D) : nbs (x :: xs) = (nb x && nbs xs) := by rw [nbs]
@[simp] theorem dp_non : dp .non = 0 := by simp [dp]
@[simp] theorem dp_int (i : Int) : dp (.int i) = 0 := by simp [dp]
@[simp] theorem dp_str (i : List Nat) : dp (.str i) = 0 := by simp [dp]
@[simp] theorem dp_tup (xs : List D) : dp (.tup xs) = dps xs + 1 := by rw [dp]
@[simp] theorem dp_lst (xs : List D) : dp (.lst xs) = dps xs + 1 := by rw [dp]
@[simp] theorem dps_nil : dps [] = 0 := by rw [dps]
@[simp] theorem dps_cons (x : D) (xs : List D) : dps (x :: xs) = max (dp x) (dps xs) := by rw [dps]
theorem nbs_all : ∀ xs : List D, nbs xs = xs.all nb
  | [] => by simp
  | x :: xs => by simp [nbs_all xs]
theorem dps_le {n : Nat} : ∀ {xs : List D}, (∀ x ∈ xs, dp x ≤ n) → dps xs ≤ n
  | [], _ => by simp
  | x :: xs, h => by
    have := dps_le (xs := xs) fun y hy => h y (List.mem_cons_of_mem _ hy)
    have := h x List.mem_cons_self
    simp; omega
mutual
theorem pd_nb (h : AH) : ∀ (n : Nat) (d : D), nb d = true → dp d ≤ n → pd h n d = some d
  | n, .non, _, _ => by cases n <;> rfl
  | n, .int i, _, _ => by cases n <;> rfl
  | n, .str x, hn, _ => by
    have e : pd0 (.str x) = some (.str x) := by
      rw [nb] at hn
      show (if _ then _ else _) = _
      rw [if_pos hn]
    cases n <;> exact e
  | 0, .tup xs, _, hd => by simp at hd
  | 0, .lst xs, _, hd => by simp at hd
  | n + 1, .tup xs, hn, hd => by
    show (mapO (pd h n) xs).map D.tup = _
    rw [pds_nb h n xs (by simpa using hn) (by simpa using hd)]; rfl
  | n + 1, .lst xs, hn, hd => by
    show (mapO (pd h n) xs).map D.lst = _
    rw [pds_nb h n xs (by simpa using hn) (by simpa using hd)]; rfl
  | n, .bl _, hn, _ => by simp [nb] at hn
  | n, .scr _, hn, _ => by simp [nb] at hn
  | n, .dic _ _, hn, _ => by simp [nb] at hn
  | n, .ins _ _ _, hn, _ => by simp [nb] at hn
  | n, .loc _, hn, _ => by simp [nb] at hn
  | n, .ty _, hn, _ => by simp [nb] at hn
theorem pds_nb (h : AH) (n : Nat) : ∀ (xs : List D), nbs xs = true → dps xs ≤ n → mapO (pd h n) xs = some xs
  | [], _, _ => rfl
  | x :: xs, hn, hd => by
    simp at hn hd
    unfold mapO
    rw [pd_nb h n x hn.1 (by omega), pds_nb h n xs hn.2 (by omega)]; rfl
end
mutual
theorem ev_nb : ∀ (x y : D), nb x = true → nb y = true → ev x y = decide (x = y)
  | .non, .non, _, _ => by simp [ev]
  | .non, .int _, _, _ => by simp [ev]
  | .non, .str _, _, _ => by simp [ev]
  | .non, .tup _, _, _ => by simp [ev]
  | .non, .lst _, _, _ => by simp [ev]
  | .int _, .non, _, _ => by simp [ev]
  | .int i, .int j, _, _ => by
    rw [ev]
    by_cases e : i = j
    · subst e; simp
    · rw [beq_eq_false_iff_ne.mpr e, decide_eq_false fun z => e (D.int.inj z)]
  | .int _, .str _, _, _ => by simp [ev]
  | .int _, .tup _, _, _ => by simp [ev]
  | .int _, .lst _, _, _ => by simp [ev]
  | .str _, .non, _, _ => by simp [ev]
  | .str _, .int _, _, _ => by simp [ev]
  | .str a, .str b, _, _ => by
    rw [ev]
    by_cases e : a = b
    · subst e; simp
    · rw [beq_eq_false_iff_ne.mpr e, decide_eq_false fun z => e (D.str.inj z)]
  | .str _, .tup _, _, _ => by simp [ev]
  | .str _, .lst _, _, _ => by simp [ev]
  | .tup _, .non, _, _ => by simp [ev]
  | .tup _, .int _, _, _ => by simp [ev]
  | .tup _, .str _, _, _ => by simp [ev]
  | .tup a, .tup b, h1, h2 => by
    rw [ev, evs_nb a b (by simpa using h1) (by simpa using h2)]
    exact decide_eq_decide.mpr ⟨fun e => by rw [e], fun e => D.tup.inj e⟩
  | .tup _, .lst _, _, _ => by simp [ev]
  | .lst _, .non, _, _ => by simp [ev]
  | .lst _, .int _, _, _ => by simp [ev]
  | .lst _, .str _, _, _ => by simp [ev]
  | .lst _, .tup _, _, _ => by simp [ev]
  | .lst a, .lst b, h1, h2 => by
    rw [ev, evs_nb a b (by simpa using h1) (by simpa using h2)]
    exact decide_eq_decide.mpr ⟨fun e => by rw [e], fun e => D.lst.inj e⟩
  | .bl _, _, h, _ => by simp [nb] at h
  | .scr _, _, h, _ => by simp [nb] at h
  | .dic _ _, _, h, _ => by simp [nb] at h
  | .ins _ _ _, _, h, _ => by simp [nb] at h
  | .loc _, _, h, _ => by simp [nb] at h
  | .ty _, _, h, _ => by simp [nb] at h
  | _, .bl _, _, h => by simp [nb] at h
  | _, .scr _, _, h => by simp [nb] at h
  | _, .dic _ _, _, h => by simp [nb] at h
  | _, .ins _ _ _, _, h => by simp [nb] at h
  | _, .loc _, _, h => by simp [nb] at h
  | _, .ty _, _, h => by simp [nb] at h
theorem evs_nb : ∀ (xs ys : List D), nbs xs = true → nbs ys = true → evs xs ys = decide (xs = ys)
  | [], [], _, _ => by simp [evs]
  | [], _ :: _, _, _ => by simp [evs]
  | _ :: _, [], _, _ => by simp [evs]
  | x :: xs, y :: ys, h1, h2 => by
    simp at h1 h2
    rw [evs, ev_nb x y h1.1 h2.1, evs_nb xs ys h1.2 h2.2, ← Bool.decide_and]
    exact decide_eq_decide.mpr (by rw [List.cons.injEq])
end
/-- d stands for the plain datum x in the heap -/
def Pd (h : AH) (d x : D) : Prop := pd h 64 d = some x
theorem Pd.nb {h : AH} {d : D} (h1 : nb d = true) (h2 : dp d ≤ 64) : Pd h d d := pd_nb h 64 d h1 h2
theorem Pd.loc {h : AH} {l : Nat} {xs : List D} (e : getL h l = some xs) (h1 : nbs xs = true) (h2 : dps xs ≤ 63) : Pd h (.loc l) (.lst xs) := by
  show (match h[l]? with
      | some (.lst xs) => (mapO (pd h 63) xs).map D.lst
      | _ => none) = _
  unfold getL at e
  split at e
  · rename_i ys e2
    cases e
    try rw [e2]
    simp [pds_nb h 63 xs h1 h2]
  · cases e
theorem eq_pd {h : AH} {d e x y : D} (h1 : Pd h d x) (h2 : Pd h e y) (n1 : nb x = true) (n2 : nb y = true) (hs : scal d e = true → (d = x ∧ e = y)) : eqH h d e = some (decide (x = y)) := by
  unfold eqH
  by_cases s : scal d e = true
  · rw [if_pos s]
    obtain ⟨rfl, rfl⟩ := hs s
    rfl
  · rw [if_neg s]
    unfold Pd at h1 h2
    rw [h1]
    dsimp only
    rw [h2]
    dsimp only
    rw [ev_nb x y n1 n2]
theorem ne_nb {h : AH} {x y : D} (n1 : nb x = true) (n2 : nb y = true) (d1 : dp x ≤ 64) (d2 : dp y ≤ 64) : neD x y h = .ok (.bl (!decide (x = y))) h := by
  unfold neD
  rw [eq_pd (.nb n1 d1) (.nb n2 d2) n1 n2 fun _ => ⟨rfl, rfl⟩]; rfl
end Sm
end

section
set_option linter.all false
set_option maxRecDepth 10000
/-! Fo: forests: shapes, paths, what the program and the laws make of them. -/
namespace Sm
/-! ### sequences as values -/
structure SeqD (P : D) (xs : List D) : Prop where
  ix : ∀ (i : Int) (h : AH), ixD P (.int i) h = R.of (at? xs i) h
  len : ∀ h : AH, lenD P h = .ok (.int xs.length) h
  it : ∀ h : AH, kIS P h = .ok (.lst xs) h
  tup : ∀ h : AH, tupD P h = .ok (.tup xs) h
  list : ∀ h : AH, listD true P h = .ok (.lst xs) h
  seq : ∀ h : AH, seqH h P = some xs
  nl : nloc P = true
theorem SeqD.t (xs : List D) : SeqD (.tup xs) xs := ⟨fun _ _ => rfl, fun _ => rfl, fun _ => rfl, fun _ => rfl, fun _ => rfl, fun _ => rfl, rfl⟩
theorem SeqD.l (xs : List D) : SeqD (.lst xs) xs := ⟨fun _ _ => rfl, fun _ => rfl, fun _ => rfl, fun _ => rfl, fun _ => rfl, fun _ => rfl, rfl⟩
/-! ### shapes -/
abbrev Par := List (Option Nat)
def eO : Option Nat → D
  | none => .non
  | some k => .int k
def encP (ps : Par) : List D := ps.map eO
@[simp] theorem eO_none : eO none = .non := rfl
@[simp] theorem eO_some (k : Nat) : eO (some k) = .int k := rfl
@[simp] theorem encP_len (ps : Par) : (encP ps).length = ps.length := by simp [encP]
@[simp] theorem clo_eO (n : Nat) (p : Option Nat) : clo n (eO p) = true := by cases p <;> rfl
@[simp] theorem clos_encP (n : Nat) (ps : Par) : clos n (encP ps) = true := by rw [clos_all]; simp [encP]
structure Acy (ps : Par) : Prop where
  ex : ∃ rk : Nat → Nat, (∀ i < ps.length, rk i < ps.length) ∧ ∀ i p : Nat, ps[i]? = some (some p) → p < ps.length ∧ rk p < rk i
def par (ps : Par) (f : Nat) : Option Nat := (ps[f]?).join
theorem par_lt {ps : Par} (a : Acy ps) {f p : Nat} (h : par ps f = some p) : p < ps.length := by
  obtain ⟨rk, h1, h2⟩ := a.ex
  unfold par at h
  cases e : ps[f]? with
  | none => rw [e] at h; cases h
  | some q => rw [e] at h; simp at h; subst h; exact (h2 f p e).1
theorem par_get {ps : Par} {f : Nat} (hf : f < ps.length) : ps[f]? = some (par ps f) := by
  unfold par; rw [List.getElem?_eq_getElem hf]; rfl
def pathF (ps : Par) : Nat → Nat → List Nat
  | 0, f => [f]
  | k + 1, f => match par ps f with
    | none => [f]
    | some p => pathF ps k p ++ [f]
def path (ps : Par) (f : Nat) : List Nat := pathF ps ps.length f
theorem pathF_st {ps : Par} {rk : Nat → Nat} (h : ∀ i p : Nat, ps[i]? = some (some p) → p < ps.length ∧ rk p < rk i) : ∀ (k j f : Nat), rk f ≤ k → rk f ≤ j → pathF ps k f = pathF ps j f := by
  intro k
  induction k with
  | zero =>
    intro j f h1 h2
    have hp : par ps f = none := by
      cases hq : par ps f with
      | none => rfl
      | some p =>
        exfalso
        unfold par at hq
        cases e : ps[f]? with
        | none => rw [e] at hq; cases hq
        | some q => rw [e] at hq; simp at hq; subst hq; have := (h f p e).2; omega
    cases j with
    | zero => rfl
    | succ j => simp [pathF, hp]
  | succ k ih =>
    intro j f h1 h2
    cases hq : par ps f with
    | none => cases j <;> simp [pathF, hq]
    | some p =>
      have e : ps[f]? = some (some p) := by
        unfold par at hq
        cases e : ps[f]? with
        | none => rw [e] at hq; cases hq
        | some q => rw [e] at hq; simp at hq; rw [hq]
      have := (h f p e).2
      cases j with
      | zero => omega
      | succ j => simp only [pathF, hq]; rw [ih j p (by omega) (by omega)]
theorem path_eq {ps : Par} (a : Acy ps) {f : Nat} (hf : f < ps.length) : path ps f = match par ps f with
    | none => [f]
    | some p => path ps p ++ [f] := by
  obtain ⟨rk, h1, h2⟩ := a.ex
  have hr := h1 f hf
  cases hq : par ps f with
  | none =>
    unfold path
    cases hn : ps.length with
    | zero => omega
    | succ n => simp [pathF, hq]
  | some p =>
    have hp := par_lt a hq
    have hr2 := h1 p hp
    unfold path
    have e : ps[f]? = some (some p) := by rw [par_get hf, hq]
    have hlt := (h2 f p e).2
    obtain ⟨n, hn⟩ : ∃ n, ps.length = n + 1 := ⟨ps.length - 1, by omega⟩
    have : pathF ps (n + 1) f = pathF ps n p ++ [f] := by simp [pathF, hq]
    rw [hn, this, pathF_st h2 n (n + 1) p (by omega) (by omega)]
theorem path_none {ps : Par} (a : Acy ps) {f : Nat} (hf : f < ps.length) (h : par ps f = none) : path ps f = [f] := by rw [path_eq a hf, h]
theorem path_some {ps : Par} (a : Acy ps) {f p : Nat} (hf : f < ps.length) (h : par ps f = some p) : path ps f = path ps p ++ [f] := by rw [path_eq a hf, h]
abbrev eN (k : Nat) : D := .int k
@[simp] theorem clo_eN (n k : Nat) : clo n (eN k) = true := rfl
@[simp] theorem clos_eN (n : Nat) (xs : List Nat) : clos n (xs.map eN) = true := by rw [clos_all]; simp
/-- the rank of a shape -/
theorem Acy.rank {ps : Par} (a : Acy ps) : ∃ rk : Nat → Nat, (∀ i < ps.length, rk i < ps.length) ∧ ∀ f p : Nat, f < ps.length → par ps f = some p → p < ps.length ∧ rk p < rk f := by
  obtain ⟨rk, h1, h2⟩ := a.ex
  exact ⟨rk, h1, fun f p hf hp => h2 f p (by rw [par_get hf, hp])⟩
/-- every field of a path is a field -/
theorem path_mem {ps : Par} (a : Acy ps) {f : Nat} (hf : f < ps.length) : ∀ x ∈ path ps f, x < ps.length := by
  obtain ⟨rk, h1, h2⟩ := a.rank
  have key : ∀ (k f : Nat), f < ps.length → rk f < k → ∀ x ∈ path ps f, x < ps.length := by
    intro k
    induction k with
    | zero => intro f _ h; omega
    | succ k ih =>
      intro f hf hk x hx
      cases hq : par ps f with
      | none => rw [path_none a hf hq] at hx; simp at hx; omega
      | some p =>
        rw [path_some a hf hq] at hx
        obtain ⟨p1, p2⟩ := h2 f p hf hq
        rcases List.mem_append.mp hx with hx | hx
        · exact ih p p1 (by omega) x hx
        · simp at hx; omega
  exact key _ f hf (Nat.lt_succ_self _)
/-! ### path_of -/
@[simp] theorem ixN_m1 (n : Nat) : ixN (n + 1) (-1) = some n := by
  unfold ixN; rw [if_neg (by omega), if_pos (by omega)]; congr 1; omega
/-! ### the law's own path -/
@[simp] theorem mt2_def (f : D → D → D → AH → R D) (d x y : D) (h : AH) : mt2 f d [x, y] h = f d x y h := rfl
theorem inI_nat {n : Nat} (h : n ≤ 1000000000 := by omega) : inI (n : Int) = true := (inI_iff _).mpr ⟨by omega, by omega⟩
/-! ### never_ends, check_shape -/
/-! ### kinds -/
inductive Kd where
  | up | down | first | last
  deriving DecidableEq, Repr
def kw : Kd → List Nat
  | .up => [117, 112]
  | .down => [100, 111, 119, 110]
  | .first => [102, 105, 114, 115, 116]
  | .last => [108, 97, 115, 116]
def eK (k : Kd) : D := .str (kw k)
def encK (ks : List Kd) : List D := ks.map eK
@[simp] theorem encK_len (ks : List Kd) : (encK ks).length = ks.length := by simp [encK]
@[simp] theorem clo_eK (n : Nat) (k : Kd) : clo n (eK k) = true := rfl
@[simp] theorem clos_encK (n : Nat) (ks : List Kd) : clos n (encK ks) = true := by rw [clos_all]; simp [encK]
def kd (ks : List Kd) (f : Nat) : Kd := ks.getD f .up
def Kd.end_ : Kd → Bool
  | .first => true
  | .last => true
  | _ => false
structure Good (ps : Par) (ks : List Kd) : Prop where
  len : ks.length = ps.length
  pos : 0 < ps.length
  le : ps.length ≤ 16
  acy : Acy ps
  leaf : ∀ f < ps.length, (kd ks f).end_ = true → some f ∉ ps
@[simp] theorem flat_eO (p : Option Nat) : flat (eO p) = true := by cases p <;> rfl
theorem eqK (k j : Kd) : (kw k = kw j) ↔ k = j := by cases k <;> cases j <;> simp [kw]
@[simp] theorem notNon_eO (p : Option Nat) (h : AH) : notNonD (eO p) h = .ok (.bl p.isSome) h := by cases p <;> rfl
@[simp] theorem isNon_eO (p : Option Nat) (h : AH) : isNonD (eO p) h = .ok (.bl p.isNone) h := by cases p <;> rfl
/-! ### forests as values -/
def fo (ps : Par) (ks : List Kd) : D := .ins "Forest" ["fields", "parents", "kinds"] [.int ps.length, .tup (encP ps), .tup (encK ks)]
@[simp] theorem clo_fo (n : Nat) (ps : Par) (ks : List Kd) : clo n (fo ps ks) = true := by simp [fo]
@[simp] theorem fo_fields (ps : Par) (ks : List Kd) (h : AH) : fldD ["Forest"] "fields" (fo ps ks) h = .ok (.int ps.length) h := rfl
@[simp] theorem fo_parents (ps : Par) (ks : List Kd) (h : AH) : fldD ["Forest"] "parents" (fo ps ks) h = .ok (.tup (encP ps)) h := rfl
@[simp] theorem fo_kinds (ps : Par) (ks : List Kd) (h : AH) : fldD ["Forest"] "kinds" (fo ps ks) h = .ok (.tup (encK ks)) h := rfl
/-! ### draws -/
@[simp] theorem listRg_def (tup fz : Bool) (a b : AE) (e : Env) (h : AH) : eLR tup fz a b e h = (a e h).bind fun x h1 => (b e h1).bind fun y h2 => match x with
  | .int i => match y with
    | .int j => R.chk (inI i && inI j && decide ((j - i).toNat ≤ big)) (if tup then .ok (.tup (rng i (j - i).toNat)) h2 else mkL fz (rng i (j - i).toNat) h2)
    | _ => .no
  | _ => .no := rfl
theorem q_take_ok {h : AH} {l : Nat} {n : Int} (t : Tp h l) (h0 : 0 < n) (h1 : n ≤ 10000000000000000000000000000000000000000000000000000000000000000000000000000000000000000000000000000) : ∃ r o, 0 ≤ r ∧ r < n ∧ IsTp o ∧ F_q_take [.loc l, .int n] h = .ok (.int r) (h.set l o) := take_ok t h0 h1
/-- with a natural size -/
theorem takeN {h : AH} {l n : Nat} (t : Tp h l) (h0 : 0 < n) (h1 : n ≤ 1000000000000) : ∃ (r : Nat) (o : AO), r < n ∧ IsTp o ∧ F_q_take [.loc l, .int n] h = .ok (.int r) (h.set l o) := by
  obtain ⟨r, o, a, b, c, d⟩ := q_take_ok (n := n) t (by omega) (Int.le_trans (show (n : Int) ≤ 1000000000000 by omega) (by decide +kernel))
  obtain ⟨k, rfl⟩ := Int.eq_ofNat_of_zero_le a
  exact ⟨k, o, by omega, c, d⟩
theorem Tp.mono {h : AH} {l : Nat} {L : AH} (t : Tp h l) : Tp (h ++ L) l := t.app
theorem tp_self {h : AH} {l : Nat} (t : Tp h l) : ∃ o, IsTp o ∧ h.set l o = h := by
  obtain ⟨c, k, e, hc⟩ := t.ex
  refine ⟨_, ⟨c, k, rfl, hc⟩, ?_⟩
  obtain ⟨hl, e⟩ := List.getElem?_eq_some_iff.mp e
  rw [← e]; simp
def PUp (ts : List Nat) (i : Nat) (ps : Par) : Prop := ∀ x p : Nat, ps[x]? = some (some p) → ∃ a b : Nat, ts[a]? = some p ∧ ts[b]? = some x ∧ a < b ∧ b ≤ i
def KOk (ps : Par) (fair : Bool) (ks : List Kd) : Prop := ∀ f < ks.length, (kd ks f).end_ = true → some f ∉ ps ∧ fair = false
theorem Good.of {ps : Par} {ks : List Kd} {fair : Bool} (h1 : 0 < ps.length) (h2 : ps.length ≤ 16) (a : Acy ps) (h3 : ks.length = ps.length) (h4 : KOk ps fair ks) : Good ps ks := ⟨h3, h1, h2, a, fun f hf he => (h4 f (by omega) he).1⟩
/-! ### the laws' looks -/
theorem q_int_ok (h : AH) (i : Int) : F_q_is_integer [.int i] h = .ok (.bl true) h := by
  have := trim_same (h := h) (d := .bl true) rfl rfl
  exact fnT_eq' rfl (by simp [b_q_is_integer, envOf, this])
theorem tape_ok {xs : List Int} {k : Nat} {h : AH} : ∃ o, IsTp o ∧ F_q_tape [.scr (xs.map .int), .int k] h = .ok (.loc h.length) (h ++ [o]) := by
  by_cases hk : k < xs.length
  · refine ⟨tape (if xs[k] < 0 then -xs[k] else xs[k]) 0, ⟨_, 0, rfl, by split <;> omega⟩, ?_⟩
    have hk2 : (k : Int) < (xs.length : Int) := by omega
    simp [F_q_tape, fnK, fnR, b_q_tape, envOf, hk, hk2, tape]
  · refine ⟨tape k 0, ⟨_, 0, rfl, by omega⟩, ?_⟩
    have hk2 : ¬ (k : Int) < (xs.length : Int) := by omega
    simp [F_q_tape, fnK, fnR, b_q_tape, envOf, hk, hk2, tape]
end Sm
end

section
set_option linter.all false
set_option maxRecDepth 10000
/-! Fo2: what k06 looks at. -/
namespace Sm
@[simp] theorem isTy_eK (k : Kd) (h : AH) : isTy "str" (eK k) h = .ok (.bl true) h := rfl
@[simp] theorem ne_eK (k j : Kd) (h : AH) : neD (eK k) (eK j) h = .ok (.bl (!decide (k = j))) h := by
  unfold eK
  rw [ne_str]
  congr 3
  exact decide_eq_decide.mpr (eqK k j)
@[simp] theorem eq_eK (k j : Kd) (h : AH) : eqD (eK k) (eK j) h = .ok (.bl (decide (k = j))) h := by
  unfold eK
  rw [eq_str]
  congr 2
  exact decide_eq_decide.mpr (eqK k j)
def wordD (ps : Par) (ks : List Kd) (f : Nat) : List D := (path ps f).map fun (k : Nat) => D.tup [.int k, eK (kd ks k)]
def ptuple (xs : List Nat) : D := .tup (xs.map eN)
@[simp] theorem isTy_tup_tup' (s : List D) (h : AH) : isTy "tuple" (.tup s) h = .ok (.bl true) h := rfl
/-! ### the program's properties and methods -/
@[simp] theorem fo_ins (ps : Par) (ks : List Kd) (h : AH) : insH h (fo ps ks) = some ("Forest", ["fields", "parents", "kinds"], [.int ps.length, .tup (encP ps), .tup (encK ks)]) := rfl
def leavesL (ps : Par) : List Nat := (List.range ps.length).filter fun k => !decide (some k ∈ ps)
def rootsL (ps : Par) : List Nat := (List.range ps.length).filter fun k => (par ps k).isNone
def childL (ps : Par) (f : Option Nat) : List Nat := (List.range ps.length).filter fun k => decide (par ps k = f)
def beneathL (ps : Par) (f : Nat) : List Nat := ((List.range ps.length).filter fun k => decide (f ∈ path ps k)).filter fun k => !decide (k = f)
theorem range_len (p : Nat → Bool) (n : Nat) : ((List.range n).filter p).length ≤ n := by
  have := List.length_filter_le p (List.range n)
  simpa using this
section
variable {ps : Par} {ks : List Kd} (hn : ps.length ≤ 1000) (h : AH)
include hn
variable (a : Acy ps)
include a
variable (hk : ks.length = ps.length)
include hk
end
@[simp] theorem nb_eK (k : Kd) : nb (eK k) = true := by cases k <;> decide
@[simp] theorem dp_eK (k : Kd) : dp (eK k) = 0 := by simp [eK]
end Sm
end

section
set_option linter.all false
set_option maxRecDepth 10000
/-! Fo3: forests made of mutable lists; turned and mirrored forests. -/
namespace Sm
structure SeqA (h : AH) (P : D) (xs : List D) : Prop where
  ix : ∀ i : Int, ixD P (.int i) h = R.of (at? xs i) h
  len : lenD P h = .ok (.int xs.length) h
  tup : tupD P h = .ok (.tup xs) h
  seq : seqH h P = some xs
theorem SeqD.a {P : D} {xs : List D} (s : SeqD P xs) (h : AH) : SeqA h P xs := ⟨fun i => s.ix i h, s.len h, s.tup h, s.seq h⟩
theorem SeqA.loc {h : AH} {l : Nat} {xs : List D} (e : getL h l = some xs) : SeqA h (.loc l) xs := by
  refine ⟨fun i => ixL i e, lenL e, ?_, e⟩
  unfold tupD
  rw [show seqH h (.loc l) = some xs from e]
section
variable {h : AH}
end
/-! ### turned, mirrored -/
def sw (a b k : Kd) : Kd := if k = a then b else if k = b then a else k
theorem kd_map (f : Kd → Kd) (ks : List Kd) {i : Nat} (hi : i < ks.length) : kd (ks.map f) i = f (kd ks i) := by
  unfold kd
  rw [List.getD_eq_getElem?_getD, List.getD_eq_getElem?_getD, List.getElem?_map, List.getElem?_eq_getElem hi]; rfl
theorem Good.map {ps : Par} {ks : List Kd} (g : Good ps ks) (f : Kd → Kd) (hf : ∀ k, (f k).end_ = true → k.end_ = true) : Good ps (ks.map f) :=
  ⟨by simp [g.len], g.pos, g.le, g.acy, fun i hi he => g.leaf i hi (hf _ (by rwa [kd_map f ks (by rw [g.len]; exact hi)] at he))⟩
def unK (d : D) : Kd := if d = eK .up then .up else if d = eK .down then .down else if d = eK .first then .first else .last
@[simp] theorem unK_eK (k : Kd) : unK (eK k) = k := by cases k <;> decide
end Sm
end

section
set_option linter.all false
set_option maxRecDepth 10000
/-! Pw2: loops over a list object. -/
namespace Sm
theorem kIS_loc {h : AH} {l : Nat} {xs : List D} (e : getL h l = some xs) : kIS (.loc l) h = .ok (.live l) h := by
  unfold getL at e
  split at e
  · rename_i ys e2
    show (match h[l]? with
      | some (.lst _) => R.ok (Src.live l) h
      | _ => R.no) = _
    first | rw [e2] | rfl
  · cases e
@[simp] theorem listF_lst (xs : List D) (h : AH) : listD false (.lst xs) h = .ok (.loc h.length) (h ++ [.lst xs]) := rfl
@[simp] theorem listF_tup (xs : List D) (h : AH) : listD false (.tup xs) h = .ok (.loc h.length) (h ++ [.lst xs]) := rfl
end Sm
end

section
set_option linter.all false
set_option maxRecDepth 10000
/-! Fr: defs that may raise; records over forests. -/
namespace Sm
def endX (h : AH) (r : R D) : Fl → AH → Prop := fun f h1 => match f with
  | .rt d => trim h (.ok d h1) = r
  | .nx _ => trim h (.ok .non h1) = r
  | .ex x _ => trim h (.exc x h1) = r
  | _ => False
section
variable {h h1 : AH} {r : R D} {d : D} {e : Env} {x : Ex}
@[simp] theorem endX_rt : endX h r (.rt d) h1 = (trim h (.ok d h1) = r) := rfl
@[simp] theorem endX_nx : endX h r (.nx e) h1 = (trim h (.ok .non h1) = r) := rfl
@[simp] theorem endX_ex : endX h r (.ex x e) h1 = (trim h (.exc x h1) = r) := rfl
theorem fnT_x {p n : Nat} {b : AS} {ds : List D} (hl : ds.length = p) (hb : wp (b (envOf n ds) h) (endX h r)) : fnT p n b ds h = r := by
  unfold fnT
  rw [decide_eq_true hl]
  show trim h (fnR (b (envOf n ds) h)) = r
  obtain ⟨f, h2, e, q⟩ := wp_iff.mp hb
  rw [e]
  cases f with
  | rt d => exact q
  | nx e => exact q
  | bk _ => exact q.elim
  | ct _ => exact q.elim
  | ex _ _ => exact q
@[simp] theorem after_ex {I : Nat → Env → AH → Prop} {i : Nat} {Q : Fl → AH → Prop} : after I i Q (.ex x e) h = Q (.ex x e) h := rfl
def kRaise (c : String) (ns : List String) (e : Env) : List D → AH → R Fl := fun ds h1 => R.chk (decide (ds.length = ns.length ∧ ds.length < 1000)) (.ok (.ex ⟨c, ns.reverse, ds.reverse⟩ e) h1)
@[simp] theorem kRaise_def (c : String) (ns : List String) (ds : List D) : kRaise c ns e ds h = R.chk (decide (ds.length = ns.length ∧ ds.length < 1000)) (.ok (.ex ⟨c, ns.reverse, ds.reverse⟩ e) h) := rfl
@[simp] theorem sRaise_def (c : String) (ns : List String) (as : AA) : sRaise c ns as e h = up e (as e h) (kRaise c ns e) := rfl
@[simp] theorem sTryAs_def (tbl : List (String × Bool)) (i : Nat) (b : AS) (su : Ex → AS) : sTryAs tbl i b su e h = (b e h).bind (tryK tbl i su) := rfl
@[simp] theorem tryK_nx (tbl : List (String × Bool)) (i : Nat) (su : Ex → AS) : tryK tbl i su (.nx e) h = .ok (.nx e) h := rfl
@[simp] theorem tryK_rt (tbl : List (String × Bool)) (i : Nat) (su : Ex → AS) : tryK tbl i su (.rt d) h = .ok (.rt d) h := rfl
@[simp] theorem suK_nx (i : Nat) : suK i (.nx e) h = .ok (.nx (e.set i none)) h := rfl
@[simp] theorem suK_rt (i : Nat) : suK i (.rt d) h = .ok (.rt d) h := rfl
@[simp] theorem eXis_def (tbl : List (String × Bool)) : eXis x tbl e h = R.of ((lookB x.cls tbl).map .bl) h := rfl
@[simp] theorem eXf_def (cs : List String) (n : String) : eXf cs x n e h = R.chk (cs.contains x.cls) (R.of (look1 n x.ns x.ds) h) := rfl
end
/-! ### the first one of which .. -/
def hitQ (Q : Fl → AH → Prop) : Fl → AH → Prop := fun f h => match f with
  | .rt d => Q (.rt d) h
  | .ex x e => Q (.ex x e) h
  | _ => False
def missQ (I : Env → Prop) (h : AH) : Fl → AH → Prop := fun f k => match f with
  | .nx e => I e ∧ k = h
  | .ct e => I e ∧ k = h
  | _ => False
section
variable {Q : Fl → AH → Prop} {I : Env → Prop} {h k : AH} {e : Env} {d : D} {x : Ex}
@[simp] theorem hitQ_rt : hitQ Q (.rt d) h = Q (.rt d) h := rfl
@[simp] theorem hitQ_ex : hitQ Q (.ex x e) h = Q (.ex x e) h := rfl
@[simp] theorem missQ_nx : missQ I h (.nx e) k = (I e ∧ k = h) := rfl
@[simp] theorem missQ_ct : missQ I h (.ct e) k = (I e ∧ k = h) := rfl
end
/-! ### records and letters -/
def oI : Option Int → D
  | none => .non
  | some i => .int i
@[simp] theorem oI_none : oI none = .non := rfl
@[simp] theorem oI_some (i : Int) : oI (some i) = .int i := rfl
abbrev Let := List (Option Int)
def lett (l : Let) : List D := l.map oI
@[simp] theorem lett_len (l : Let) : (lett l).length = l.length := by simp [lett]
@[simp] theorem clo_oI (n : Nat) (o : Option Int) : clo n (oI o) = true := by cases o <;> rfl
@[simp] theorem clos_lett (n : Nat) (l : Let) : clos n (lett l) = true := by rw [clos_all]; simp [lett]
@[simp] theorem nb_oI (o : Option Int) : nb (oI o) = true := by cases o <;> simp
@[simp] theorem dp_oI (o : Option Int) : dp (oI o) = 0 := by cases o <;> simp
@[simp] theorem oI_inj (a b : Option Int) : oI a = oI b ↔ a = b := by cases a <;> cases b <;> simp
@[simp] theorem isNon_oI (o : Option Int) (h : AH) : isNonD (oI o) h = .ok (.bl o.isNone) h := by cases o <;> rfl
@[simp] theorem notNon_oI (o : Option Int) (h : AH) : notNonD (oI o) h = .ok (.bl o.isSome) h := by cases o <;> rfl
@[simp] theorem ne_oI (a b : Option Int) (h : AH) : neD (oI a) (oI b) h = .ok (.bl (!decide (a = b))) h := by
  rw [ne_nb (by simp) (by simp) (by simp) (by simp)]; simp
def val (l : Let) (p : Nat) : Option Int := (l[p]?).join
abbrev rec (r : List Int) : Let := r.map some
/-! ### first_unlike_on -/
def fu (path : List Nat) (a b : Let) : Option Nat := path.find? fun p => !decide (val a p = val b p)
end Sm
end

section
set_option linter.all false
set_option maxRecDepth 10000
/-! Fr2: receive. -/
namespace Sm
@[simp] theorem notNon_int (i : Int) (h : AH) : notNonD (.int i) h = .ok (.bl true) h := rfl
@[simp] theorem notNon_non (h : AH) : notNonD .non h = .ok (.bl false) h := rfl
@[simp] theorem isNon_int (i : Int) (h : AH) : isNonD (.int i) h = .ok (.bl false) h := rfl
@[simp] theorem isNon_non (h : AH) : isNonD .non h = .ok (.bl true) h := rfl
def bet (k : Kd) (a b : Int) : Bool := match k with
  | .up => decide (b < a)
  | .down => decide (a < b)
  | _ => false
def iv (l : Let) (p : Nat) : Int := (val l p).getD 0
def winsB (ps : Par) (ks : List Kd) (f : Nat) (a b : Let) : Bool := match fu (path ps f) a b with
  | none => false
  | some p => bet (kd ks p) (iv a p) (iv b p)
theorem fu_mem {path : List Nat} {a b : Let} {p : Nat} (h : fu path a b = some p) : p ∈ path := List.mem_of_find?_eq_some h
section
variable {ps : Par} {ks : List Kd} (g : Good ps ks) {h : AH} {f : Nat} (hf : f < ps.length) {a b : Let} (la : a.length = ps.length) (lb : b.length = ps.length)
include g hf la lb
end
/-! ### the checks -/
def lowEnd (ks : List Kd) : Option Nat := (List.range ks.length).find? fun f => (kd ks f).end_
def opens (ps : Par) (l : Let) (f : Nat) : Bool := (val l f).isSome && match par ps f with
  | none => false
  | some p => (val l p).isNone
def lowOpen (ps : Par) (l : Let) : Option Nat := (List.range ps.length).find? (opens ps l)
end Sm
end

section
set_option linter.all false
set_option maxRecDepth 10000
/-! Fr3: receive, whole. -/
namespace Sm
inductive Due where
  | fair (f : Nat) | rc (xs : List D) | op (f : Nat)
def exD : Due → Ex
  | .fair f => ⟨"NotFair", ["field"], [.int f]⟩
  | .rc xs => ⟨"BadRecord", ["record"], [.tup xs]⟩
  | .op f => ⟨"BadLetter", ["field"], [.int f]⟩
def due (ps : Par) (ks : List Kd) (hd : List Int) (lt : Let) : Option Due := match lowEnd ks with
  | some f => some (.fair f)
  | none => if hd.length = ps.length then if lt.length = ps.length then (lowOpen ps lt).map .op else some (.rc (lett lt)) else some (.rc (hd.map .int))
theorem val_rec {r : List Int} {p : Nat} (h : p < r.length) : val (rec r) p = some r[p] := by
  unfold val rec
  rw [List.getElem?_map, List.getElem?_eq_getElem h]; rfl
theorem iv_rec {r : List Int} {p : Nat} (h : p < r.length) : iv (rec r) p = r[p] := by unfold iv; rw [val_rec h]; rfl
def recF (ps : Par) (ks : List Kd) (hd : List Int) (lt : Let) (f : Nat) : Int := match val lt f with
  | some v => if winsB ps ks f lt (rec hd) then v else iv (rec hd) f
  | none => iv (rec hd) f
def recv (ps : Par) (ks : List Kd) (hd : List Int) (lt : Let) : List Int := (List.range ps.length).map (recF ps ks hd lt)
@[simp] theorem recv_len (ps : Par) (ks : List Kd) (hd : List Int) (lt : Let) : (recv ps ks hd lt).length = ps.length := by simp [recv]
def mid (ps : Par) (ks : List Kd) (hd : List Int) (lt : Let) (i : Nat) : List Int := (List.range ps.length).map fun j => if j < i then recF ps ks hd lt j else iv (rec hd) j
@[simp] theorem mid_len (ps : Par) (ks : List Kd) (hd : List Int) (lt : Let) (i : Nat) : (mid ps ks hd lt i).length = ps.length := by simp [mid]
end Sm
end

section
set_option linter.all false
set_option maxRecDepth 10000
/-! Fr4: the law k19's own questions. -/
namespace Sm
def encDue : Due → D
  | .fair f => .tup [.str [78, 111, 116, 70, 97, 105, 114], .int f]
  | .rc xs => .tup [.str [66, 97, 100, 82, 101, 99, 111, 114, 100], .tup xs]
  | .op f => .tup [.str [66, 97, 100, 76, 101, 116, 116, 101, 114], .int f]
def lenT : D → Nat
  | .tup xs => xs.length
  | _ => 0
/-! ### _law_ask -/
def askD (ps : Par) (ks : List Kd) (hd : List Int) (lt : Let) : D := match due ps ks hd lt with
  | none => .lst [.tup ((recv ps ks hd lt).map .int)]
  | some d => .tup [encDue d]
end Sm
end

section
set_option linter.all false
set_option maxRecDepth 10000
/-! Fr5: the law k19's own questions, to _law_holds. -/
namespace Sm
theorem is_int_ok (i : Int) (h : AH) : F_q_is_integer [.int i] h = .ok (.bl true) h := q_int_ok h i
/-! ### sides -/
def sideV (ps : Par) (ks : List Kd) (f : Nat) (a b : Let) : Int := match fu (path ps f) a b with
  | none => 0
  | some p => match kd ks p with
    | .first => 0
    | .last => 1
    | .up => if iv b p < iv a p then 0 else 1
    | .down => if iv b p < iv a p then 1 else 0
end Sm
end

section
set_option linter.all false
set_option maxRecDepth 10000
/-! Fr6: receiving twice; _law_holds. -/
namespace Sm
theorem path_split {ps : Par} (a : Acy ps) {f : Nat} (hf : f < ps.length) : ∀ q ∈ path ps f, ∃ t, path ps f = path ps q ++ t := by
  obtain ⟨rk, h1, h2⟩ := a.rank
  have key : ∀ (k f : Nat), f < ps.length → rk f < k → ∀ q ∈ path ps f, ∃ t, path ps f = path ps q ++ t := by
    intro k
    induction k with
    | zero => intro f _ h; omega
    | succ k ih =>
      intro f hf hk q hq
      cases hp : par ps f with
      | none =>
        rw [path_none a hf hp] at hq
        simp at hq
        subst hq
        exact ⟨[], by simp⟩
      | some p =>
        obtain ⟨p1, p2⟩ := h2 f p hf hp
        have hq2 := hq
        rw [path_some a hf hp] at hq2
        rcases List.mem_append.mp hq2 with hq2 | hq2
        · obtain ⟨t, ht⟩ := ih p p1 (by omega) q hq2
          exact ⟨t ++ [f], by rw [path_some a hf hp, ht, List.append_assoc]⟩
        · simp at hq2
          subst hq2
          exact ⟨[], by simp⟩
  exact key _ f hf (Nat.lt_succ_self _)
theorem fu_app {t u : List Nat} {a b : Let} : fu (t ++ u) a b = match fu t a b with
    | some p => some p
    | none => fu u a b := by
  unfold fu
  rw [List.find?_append]
  cases t.find? _ <;> rfl
theorem path_self {ps : Par} (a : Acy ps) {f : Nat} (hf : f < ps.length) : f ∈ path ps f := by
  cases hp : par ps f with
  | none => rw [path_none a hf hp]; simp
  | some p => rw [path_some a hf hp]; simp
theorem fu_prefix {path : List Nat} {a b : Let} {p : Nat} (e : fu path a b = some p) : ∃ t u, path = t ++ p :: u ∧ (∀ q ∈ t, val a q = val b q) ∧ val a p ≠ val b p := by
  unfold fu at e
  obtain ⟨h1, t, u, h2, h3⟩ := List.find?_eq_some_iff_append.mp e
  exact ⟨t, u, h2, fun q hq => by simpa using h3 q hq, by simpa using h1⟩
theorem fu_none {path : List Nat} {a b : Let} (e : fu path a b = none) : ∀ q ∈ path, val a q = val b q := fun q hq => by
  have := List.find?_eq_none.mp e q hq
  simpa using this
theorem fu_none_of {path : List Nat} {a b : Let} (e : ∀ q ∈ path, val a q = val b q) : fu path a b = none := List.find?_eq_none.mpr fun q hq => by simpa using e q hq
section
variable {ps : Par} {ks : List Kd} {hd : List Int} {lt : Let} (g : Good ps ks) (l1 : hd.length = ps.length) (hc : lowOpen ps lt = none)
include g l1 hc
end
end Sm
end

section
set_option linter.all false
set_option maxRecDepth 10000
/-! Fr7: _law_holds of k19. -/
namespace Sm
def tk (r : List Int) (i : Nat) : List D := (r.take i).map D.int
@[simp] theorem tk_0 (r : List Int) : tk r 0 = [] := rfl
end Sm
end

section
set_option linter.all false
set_option maxRecDepth 10000
/-! Fr8: drawn values, records, letters. -/
namespace Sm
def endK (Q : D → AH → Prop) : Fl → AH → Prop := fun f h1 => match f with
  | .rt d => Q d h1
  | .nx _ => Q .non h1
  | _ => False
section
variable {Q : D → AH → Prop} {h : AH} {d : D} {e : Env}
@[simp] theorem endK_rt : endK Q (.rt d) h = Q d h := rfl
@[simp] theorem endK_nx : endK Q (.nx e) h = Q .non h := rfl
end
theorem ixI {r : List Int} {i : Nat} (hi : i < r.length) : (r.map D.int)[i]? = some (.int r[i]) := by rw [List.getElem?_map, List.getElem?_eq_getElem hi]; rfl
end Sm
end

section
set_option linter.all false
set_option maxRecDepth 10000
/-! Fr9: k19's questions. -/
namespace Sm
theorem tpn {h : AH} {o : AO} {L : AH} (t : IsTp o) : Tp (h ++ o :: L) h.length := by
  obtain ⟨c, k, rfl, hc⟩ := t
  exact ⟨c, k, by rw [get_new (Nat.le_refl _)]; simp, hc⟩
end Sm
end

section
set_option linter.all false
set_option maxRecDepth 10000
/-! Ch: what the end of a lot is (fair kinds), in plain terms. -/
namespace Sm
def rv (r : List Int) (p : Nat) : Int := iv (rec r) p
theorem rv_get {r : List Int} {p : Nat} (h : p < r.length) : rv r p = r[p] := iv_rec h
theorem rv_range {n f : Nat} (g : Nat → Int) (hf : f < n) : rv ((List.range n).map g) f = g f := by
  rw [rv_get (by simpa using hf)]; simp
def adj (k : Kd) (v : Int) : Int := match k with
  | .down => -v
  | _ => v
theorem bet_adj {k : Kd} (hk : k.end_ = false) (a b : Int) : bet k a b = decide (adj k b < adj k a) := by
  cases k with
  | first => cases hk
  | last => cases hk
  | up => rfl
  | down => simp [bet, adj]
structure Char (ps : Par) (ks : List Kd) (R : List (List Int)) (E : List Int) : Prop where
  len : E.length = ps.length
  a : ∀ f < ps.length, ∃ r ∈ R, ∀ p ∈ path ps f, rv r p = rv E p
  b : ∀ r ∈ R, ∀ p < ps.length, (∀ q ∈ path ps p, q ≠ p → rv r q = rv E q) → adj (kd ks p) (rv r p) ≤ adj (kd ks p) (rv E p)
/-- the rest of a path -/
theorem path_cases {ps : Par} (a : Acy ps) {f : Nat} (hf : f < ps.length) : (par ps f = none ∧ path ps f = [f]) ∨ ∃ p, p < ps.length ∧ par ps f = some p ∧ path ps f = path ps p ++ [f] := by
  cases hp : par ps f with
  | none => exact .inl ⟨rfl, path_none a hf hp⟩
  | some p => exact .inr ⟨p, par_lt a hp, rfl, path_some a hf hp⟩
theorem path_ind {ps : Par} (a : Acy ps) {C : Nat → Prop} (step : ∀ f < ps.length, (∀ p, par ps f = some p → C p) → C f) : ∀ f < ps.length, C f := by
  obtain ⟨rk, h1, h2⟩ := a.rank
  have key : ∀ (k f : Nat), f < ps.length → rk f < k → C f := by
    intro k
    induction k with
    | zero => intro f _ h; omega
    | succ k ih =>
      intro f hf hk
      exact step f hf fun p hp => by
        obtain ⟨p1, p2⟩ := h2 f p hf hp
        exact ih p p1 (by omega)
  exact fun f hf => key _ f hf (Nat.lt_succ_self _)
theorem path_nodup {ps : Par} (a : Acy ps) : ∀ f < ps.length, (path ps f).Nodup := by
  obtain ⟨rk, h1, h2⟩ := a.rank
  have up : ∀ f < ps.length, ∀ q ∈ path ps f, rk q ≤ rk f := path_ind a fun f hf ih q hq => by
    rcases path_cases a hf with ⟨_, e⟩ | ⟨p, hp, e1, e⟩
    · rw [e] at hq; simp at hq; rw [hq]; exact Nat.le_refl _
    · rw [e] at hq
      rcases List.mem_append.mp hq with hq | hq
      · have := ih p e1 q hq
        have := (h2 f p hf e1).2
        omega
      · simp at hq; rw [hq]; exact Nat.le_refl _
  refine path_ind a fun f hf ih => ?_
  rcases path_cases a hf with ⟨_, e⟩ | ⟨p, hp, e1, e⟩
  · rw [e]; simp
  · rw [e, List.nodup_append]
    refine ⟨ih p e1, by simp, fun x hx y hy => ?_⟩
    simp at hy
    subst hy
    intro z
    subst z
    have := up p hp x hx
    have := (h2 x p hf e1).2
    omega
/-- above a field -/
theorem above {ps : Par} (a : Acy ps) {f p : Nat} (hf : f < ps.length) (hp : par ps f = some p) {q : Nat} : q ∈ path ps p ↔ q ∈ path ps f ∧ q ≠ f := by
  rw [path_some a hf hp]
  have nd := path_nodup a f hf
  rw [path_some a hf hp, List.nodup_append] at nd
  constructor
  · exact fun h => ⟨List.mem_append_left _ h, nd.2.2 q h f (by simp)⟩
  · rintro ⟨h, hne⟩
    rcases List.mem_append.mp h with h | h
    · exact h
    · simp at h; exact absurd h hne
section
variable {ps : Par} {ks : List Kd} (ac : Acy ps)
include ac
theorem Char.one {r : List Int} (hr : r.length = ps.length) : Char ps ks [r] r := ⟨hr, fun f _ => ⟨r, by simp, fun _ _ => rfl⟩, fun s hs p _ _ => by simp at hs; rw [hs]; exact Int.le_refl _⟩
theorem Char.congr {R S : List (List Int)} {E : List Int} (c : Char ps ks R E) (h : ∀ r, r ∈ R ↔ r ∈ S) : Char ps ks S E := ⟨c.len, fun f hf => by obtain ⟨r, h1, h2⟩ := c.a f hf; exact ⟨r, (h r).mp h1, h2⟩, fun r hr => c.b r ((h r).mpr hr)⟩
omit ac in
theorem path_last (ac : Acy ps) {f : Nat} (hf : f < ps.length) : (path ps f).getLast? = some f := by
  rcases path_cases ac hf with ⟨_, ee⟩ | ⟨_, _, _, ee⟩ <;> rw [ee] <;> simp
/-! ### merging two -/
omit ac in
theorem fu_rv {path : List Nat} {a b : List Int} {n : Nat} (la : a.length = n) (lb : b.length = n) (pm : ∀ p ∈ path, p < n) : (fu path (rec a) (rec b) = none ↔ ∀ p ∈ path, rv a p = rv b p) ∧ ∀ p0, fu path (rec a) (rec b) = some p0 → ∃ t u, path = t ++ p0 :: u ∧ (∀ q ∈ t, rv a q = rv b q) ∧ rv a p0 ≠ rv b p0 := by
  have vv : ∀ p ∈ path, (val (rec a) p = val (rec b) p ↔ rv a p = rv b p) := fun p hp => by
    rw [val_rec (by rw [la]; exact pm p hp), val_rec (by rw [lb]; exact pm p hp), rv_get (by rw [la]; exact pm p hp), rv_get (by rw [lb]; exact pm p hp)]
    exact ⟨fun e => Option.some.inj e, fun e => by rw [e]⟩
  constructor
  · constructor
    · exact fun h p hp => (vv p hp).mp (fu_none h p hp)
    · exact fun h => fu_none_of fun p hp => (vv p hp).mpr (h p hp)
  · intro p0 h
    obtain ⟨t, u, h1, h2, h3⟩ := fu_prefix h
    refine ⟨t, u, h1, fun q hq => (vv q ?_).mp (h2 q hq), fun z => h3 ((vv p0 ?_).mpr z)⟩
    · rw [h1]; exact List.mem_append_left _ hq
    · rw [h1]; simp
def mrg (ps : Par) (ks : List Kd) (a b : List Int) : List Int := (List.range ps.length).map fun f => if sideV ps ks f (rec a) (rec b) = 0 then rv a f else rv b f
omit ac in
@[simp] theorem mrg_len (a b : List Int) : (mrg ps ks a b).length = ps.length := by simp [mrg]
variable {a b : List Int} (la : a.length = ps.length) (lb : b.length = ps.length)
include la lb
/-- above the first unlike place nothing is unlike -/
theorem before {p : Nat} (hp : p < ps.length) {p0 : Nat} (hu : fu (path ps p) (rec a) (rec b) = some p0) : ∀ q ∈ path ps p0, q ≠ p0 → rv a q = rv b q := fun q hq hne => by
  have hm := fu_mem hu
  have hp0 := path_mem ac hp p0 hm
  obtain ⟨t, ht⟩ := path_split ac hp p0 hm
  rcases path_cases ac hp0 with ⟨_, ee⟩ | ⟨pp, hpp, e1, ee⟩
  · rw [ee] at hq; simp at hq; exact absurd hq hne
  · have hq2 := (above ac hp0 e1).mpr ⟨hq, hne⟩
    have e4 : fu (path ps pp) (rec a) (rec b) = none := by
      cases hx : fu (path ps pp) (rec a) (rec b) with
      | none => rfl
      | some x =>
        have : fu (path ps p) (rec a) (rec b) = some x := by rw [ht, ee, List.append_assoc, fu_app, hx]
        rw [hu] at this
        cases this
        exact absurd rfl ((above ac hp0 e1).mp (fu_mem hx)).2
    exact (fu_rv la lb (path_mem ac hpp)).1.mp e4 q hq2
end
end Sm
end

section
set_option linter.all false
set_option maxRecDepth 10000
/-! Ch2: the sieve, and the program's end_of_row. -/
namespace Sm
def bestV (k : Kd) (p : Nat) (b : Int) : List (List Int) → Int
  | [] => b
  | r :: L => bestV k p (if bet k (rv r p) b then rv r p else b) L
theorem bestV_ge {k : Kd} (hk : k.end_ = false) (p : Nat) : ∀ (L : List (List Int)) (b : Int), adj k b ≤ adj k (bestV k p b L) ∧ ∀ r ∈ L, adj k (rv r p) ≤ adj k (bestV k p b L)
  | [], b => ⟨Int.le_refl _, fun r hr => by cases hr⟩
  | r :: L, b => by
    obtain ⟨h1, h2⟩ := bestV_ge hk p L (if bet k (rv r p) b then rv r p else b)
    rw [bet_adj hk] at h1 h2
    unfold bestV
    rw [bet_adj hk]
    by_cases c : adj k b < adj k (rv r p)
    · simp [c] at h1 h2 ⊢
      exact ⟨by omega, h1, h2⟩
    · simp [c] at h1 h2 ⊢
      exact ⟨h1, by omega, h2⟩
theorem bestV_mem {k : Kd} (p : Nat) : ∀ (L : List (List Int)) (b : Int), bestV k p b L = b ∨ ∃ r ∈ L, bestV k p b L = rv r p
  | [], b => .inl rfl
  | r :: L, b => by
    unfold bestV
    rcases bestV_mem p L (if bet k (rv r p) b then rv r p else b) with h | ⟨s, h1, h2⟩
    · rw [h]
      by_cases c : bet k (rv r p) b = true
      · rw [if_pos c]; exact .inr ⟨r, List.mem_cons_self, rfl⟩
      · rw [if_neg c]; exact .inl rfl
    · exact .inr ⟨s, List.mem_cons_of_mem _ h1, h2⟩
def hdV (p : Nat) (L : List (List Int)) : Int := rv (L.headD []) p
def bst (k : Kd) (p : Nat) (L : List (List Int)) : Int := bestV k p (hdV p L) L
def bo (k : Kd) (p : Nat) (L : List (List Int)) : List (List Int) := L.filter fun r => decide (rv r p = bst k p L)
theorem bst_mem {k : Kd} {p : Nat} {L : List (List Int)} (h : L ≠ []) : ∃ r ∈ L, rv r p = bst k p L := by
  unfold bst
  rcases bestV_mem (k := k) p L (hdV p L) with e | ⟨r, h1, h2⟩
  · rw [e]
    cases L with
    | nil => exact absurd rfl h
    | cons r L => exact ⟨r, List.mem_cons_self, rfl⟩
  · exact ⟨r, h1, h2.symm⟩
theorem bst_ge {k : Kd} (hk : k.end_ = false) {p : Nat} {L : List (List Int)} : ∀ r ∈ L, adj k (rv r p) ≤ adj k (bst k p L) := (bestV_ge hk p L _).2
def sieV (ks : List Kd) (R : List (List Int)) (path : List Nat) : List (List Int) := path.foldl (fun L p => bo (kd ks p) p L) R
def sEv (ps : Par) (ks : List Kd) (R : List (List Int)) (f : Nat) : Int := hdV f (sieV ks R (path ps f))
def sEnd (ps : Par) (ks : List Kd) (R : List (List Int)) : List Int := (List.range ps.length).map (sEv ps ks R)
/-! ### the program's -/
def eR (r : List Int) : D := .tup (r.map .int)
def encL (R : List (List Int)) : List D := R.map eR
@[simp] theorem encL_len (R : List (List Int)) : (encL R).length = R.length := by simp [encL]
@[simp] theorem clo_eR (n : Nat) (r : List Int) : clo n (eR r) = true := by simp [eR]
@[simp] theorem clos_encL (n : Nat) (R : List (List Int)) : clos n (encL R) = true := by rw [clos_all]; simp [encL]
theorem ix_eR {r : List Int} {p : Nat} (hp : p < r.length) (h : AH) : ixD (eR r) (.int p) h = .ok (.int (rv r p)) h := by
  show R.of (at? (r.map D.int) (p : Int)) h = _
  rw [at_nat, ixI hp, rv_get hp]; rfl
def unR : D → List Int
  | .tup xs => xs.map fun d => match d with | .int i => i | _ => 0
  | _ => []
@[simp] theorem unR_eR (r : List Int) : unR (eR r) = r := by
  show (r.map D.int).map (fun d => match d with | .int i => i | _ => 0) = r
  rw [List.map_map]
  exact List.map_id r
def svE (ks : List Kd) (R : List (List Int)) (path : List Nat) (i : Nat) : List D := encL (sieV ks R (path.take i))
theorem bo_ne {k : Kd} {p : Nat} {L : List (List Int)} (h : L ≠ []) : bo k p L ≠ [] := fun z => by
  obtain ⟨r, m, e⟩ := bst_mem (k := k) (p := p) h
  have : r ∈ bo k p L := List.mem_filter.mpr ⟨m, by simp [e]⟩
  rw [z] at this; cases this
end Sm
end

section
set_option linter.all false
set_option maxRecDepth 10000
/-! Ch3: bearers. -/
namespace Sm
structure SeqI (h : AH) (P : D) (xs : List D) : Prop where
  a : SeqA h P xs
  it : ∃ src, kIS P h = .ok src h ∧ (src = .lst xs ∨ ∃ l, src = .live l ∧ getL h l = some xs)
theorem SeqI.lst (xs : List D) (h : AH) : SeqI h (.lst xs) xs := ⟨(SeqD.l xs).a h, _, rfl, .inl rfl⟩
theorem SeqI.loc {h : AH} {l : Nat} {xs : List D} (e : getL h l = some xs) : SeqI h (.loc l) xs := ⟨SeqA.loc e, _, kIS_loc e, .inr ⟨l, rfl, e⟩⟩
theorem SeqA.list {h : AH} {P : D} {xs : List D} (s : SeqA h P xs) : listD true P h = .ok (.lst xs) h := by
  unfold listD; rw [s.seq]; rfl
/-! ### the checks -/
inductive BDue where
  | fair (f : Nat) | emp | rc (r : List Int) | pl (i : Int)
def exB : BDue → Ex
  | .fair f => ⟨"NotFair", ["field"], [.int f]⟩
  | .emp => ⟨"NoRecord", [], []⟩
  | .rc r => ⟨"BadRecord", ["record"], [eR r]⟩
  | .pl i => ⟨"BadPlace", ["place"], [.int i]⟩
def badRow (n : Nat) (R : List (List Int)) : Option (List Int) := R.find? fun r => !decide (r.length = n)
def rdue (n : Nat) (R : List (List Int)) : Option BDue := if R = [] then some .emp else (badRow n R).map .rc
def bdue (ks : List Kd) (R : List (List Int)) (i : Int) : Option BDue := match lowEnd ks with
  | some f => some (.fair f)
  | none => match rdue ks.length R with
    | some d => some d
    | none => if 0 ≤ i ∧ i < ks.length then none else some (.pl i)
@[simp] theorem sRaise0_def (c : String) (e : Env) (h : AH) : sRaise0 c e h = .ok (.ex ⟨c, [], []⟩ e) h := rfl
@[simp] theorem clos_exB (n : Nat) (d : BDue) : clos n (exB d).ds = true := by cases d <;> simp [exB]
/-! ### bearing -/
def ag (path : List Nat) (r E : List Int) : Bool := (fu path (rec r) (rec E)).isNone
def atR (R : List (List Int)) (i : Nat) : List Int := R.getD i []
def bearL (path : List Nat) (R : List (List Int)) (E : List Int) : List Nat := (List.range R.length).filter fun i => ag path (atR R i) E
def bears_ (ps : Par) (ks : List Kd) (R : List (List Int)) (i : Int) : List Nat := bearL (path ps i.toNat) R (sEnd ps ks R)
end Sm
end

section
set_option linter.all false
set_option maxRecDepth 10000
/-! Ch4: the laws' looks and merges. -/
namespace Sm
inductive Plain : Nat → D → Prop where
  | non (k : Nat) : Plain k .non
  | int (k : Nat) (i : Int) : Plain k (.int i)
  | str (k : Nat) (s : List Nat) : Plain k (.str s)
  | tup (k : Nat) (xs : List D) : xs.length ≤ 1000000 → (∀ x ∈ xs, Plain k x) → Plain (k + 1) (.tup xs)
  | lst (k : Nat) (xs : List D) : xs.length ≤ 1000000 → (∀ x ∈ xs, Plain k x) → Plain (k + 1) (.lst xs)
end Sm
end

section
set_option linter.all false
set_option maxRecDepth 10000
/-! Ch5: merges, folds, answers. -/
namespace Sm
@[simp] theorem slT_lst (xs : List D) (lo hi : Option Int) (h : AH) : slD true (.lst xs) lo hi h = .ok (.lst (cut xs lo hi)) h := rfl
@[simp] theorem addT_lst (xs ys : List D) (h : AH) : addD true (.lst xs) (.lst ys) h = R.chk (decide (xs.length + ys.length ≤ big)) (.ok (.lst (xs ++ ys)) h) := rfl
@[simp] theorem addF_lst (xs ys : List D) (h : AH) : addD false (.lst xs) (.lst ys) h = R.chk (decide (xs.length + ys.length ≤ big)) (.ok (.loc h.length) (h ++ [.lst (xs ++ ys)])) := rfl
def pathsD (ps : Par) : List D := (List.range ps.length).map fun f => D.lst ((path ps f).map eN)
@[simp] theorem pathsD_len (ps : Par) : (pathsD ps).length = ps.length := by simp [pathsD]
@[simp] theorem clos_pathsD (n : Nat) (ps : Par) : clos n (pathsD ps) = true := by rw [clos_all]; simp [pathsD]
section
variable {ps : Par} {ks : List Kd} (g : Good ps ks) (hw : ∀ p < ps.length, (kd ks p).end_ = false)
include g hw
def foldE (ps : Par) (ks : List Kd) : List (List Int) → List Int
  | [] => []
  | r :: rs => rs.foldl (mrg ps ks) r
end
end Sm
end

section
set_option linter.all false
set_option maxRecDepth 10000
/-! Ch6: refusals. -/
namespace Sm
@[simp] theorem fam_00 (h : AH) : eqD (.lst [.bl true, .bl false, .bl false, .bl false]) (.lst [.bl true, .bl false, .bl false, .bl false]) h = .ok (.bl true) h := rfl
@[simp] theorem fam_01 (h : AH) : eqD (.lst [.bl true, .bl false, .bl false, .bl false]) (.lst [.bl false, .bl true, .bl false, .bl false]) h = .ok (.bl false) h := rfl
@[simp] theorem fam_02 (h : AH) : eqD (.lst [.bl true, .bl false, .bl false, .bl false]) (.lst [.bl false, .bl false, .bl true, .bl false]) h = .ok (.bl false) h := rfl
@[simp] theorem fam_03 (h : AH) : eqD (.lst [.bl true, .bl false, .bl false, .bl false]) (.lst [.bl false, .bl false, .bl false, .bl true]) h = .ok (.bl false) h := rfl
@[simp] theorem fam_10 (h : AH) : eqD (.lst [.bl false, .bl true, .bl false, .bl false]) (.lst [.bl true, .bl false, .bl false, .bl false]) h = .ok (.bl false) h := rfl
@[simp] theorem fam_11 (h : AH) : eqD (.lst [.bl false, .bl true, .bl false, .bl false]) (.lst [.bl false, .bl true, .bl false, .bl false]) h = .ok (.bl true) h := rfl
@[simp] theorem fam_12 (h : AH) : eqD (.lst [.bl false, .bl true, .bl false, .bl false]) (.lst [.bl false, .bl false, .bl true, .bl false]) h = .ok (.bl false) h := rfl
@[simp] theorem fam_13 (h : AH) : eqD (.lst [.bl false, .bl true, .bl false, .bl false]) (.lst [.bl false, .bl false, .bl false, .bl true]) h = .ok (.bl false) h := rfl
@[simp] theorem fam_20 (h : AH) : eqD (.lst [.bl false, .bl false, .bl true, .bl false]) (.lst [.bl true, .bl false, .bl false, .bl false]) h = .ok (.bl false) h := rfl
@[simp] theorem fam_21 (h : AH) : eqD (.lst [.bl false, .bl false, .bl true, .bl false]) (.lst [.bl false, .bl true, .bl false, .bl false]) h = .ok (.bl false) h := rfl
@[simp] theorem fam_22 (h : AH) : eqD (.lst [.bl false, .bl false, .bl true, .bl false]) (.lst [.bl false, .bl false, .bl true, .bl false]) h = .ok (.bl true) h := rfl
@[simp] theorem fam_23 (h : AH) : eqD (.lst [.bl false, .bl false, .bl true, .bl false]) (.lst [.bl false, .bl false, .bl false, .bl true]) h = .ok (.bl false) h := rfl
@[simp] theorem fam_30 (h : AH) : eqD (.lst [.bl false, .bl false, .bl false, .bl true]) (.lst [.bl true, .bl false, .bl false, .bl false]) h = .ok (.bl false) h := rfl
@[simp] theorem fam_31 (h : AH) : eqD (.lst [.bl false, .bl false, .bl false, .bl true]) (.lst [.bl false, .bl true, .bl false, .bl false]) h = .ok (.bl false) h := rfl
@[simp] theorem fam_32 (h : AH) : eqD (.lst [.bl false, .bl false, .bl false, .bl true]) (.lst [.bl false, .bl false, .bl true, .bl false]) h = .ok (.bl false) h := rfl
@[simp] theorem fam_33 (h : AH) : eqD (.lst [.bl false, .bl false, .bl false, .bl true]) (.lst [.bl false, .bl false, .bl false, .bl true]) h = .ok (.bl true) h := rfl
def encB : BDue → D
  | .fair f => .tup [.str [78, 111, 116, 70, 97, 105, 114], .int f]
  | .emp => .tup [.str [78, 111, 82, 101, 99, 111, 114, 100]]
  | .rc r => .tup [.str [66, 97, 100, 82, 101, 99, 111, 114, 100], eR r]
  | .pl i => .tup [.str [66, 97, 100, 80, 108, 97, 99, 101], .int i]
@[simp] theorem clo_encB (n : Nat) (d : BDue) : clo n (encB d) = true := by cases d <;> simp [encB]
def encBO : Option BDue → D
  | none => .non
  | some d => encB d
@[simp] theorem clo_encBO (n : Nat) (d : Option BDue) : clo n (encBO d) = true := by cases d <;> simp [encBO]
theorem nloc_encBO (d : Option BDue) : nloc (encBO d) = true := by
  cases d with
  | none => rfl
  | some d => cases d <;> rfl
/-! ### spoilt lots, spoilt kinds -/
def Rows (n : Nat) (R : List (List Int)) : Prop := R.length ≤ 1000 ∧ ∀ r ∈ R, r.length + 1 ≤ n
end Sm
end

section
set_option linter.all false
set_option maxRecDepth 10000
/-! Ch7: _law_refuses. -/
namespace Sm
end Sm
end

section
set_option linter.all false
set_option maxRecDepth 10000
/-! Ch8: what the lot laws draw. -/
namespace Sm
theorem fields_ok {h : AH} {l : Nat} (t : Tp h l) : ∃ (n : Nat) (o : AO), 0 < n ∧ n ≤ 8 ∧ IsTp o ∧ F_q_fields [.loc l] h = .ok (.int n) (h.set l o) := by
  have hl := t.lt
  obtain ⟨r1, o1, hr1, ho1, e1⟩ := takeN (n := 8) t (by omega) (by omega)
  obtain ⟨r2, o2, hr2, ho2, e2⟩ := takeN (n := 2) (Tp.set ho1 hl) (by omega) (by omega)
  obtain ⟨r3, o3, hr3, ho3, e3⟩ := takeN (n := 6) (Tp.set ho1 hl) (by omega) (by omega)
  rw [List.set_set] at e2 e3
  simp at e1 e2 e3
  have tt : ∀ (v : Int) (o : AO), IsTp o → trim h (.ok (.int v) (h.set l o)) = .ok (.int v) (h.set l o) := fun v o ho => trim_set0 ho rfl rfl
  by_cases c : r1 = 0
  · subst c
    refine ⟨7 + r2, o2, by omega, by omega, ho2, fnT_eq' rfl ?_⟩
    simp [b_q_fields, envOf, e1, e2, tt _ _ ho2]
  · have c' : ¬ ((r1 : Int) = 0) := by omega
    refine ⟨1 + r3, o3, by omega, by omega, ho3, fnT_eq' rfl ?_⟩
    simp [b_q_fields, envOf, e1, e3, c, c', tt _ _ ho3]
def e59 : Int := 100000000000000000000000000000000000000000000000000000000000
/-! ### lots -/
end Sm
end

section
set_option linter.all false
set_option maxRecDepth 10000
/-! Ch9: paths (lists of lists let go), worse records, raised records. -/
namespace Sm
theorem mapO_id {h : AH} {n k : Nat} : ∀ {xs : List D}, clos n xs = true → mapO (frzD h n k) xs = some xs
  | [], _ => rfl
  | x :: xs, hc => by
    rw [clos, Bool.and_eq_true] at hc
    unfold mapO
    have : frzD h n k x = some x := by cases k <;> (unfold frzD; rw [if_pos hc.1])
    rw [this, mapO_id hc.2]; rfl
theorem frz_loc1 {h : AH} {n k l : Nat} {xs : List D} (hn : n ≤ l) (e : getL h l = some xs) (hc : clos n xs = true) : frzD h n (k + 1) (.loc l) = some (.lst xs) := by
  unfold frzD
  have c : clo n (.loc l) = false := by rw [clo]; exact decide_eq_false (by omega)
  rw [c]
  unfold getL at e
  split at e
  · rename_i ys e2
    have e3 : ys = xs := Option.some.inj e
    subst e3
    dsimp only
    rw [e2]
    dsimp only
    rw [mapO_id hc]; rfl
  · cases e
def lastL (h : AH) (n : Nat) (i : Nat) : List D := (List.range i).map fun k => D.loc (h.length + 1 + k)
end Sm
end

section
set_option linter.all false
set_option maxRecDepth 10000
/-! Ch10: worse, raised, turned. -/
namespace Sm
def Worse (ps : Par) (ks : List Kd) (R : List (List Int)) (w : List Int) : Prop := w.length = ps.length ∧ ∀ f < ps.length, par ps f = none → ∀ r ∈ R, adj (kd ks f) (rv w f) < adj (kd ks f) (rv r f)
def bump (k : Kd) (v : Int) : Int := match k with
  | .up => v + 1
  | _ => v - 1
def tn : Kd → Kd
  | .up => .down
  | _ => .up
end Sm
end

section
set_option linter.all false
set_option maxRecDepth 10000
/-! Ch11: worse records change nothing; a raised end is the end. -/
namespace Sm
section
variable {ps : Par} {ks : List Kd} (ac : Acy ps)
include ac
end
end Sm
end

section
set_option linter.all false
set_option maxRecDepth 10000
/-! Ch12: merging two lots' ends. -/
namespace Sm
section
variable {ps : Par} {ks : List Kd} (ac : Acy ps) (hw : ∀ p < ps.length, (kd ks p).end_ = false)
include ac hw
end
end Sm
end

section
set_option linter.all false
set_option maxRecDepth 10000
/-! Oa: merges are associative, kinds first and last too. -/
namespace Sm
theorem leaf_last {ps : Par} (ac : Acy ps) {p : Nat} (nl : some p ∉ ps) : ∀ f < ps.length, p ∈ path ps f → f = p := by
  refine path_ind ac fun f hf ih hm => ?_
  rcases path_cases ac hf with ⟨_, e⟩ | ⟨q, hq, e1, e2⟩
  · rw [e] at hm; exact (List.mem_singleton.mp hm).symm
  · rw [e2] at hm
    rcases List.mem_append.mp hm with hm | hm
    · have := ih q e1 hm
      subst this
      exfalso
      apply nl
      unfold par at e1
      cases z : ps[f]? with
      | none => rw [z] at e1; cases e1
      | some y =>
        rw [z] at e1
        have e1 : y = some q := e1
        rw [← e1]
        exact List.mem_of_getElem? z
    · exact (List.mem_singleton.mp hm).symm
def sdI (k : Kd) (x y : Int) : Int := match k with
  | .first => 0
  | .last => 1
  | .up => if y < x then 0 else 1
  | .down => if y < x then 1 else 0
/-- which of two rows of values a path takes -/
def sdL (ks : List Kd) (x y : Nat → Int) : List Nat → Int
  | [] => 0
  | p :: t => if x p = y p then sdL ks x y t else sdI (kd ks p) (x p) (y p)
section
variable {ps : Par} {ks : List Kd}
theorem sd_side {f : Nat} {a b : List Int} (ha : ∀ p ∈ path ps f, p < a.length) (hb : ∀ p ∈ path ps f, p < b.length) : sideV ps ks f (rec a) (rec b) = sdL ks (rv a) (rv b) (path ps f) := by
  unfold sideV
  generalize path ps f = L at *
  induction L with
  | nil => rfl
  | cons p t ih =>
    have va : val (rec a) p = some (rv a p) := by rw [val_rec (ha p (by simp)), rv_get (ha p (by simp))]
    have vb : val (rec b) p = some (rv b p) := by rw [val_rec (hb p (by simp)), rv_get (hb p (by simp))]
    have ih := ih (fun q hq => ha q (by simp [hq])) (fun q hq => hb q (by simp [hq]))
    unfold sdL
    by_cases c : rv a p = rv b p
    · rw [if_pos c, ← ih]
      have : fu (p :: t) (rec a) (rec b) = fu t (rec a) (rec b) := by
        unfold fu
        rw [List.find?_cons_of_neg (by rw [va, vb, c]; simp)]
      rw [this]
    · rw [if_neg c]
      have : fu (p :: t) (rec a) (rec b) = some p := by
        unfold fu
        rw [List.find?_cons_of_pos (by rw [va, vb]; simpa using c)]
      rw [this]
      rfl
theorem sdL_01 (x y : Nat → Int) : ∀ L, sdL ks x y L = 0 ∨ sdL ks x y L = 1
  | [] => .inl rfl
  | p :: t => by
    unfold sdL
    by_cases c : x p = y p
    · rw [if_pos c]; exact sdL_01 x y t
    · rw [if_neg c]
      unfold sdI
      cases kd ks p with
      | first => exact .inl rfl
      | last => exact .inr rfl
      | up => dsimp only; split <;> simp
      | down => dsimp only; split <;> simp
/-- kinds first and last stand at the end of a path only -/
def EndOk (ks : List Kd) (L : List Nat) : Prop := ∀ t p u, L = t ++ p :: u → (kd ks p).end_ = true → u = []
theorem EndOk.tail {p : Nat} {t : List Nat} (h : EndOk ks (p :: t)) : EndOk ks t := fun a q u e => h (p :: a) q u (by rw [e]; rfl)
theorem sdL_congr {x y x2 y2 : Nat → Int} : ∀ L, (∀ p ∈ L, x p = x2 p) → (∀ p ∈ L, y p = y2 p) → sdL ks x y L = sdL ks x2 y2 L
  | [], _, _ => rfl
  | p :: t, h1, h2 => by
    unfold sdL
    rw [h1 p (by simp), h2 p (by simp), sdL_congr t (fun q hq => h1 q (by simp [hq])) fun q hq => h2 q (by simp [hq])]
theorem endOk (g : Good ps ks) {f : Nat} (hf : f < ps.length) : EndOk ks (path ps f) := fun t p u e hp => by
  have pm : p ∈ path ps f := by rw [e]; simp
  have pl := path_mem g.acy hf p pm
  have fp := leaf_last g.acy (g.leaf p pl hp) f hf pm
  have nd := path_nodup g.acy f hf
  have la := path_last g.acy hf
  rw [e, List.getLast?_append] at la
  cases u with
  | nil => rfl
  | cons a u =>
    exfalso
    have : f ∈ a :: u := by
      rw [List.getLast?_cons_cons] at la
      cases q : (a :: u).getLast? with
      | none => simp at q
      | some z =>
        rw [q] at la
        have : z = f := by simpa using la
        rw [← this]
        exact List.mem_of_getLast? q
    rw [e, List.nodup_append] at nd
    rw [fp] at this
    exact (List.nodup_cons.mp nd.2.1).1 this
end
end Sm
end

section
set_option linter.all false
set_option maxRecDepth 10000
/-! Sq: long bodies, a statement at a time. -/
namespace Sm
section
variable {ss : List AS} {e e2 : Env} {h h2 : AH} {Q : Fl → AH → Prop} {a : AE} {d : D} {i : Nat} {s : AS}
theorem q_st (hs : s e h = .ok (.nx e2) h2) (k : wp (sB ss e2 h2) Q) : wp (sB (s :: ss) e h) Q := by
  rw [sB_cons, hs, bind_ok, kB2_nx]; exact k
theorem q_set (ha : a e h = .ok d h2) (k : wp (sB ss (e.set i (some d)) h2) Q) : wp (sB (sSet i a :: ss) e h) Q :=
  q_st (by rw [sSet_def, ha]; rfl) k
theorem q_ex (ha : a e h = .ok d h2) (k : wp (sB ss e h2) Q) : wp (sB (sE a :: ss) e h) Q :=
  q_st (by rw [sE_def, ha]; rfl) k
theorem q_if0 {t : AB} {x : AS} (ht : t e h = .ok false h2) (k : wp (sB ss e h2) Q) : wp (sB (sIf t x (sB []) :: ss) e h) Q :=
  q_st (e2 := e) (h2 := h2) (by
    show up e (t e h) _ = _
    rw [ht]; rfl) k
theorem q_any {P : Fl → AH → Prop} (hs : wp (s e h) P) (k : ∀ f h2, P f h2 → wp (kB2 ss f h2) Q) : wp (sB (s :: ss) e h) Q := by
  rw [sB_cons]
  exact wp_bind (wp_mono hs k)
end
end Sm
end

section
set_option linter.all false
set_option maxRecDepth 10000
/-! Ch13: ends without a record. -/
namespace Sm
section
variable {ps : Par} {ks : List Kd} (g : Good ps ks) (hw : ∀ p < ps.length, (kd ks p).end_ = false)
include g hw
def runE (ps : Par) (ks : List Kd) (R : List (List Int)) (i : Nat) : List (List Int) := (List.range i).map fun j => foldE ps ks (R.take (j + 1))
omit g hw in
@[simp] theorem runE_len (R : List (List Int)) (i : Nat) : (runE ps ks R i).length = i := by simp [runE]
/-! ### the ends without each record -/
def ewL (ps : Par) (ks : List Kd) (R : List (List Int)) : List (List Int) := (List.range R.length).map fun k => sEnd ps ks (R.eraseIdx k)
omit g hw in
@[simp] theorem ewL_len (R : List (List Int)) : (ewL ps ks R).length = R.length := by simp [ewL]
/-- the ends from behind -/
def aftE (ps : Par) (ks : List Kd) (R : List (List Int)) : List (List Int) := (runE ps ks R.reverse R.length).reverse
def ewT (ps : Par) (ks : List Kd) (R : List (List Int)) (i : Nat) : List D := encL ((ewL ps ks R).take i)
def wdue (ks : List Kd) (R : List (List Int)) : Option BDue := match lowEnd ks with
  | some f => some (.fair f)
  | none => if R.length < 2 then some .emp else (badRow ks.length R).map .rc
end
end Sm
end

section
set_option linter.all false
set_option maxRecDepth 10000
/-! Ch14: refusals of ends_without; bearers and ends. -/
namespace Sm
@[simp] theorem fan_00 (h : AH) : eqD (.lst [.bl true, .bl true, .bl false, .bl false]) (.lst [.bl true, .bl true, .bl false, .bl false]) h = .ok (.bl true) h := rfl
@[simp] theorem fan_01 (h : AH) : eqD (.lst [.bl true, .bl true, .bl false, .bl false]) (.lst [.bl true, .bl false, .bl true, .bl false]) h = .ok (.bl false) h := rfl
@[simp] theorem fan_02 (h : AH) : eqD (.lst [.bl true, .bl true, .bl false, .bl false]) (.lst [.bl true, .bl false, .bl false, .bl true]) h = .ok (.bl false) h := rfl
@[simp] theorem fan_10 (h : AH) : eqD (.lst [.bl true, .bl false, .bl true, .bl false]) (.lst [.bl true, .bl true, .bl false, .bl false]) h = .ok (.bl false) h := rfl
@[simp] theorem fan_11 (h : AH) : eqD (.lst [.bl true, .bl false, .bl true, .bl false]) (.lst [.bl true, .bl false, .bl true, .bl false]) h = .ok (.bl true) h := rfl
@[simp] theorem fan_12 (h : AH) : eqD (.lst [.bl true, .bl false, .bl true, .bl false]) (.lst [.bl true, .bl false, .bl false, .bl true]) h = .ok (.bl false) h := rfl
@[simp] theorem fan_20 (h : AH) : eqD (.lst [.bl true, .bl false, .bl false, .bl true]) (.lst [.bl true, .bl true, .bl false, .bl false]) h = .ok (.bl false) h := rfl
@[simp] theorem fan_21 (h : AH) : eqD (.lst [.bl true, .bl false, .bl false, .bl true]) (.lst [.bl true, .bl false, .bl true, .bl false]) h = .ok (.bl false) h := rfl
@[simp] theorem fan_22 (h : AH) : eqD (.lst [.bl true, .bl false, .bl false, .bl true]) (.lst [.bl true, .bl false, .bl false, .bl true]) h = .ok (.bl true) h := rfl
def endKX (r : R D) : Fl → AH → Prop := fun f h1 => match f with
  | .rt d => R.ok d h1 = r
  | .nx _ => R.ok .non h1 = r
  | .ex x _ => R.exc x h1 = r
  | _ => False
section
variable {h h1 : AH} {r : R D} {d : D} {e : Env} {x : Ex}
@[simp] theorem endKX_rt : endKX r (.rt d) h1 = (R.ok d h1 = r) := rfl
@[simp] theorem endKX_nx : endKX r (.nx e) h1 = (R.ok .non h1 = r) := rfl
@[simp] theorem endKX_ex : endKX r (.ex x e) h1 = (R.exc x h1 = r) := rfl
end
/-! ### bearers and ends -/
end Sm
end

section
set_option linter.all false
set_option maxRecDepth 10000
/-! Ch15: the ends of a lot with worse records within. -/
namespace Sm
section
variable {ps : Par} {ks : List Kd} (g : Good ps ks) (hw : ∀ p < ps.length, (kd ks p).end_ = false)
include g hw
omit g hw in
theorem Worse.sub {R S : List (List Int)} {w : List Int} (wo : Worse ps ks R w) (h : ∀ r ∈ S, r ∈ R) : Worse ps ks S w := ⟨wo.1, fun f hf hp r hr => wo.2 f hf hp r (h r hr)⟩
end
end Sm
end

section
set_option linter.all false
set_option maxRecDepth 10000
/-! Ch16: k15's answers. -/
namespace Sm
@[simp] theorem sl_loc {h : AH} {l : Nat} {xs : List D} (e : getL h l = some xs) (lo hi : Option Int) : slD true (.loc l) lo hi h = .ok (.lst (cut xs lo hi)) h := by
  show (match lstH h (.loc l) with
    | some xs => mkL true (cut xs lo hi) h
    | none => R.no) = _
  rw [lstH_loc, e]; rfl
section
variable {ps : Par} {ks : List Kd} (g : Good ps ks) (hw : ∀ p < ps.length, (kd ks p).end_ = false)
include g hw
end
end Sm
end

section
set_option linter.all false
/-! k47: plain computations (printed by gen2.py) -/
namespace Sm
/- lot_end: forest, records -/
def b_lot_end : AS := sB [sE (eA (F_check_fair) (eL [eV 0])),
  sE (eA (F_check_records) (eL [e1 (fldD ["Forest"] "fields") (eV 0), eV 1])),
  sRet (eA (F_end_of_row) (eL [e1 (fldD ["Forest"] "parents") (eV 0), e1 (fldD ["Forest"] "kinds") (eV 0), eA (on1 (listD true)) (eL [eV 1])]))]
def F_lot_end : AF := fnT 2 2 b_lot_end
/- _law_ends_alike: _law_forest, _law_lots, _law_end, _law_lot_here, _law_handed -/
def b_q_ends_alike : AS := sB [sFor (iS (eV 1)) (gV 3) (sB [sSet 4 (eA (on1 (listD true)) (eL [eV 3])),
    sIf (tOr (tNot (tV (eA (F_q_same_v2 12) (eL [eA (F_lot_end) (eL [eV 0, eV 4]), eV 2])))) (tNot (tV (eA (F_q_same_v2 12) (eL [eV 4, eV 3]))))) (sB [sRet (eC (.bl false))]) (sB [])]),
  sRet (eC (.bl true))]
def F_q_ends_alike : AF := fnT 3 5 b_q_ends_alike
/- _law_grows: _law_forest, _law_kinds_here, _law_lot_here, _law_end, _law_field, _law_handed, _law_best -/
def b_q_grows : AS := sB [sSet 5 (eA (on1 (listD false)) (eL [eV 2])),
  sIf (tNot (tV (eA (F_q_same_v2 12) (eL [eA (F_lot_end) (eL [eV 0, eV 5]), eV 3])))) (sB [sRet (eC (.bl false))]) (sB []),
  sSet 6 (eA (F_q_raised) (eL [eV 1, eV 3, eV 4, eC (.int 1)])),
  sE (eM isLst (mt1 appendD) (eV 5) (eL [eV 6])),
  sIf (tNot (tV (eA (F_q_same_v2 12) (eL [eA (F_lot_end) (eL [eV 0, eV 5]), eV 6])))) (sB [sRet (eC (.bl false))]) (sB []),
  sE (eM isLst (mt0 popD) (eV 5) (eL [])),
  sRet (eA (F_q_same_v2 12) (eL [eA (F_lot_end) (eL [eV 0, eV 5]), eV 3]))]
def F_q_grows : AF := fnT 5 7 b_q_grows
/- _law_pressed: _law_tape_here, _law_paths_here, _law_kinds_here, _law_records, _law_row, _law_k, _law_place -/
def b_q_pressed : AS := sB [sSet 4 (eA (on1 (listD false)) (eL [eV 3])),
  sFor (iR1 (e2 subD (eA (on1 lenD) (eL [eV 3])) (eC (.int 1)))) (gV 5) (sB [sSet 6 (eA (F_q_take) (eL [eV 0, e2 subD (eA (on1 lenD) (eL [eV 4])) (eC (.int 1))])),
    sSub setIxD (eV 4) (eV 6) (eA (F_q_merge) (eL [eV 1, eV 2, e2 ixD (eV 4) (eV 6), e2 ixD (eV 4) (e2 (addD true) (eV 6) (eC (.int 1)))])),
    sE (eM isLst (mt1 popAtD) (eV 4) (eL [e2 (addD true) (eV 6) (eC (.int 1))]))]),
  sRet (e2 ixD (eV 4) (eC (.int 0)))]
def F_q_pressed : AF := fnT 4 7 b_q_pressed
/- _law_due: _law_kinds_here, _law_rows, _law_record_here -/
def b_q_due_v3 : AS := sB [sIf (tB1 (e1 notNonD (eA (F_q_lowest) (eL [eV 0])))) (sB [sRet (eTup (eL [eC (.str [78, 111, 116, 70, 97, 105, 114]), eA (F_q_lowest) (eL [eV 0])]))]) (sB []),
  sIf (tB1 (e2 eqD (eA (on1 lenD) (eL [eV 1])) (eC (.int 0)))) (sB [sRet (eTup (eL [eC (.str [78, 111, 82, 101, 99, 111, 114, 100])]))]) (sB []),
  sFor (iS (eV 1)) (gV 2) (sB [sIf (tB1 (e2 neD (eA (on1 lenD) (eL [eV 2])) (eA (on1 lenD) (eL [eV 0])))) (sB [sRet (eTup (eL [eC (.str [66, 97, 100, 82, 101, 99, 111, 114, 100]), eV 2]))]) (sB [])]),
  sRet (eC .non)]
def F_q_due_v3 : AF := fnT 2 3 b_q_due_v3
/- _law_told: _law_forest, _law_rows, e, _law_family -/
def b_q_told_v3 : AS := sB [sTryAs [("BadRecord", true), ("NoRecord", true), ("BadForest", true), ("NotFair", true), ("FieldsDiffer", true), ("BadNumber", true), ("BadPlace", true), ("BadSizes", true)] 2 (sB [sE (eA (F_lot_end) (eL [eV 0, eV 1]))]) (fun x => sB [sSet 3 (eLst true (eL [eXis x [("BadRecord", true), ("NoRecord", true), ("BadForest", true), ("NotFair", true), ("FieldsDiffer", true), ("BadNumber", true), ("BadPlace", true), ("BadSizes", true)], eXis x [("BadRecord", false), ("NoRecord", false), ("BadForest", false), ("NotFair", true), ("FieldsDiffer", false), ("BadNumber", false), ("BadPlace", false), ("BadSizes", false)], eXis x [("BadRecord", false), ("NoRecord", true), ("BadForest", false), ("NotFair", false), ("FieldsDiffer", false), ("BadNumber", false), ("BadPlace", false), ("BadSizes", false)], eXis x [("BadRecord", true), ("NoRecord", false), ("BadForest", false), ("NotFair", false), ("FieldsDiffer", false), ("BadNumber", false), ("BadPlace", false), ("BadSizes", false)]])),
    sIf (tV (eXis x [("BadRecord", false), ("NoRecord", false), ("BadForest", true), ("NotFair", false), ("FieldsDiffer", true), ("BadNumber", true), ("BadPlace", true), ("BadSizes", true)])) (sB [sRet (eTup (eL [eC (.str [97, 110, 111, 116, 104, 101, 114])]))]) (sB []),
    sIf (tB1 (e2 eqD (eV 3) (eLst true (eL [eC (.bl true), eC (.bl true), eC (.bl false), eC (.bl false)])))) (sB [sRet (eTup (eL [eC (.str [78, 111, 116, 70, 97, 105, 114]), eXf ["BadForest", "NotFair"] x "field"]))]) (sB []),
    sIf (tB1 (e2 eqD (eV 3) (eLst true (eL [eC (.bl true), eC (.bl false), eC (.bl true), eC (.bl false)])))) (sB [sRet (eTup (eL [eC (.str [78, 111, 82, 101, 99, 111, 114, 100])]))]) (sB []),
    sIf (tB1 (e2 eqD (eV 3) (eLst true (eL [eC (.bl true), eC (.bl false), eC (.bl false), eC (.bl true)])))) (sB [sRet (eTup (eL [eC (.str [66, 97, 100, 82, 101, 99, 111, 114, 100]), eXf ["BadRecord"] x "record"]))]) (sB []),
    sRet (eTup (eL [eC (.str [97, 110, 111, 116, 104, 101, 114])]))]),
  sRet (eC .non)]
def F_q_told_v3 : AF := fnT 2 4 b_q_told_v3
/- _law_refuses: _law_tape_here, _law_forest, _law_parents_here, _law_kinds_here, _law_lot_here, _law_spoilt, _law_rows, _law_asked, _law_handed, _law_told_here -/
def b_q_refuses_v3 : AS := sB [sSet 5 (eA (on1 (listD true)) (eL [eV 3])),
  sIf (tB1 (e2 eqD (eA (F_q_take) (eL [eV 0, eC (.int 2)])) (eC (.int 0)))) (sB [sSet 5 (eA (F_q_unfair_v2) (eL [eV 0, eV 2, eV 3]))]) (sB []),
  sSet 6 (eA (on1 (listD true)) (eL [eV 4])),
  sIf (tB1 (e2 eqD (eA (F_q_take) (eL [eV 0, eC (.int 2)])) (eC (.int 0)))) (sB [sSet 6 (eSl true (eV 4) (oN) (oS (eA (F_q_take) (eL [eV 0, eC (.int 2)]))))]) (sB []),
  sSet 6 (eA (F_q_faulty) (eL [eV 0, eV 6])),
  sSet 7 (eV 1),
  sIf (tB1 (e2 neD (eV 5) (eV 3))) (sB [sSet 7 (eA (mkI "Forest" true (F_Forest_init)) (eL [eA (on1 (listD true)) (eL [eV 2]), eA (on1 (listD true)) (eL [eV 5])]))]) (sB []),
  sSet 8 (eA (on1 (listD true)) (eL [eV 6])),
  sSet 9 (eA (F_q_told_v3) (eL [eV 7, eV 8])),
  sRet (eAnd (eA (F_q_same_v2 12) (eL [eV 9, eA (F_q_due_v3) (eL [eV 5, eV 6])])) (eA (F_q_same_v2 12) (eL [eV 8, eV 6])))]
def F_q_refuses_v3 : AF := fnT 5 10 b_q_refuses_v3
/- _law_repeated: _law_tape_here, _law_lot_here, _law_most, _law_row, _law_record_here, _law_k -/
def b_q_repeated : AS := sB [sSet 2 (eC (.int 3)),
  sIf (tAnd (tB1 (e2 eqD (eA (F_q_take) (eL [eV 0, eC (.int 8)])) (eC (.int 0)))) (tB1 (e2 ltD (eA (on1 lenD) (eL [eV 1])) (eC (.int 7))))) (sB [sSet 2 (eC (.int 12))]) (sB []),
  sSet 3 (eLst true (eL [])),
  sFor (iS (eV 1)) (gV 4) (sB [sSet 3 (e2 (addD true) (eV 3) (eLC true [5] (iR1 (e2 (addD true) (eC (.int 1)) (eA (F_q_take) (eL [eV 0, eV 2])))) (gV 5) (tYes) (eV 4)))]),
  sRet (eLC true [5] (iS (eA (F_q_turns) (eL [eV 0, eA (on1 lenD) (eL [eV 3])]))) (gV 5) (tYes) (e2 ixD (eV 3) (eV 5)))]
def F_q_repeated : AF := fnT 2 6 b_q_repeated
/- law: _law_script, _law_tape_here, _law_n, _law_parents_here, _law_count_here, _law_span_here, _law_field, _law_turn, _law_kinds_here, _law_lot_here, _law_paths_here, _law_row, _law_end, _law_forest, _law_low -/
def b_law_k47 : AS := sB [sSet 1 (eA (F_q_tape) (eL [eV 0, eC (.int 0)])),
  sSet 2 (eA (F_q_fields) (eL [eV 1])),
  sSet 3 (eA (F_q_parents) (eL [eV 1, eV 2])),
  sSet 4 (eA (F_q_count) (eL [eV 1, eC (.int 1)])),
  sSet 5 (eA (F_q_span) (eL [eV 1])),
  sSet 6 (eA (F_q_take) (eL [eV 1, eV 2])),
  sSet 7 (eA (F_q_tape) (eL [eV 0, eC (.int 1)])),
  sSet 8 (eA (F_q_kinds) (eL [eV 7, eV 3, eC (.bl true)])),
  sSet 9 (eA (F_q_lot) (eL [eV 0, eC (.int 2), eV 2, eV 4, eV 5])),
  sSet 10 (eA (F_q_paths) (eL [eV 3])),
  sSet 11 (eA (F_q_repeated) (eL [eV 7, eV 9])),
  sSet 12 (eA (F_q_pressed) (eL [eV 7, eV 10, eV 8, eV 11])),
  sSet 13 (eA (mkI "Forest" true (F_Forest_init)) (eL [eA (on1 (listD true)) (eL [eV 3]), eA (on1 (listD true)) (eL [eV 8])])),
  sIf (tNot (tV (eA (F_q_ends_alike) (eL [eV 13, eLst true (eL [eV 9, eV 11, e1 (revD true) (eV 9), e2 (addD true) (eLst true (eL [eV 12])) (eV 11), eV 9]), eV 12])))) (sB [sRet (eC (.bl false))]) (sB []),
  sIf (tNot (tV (eA (F_q_ends_alike) (eL [eV 13, eLst true (eL [eLst true (eL [e2 ixD (eV 9) (eC (.int 0))])]), e2 ixD (eV 9) (eC (.int 0))])))) (sB [sRet (eC (.bl false))]) (sB []),
  sSet 14 (eA (F_q_turned) (eL [eV 8])),
  sIf (tNot (tV (eA (F_q_ends_alike) (eL [eA (mkI "Forest" true (F_Forest_init)) (eL [eA (on1 (listD true)) (eL [eV 3]), eA (on1 (listD true)) (eL [eV 14])]), eLst true (eL [eV 9, eV 11]), eA (F_q_fold) (eL [eV 10, eV 14, eV 9])])))) (sB [sRet (eC (.bl false))]) (sB []),
  sIf (tNot (tV (eA (F_q_refuses_v3) (eL [eV 1, eV 13, eV 3, eV 8, eV 9])))) (sB [sRet (eC (.bl false))]) (sB []),
  sRet (eA (F_q_grows) (eL [eV 13, eV 8, eV 9, eV 12, eV 6]))]
def F_law_k47 : AF := fnT 1 15 b_law_k47
end Sm
end

section
set_option linter.all false
set_option maxRecDepth 10000
/-! Ch17: lot_end and its law's parts. -/
namespace Sm
def ldue (ks : List Kd) (R : List (List Int)) : Option BDue := match lowEnd ks with
  | some f => some (.fair f)
  | none => rdue ks.length R
end Sm
end

section
set_option linter.all false
set_option maxRecDepth 10000
/-! Ch18: lots written otherwise, pressed, grown. -/
namespace Sm
section
variable {ps : Par} {ks : List Kd} (g : Good ps ks) (hw : ∀ p < ps.length, (kd ks p).end_ = false)
include g hw
end
end Sm
end

section
set_option linter.all false
set_option maxRecDepth 10000
/-! Ch19: pressed and repeated lots. -/
namespace Sm
section
variable {ps : Par} {ks : List Kd} (g : Good ps ks) (hw : ∀ p < ps.length, (kd ks p).end_ = false)
include g hw
end
/-! ### repeated -/
end Sm
end

section
set_option linter.all false
/-! k53: plain computations (printed by gen2.py) -/
namespace Sm
/- is_below: forest, first, second, field, place -/
def b_is_below : AS := sB [sE (eA (F_check_fair) (eL [eV 0])),
  sE (eA (F_check_record) (eL [e1 (fldD ["Forest"] "fields") (eV 0), eV 1])),
  sE (eA (F_check_record) (eL [e1 (fldD ["Forest"] "fields") (eV 0), eV 2])),
  sFor (iR1 (e1 (fldD ["Forest"] "fields") (eV 0))) (gV 3) (sB [sSet 4 (eA (F_first_unlike_on) (eL [eA (F_path_of) (eL [e1 (fldD ["Forest"] "parents") (eV 0), eV 3]), eV 1, eV 2])),
    sIf (tAnd (tB1 (e1 notNonD (eV 4))) (tNot (tV (eA (F_better) (eL [e2 ixD (e1 (fldD ["Forest"] "kinds") (eV 0)) (eV 4), e2 ixD (eV 2) (eV 4), e2 ixD (eV 1) (eV 4)]))))) (sB [sRet (eC (.bl false))]) (sB [])]),
  sRet (eC (.bl true))]
def F_is_below : AF := fnT 3 5 b_is_below
/- _law_bounds: _law_forest, _law_lot_here, _law_further, _law_end, _law_bottom, _law_under, _law_record_here, _law_above -/
def b_q_bounds : AS := sB [sSet 5 (eLC true [6] (iS (eV 1)) (gV 6) (tYes) (eA (F_is_below) (eL [eV 0, eV 2, eV 6]))),
  sSet 7 (eLC true [6] (iS (eV 1)) (gV 6) (tYes) (eA (F_is_below) (eL [eV 0, eV 6, eV 2]))),
  sIf (tB1 (e2 neD (eA (on1 (boolsD allF)) (eL [eV 5])) (eA (F_is_below) (eL [eV 0, eV 2, eV 4])))) (sB [sRet (eC (.bl false))]) (sB []),
  sRet (e2 eqD (eA (on1 (boolsD allF)) (eL [eV 7])) (eA (F_is_below) (eL [eV 0, eV 3, eV 2])))]
def F_q_bounds : AF := fnT 5 8 b_q_bounds
/- turned_kinds: kinds, kind -/
def b_turned_kinds : AS := sB [sRet (eA (on1 tupD) (eL [eLC true [1] (iS (eV 0)) (gV 1) (tYes) (eIf (tB1 (e2 eqD (eV 1) (eC (.str [117, 112])))) (eC (.str [100, 111, 119, 110])) (eC (.str [117, 112])))]))]
def F_turned_kinds : AF := fnT 1 2 b_turned_kinds
/- meet: forest, records -/
def b_meet : AS := sB [sE (eA (F_check_fair) (eL [eV 0])),
  sE (eA (F_check_records) (eL [e1 (fldD ["Forest"] "fields") (eV 0), eV 1])),
  sRet (eA (F_end_of_row) (eL [e1 (fldD ["Forest"] "parents") (eV 0), eA (F_turned_kinds) (eL [e1 (fldD ["Forest"] "kinds") (eV 0)]), eA (on1 (listD true)) (eL [eV 1])]))]
def F_meet : AF := fnT 2 2 b_meet
/- _law_distributes: _law_forest, _law_paths_here, _law_kinds_here, _law_x, _law_y, _law_z, _law_low, _law_due_here -/
def b_q_distributes : AS := sB [sSet 6 (eA (F_q_turned) (eL [eV 2])),
  sSet 7 (eA (F_q_merge) (eL [eV 1, eV 6, eV 3, eA (F_q_merge) (eL [eV 1, eV 2, eV 4, eV 5])])),
  sIf (tNot (tV (eA (F_q_same_v2 12) (eL [eA (F_meet) (eL [eV 0, eLst true (eL [eV 3, eA (F_lot_end) (eL [eV 0, eLst true (eL [eV 4, eV 5])])])]), eV 7])))) (sB [sRet (eC (.bl false))]) (sB []),
  sIf (tNot (tV (eA (F_q_same_v2 12) (eL [eA (F_lot_end) (eL [eV 0, eLst true (eL [eA (F_meet) (eL [eV 0, eLst true (eL [eV 3, eV 4])]), eA (F_meet) (eL [eV 0, eLst true (eL [eV 3, eV 5])])])]), eV 7])))) (sB [sRet (eC (.bl false))]) (sB []),
  sSet 7 (eA (F_q_merge) (eL [eV 1, eV 2, eV 3, eA (F_q_merge) (eL [eV 1, eV 6, eV 4, eV 5])])),
  sIf (tNot (tV (eA (F_q_same_v2 12) (eL [eA (F_lot_end) (eL [eV 0, eLst true (eL [eV 3, eA (F_meet) (eL [eV 0, eLst true (eL [eV 4, eV 5])])])]), eV 7])))) (sB [sRet (eC (.bl false))]) (sB []),
  sRet (eA (F_q_same_v2 12) (eL [eA (F_meet) (eL [eV 0, eLst true (eL [eA (F_lot_end) (eL [eV 0, eLst true (eL [eV 3, eV 4])]), eA (F_lot_end) (eL [eV 0, eLst true (eL [eV 3, eV 5])])])]), eV 7]))]
def F_q_distributes : AF := fnT 6 8 b_q_distributes
/- _law_meets: _law_forest, _law_paths_here, _law_low, _law_lot_here, _law_further, _law_handed, _law_due_here -/
def b_q_meets : AS := sB [sSet 5 (eA (on1 (listD false)) (eL [eV 3])),
  sSet 6 (eA (F_q_fold) (eL [eV 1, eV 2, eV 3])),
  sIf (tOr (tNot (tV (eA (F_q_same_v2 12) (eL [eA (F_meet) (eL [eV 0, eV 5]), eV 6])))) (tNot (tV (eA (F_q_same_v2 12) (eL [eV 5, eV 3]))))) (sB [sRet (eC (.bl false))]) (sB []),
  sE (eM isLst (mt1 appendD) (eV 5) (eL [eV 4])),
  sIf (tNot (tV (eA (F_q_same_v2 12) (eL [eA (F_meet) (eL [eV 0, eV 5]), eA (F_q_merge) (eL [eV 1, eV 2, eV 6, eV 4])])))) (sB [sRet (eC (.bl false))]) (sB []),
  sE (eM isLst (mt0 popD) (eV 5) (eL [])),
  sRet (eAnd (eA (F_q_same_v2 12) (eL [eA (F_meet) (eL [eV 0, eV 5]), eV 6])) (eA (F_q_same_v2 12) (eL [eV 5, eV 3])))]
def F_q_meets : AF := fnT 5 7 b_q_meets
/- _law_below: _law_paths_here, _law_kinds_here, _law_first, _law_second, _law_path, _law_unlike, _law_place -/
def b_q_below : AS := sB [sFor (iS (eV 0)) (gV 4) (sB [sSet 5 (eLC true [6] (iS (eV 4)) (gV 6) (tB1 (e2 neD (e2 ixD (eV 2) (eV 6)) (e2 ixD (eV 3) (eV 6)))) (eV 6)),
    sIf (tAnd (tB1 (e2 gtD (eA (on1 lenD) (eL [eV 5])) (eC (.int 0)))) (tB1 (e2 neD (e2 gtD (e2 ixD (eV 3) (e2 ixD (eV 5) (eC (.int 0)))) (e2 ixD (eV 2) (e2 ixD (eV 5) (eC (.int 0))))) (e2 eqD (e2 ixD (eV 1) (e2 ixD (eV 5) (eC (.int 0)))) (eC (.str [117, 112])))))) (sB [sRet (eC (.bl false))]) (sB [])]),
  sRet (eC (.bl true))]
def F_q_below : AF := fnT 4 7 b_q_below
/- _law_ordered: _law_forest, _law_paths_here, _law_kinds_here, _law_pool, _law_first, _law_second, _law_below_here -/
def b_q_ordered : AS := sB [sFor (iS (eV 3)) (gV 4) (sB [sFor (iS (eV 3)) (gV 5) (sB [sSet 6 (eA (F_q_below) (eL [eV 1, eV 2, eV 4, eV 5])),
      sIf (tNot (tV (eA (F_q_same_v2 12) (eL [eA (F_is_below) (eL [eV 0, eV 4, eV 5]), eV 6])))) (sB [sRet (eC (.bl false))]) (sB []),
      sIf (tB1 (e2 neD (eV 6) (e2 eqD (eA (F_q_merge) (eL [eV 1, eV 2, eV 4, eV 5])) (eV 5)))) (sB [sRet (eC (.bl false))]) (sB [])])]),
  sRet (eC (.bl true))]
def F_q_ordered : AF := fnT 4 7 b_q_ordered
/- _law_below_told: _law_forest, _law_first, _law_second, e, _law_family -/
def b_q_below_told : AS := sB [sTryAs [("BadRecord", true), ("NoRecord", true), ("BadForest", true), ("NotFair", true), ("FieldsDiffer", true), ("BadNumber", true), ("BadPlace", true), ("BadSizes", true)] 3 (sB [sE (eA (F_is_below) (eL [eV 0, eV 1, eV 2]))]) (fun x => sB [sSet 4 (eLst true (eL [eXis x [("BadRecord", true), ("NoRecord", true), ("BadForest", true), ("NotFair", true), ("FieldsDiffer", true), ("BadNumber", true), ("BadPlace", true), ("BadSizes", true)], eXis x [("BadRecord", false), ("NoRecord", false), ("BadForest", false), ("NotFair", true), ("FieldsDiffer", false), ("BadNumber", false), ("BadPlace", false), ("BadSizes", false)], eXis x [("BadRecord", false), ("NoRecord", true), ("BadForest", false), ("NotFair", false), ("FieldsDiffer", false), ("BadNumber", false), ("BadPlace", false), ("BadSizes", false)], eXis x [("BadRecord", true), ("NoRecord", false), ("BadForest", false), ("NotFair", false), ("FieldsDiffer", false), ("BadNumber", false), ("BadPlace", false), ("BadSizes", false)]])),
    sIf (tV (eXis x [("BadRecord", false), ("NoRecord", false), ("BadForest", true), ("NotFair", false), ("FieldsDiffer", true), ("BadNumber", true), ("BadPlace", true), ("BadSizes", true)])) (sB [sRet (eTup (eL [eC (.str [97, 110, 111, 116, 104, 101, 114])]))]) (sB []),
    sIf (tB1 (e2 eqD (eV 4) (eLst true (eL [eC (.bl true), eC (.bl true), eC (.bl false), eC (.bl false)])))) (sB [sRet (eTup (eL [eC (.str [78, 111, 116, 70, 97, 105, 114]), eXf ["BadForest", "NotFair"] x "field"]))]) (sB []),
    sIf (tB1 (e2 eqD (eV 4) (eLst true (eL [eC (.bl true), eC (.bl false), eC (.bl true), eC (.bl false)])))) (sB [sRet (eTup (eL [eC (.str [78, 111, 82, 101, 99, 111, 114, 100])]))]) (sB []),
    sIf (tB1 (e2 eqD (eV 4) (eLst true (eL [eC (.bl true), eC (.bl false), eC (.bl false), eC (.bl true)])))) (sB [sRet (eTup (eL [eC (.str [66, 97, 100, 82, 101, 99, 111, 114, 100]), eXf ["BadRecord"] x "record"]))]) (sB []),
    sRet (eTup (eL [eC (.str [97, 110, 111, 116, 104, 101, 114])]))]),
  sRet (eC .non)]
def F_q_below_told : AF := fnT 3 5 b_q_below_told
/- _law_told: _law_forest, _law_rows, e, _law_family -/
def b_q_told_v4 : AS := sB [sTryAs [("BadRecord", true), ("NoRecord", true), ("BadForest", true), ("NotFair", true), ("FieldsDiffer", true), ("BadNumber", true), ("BadPlace", true), ("BadSizes", true)] 2 (sB [sE (eA (F_meet) (eL [eV 0, eV 1]))]) (fun x => sB [sSet 3 (eLst true (eL [eXis x [("BadRecord", true), ("NoRecord", true), ("BadForest", true), ("NotFair", true), ("FieldsDiffer", true), ("BadNumber", true), ("BadPlace", true), ("BadSizes", true)], eXis x [("BadRecord", false), ("NoRecord", false), ("BadForest", false), ("NotFair", true), ("FieldsDiffer", false), ("BadNumber", false), ("BadPlace", false), ("BadSizes", false)], eXis x [("BadRecord", false), ("NoRecord", true), ("BadForest", false), ("NotFair", false), ("FieldsDiffer", false), ("BadNumber", false), ("BadPlace", false), ("BadSizes", false)], eXis x [("BadRecord", true), ("NoRecord", false), ("BadForest", false), ("NotFair", false), ("FieldsDiffer", false), ("BadNumber", false), ("BadPlace", false), ("BadSizes", false)]])),
    sIf (tV (eXis x [("BadRecord", false), ("NoRecord", false), ("BadForest", true), ("NotFair", false), ("FieldsDiffer", true), ("BadNumber", true), ("BadPlace", true), ("BadSizes", true)])) (sB [sRet (eTup (eL [eC (.str [97, 110, 111, 116, 104, 101, 114])]))]) (sB []),
    sIf (tB1 (e2 eqD (eV 3) (eLst true (eL [eC (.bl true), eC (.bl true), eC (.bl false), eC (.bl false)])))) (sB [sRet (eTup (eL [eC (.str [78, 111, 116, 70, 97, 105, 114]), eXf ["BadForest", "NotFair"] x "field"]))]) (sB []),
    sIf (tB1 (e2 eqD (eV 3) (eLst true (eL [eC (.bl true), eC (.bl false), eC (.bl true), eC (.bl false)])))) (sB [sRet (eTup (eL [eC (.str [78, 111, 82, 101, 99, 111, 114, 100])]))]) (sB []),
    sIf (tB1 (e2 eqD (eV 3) (eLst true (eL [eC (.bl true), eC (.bl false), eC (.bl false), eC (.bl true)])))) (sB [sRet (eTup (eL [eC (.str [66, 97, 100, 82, 101, 99, 111, 114, 100]), eXf ["BadRecord"] x "record"]))]) (sB []),
    sRet (eTup (eL [eC (.str [97, 110, 111, 116, 104, 101, 114])]))]),
  sRet (eC .non)]
def F_q_told_v4 : AF := fnT 2 4 b_q_told_v4
/- _law_refuses: _law_tape_here, _law_forest, _law_parents_here, _law_kinds_here, _law_lot_here, _law_spoilt, _law_rows, _law_asked, _law_handed, _law_told_here, _law_pair -/
def b_q_refuses_v4 : AS := sB [sSet 5 (eA (on1 (listD true)) (eL [eV 3])),
  sIf (tB1 (e2 eqD (eA (F_q_take) (eL [eV 0, eC (.int 2)])) (eC (.int 0)))) (sB [sSet 5 (eA (F_q_unfair_v2) (eL [eV 0, eV 2, eV 3]))]) (sB []),
  sSet 6 (eA (on1 (listD true)) (eL [eV 4])),
  sIf (tB1 (e2 eqD (eA (F_q_take) (eL [eV 0, eC (.int 2)])) (eC (.int 0)))) (sB [sSet 6 (eSl true (eV 4) (oN) (oS (eA (F_q_take) (eL [eV 0, eC (.int 2)]))))]) (sB []),
  sSet 6 (eA (F_q_faulty) (eL [eV 0, eV 6])),
  sSet 7 (eV 1),
  sIf (tB1 (e2 neD (eV 5) (eV 3))) (sB [sSet 7 (eA (mkI "Forest" true (F_Forest_init)) (eL [eA (on1 (listD true)) (eL [eV 2]), eA (on1 (listD true)) (eL [eV 5])]))]) (sB []),
  sSet 8 (eA (on1 (listD true)) (eL [eV 6])),
  sSet 9 (eA (F_q_told_v4) (eL [eV 7, eV 8])),
  sIf (tOr (tNot (tV (eA (F_q_same_v2 12) (eL [eV 9, eA (F_q_due_v3) (eL [eV 5, eV 6])])))) (tNot (tV (eA (F_q_same_v2 12) (eL [eV 8, eV 6]))))) (sB [sRet (eC (.bl false))]) (sB []),
  sSet 10 (eA (F_q_faulty) (eL [eV 0, eLst true (eL [e2 ixD (eV 4) (eC (.int 0)), e2 ixD (eV 4) (e2 subD (eA (on1 lenD) (eL [eV 4])) (eC (.int 1)))])])),
  sRet (eA (F_q_same_v2 12) (eL [eA (F_q_below_told) (eL [eV 7, e2 ixD (eV 10) (eC (.int 0)), e2 ixD (eV 10) (eC (.int 1))]), eA (F_q_due_v3) (eL [eV 5, eV 10])]))]
def F_q_refuses_v4 : AF := fnT 5 11 b_q_refuses_v4
/- law: _law_script, _law_tape_here, _law_n, _law_parents_here, _law_count_here, _law_span_here, _law_turn, _law_kinds_here, _law_rows, _law_lot_here, _law_further, _law_paths_here, _law_low, _law_forest, _law_end, _law_bottom -/
def b_law_k53 : AS := sB [sSet 1 (eA (F_q_tape) (eL [eV 0, eC (.int 0)])),
  sSet 2 (eA (F_q_fields) (eL [eV 1])),
  sSet 3 (eA (F_q_parents) (eL [eV 1, eV 2])),
  sSet 4 (eA (F_q_count) (eL [eV 1, eC (.int 1)])),
  sSet 5 (eA (F_q_span) (eL [eV 1])),
  sSet 6 (eA (F_q_tape) (eL [eV 0, eC (.int 1)])),
  sSet 7 (eA (F_q_kinds) (eL [eV 6, eV 3, eC (.bl true)])),
  sSet 8 (eA (F_q_lot) (eL [eV 0, eC (.int 2), eV 2, e2 (addD true) (eV 4) (eC (.int 1)), eV 5])),
  sSet 9 (eSl true (eV 8) (oN) (oS (eV 4))),
  sSet 10 (e2 ixD (eV 8) (eV 4)),
  sSet 11 (eA (F_q_paths) (eL [eV 3])),
  sSet 12 (eA (F_q_turned) (eL [eV 7])),
  sSet 13 (eA (mkI "Forest" true (F_Forest_init)) (eL [eA (on1 (listD true)) (eL [eV 3]), eA (on1 (listD true)) (eL [eV 7])])),
  sIf (tNot (tV (eA (F_q_meets) (eL [eV 13, eV 11, eV 12, eV 9, eV 10])))) (sB [sRet (eC (.bl false))]) (sB []),
  sSet 14 (eA (F_q_fold) (eL [eV 11, eV 7, eV 9])),
  sSet 15 (eA (F_q_fold) (eL [eV 11, eV 12, eV 9])),
  sIf (tNot (tV (eA (F_q_same_v2 12) (eL [eA (F_lot_end) (eL [eV 13, eA (on1 (listD true)) (eL [eV 9])]), eV 14])))) (sB [sRet (eC (.bl false))]) (sB []),
  sIf (tNot (tV (eA (F_q_ordered) (eL [eV 13, eV 11, eV 7, e2 (addD true) (eSl true (eV 9) (oN) (oS (eC (.int 4)))) (eLst true (eL [eV 10, eV 14, eV 15]))])))) (sB [sRet (eC (.bl false))]) (sB []),
  sIf (tNot (tV (eA (F_q_bounds) (eL [eV 13, eV 9, eV 10, eV 14, eV 15])))) (sB [sRet (eC (.bl false))]) (sB []),
  sIf (tNot (tV (eA (F_q_refuses_v4) (eL [eV 6, eV 13, eV 3, eV 7, eV 9])))) (sB [sRet (eC (.bl false))]) (sB []),
  sIf (tNot (tV (eA (F_q_distributes) (eL [eV 13, eV 11, eV 7, e2 ixD (eV 8) (eC (.int 0)), e2 ixD (eV 8) (eC (.int 1)), eV 10])))) (sB [sRet (eC (.bl false))]) (sB []),
  sRet (eA (F_q_meets) (eL [eA (mkI "Forest" true (F_Forest_init)) (eL [eA (on1 (listD true)) (eL [eV 3]), eA (on1 (listD true)) (eL [eV 12])]), eV 11, eV 7, eV 9, eV 10]))]
def F_law_k53 : AF := fnT 1 16 b_law_k53
end Sm
end

section
set_option linter.all false
set_option maxRecDepth 10000
/-! Ch20: is_below, meet (k53), first part. -/
namespace Sm
/-- a is not above b on any path -/
def belowF (ps : Par) (ks : List Kd) (a b : List Int) (f : Nat) : Bool := match fu (path ps f) (rec a) (rec b) with
  | none => true
  | some p => bet (kd ks p) (rv b p) (rv a p)
def belowB (ps : Par) (ks : List Kd) (a b : List Int) : Bool := (List.range ps.length).all (belowF ps ks a b)
end Sm
end

section
set_option linter.all false
set_option maxRecDepth 10000
/-! Ch21: the order along a path. -/
namespace Sm
def lexLe : List Int → List Int → Bool
  | [], _ => true
  | _ :: _, [] => false
  | x :: xs, y :: ys => decide (x < y) || (decide (x = y) && lexLe xs ys)
/-- a record's values along a path, each so that more is better -/
def keyP (ks : List Kd) (path : List Nat) (r : List Int) : List Int := path.map fun p => adj (kd ks p) (rv r p)
@[simp] theorem keyP_len (ks : List Kd) (path : List Nat) (r : List Int) : (keyP ks path r).length = path.length := by simp [keyP]
def mx (x y : List Int) : List Int := if lexLe x y then y else x
def mn (x y : List Int) : List Int := if lexLe y x then y else x
end Sm
end

section
set_option linter.all false
set_option maxRecDepth 10000
/-! Ch22: records by their paths; k53's distributivity. -/
namespace Sm
section
variable {ps : Par} {ks : List Kd} (g : Good ps ks) (hw : ∀ p < ps.length, (kd ks p).end_ = false) {x y z : List Int} (lx : x.length = ps.length) (ly : y.length = ps.length) (lz : z.length = ps.length)
include g hw lx ly lz
end
end Sm
end

section
set_option linter.all false
set_option maxRecDepth 10000
/-! Au: what simp may do by itself; loops that only look. -/
namespace Sm
@[simp] theorem trim_s (h : AH) (d : D) (hc : (nloc d && clo h.length d) = true) : trim h (.ok d h) = .ok d h := by
  rw [Bool.and_eq_true] at hc
  exact trim_same hc.1 hc.2
@[simp] theorem trim_a (h L : AH) (d : D) (hc : (nloc d && clo h.length d) = true) : trim h (.ok d (h ++ L)) = .ok d h := by
  rw [Bool.and_eq_true] at hc
  exact trim_app hc.1 hc.2
@[simp] theorem nloc_eR (r : List Int) : nloc (eR r) = true := rfl
@[simp] theorem nloc_fo (ps : Par) (ks : List Kd) : nloc (fo ps ks) = true := rfl
@[simp] theorem nloc_eO (p : Option Nat) : nloc (eO p) = true := by cases p <;> rfl
@[simp] theorem nloc_eK (k : Kd) : nloc (eK k) = true := rfl
@[simp] theorem nloc_encBO' (d : Option BDue) : nloc (encBO d) = true := nloc_encBO d
section
variable {α : Type} {b : AS} {v : Nat} {ys : List α} {enc : α → D} {Q : Fl → AH → Prop} {h : AH} {e : Env}
end

section
variable (h : AH)
@[simp] theorem isNon_bl (b : Bool) : isNonD (.bl b) h = .ok (.bl false) h := by unfold isNonD; simp
@[simp] theorem isNon_str (s : List Nat) : isNonD (.str s) h = .ok (.bl false) h := by unfold isNonD; simp
@[simp] theorem isNon_tup (s : List D) : isNonD (.tup s) h = .ok (.bl false) h := by unfold isNonD; simp
@[simp] theorem isNon_lst (s : List D) : isNonD (.lst s) h = .ok (.bl false) h := by unfold isNonD; simp
@[simp] theorem isNon_loc (l : Nat) : isNonD (.loc l) h = .ok (.bl false) h := by unfold isNonD; simp
@[simp] theorem isNon_ins (c : String) (n : List String) (d : List D) : isNonD (.ins c n d) h = .ok (.bl false) h := by unfold isNonD; simp
@[simp] theorem isNon_fo (ps : Par) (ks : List Kd) : isNonD (fo ps ks) h = .ok (.bl false) h := isNon_ins h _ _ _
@[simp] theorem isNon_eR (r : List Int) : isNonD (eR r) h = .ok (.bl false) h := isNon_tup h _
@[simp] theorem notNon_bl (b : Bool) : notNonD (.bl b) h = .ok (.bl true) h := by unfold notNonD; simp
@[simp] theorem notNon_str (s : List Nat) : notNonD (.str s) h = .ok (.bl true) h := by unfold notNonD; simp
@[simp] theorem notNon_tup (s : List D) : notNonD (.tup s) h = .ok (.bl true) h := by unfold notNonD; simp
@[simp] theorem notNon_lst (s : List D) : notNonD (.lst s) h = .ok (.bl true) h := by unfold notNonD; simp
@[simp] theorem notNon_loc (l : Nat) : notNonD (.loc l) h = .ok (.bl true) h := by unfold notNonD; simp
@[simp] theorem notNon_ins (c : String) (n : List String) (d : List D) : notNonD (.ins c n d) h = .ok (.bl true) h := by unfold notNonD; simp
@[simp] theorem notNon_fo (ps : Par) (ks : List Kd) : notNonD (fo ps ks) h = .ok (.bl true) h := notNon_ins h _ _ _
@[simp] theorem notNon_eR (r : List Int) : notNonD (eR r) h = .ok (.bl true) h := notNon_tup h _
@[simp] theorem eq_bl' (a b : Bool) : eqD (.bl a) (.bl b) h = .ok (.bl (decide (a = b))) h := by cases a <;> cases b <;> rfl
@[simp] theorem ne_bl' (a b : Bool) : neD (.bl a) (.bl b) h = .ok (.bl (!decide (a = b))) h := by cases a <;> cases b <;> rfl
@[simp] theorem isTy_bl' (b : Bool) : isTy "bool" (.bl b) h = .ok (.bl true) h := rfl
@[simp] theorem isTy_lst_lst (s : List D) : isTy "list" (.lst s) h = .ok (.bl true) h := rfl
@[simp] theorem isTy_lst_tup (s : List D) : isTy "list" (.tup s) h = .ok (.bl false) h := rfl
@[simp] theorem isTy_tup_lst (s : List D) : isTy "tuple" (.lst s) h = .ok (.bl false) h := rfl
end
@[simp] theorem at_5 {α : Type} (xs : List α) : at? xs 5 = xs[5]? := at_nat xs 5
@[simp] theorem at_6 {α : Type} (xs : List α) : at? xs 6 = xs[6]? := at_nat xs 6
@[simp] theorem at_7 {α : Type} (xs : List α) : at? xs 7 = xs[7]? := at_nat xs 7
@[simp] theorem at_8 {α : Type} (xs : List α) : at? xs 8 = xs[8]? := at_nat xs 8
@[simp] theorem at_9 {α : Type} (xs : List α) : at? xs 9 = xs[9]? := at_nat xs 9
@[simp] theorem at_10 {α : Type} (xs : List α) : at? xs 10 = xs[10]? := at_nat xs 10
@[simp] theorem at_11 {α : Type} (xs : List α) : at? xs 11 = xs[11]? := at_nat xs 11
@[simp] theorem at_12 {α : Type} (xs : List α) : at? xs 12 = xs[12]? := at_nat xs 12
@[simp] theorem at_13 {α : Type} (xs : List α) : at? xs 13 = xs[13]? := at_nat xs 13
@[simp] theorem at_14 {α : Type} (xs : List α) : at? xs 14 = xs[14]? := at_nat xs 14
@[simp] theorem at_15 {α : Type} (xs : List α) : at? xs 15 = xs[15]? := at_nat xs 15
theorem if_set {t : AB} {i : Nat} {a : AE} {d : D} {e : Env} {h h1 h2 : AH} {P : Fl → AH → Prop} (ht : t e h = .ok true h1) (ha : a e h1 = .ok d h2) (q : P (.nx (e.set i (some d))) h2) : wp (sIf t (sB [sSet i a]) (sB []) e h) P := by
  rw [sIf_def, ht]
  show wp (sB [sSet i a] e h1) P
  rw [sB_cons, sSet_def, ha]
  exact q
theorem if_no {t : AB} {x : AS} {e : Env} {h h1 : AH} {P : Fl → AH → Prop} (ht : t e h = .ok false h1) (q : P (.nx e) h1) : wp (sIf t x (sB []) e h) P := by
  rw [sIf_def, ht]
  exact q
theorem if_yes {t : AB} {a b : AS} {e : Env} {h h1 : AH} {P : Fl → AH → Prop} (ht : t e h = .ok true h1) (q : wp (a e h1) P) : wp (sIf t a b e h) P := by
  rw [sIf_def, ht]
  exact q
theorem for_it {it : AI} {g : AG} {b : AS} {xs : List D} {e : Env} {h h1 : AH} {Q : Fl → AH → Prop} (hit : it e h = .ok (.lst xs) h1) (q : wp (forN g b (.lst xs) (Src.lst xs).fuel 0 e h1) Q) : wp (sFor it g b e h) Q := by
  rw [sFor_def, hit]
  exact q
theorem rng_get0 {n i : Nat} {x : D} (h : (rng 0 n)[i]? = some x) : i < n ∧ x = .int i := by
  obtain ⟨a, b⟩ := rng_get h
  rw [Int.zero_add] at b
  exact ⟨a, b⟩
end Sm
end

section
set_option linter.all false
set_option maxRecDepth 10000
/-! Ob: the tree of a word. -/
namespace Sm
def sNew : D := .str [110, 101, 119, 101, 114]
def sOld : D := .str [111, 108, 100, 101, 114]
def stepD (ks : List Kd) (p : Nat) (t : D) : D := match kd ks p with
  | .up => .tup [.int p, sNew, t, sOld]
  | .down => .tup [.int p, sOld, t, sNew]
  | _ => t
def baseD (k : Kd) : D := if k = .last then sNew else sOld
def treeL (ks : List Kd) (b : D) (L : List Nat) : D := L.foldr (stepD ks) b
def treeD (ps : Par) (ks : List Kd) (f : Nat) : D := treeL ks (baseD (kd ks f)) (path ps f)
def wdL (ks : List Kd) (L : List Nat) : List D := L.map fun (k : Nat) => D.tup [.int k, eK (kd ks k)]
theorem clo_tree (ks : List Kd) (n : Nat) (b : D) (hb : clo n b = true) : ∀ L, clo n (treeL ks b L) = true
  | [] => hb
  | p :: L => by
    have ih := clo_tree ks n b hb L
    show clo n (stepD ks p (treeL ks b L)) = true
    unfold stepD
    cases kd ks p <;> simp [ih, sNew, sOld]
end Sm
end

section
set_option linter.all false
set_option maxRecDepth 10000
/-! Oc: following the tree of a word. -/
namespace Sm
def folL (ks : List Kd) (b : D) (sg : Nat → Int) : List Nat → D
  | [] => b
  | p :: L => match kd ks p with
    | .up => if sg p = -1 then sNew else if sg p = 0 then folL ks b sg L else sOld
    | .down => if sg p = -1 then sOld else if sg p = 0 then folL ks b sg L else sNew
    | _ => folL ks b sg L
def isEndS (d : D) : Prop := d = sNew ∨ d = sOld
end Sm
end

section
set_option linter.all false
set_option maxRecDepth 10000
/-! Od: following the tree of a word = the side its path takes. -/
namespace Sm
def sgI (x y : Int) : Int := if x < y then -1 else if x > y then 1 else 0
end Sm
end

section
set_option linter.all false
set_option maxRecDepth 10000
/-! Oe: follow. -/
namespace Sm
end Sm
end

section
set_option linter.all false
set_option maxRecDepth 10000
/-! Of: a tree is the same as itself. -/
namespace Sm
end Sm
end

section
set_option linter.all false
/-! Srt: ascending lists of ints; sorted() of our model. -/
namespace Sm
theorem insU_mm (x z : Int) : ∀ ys : List Int, z ∈ insU x ys ↔ z = x ∨ z ∈ ys
  | [] => by simp [insU]
  | y :: ys => by
    unfold insU
    split
    · simp
    · split
      · rename_i h; subst h; simp
      · rw [List.mem_cons, insU_mm x z ys, List.mem_cons]
        constructor
        · rintro (h | h | h) <;> simp [h]
        · rintro (h | h | h) <;> simp [h]
theorem insU_asc (x : Int) : ∀ {ys : List Int}, ys.Pairwise (· < ·) → (insU x ys).Pairwise (· < ·)
  | [], _ => by simp [insU]
  | y :: ys, h => by
    unfold insU
    have h' := List.pairwise_cons.mp h
    split
    · rename_i hxy
      exact List.pairwise_cons.mpr ⟨fun z hz => by
        rcases List.mem_cons.mp hz with e | e
        · omega
        · have := h'.1 z e; omega, h⟩
    · split
      · exact h
      · refine List.pairwise_cons.mpr ⟨fun z hz => ?_, insU_asc x h'.2⟩
        rcases (insU_mm x z ys).mp hz with e | e
        · omega
        · exact h'.1 z e
theorem sortU_mm (z : Int) : ∀ xs : List Int, z ∈ sortU xs ↔ z ∈ xs
  | [] => by simp [sortU]
  | x :: xs => by rw [sortU, insU_mm, sortU_mm z xs, List.mem_cons]
theorem sortU_asc : ∀ xs : List Int, (sortU xs).Pairwise (· < ·)
  | [] => by simp [sortU]
  | x :: xs => by rw [sortU]; exact insU_asc x (sortU_asc xs)
/-- ascending within 0 .. n - 1: at most n -/
theorem asc_len : ∀ {xs : List Int} {lo n : Int}, xs.Pairwise (· < ·) → (∀ x ∈ xs, lo ≤ x ∧ x < n) → lo ≤ n → (xs.length : Int) ≤ n - lo
  | [], lo, n, _, _, h => by simp; omega
  | x :: xs, lo, n, h, hb, hn => by
    have h' := List.pairwise_cons.mp h
    have b := hb x List.mem_cons_self
    have := asc_len (lo := x + 1) (n := n) h'.2 (fun z hz => ⟨by have := h'.1 z hz; omega, (hb z (List.mem_cons_of_mem _ hz)).2⟩) (by omega)
    simp only [List.length_cons]
    omega
@[simp] theorem asInts_mp : ∀ ns : List Int, asInts (ns.map .int) = some ns
  | [] => rfl
  | n :: ns => by simp [asInts, asInts_mp ns]
/-! ### lists of ints, side by side -/
theorem mapO_ints {f : D → Option D} (hf : ∀ i, f (.int i) = some (.int i)) : ∀ ns : List Int, mapO f (ns.map .int) = some (ns.map .int)
  | [] => rfl
  | n :: ns => by simp [mapO, hf, mapO_ints hf ns]
theorem evs_ints : ∀ a b : List Int, evs (a.map .int) (b.map .int) = decide (a = b)
  | [], [] => rfl
  | [], y :: b => by simp [evs]
  | x :: a, [] => by simp [evs]
  | x :: a, y :: b => by
    rw [List.map_cons, List.map_cons, evs, evs_ints a b, ev, Bool.eq_iff_iff]
    simp
theorem pd_lst_ints (h : AH) (ns : List Int) : pd h 64 (.lst (ns.map .int)) = some (.lst (ns.map .int)) := by
  show (mapO (pd h 63) (ns.map .int)).map D.lst = _
  rw [mapO_ints (f := pd h 63) fun i => rfl]; rfl
@[simp] theorem ne_lst_ints (a b : List Int) (h : AH) : neD (.lst (a.map .int)) (.lst (b.map .int)) h = .ok (.bl (!decide (a = b))) h := by
  unfold neD eqH
  rw [if_neg (by simp [scal]), pd_lst_ints, pd_lst_ints]
  show (R.of (some (ev _ _)) h).bind _ = _
  rw [ev, evs_ints]; rfl
theorem inL_ints (x : Int) : ∀ ys : List Int, inL (.int x) (ys.map .int) = decide (x ∈ ys)
  | [] => by simp [inL]
  | y :: ys => by
    have := inL_ints x ys
    unfold inL at this ⊢
    rw [List.map_cons, List.any_cons, this, ev, Bool.eq_iff_iff]
    simp only [Bool.or_eq_true, beq_iff_eq, decide_eq_true_eq, List.mem_cons]
    exact ⟨fun h => h.imp Eq.symm id, fun h => h.imp Eq.symm id⟩
theorem all_flat_ints (ys : List Int) : (ys.map D.int).all flat = true := by simp [flat]
theorem sortedSetL {h : AH} {l : Nat} {ys : List Int} (e : getL h l = some (ys.map .int)) (h1 : ys.length < 4000) (h2 : (sortU ys).length < 64) : sortedSetD true (.loc l) h = .ok (.lst ((sortU ys).map .int)) h := by
  unfold sortedSetD
  rw [lstH_loc, e]
  simp [h1, h2]
end Sm
end

section
set_option linter.all false
set_option maxRecDepth 10000
/-! Og: trees in general (from the texts of k01), and which fields a tree asks. -/
namespace Sm
inductive Tr where
  | leaf (s : List Nat) | node (f : Int) (a b c : Tr)
def Tr.enc : Tr → D
  | .leaf s => .str s
  | .node f a b c => .tup [.int f, a.enc, b.enc, c.enc]
def Tr.ok (n : Int) : Tr → Prop
  | .leaf _ => True
  | .node f a b c => 0 ≤ f ∧ f < n ∧ a.ok n ∧ b.ok n ∧ c.ok n
def Tr.dep : Tr → Nat
  | .leaf _ => 0
  | .node _ a b c => 1 + max a.dep (max b.dep c.dep)
def Tr.size : Tr → Nat
  | .leaf _ => 1
  | .node _ a b c => 1 + (a.size + b.size + c.size)
theorem Tr.clo_enc (n : Nat) : ∀ t : Tr, clo n t.enc = true
  | .leaf s => by simp [Tr.enc]
  | .node f a b c => by simp [Tr.enc, a.clo_enc n, b.clo_enc n, c.clo_enc n]
theorem Tr.enc_loc (t : Tr) (l : Nat) : t.enc ≠ .loc l := by cases t <;> simp [Tr.enc]
def Tr.leaves : Tr → List (List Nat)
  | .leaf s => [s]
  | .node _ a b c => a.leaves ++ (b.leaves ++ c.leaves)
def Tr.fields : Tr → List Int
  | .leaf _ => []
  | .node f a b c => f :: (a.fields ++ (b.fields ++ c.fields))
def sizes (ts : List Tr) : Nat := (ts.map Tr.size).sum
@[simp] theorem sizes_nil : sizes [] = 0 := rfl
@[simp] theorem sizes_cons (t : Tr) (ts : List Tr) : sizes (t :: ts) = t.size + sizes ts := by simp [sizes]
@[simp] theorem sizes_app (a b : List Tr) : sizes (a ++ b) = sizes a + sizes b := by simp [sizes]
theorem Tr.size_pos (t : Tr) : 1 ≤ t.size := by cases t <;> simp [Tr.size] <;> omega
theorem sizes_len : ∀ ts : List Tr, ts.length ≤ sizes ts
  | [] => by simp
  | t :: ts => by have := sizes_len ts; have := t.size_pos; simp; omega
theorem Tr.fields_ok {n : Int} : ∀ t : Tr, t.ok n → ∀ x ∈ t.fields, 0 ≤ x ∧ x < n
  | .leaf _, _, x, hx => by simp [Tr.fields] at hx
  | .node f a b c, h, x, hx => by
    obtain ⟨h0, h1, ka, kb, kc⟩ := h
    simp only [Tr.fields, List.mem_cons, List.mem_append] at hx
    rcases hx with rfl | hx | hx | hx
    · exact ⟨h0, h1⟩
    · exact a.fields_ok ka x hx
    · exact b.fields_ok kb x hx
    · exact c.fields_ok kc x hx
theorem snoc {α : Type} : ∀ {xs : List α}, xs ≠ [] → ∃ ys y, xs = ys ++ [y]
  | xs, h => ⟨xs.dropLast, xs.getLast h, (List.dropLast_concat_getLast h).symm⟩
theorem asked_ok {n : Int} (h0 : 0 < n) (h1 : n < 60) {t : Tr} (ht : t.ok n) (hs : t.size ≤ 1200) {h : AH} : ∃ fs : List Int, (∀ x, x ∈ fs ↔ x ∈ t.fields) ∧ F_asked [t.enc] h = .ok (.tup ((sortU fs).map .int)) h := by
  have key : ∀ Z : R Fl → Prop, (∀ fs : List Int, (∀ x, x ∈ fs ↔ x ∈ t.fields) → Z (.ok (.rt (.tup ((sortU fs).map .int))) (h ++ [.lst (fs.map .int), .lst []]))) → Z (b_asked (envOf 4 [t.enc]) h) := by
    intro Z hZ
    simp [b_asked, envOf]
    have hb : 1 ≤ big := by decide
    try simp only [big1, decide_true, chk_true, mkL_f, up_ok, kSet_def, bind_ok, kB2_nx, sB_cons, sWhile_def, List.set_cons_succ, List.set_cons_zero, List.length_append, List.length_cons, List.length_nil, List.append_assoc, List.cons_append, List.nil_append]
    refine while_inv (P := fun m e h' => ∃ (ts : List Tr) (fs : List Int) (x3 : Option D), e = [some t.enc, some (.loc h.length), some (.loc (h.length + 1)), x3] ∧ h' = h ++ [.lst (fs.map .int), .lst (ts.map Tr.enc)] ∧ (∀ x, x ∈ t.fields ↔ x ∈ fs ∨ ∃ u ∈ ts, x ∈ u.fields) ∧ sizes ts = m ∧ fs.length + m ≤ t.size) (Z := fun r => Z (r.bind (kB2 [sRet (eA (on1 tupD) (eL [e1 (sortedSetD true) (eV 1)]))]))) ?_ (2 ^ 40) t.size (by omega) ⟨[t], [], none, rfl, rfl, by simp, by simp, by simp⟩
    rintro m e h' k ⟨ts, fs, x3, rfl, rfl, el, rfl, hfl⟩ ih
    have g0 : getL (h ++ [.lst (fs.map .int), .lst (ts.map Tr.enc)]) h.length = some (fs.map .int) := by rw [getL_new (by omega)]; simp
    have g1 : getL (h ++ [.lst (fs.map .int), .lst (ts.map Tr.enc)]) (h.length + 1) = some (ts.map Tr.enc) := by rw [getL_new (by omega)]; simp
    by_cases hts : ts = []
    · subst hts
      simp at el
      have tz := truthL g1
      have hlen : (sortU fs).length < 64 := by
        have := asc_len (lo := 0) (n := n) (sortU_asc fs) (fun x hx => t.fields_ok ht x ((el x).mpr ((sortU_mm x fs).mp hx))) (by omega)
        omega
      have tu := sortedSetL g0 (by omega) hlen
      simp only [List.map_nil, List.isEmpty_nil] at tz tu
      simpa [tz, tu] using hZ fs fun x => (el x).symm
    · obtain ⟨us, u, rfl⟩ := snoc hts
      have tz := truthL g1
      have iz := isL g1
      have pz := pop_ok (h := h ++ [.lst (fs.map .int), .lst ((us ++ [u]).map Tr.enc)]) (l := h.length + 1) (xs := us.map Tr.enc) (y := u.enc) (by rw [g1]; simp)
      rw [set_new (by omega)] at pz
      simp at pz tz iz hfl
      have up := u.size_pos
      have ul := sizes_len us
      cases u with
      | leaf s =>
        simp only [Tr.enc] at tz iz pz
        have hz := ih (sizes us) [some t.enc, some (.loc h.length), some (.loc (h.length + 1)), some (.str s)] _ (by simp; omega) ⟨us, fs, _, rfl, rfl, fun x => by rw [el x]; simp [or_and_right, exists_or, Tr.fields], rfl, by simp [Tr.size] at hfl ⊢; omega⟩
        simpa [tz, iz, pz, Tr.enc] using hz
      | node f a b c =>
        simp only [Tr.enc] at tz iz pz
        have g2 : getL (h ++ [.lst (fs.map .int), .lst (us.map Tr.enc)]) h.length = some (fs.map .int) := by rw [getL_new (by omega)]; simp
        have i2 := isL g2
        have a2 := append_ok (.int f) g2 (by rw [bigv]; simp; omega)
        rw [set_new (by omega)] at a2
        simp at a2
        have g3 : getL (h ++ [.lst (fs.map .int ++ [.int f]), .lst (us.map Tr.enc)]) (h.length + 1) = some (us.map Tr.enc) := by rw [getL_new (by omega)]; simp
        have i3 := isL g3
        have x2 := extT_ok (ys := [a.enc, b.enc, c.enc]) g3 (by rw [bigv]; simp; omega)
        rw [set_new (by omega)] at x2
        simp at x2
        simp only [Tr.size] at hfl
        have hz := ih (sizes (us ++ [a, b, c])) [some t.enc, some (.loc h.length), some (.loc (h.length + 1)), some (Tr.node f a b c).enc] _ (by simp [Tr.size]; omega) ⟨us ++ [a, b, c], fs ++ [f], _, rfl, rfl, fun x => by
          rw [el x]
          simp [or_and_right, exists_or, Tr.fields]
          grind, rfl, by simp; omega⟩
        simp [Tr.enc] at hz
        have hc : cut [D.int f, a.enc, b.enc, c.enc] (some 1) none = [a.enc, b.enc, c.enc] := by simp [cut, sIx]
        simpa [tz, iz, pz, Tr.enc, i2, a2, i3, x2, hc] using hz
  refine key (fun r => ∃ fs : List Int, (∀ x, x ∈ fs ↔ x ∈ t.fields) ∧ trim h (fnR r) = .ok (.tup ((sortU fs).map .int)) h) fun fs hf => ⟨fs, hf, ?_⟩
  exact trim_val rfl (pre_refl h) (by simp) (by simp)
end Sm
end

section
set_option linter.all false
set_option maxRecDepth 10000
/-! Xa: trees drawn and followed (from the texts of k01 and k25). -/
namespace Sm
theorem takeI {h : AH} {l : Nat} {n : Int} (t : Tp h l) (h0 : 0 < n) (h1 : n < 1073741824) : ∃ r o, 0 ≤ r ∧ r < n ∧ IsTp o ∧ F_q_take [.loc l, .int n] h = .ok (.int r) (h.set l o) := q_take_ok t h0 (by omega)
/-- the end of a def that only draws -/
theorem fnT_drawT {p n : Nat} {b : AS} {ds : List D} {h : AH} {d : D} {l : Nat} {o : AO} (ho : IsTp o) (hl : ds.length = p) (hb : b (envOf n ds) h = .ok (.rt d) (h.set l o)) (hd : ∀ l, d ≠ .loc l) (hc : clo h.length d = true) : fnT p n b ds h = .ok d (h.set l o) :=
  fnT_eq hl hb (by
    have := trim_val (h := h) (h1 := h.set l o) (L := []) (d := d) (by simp) (pre_set (ho.clo _)) hd hc
    simpa using this)
theorem fnT_sameT {p n : Nat} {b : AS} {ds : List D} {h : AH} {d : D} {L : AH} (hl : ds.length = p) (hb : b (envOf n ds) h = .ok (.rt d) (h ++ L)) (hd : ∀ l, d ≠ .loc l) (hc : clo h.length d = true) : fnT p n b ds h = .ok d h :=
  fnT_eq hl hb (trim_val rfl (pre_refl h) hd hc)
def word (r : Int) : List Nat := if r = 0 then [111, 108, 100, 101, 114] else [110, 101, 119, 101, 114]
theorem at_word {r : Int} (h0 : 0 ≤ r) (h2 : r < 2) : at? [D.str [111, 108, 100, 101, 114], D.str [110, 101, 119, 101, 114]] r = some (.str (word r)) := by
  have : r = 0 ∨ r = 1 := by omega
  rcases this with rfl | rfl <;> simp [word]
theorem big2T : 2 ≤ big := by decide
theorem big4T : 4 ≤ big := by decide
def S : Nat → Nat
  | 0 => 1
  | n + 1 => 1 + 3 * S n
def old : List Nat := [111, 108, 100, 101, 114]
def new : List Nat := [110, 101, 119, 101, 114]
def Word (s : List Nat) : Prop := s = old ∨ s = new
theorem word_Word (r : Int) : Word (word r) := by unfold word Word old new; split <;> simp
def Tr.W : Tr → Prop
  | .leaf s => Word s
  | .node _ a b c => a.W ∧ b.W ∧ c.W
theorem Word.flat {s : List Nat} (h : Word s) : s.all (fun c => decide (c < 1114112)) = true := by
  rcases h with rfl | rfl <;> decide
theorem size_le : ∀ t : Tr, t.size ≤ S t.dep
  | .leaf s => by simp [Tr.size, Tr.dep, S]
  | .node f a b c => by
    have mono : ∀ {i j : Nat}, i ≤ j → S i ≤ S j := fun {i j} h => by
      induction h with
      | refl => exact Nat.le_refl _
      | step h ih => exact Nat.le_trans ih (by simp only [S]; omega)
    have ha := Nat.le_trans (size_le a) (mono (show a.dep ≤ max a.dep (max b.dep c.dep) by omega))
    have hb := Nat.le_trans (size_le b) (mono (show b.dep ≤ max a.dep (max b.dep c.dep) by omega))
    have hc := Nat.le_trans (size_le c) (mono (show c.dep ≤ max a.dep (max b.dep c.dep) by omega))
    simp only [Tr.size, Tr.dep]
    rw [Nat.add_comm 1 (max _ _)]
    simp only [S]
    omega
theorem tree_ok {n : Int} (h0 : 0 < n) (h1 : n < 1073741824) {l : Nat} : ∀ (lv fuel : Nat) (h : AH), lv < fuel → Tp h l → ∃ (t : Tr) (o : AO), IsTp o ∧ t.ok n ∧ t.W ∧ t.dep ≤ lv ∧ F_q_tree fuel [.loc l, .int n, .int lv] h = .ok t.enc (h.set l o) := by
  intro lv
  induction lv with
  | zero =>
    intro fuel h hf tp
    obtain ⟨fuel, rfl⟩ : ∃ m, fuel = m + 1 := ⟨fuel - 1, by omega⟩
    obtain ⟨r, o, r0, r1, ho, e⟩ := takeI (n := 2) tp (by omega) (by omega)
    refine ⟨.leaf (word r), o, ho, trivial, word_Word r, Nat.le_refl _, fnT_drawT ho rfl ?_ (Tr.enc_loc _) (Tr.clo_enc _ _)⟩
    simp [b_q_tree, envOf, e, at_word r0 r1, Tr.enc, big2T]
  | succ lv ih =>
    intro fuel h hf tp
    obtain ⟨fuel, rfl⟩ : ∃ m, fuel = m + 1 := ⟨fuel - 1, by omega⟩
    have hl := tp.lt
    have hz : ¬ ((lv : Int) + 1 = 0) := by omega
    obtain ⟨r, o, r0, r1, ho, e⟩ := takeI (n := 4) tp (by omega) (by omega)
    by_cases hr : r = 0
    · subst hr
      obtain ⟨r2, o2, r20, r21, ho2, e2⟩ := takeI (n := 2) (Tp.set ho hl) (by omega) (by omega)
      refine ⟨.leaf (word r2), o2, ho2, trivial, word_Word r2, Nat.zero_le _, fnT_drawT ho2 rfl ?_ (Tr.enc_loc _) (Tr.clo_enc _ _)⟩
      simp [b_q_tree, envOf, e, e2, at_word r20 r21, Tr.enc, hz, big2T]
    · obtain ⟨f, o2, f0, f1, ho2, e2⟩ := takeI (n := n) (Tp.set ho hl) h0 h1
      obtain ⟨a, o3, ho3, ka, wa, da, e3⟩ := ih fuel _ (by omega) (Tp.set ho2 (h := h.set l o) (by simpa using hl))
      obtain ⟨b, o4, ho4, kb, wb, db, e4⟩ := ih fuel _ (by omega) (Tp.set ho3 (h := (h.set l o).set l o2) (by simpa using hl))
      obtain ⟨c, o5, ho5, kc, wc, dc, e5⟩ := ih fuel _ (by omega) (Tp.set ho4 (h := ((h.set l o).set l o2).set l o3) (by simpa using hl))
      refine ⟨.node f a b c, o5, ho5, ⟨f0, f1, ka, kb, kc⟩, ⟨wa, wb, wc⟩, by simp only [Tr.dep]; omega, fnT_drawT ho5 rfl ?_ (Tr.enc_loc _) (Tr.clo_enc _ _)⟩
      simp only [List.set_set] at e2 e3 e4 e5
      have hv : (lv : Int) + 1 - 1 = lv := by omega
      simp [b_q_tree, envOf, e, hr, e2, e3, e4, e5, Tr.enc, hz, hv, big4T]
/-! ### with_sign, field_order -/
def RowS (n : Int) (rs : List Int) : Prop := (rs.length : Int) = n ∧ ∀ r ∈ rs, -1 ≤ r ∧ r ≤ 1
theorem RowS.get {n : Int} {rs : List Int} (hr : RowS n rs) {f : Int} (f0 : 0 ≤ f) (f1 : f < n) : ∃ r, at? (rs.map D.int) f = some (.int r) ∧ -1 ≤ r ∧ r ≤ 1 ∧ rs[f.toNat]? = some r := by
  obtain ⟨k, rfl⟩ := Int.eq_ofNat_of_zero_le f0
  have hk : k < rs.length := by have := hr.1; omega
  refine ⟨rs[k], by simp [hk], ?_, ?_, by simp [hk]⟩
  · exact (hr.2 _ (List.getElem_mem hk)).1
  · exact (hr.2 _ (List.getElem_mem hk)).2
def foll (rs : List Int) : Tr → List Nat
  | .leaf s => s
  | .node f a b c => if rs[f.toNat]? = some (-1) then foll rs a else if rs[f.toNat]? = some 0 then foll rs b else foll rs c
theorem foll_step {n : Int} {rs : List Int} (hr : RowS n rs) {f : Int} {a b c : Tr} (ht : (Tr.node f a b c).ok n) : ∃ (r : Int) (t' : Tr), at? (rs.map D.int) f = some (.int r) ∧ at? [.int f, a.enc, b.enc, c.enc] (2 + r) = some t'.enc ∧ foll rs (.node f a b c) = foll rs t' ∧ t'.ok n ∧ t'.dep < (Tr.node f a b c).dep := by
  obtain ⟨f0, f1, ka, kb, kc⟩ := ht
  obtain ⟨r, er, r0, r1, eg⟩ := hr.get f0 f1
  have : r = -1 ∨ r = 0 ∨ r = 1 := by omega
  rcases this with rfl | rfl | rfl
  · exact ⟨-1, a, er, by simp, by simp [foll, eg], ka, by simp only [Tr.dep]; omega⟩
  · exact ⟨0, b, er, by simp, by simp [foll, eg], kb, by simp only [Tr.dep]; omega⟩
  · exact ⟨1, c, er, by simp, by simp [foll, eg], kc, by simp only [Tr.dep]; omega⟩
theorem followT_ok {n : Int} {rs : List Int} (hr : RowS n rs) {t : Tr} (ht : t.ok n) (hd : t.dep < 1000) {h : AH} : F_follow [t.enc, .tup (rs.map .int)] h = .ok (.str (foll rs t)) h := by
  refine fnT_sameT (L := []) rfl ?_ (by simp) (by simp)
  simp only [b_follow, envOf, sB_cons, sWhile_def]
  refine while_inv (P := fun m e h' => ∃ t' : Tr, e = [some t'.enc, some (.tup (rs.map .int))] ∧ t'.ok n ∧ foll rs t = foll rs t' ∧ t'.dep = m ∧ h' = h) (Z := fun r => r.bind (kB2 [sRet (eV 0)]) = .ok (.rt (.str (foll rs t))) (h ++ [])) ?_ (2 ^ 40) t.dep (by omega) ⟨t, by simp, ht, rfl, rfl, rfl⟩
  rintro m e h' k ⟨t', rfl, k1, e1, rfl, rfl⟩ ih
  cases t' with
  | leaf s => simp [Tr.enc, e1, foll]
  | node f a b c =>
    obtain ⟨r, t2, x1, x2, x3, k2, d2⟩ := foll_step hr k1
    have := ih _ [some t2.enc, some (.tup (rs.map .int))] _ d2 ⟨t2, rfl, k2, e1.trans x3, rfl, rfl⟩
    simpa [Tr.enc, x1, x2] using this
theorem lfollowT_ok {n : Int} {rs : List Int} (hr : RowS n rs) {t : Tr} (ht : t.ok n) (hd : t.dep < 60) {h : AH} : F_q_follow [t.enc, .tup (rs.map .int)] h = .ok (.str (foll rs t)) h := by
  refine fnT_sameT (L := []) rfl ?_ (by simp) (by simp)
  have i6 : inI 60 = true := by decide
  have key : ∀ Z : R Fl → Prop, Z (.ok (.rt (.str (foll rs t))) (h ++ [])) → Z (b_q_follow (envOf 3 [t.enc, .tup (rs.map .int)]) h) := by
    intro Z hZ
    simp [b_q_follow, envOf, i6]
    refine for_inv (Z := fun r => Z (r.bind (kB2 [sRet (eV 0)]))) (P := fun i e h' => ∃ (t' : Tr) (x : Option D), e = [some t'.enc, some (.tup (rs.map .int)), x] ∧ t'.ok n ∧ foll rs t = foll rs t' ∧ t'.dep + i < 60 ∧ h' = h) ?_ ?_ ⟨t, none, rfl, ht, rfl, by omega, rfl⟩
    · rintro i x e h' k hx ⟨t', x2, rfl, k1, e1, d1, rfl⟩ ih
      obtain ⟨hin, rfl⟩ := rng_get hx
      cases t' with
      | leaf s => simpa [Tr.enc, e1, foll] using hZ
      | node f a b c =>
        obtain ⟨r, t2, x1, x2, x3, k2, d2⟩ := foll_step hr k1
        have := ih [some t2.enc, some (.tup (rs.map .int)), some (.int i)] _ ⟨t2, _, rfl, k2, e1.trans x3, by omega, rfl⟩
        simpa [Tr.enc, x1, x2] using this
    · rintro e h' ⟨t', x, rfl, k1, e1, d1, rfl⟩
      simp at d1
      omega
  exact key (fun r => r = .ok (.rt (.str (foll rs t))) (h ++ [])) rfl
theorem Tr.W_foll (rs : List Int) : ∀ t : Tr, t.W → Word (foll rs t)
  | .leaf s, w => w
  | .node f a b c, w => by
    simp only [foll]
    split
    · exact a.W_foll rs w.1
    · split
      · exact b.W_foll rs w.2.1
      · exact c.W_foll rs w.2.2
end Sm
end

section
set_option linter.all false
set_option maxRecDepth 10000
/-! Oh: the fields that a path's tree asks. -/
namespace Sm
end Sm
end

section
set_option linter.all false
set_option maxRecDepth 10000
/-! Oi: Book(..) of the trees of a forest's words. -/
namespace Sm
def bkX (ps : Par) (ks : List Kd) : List D := (List.range ps.length).map (treeD ps ks)
def bk (ps : Par) (ks : List Kd) : D := .ins "Book" ["trees", "fields"] [.tup (bkX ps ks), .int ps.length]
theorem clo_treeD (n : Nat) (ps : Par) (ks : List Kd) (f : Nat) : clo n (treeD ps ks f) = true := clo_tree ks n _ (by unfold baseD; split <;> rfl) _
theorem clos_bkX (n : Nat) (ps : Par) (ks : List Kd) : clos n (bkX ps ks) = true := by
  rw [clos_all]
  simp [bkX, clo_treeD]
@[simp] theorem clo_bk (n : Nat) (ps : Par) (ks : List Kd) : clo n (bk ps ks) = true := by simp [bk, clos_bkX]
@[simp] theorem bk_fields (ps : Par) (ks : List Kd) (h : AH) : fldD ["Book"] "fields" (bk ps ks) h = .ok (.int ps.length) h := rfl
@[simp] theorem bk_trees (ps : Par) (ks : List Kd) (h : AH) : fldD ["Book"] "trees" (bk ps ks) h = .ok (.tup (bkX ps ks)) h := rfl
end Sm
end

section
set_option linter.all false
set_option maxRecDepth 10000
/-! Oj: book_of. -/
namespace Sm
end Sm
end

section
set_option linter.all false
set_option maxRecDepth 10000
/-! Ra: ways to the parents: which never end; what is wrong with parents and kinds. -/
namespace Sm
def itr (ps : Par) : Nat → Option Nat → Option Nat
  | 0, x => x
  | k + 1, x => (itr ps k x).bind (par ps)
def InR (ps : Par) : Prop := ∀ i p : Nat, ps[i]? = some (some p) → p < ps.length
theorem InR.par {ps : Par} (r : InR ps) {f p : Nat} (h : par ps f = some p) : p < ps.length := by
  unfold Sm.par at h
  cases e : ps[f]? with
  | none => rw [e] at h; cases h
  | some q => rw [e] at h; simp at h; subst h; exact r f p e
theorem InR.itr {ps : Par} (r : InR ps) {f : Nat} (hf : f < ps.length) : ∀ (k p : Nat), itr ps k (some f) = some p → p < ps.length
  | 0, p, h => by cases h; exact hf
  | k + 1, p, h => by
    have h : (Sm.itr ps k (some f)).bind (Sm.par ps) = some p := h
    cases e : Sm.itr ps k (some f) with
    | none => rw [e] at h; cases h
    | some q => rw [e] at h; exact r.par h
theorem pig : ∀ (n : Nat) (l : List Nat), l.Nodup → (∀ x ∈ l, x < n) → l.length ≤ n
  | 0, l, _, h => by
    cases l with
    | nil => simp
    | cons a l => exact absurd (h a (by simp)) (by omega)
  | n + 1, l, nd, h => by
    by_cases c : n ∈ l
    · have := pig n (l.erase n) (nd.erase n) fun x hx => by
        have h1 := h x (List.mem_of_mem_erase hx)
        have h2 : x ≠ n := fun e => by rw [e] at hx; exact (List.Nodup.not_mem_erase nd) hx
        omega
      rw [List.length_erase_of_mem c] at this
      omega
    · have := pig n l nd fun x hx => by
        have h1 := h x hx
        have h2 : x ≠ n := fun e => by rw [e] at hx; exact c hx
        omega
      omega
def dep (ps : Par) : Nat → Nat → Nat
  | 0, _ => 0
  | k + 1, f => match par ps f with
    | none => 0
    | some p => dep ps k p + 1
/-! ### what is wrong -/
def encOI : Option Int → D
  | none => .non
  | some i => .int i
@[simp] theorem clo_encOI (n : Nat) (o : Option Int) : clo n (encOI o) = true := by cases o <;> rfl
def okE (n : Nat) : Option Int → Bool
  | none => true
  | some i => decide (0 ≤ i) && decide (i < n)
def xat (X : List (Option Int)) (f : Nat) : Option Int := X.getD f none
def toP (X : List (Option Int)) : Par := X.map (Option.map Int.toNat)
def flt1 (X : List (Option Int)) : Option Nat := (List.range X.length).find? fun f => !okE X.length (xat X f)
def flt2 (ps : Par) : Option Nat := (List.range ps.length).find? fun f => (itr ps ps.length (some f)).isSome
def flt3 (ps : Par) (ks : List Kd) : Option Nat := (List.range ps.length).find? fun f => (kd ks f).end_ && decide (some f ∈ ps)
def flt (X : List (Option Int)) (ks : List Kd) : Option (Option Nat) :=
  if X.length ≠ ks.length ∨ X.length = 0 ∨ 16 < X.length then some none else
  match flt1 X with
  | some f => some (some f)
  | none => match flt2 (toP X) with
    | some f => some (some f)
    | none => match flt3 (toP X) ks with
      | some f => some (some f)
      | none => none
@[simp] theorem toP_len (X : List (Option Int)) : (toP X).length = X.length := by simp [toP]
def frP (ps : Par) : List (Option Int) := ps.map (Option.map Int.ofNat)
@[simp] theorem frP_len (ps : Par) : (frP ps).length = ps.length := by simp [frP]
end Sm
end

section
set_option linter.all false
set_option maxRecDepth 10000
/-! Rb: Forest(..) of any parents and kinds. -/
namespace Sm
def bfX (f : Option Nat) : Ex := ⟨"BadForest", ["field"], [eO f]⟩
@[simp] theorem clos_bfX (n : Nat) (f : Option Nat) : clos n (bfX f).ds = true := by simp [bfX]
@[simp] theorem notNon_encOI (p : Option Int) (h : AH) : notNonD (encOI p) h = .ok (.bl p.isSome) h := by cases p <;> rfl
@[simp] theorem isNon_encOI (p : Option Int) (h : AH) : isNonD (encOI p) h = .ok (.bl p.isNone) h := by cases p <;> rfl
section
variable {h : AH} {P Q : D} {ps : Par} {X : List (Option Int)} {ks : List Kd}
end
end Sm
end

section
set_option linter.all false
set_option maxRecDepth 10000
/-! Rf: which words a change of one field changes. -/
namespace Sm
theorem par_set {ps : Par} {f : Nat} (p : Option Nat) {x : Nat} (h : x ≠ f) : par (ps.set f p) x = par ps x := by
  unfold par
  rw [List.getElem?_set_ne (Ne.symm h)]
theorem par_set_self {ps : Par} {f : Nat} (p : Option Nat) (hf : f < ps.length) : par (ps.set f p) f = p := by
  unfold par
  rw [List.getElem?_set_self hf]; rfl
theorem kd_setN {ks : List Kd} {f : Nat} (k : Kd) {x : Nat} (h : x ≠ f) : kd (ks.set f k) x = kd ks x := by
  unfold kd
  rw [List.getD_eq_getElem?_getD, List.getD_eq_getElem?_getD, List.getElem?_set_ne (Ne.symm h)]
theorem kd_setS {ks : List Kd} {f : Nat} (k : Kd) (hf : f < ks.length) : kd (ks.set f k) f = k := by
  unfold kd
  rw [List.getD_eq_getElem?_getD, List.getElem?_set_self hf]; rfl
def unF : D → Nat
  | .tup [.int i, _] => i.toNat
  | _ => 0
end Sm
end

section
set_option linter.all false
set_option maxRecDepth 10000
/-! Rk: a plan of single changes: after each step there is a forest. -/
namespace Sm
def Ends (ps : Par) (x : Nat) : Prop := ∃ M, itr ps M (some x) = none
section
variable {ps qs cs : Par}
end
def diff (ps qs : Par) (ks js : List Kd) (f : Nat) : Prop := par ps f ≠ par qs f ∨ kd ks f ≠ kd js f
instance (ps qs : Par) (ks js : List Kd) (f : Nat) : Decidable (diff ps qs ks js f) := by unfold diff; infer_instance
/-- the order of a plan -/
structure Plan (ps qs : Par) (ks js : List Kd) (T : List Nat) : Prop where
  nd : T.Nodup
  mem : ∀ y, y ∈ T ↔ y < ps.length ∧ diff ps qs ks js y
  up : ∀ i f, T[i]? = some f → ∀ g ∈ path qs f, g ≠ f → diff ps qs ks js g → g ∈ T.take i
  lf : ∀ i f, T[i]? = some f → (kd js f).end_ = true → ∀ x < ps.length, par ps x = some f → diff ps qs ks js x → x ∈ T.take i
def stP (ps qs : Par) (T : List Nat) (k : Nat) : Par := (List.range ps.length).map fun y => if y ∈ T.take k then par qs y else par ps y
def stK (ps : Par) (ks js : List Kd) (T : List Nat) (k : Nat) : List Kd := (List.range ps.length).map fun y => if y ∈ T.take k then kd js y else kd ks y
section
variable {ps qs : Par} {ks js : List Kd} {T : List Nat}
@[simp] theorem stP_len (k : Nat) : (stP ps qs T k).length = ps.length := by simp [stP]
@[simp] theorem stK_len (k : Nat) : (stK ps ks js T k).length = ps.length := by simp [stK]
end
end Sm
end

section
set_option linter.all false
set_option maxRecDepth 10000
/-! Ok: signs, side. -/
namespace Sm
def sgR (a b : List Int) : List Int := (List.range a.length).map fun p => sgI (rv a p) (rv b p)
end Sm
end

section
set_option linter.all false
set_option maxRecDepth 10000
/-! Ol: a forest's call, kinds first and last too. -/
namespace Sm
section
variable {ps : Par} {ks : List Kd} (g : Good ps ks)
include g
end
end Sm
end

section
set_option linter.all false
/-! k20: plain computations (printed by gen2.py) -/
namespace Sm
/- change: forest, field, parent, kind, parents, kinds -/
def b_change : AS := sB [sE (eA (F_check_place) (eL [e1 (fldD ["Forest"] "fields") (eV 0), eV 1])),
  sSet 4 (eA (on1 (listD false)) (eL [e1 (fldD ["Forest"] "parents") (eV 0)])),
  sSet 5 (eA (on1 (listD false)) (eL [e1 (fldD ["Forest"] "kinds") (eV 0)])),
  sSub setIxD (eV 4) (eV 1) (eV 2),
  sSub setIxD (eV 5) (eV 1) (eV 3),
  sRet (eA (mkI "Forest" true (F_Forest_init)) (eL [eV 4, eV 5]))]
def F_change : AF := fnT 4 6 b_change
/- _law_change: _law_forest, _law_field, _law_parent, _law_kind, _law_actual, e, _law_alone -/
def b_q_change : AS := sB [sTryMs [([("BadRecord", false), ("BadTree", false), ("BadForest", false), ("NotFair", false), ("BadPlace", true), ("Marked", true)], 5, fun x => sB [sSet 6 (eAnd (eXis x [("BadPlace", true), ("Marked", true)]) (eXis x [("BadPlace", true), ("Marked", true)])),
    sRet (eLst true (eL [eC (.str [112, 108, 97, 99, 101]), eXf ["BadPlace", "Marked"] x "place", eAnd (eV 6) (e1 notD (eXis x [("BadPlace", false), ("Marked", true)]))]))]), ([("BadRecord", false), ("BadTree", false), ("BadForest", true), ("NotFair", false), ("BadPlace", false), ("Marked", false)], 5, fun x => sB [sSet 6 (eAnd (eXis x [("BadForest", true)]) (eXis x [("BadForest", true)])),
    sRet (eLst true (eL [eC (.str [102, 111, 114, 101, 115, 116]), eXf ["BadTree", "BadForest", "NotFair"] x "field", eAnd (eV 6) (e1 notD (eXis x [("BadForest", false)]))]))])] (sB [sSet 4 (eA (F_change) (eL [eV 0, eV 1, eV 2, eV 3]))]),
  sRet (eLst true (eL [eC (.str [108, 101, 116]), eV 4]))]
def F_q_change : AF := fnT 4 7 b_q_change
/- _law_fault: _law_parents_here, _law_kinds_here, _law_n, _law_field, _law_place, _law_k -/
def b_q_fault : AS := sB [sSet 2 (eA (on1 lenD) (eL [eV 0])),
  sIf (tOr (tB1 (e2 eqD (eV 2) (eC (.int 0)))) (tOr (tB1 (e2 gtD (eV 2) (eC (.int 16)))) (tB1 (e2 neD (eA (on1 lenD) (eL [eV 1])) (eV 2))))) (sB [sRet (eTup (eL [eC .non]))]) (sB []),
  sFor (iR1 (eV 2)) (gV 3) (sB [sIf (tAnd (tB1 (e1 notNonD (e2 ixD (eV 0) (eV 3)))) (tNot (tB1 (eChain leD ltD (eC (.int 0)) (e2 ixD (eV 0) (eV 3)) (eV 2))))) (sB [sRet (eTup (eL [eV 3]))]) (sB [])]),
  sFor (iR1 (eV 2)) (gV 3) (sB [sSet 4 (e2 ixD (eV 0) (eV 3)),
    sFor (iR1 (eV 2)) (gV 5) (sB [sIf (tB1 (e1 notNonD (eV 4))) (sB [sSet 4 (e2 ixD (eV 0) (eV 4))]) (sB [])]),
    sIf (tB1 (e1 notNonD (eV 4))) (sB [sRet (eTup (eL [eV 3]))]) (sB [])]),
  sFor (iR1 (eV 2)) (gV 3) (sB [sIf (tAnd (tB1 (e2 inD (e2 ixD (eV 1) (eV 3)) (eLst true (eL [eC (.str [102, 105, 114, 115, 116]), eC (.str [108, 97, 115, 116])])))) (tB1 (e2 inD (eV 3) (eV 0)))) (sB [sRet (eTup (eL [eV 3]))]) (sB [])]),
  sRet (eTup (eL []))]
def F_q_fault : AF := fnT 2 6 b_q_fault
/- _law_due: _law_parents_here, _law_kinds_here, _law_fault_here -/
def b_q_due_v5 : AS := sB [sSet 2 (eA (F_q_fault) (eL [eV 0, eV 1])),
  sIf (tB1 (e2 gtD (eA (on1 lenD) (eL [eV 2])) (eC (.int 0)))) (sB [sRet (eLst true (eL [eC (.str [102, 111, 114, 101, 115, 116]), e2 ixD (eV 2) (eC (.int 0))]))]) (sB []),
  sRet (eLst true (eL [eC (.str [108, 101, 116]), eV 0, eV 1]))]
def F_q_due_v5 : AF := fnT 2 3 b_q_due_v5
/- _law_due_change: _law_parents_here, _law_kinds_here, _law_field, _law_parent, _law_kind, _law_moved, _law_turned -/
def b_q_due_change : AS := sB [sIf (tNot (tB1 (eChain leD ltD (eC (.int 0)) (eV 2) (eA (on1 lenD) (eL [eV 0]))))) (sB [sRet (eLst true (eL [eC (.str [112, 108, 97, 99, 101]), eV 2]))]) (sB []),
  sSet 5 (eA (on1 (listD false)) (eL [eV 0])),
  sSub setIxD (eV 5) (eV 2) (eV 3),
  sSet 6 (eA (on1 (listD false)) (eL [eV 1])),
  sSub setIxD (eV 6) (eV 2) (eV 4),
  sRet (eA (F_q_due_v5) (eL [eV 5, eV 6]))]
def F_q_due_change : AF := fnT 5 7 b_q_due_change
/- graft: forest, parent, kind -/
def b_graft : AS := sB [sRet (eA (mkI "Forest" true (F_Forest_init)) (eL [e2 (addD true) (eA (on1 (listD true)) (eL [e1 (fldD ["Forest"] "parents") (eV 0)])) (eLst true (eL [eV 1])), e2 (addD true) (eA (on1 (listD true)) (eL [e1 (fldD ["Forest"] "kinds") (eV 0)])) (eLst true (eL [eV 2]))]))]
def F_graft : AF := fnT 3 3 b_graft
/- _law_graft: _law_forest, _law_parent, _law_kind, _law_actual, e, _law_alone -/
def b_q_graft : AS := sB [sTryAs [("BadRecord", false), ("BadTree", false), ("BadForest", true), ("NotFair", false), ("BadPlace", false), ("Marked", false)] 4 (sB [sSet 3 (eA (F_graft) (eL [eV 0, eV 1, eV 2]))]) (fun x => sB [sSet 5 (eAnd (eXis x [("BadForest", true)]) (eXis x [("BadForest", true)])),
    sRet (eLst true (eL [eC (.str [102, 111, 114, 101, 115, 116]), eXf ["BadTree", "BadForest", "NotFair"] x "field", eAnd (eV 5) (e1 notD (eXis x [("BadForest", false)]))]))]),
  sRet (eLst true (eL [eC (.str [108, 101, 116]), eV 3]))]
def F_q_graft : AF := fnT 3 6 b_q_graft
/- _law_same_forest: _law_actual, _law_parents_here, _law_kinds_here -/
def b_q_same_forest : AS := sB [sIf (tNot (tV (e1 (isClsD "Forest") (eV 0)))) (sB [sRet (eC (.bl false))]) (sB []),
  sIf (tOr (tNot (tV (eA (F_q_same_v4 12) (eL [e1 (fldD ["Forest"] "fields") (eV 0), eA (on1 lenD) (eL [eV 1])])))) (tNot (tV (eA (F_q_same_v4 12) (eL [e1 (fldD ["Forest"] "parents") (eV 0), eA (on1 tupD) (eL [eV 1])]))))) (sB [sRet (eC (.bl false))]) (sB []),
  sRet (eA (F_q_same_v4 12) (eL [e1 (fldD ["Forest"] "kinds") (eV 0), eA (on1 tupD) (eL [eV 2])]))]
def F_q_same_forest : AF := fnT 3 3 b_q_same_forest
/- _law_is_due: _law_actual, _law_due_here -/
def b_q_is_due : AS := sB [sIf (tB1 (e2 neD (e2 ixD (eV 0) (eC (.int 0))) (e2 ixD (eV 1) (eC (.int 0))))) (sB [sRet (eC (.bl false))]) (sB []),
  sIf (tB1 (e2 eqD (e2 ixD (eV 1) (eC (.int 0))) (eC (.str [108, 101, 116])))) (sB [sRet (eA (F_q_same_forest) (eL [e2 ixD (eV 0) (eC (.int 1)), e2 ixD (eV 1) (eC (.int 1)), e2 ixD (eV 1) (eC (.int 2))]))]) (sB []),
  sRet (eAnd (e2 ixD (eV 0) (eC (.int 2))) (eA (F_q_same_v4 12) (eL [e2 ixD (eV 0) (eC (.int 1)), e2 ixD (eV 1) (eC (.int 1))])))]
def F_q_is_due : AF := fnT 2 2 b_q_is_due
/- _law_new_parent: _law_tape_here, _law_parents_here, _law_field, _law_size_here, _law_n, _law_under, _law_place, _law_pick -/
def b_q_new_parent : AS := sB [sSet 4 (eA (on1 lenD) (eL [eV 1])),
  sSet 5 (eLC true [6] (iR1 (eV 4)) (gV 6) (tAnd (tB1 (e2 neD (eV 6) (eV 2))) (tB1 (e2 inD (eV 2) (eA (F_q_path) (eL [eV 1, eV 6]))))) (eV 6)),
  sSet 7 (eA (F_q_take) (eL [eV 0, eC (.int 8)])),
  sSet 6 (eA (F_q_take) (eL [eV 0, eV 4])),
  sIf (tB1 (e2 eqD (eV 7) (eC (.int 0)))) (sB [sRet (eC .non)]) (sB []),
  sIf (tB1 (e2 eqD (eV 7) (eC (.int 1)))) (sB [sRet (eV 2)]) (sB []),
  sIf (tB1 (e2 eqD (eV 7) (eC (.int 2)))) (sB [sRet (e2 ixD (eLst true (eL [e2 subD (eC (.int 0)) (eC (.int 1)), eV 3])) (eA (F_q_take) (eL [eV 0, eC (.int 2)])))]) (sB []),
  sIf (tAnd (tB1 (e2 eqD (eV 7) (eC (.int 3)))) (tB1 (e2 gtD (eA (on1 lenD) (eL [eV 5])) (eC (.int 0))))) (sB [sRet (e2 ixD (eV 5) (e2 modD (eA (on1 intD) (eL [eV 6])) (eA (on1 lenD) (eL [eV 5]))))]) (sB []),
  sRet (eV 6)]
def F_q_new_parent : AF := fnT 4 8 b_q_new_parent
/- _law_size: _law_tape_here -/
def b_q_size_v3 : AS := sB [sIf (tB1 (e2 eqD (eA (F_q_take) (eL [eV 0, eC (.int 9)])) (eC (.int 0)))) (sB [sRet (e2 (addD true) (eC (.int 15)) (eA (F_q_take) (eL [eV 0, eC (.int 2)])))]) (sB []),
  sIf (tB1 (e2 eqD (eA (F_q_take) (eL [eV 0, eC (.int 8)])) (eC (.int 0)))) (sB [sRet (e2 (addD true) (eC (.int 7)) (eA (F_q_take) (eL [eV 0, eC (.int 2)])))]) (sB []),
  sRet (e2 (addD true) (eC (.int 1)) (eA (F_q_take) (eL [eV 0, eC (.int 6)])))]
def F_q_size_v3 : AF := fnT 1 1 b_q_size_v3
/- _law_words_stay: _law_forest, _law_actual, _law_parents_here, _law_kinds_here, _law_due_here, _law_changed, _law_place, _law_before, _law_after -/
def b_q_words_stay : AS := sB [sFor (iR1 (eA (on1 lenD) (eL [eV 2]))) (gV 6) (sB [sSet 7 (eMth [("Forest", F_Forest_word)] "word" (eV 0) (eL [eV 6])),
    sSet 8 (eMth [("Forest", F_Forest_word)] "word" (eV 1) (eL [eV 6])),
    sIf (tNot (tV (eA (F_q_same_v4 12) (eL [eV 7, eA (F_q_word) (eL [eV 2, eV 3, eV 6])])))) (sB [sRet (eC (.bl false))]) (sB []),
    sIf (tNot (tV (eA (F_q_same_v4 12) (eL [eV 8, eA (F_q_word) (eL [e2 ixD (eV 4) (eC (.int 1)), e2 ixD (eV 4) (eC (.int 2)), eV 6])])))) (sB [sRet (eC (.bl false))]) (sB []),
    sIf (tB1 (e2 neD (e2 neD (eV 7) (eV 8)) (e2 inD (eV 5) (eA (F_q_path) (eL [eV 2, eV 6]))))) (sB [sRet (eC (.bl false))]) (sB [])]),
  sRet (eC (.bl true))]
def F_q_words_stay : AF := fnT 6 9 b_q_words_stay
/- _law_words_right: _law_forest, _law_actual, _law_parents_here, _law_kinds_here, _law_due_here, _law_field, _law_place -/
def b_q_words_right : AS := sB [sIf (tB1 (e2 neD (e2 ixD (eV 4) (eC (.int 0))) (eC (.str [108, 101, 116])))) (sB [sRet (eC (.bl true))]) (sB []),
  sIf (tB1 (e2 gtD (eA (on1 lenD) (eL [e2 ixD (eV 4) (eC (.int 1))])) (eA (on1 lenD) (eL [eV 2])))) (sB [sSet 6 (eA (on1 lenD) (eL [eV 2])),
    sIf (tNot (tV (eA (F_q_same_v4 12) (eL [eMth [("Forest", F_Forest_word)] "word" (e2 ixD (eV 1) (eC (.int 1))) (eL [eV 6]), eA (F_q_word) (eL [e2 ixD (eV 4) (eC (.int 1)), e2 ixD (eV 4) (eC (.int 2)), eV 6])])))) (sB [sRet (eC (.bl false))]) (sB []),
    sRet (eA (F_q_words_stay) (eL [eV 0, e2 ixD (eV 1) (eC (.int 1)), eV 2, eV 3, eV 4, eC .non]))]) (sB []),
  sIf (tAnd (tB1 (e2 eqD (e2 ixD (eV 4) (eC (.int 1))) (eV 2))) (tB1 (e2 eqD (e2 ixD (eV 4) (eC (.int 2))) (eV 3)))) (sB [sRet (eA (F_q_words_stay) (eL [eV 0, e2 ixD (eV 1) (eC (.int 1)), eV 2, eV 3, eV 4, eC .non]))]) (sB []),
  sRet (eA (F_q_words_stay) (eL [eV 0, e2 ixD (eV 1) (eC (.int 1)), eV 2, eV 3, eV 4, eV 5]))]
def F_q_words_right : AF := fnT 6 7 b_q_words_right
/- law: _law_script, _law_tape_here, _law_n, _law_many, _law_parents_here, _law_kinds_here, _law_forest, _law_words, _law_k, _law_field, _law_parent, _law_kind, _law_above, _law_other, _law_due_here, _law_changed, _law_grafted, _law_pick -/
def b_law_k20 : AS := sB [sSet 1 (eA (F_q_tape) (eL [eV 0, eC (.int 0)])),
  sSet 2 (eA (F_q_size_v3) (eL [eV 1])),
  sSet 3 (e2 (addD true) (eC (.int 1)) (eA (F_q_take) (eL [eV 1, eC (.int 4)]))),
  sSet 4 (eA (F_q_parents) (eL [eV 1, eV 2])),
  sSet 5 (eA (F_q_kinds) (eL [eA (F_q_tape) (eL [eV 0, eC (.int 1)]), eV 4, eC (.bl false)])),
  sSet 6 (eA (mkI "Forest" true (F_Forest_init)) (eL [eA (on1 (listD true)) (eL [eV 4]), eA (on1 (listD true)) (eL [eV 5])])),
  sSet 7 (eLst true (eL [eC (.str [117, 112]), eC (.str [100, 111, 119, 110]), eC (.str [102, 105, 114, 115, 116]), eC (.str [108, 97, 115, 116])])),
  sFor (iR1 (eV 3)) (gV 8) (sB [sSet 2 (eA (on1 lenD) (eL [eV 4])),
    sSet 1 (eA (F_q_tape) (eL [eV 0, e2 (addD true) (eC (.int 2)) (eV 8)])),
    sSet 9 (e2 subD (eA (F_q_take) (eL [eV 1, e2 (addD true) (eV 2) (eC (.int 2))])) (eC (.int 1))),
    sSet 10 (eA (F_q_new_parent) (eL [eV 1, eV 4, eV 9, eV 2])),
    sSet 11 (e2 ixD (eV 7) (eA (F_q_take) (eL [eV 1, eC (.int 4)]))),
    sSet 12 (eA (F_q_new_parent) (eL [eV 1, eV 4, eV 2, e2 (addD true) (eV 2) (eC (.int 1))])),
    sSet 13 (e2 ixD (eV 7) (eA (F_q_take) (eL [eV 1, eC (.int 4)]))),
    sSet 14 (eLst true (eL [eA (F_q_due_change) (eL [eV 4, eV 5, eV 9, eV 10, eV 11]), eA (F_q_due_v5) (eL [e2 (addD true) (eV 4) (eLst true (eL [eV 12])), e2 (addD true) (eV 5) (eLst true (eL [eV 13]))])])),
    sSet 15 (eA (F_q_change) (eL [eV 6, eV 9, eV 10, eV 11])),
    sSet 16 (eA (F_q_graft) (eL [eV 6, eV 12, eV 13])),
    sIf (tOr (tNot (tV (eA (F_q_is_due) (eL [eV 15, e2 ixD (eV 14) (eC (.int 0))])))) (tNot (tV (eA (F_q_is_due) (eL [eV 16, e2 ixD (eV 14) (eC (.int 1))]))))) (sB [sRet (eC (.bl false))]) (sB []),
    sIf (tNot (tV (eA (F_q_words_right) (eL [eV 6, eV 15, eV 4, eV 5, e2 ixD (eV 14) (eC (.int 0)), eV 9])))) (sB [sRet (eC (.bl false))]) (sB []),
    sIf (tNot (tV (eA (F_q_words_right) (eL [eV 6, eV 16, eV 4, eV 5, e2 ixD (eV 14) (eC (.int 1)), eV 2])))) (sB [sRet (eC (.bl false))]) (sB []),
    sIf (tNot (tV (eA (F_q_is_due) (eL [eA (F_q_change) (eL [eV 6, eV 9, eV 10, eV 11]), e2 ixD (eV 14) (eC (.int 0))])))) (sB [sRet (eC (.bl false))]) (sB []),
    sIf (tNot (tV (eA (F_q_is_due) (eL [eA (F_q_graft) (eL [eV 6, eV 12, eV 13]), e2 ixD (eV 14) (eC (.int 1))])))) (sB [sRet (eC (.bl false))]) (sB []),
    sIf (tNot (tV (eA (F_q_same_forest) (eL [eV 6, eV 4, eV 5])))) (sB [sRet (eC (.bl false))]) (sB []),
    sSet 17 (eA (F_q_take) (eL [eV 1, eC (.int 3)])),
    sIf (tAnd (tB1 (e2 gtD (eV 17) (eC (.int 0)))) (tB1 (e2 eqD (e2 ixD (e2 ixD (eV 14) (e2 subD (eV 17) (eC (.int 1)))) (eC (.int 0))) (eC (.str [108, 101, 116]))))) (sB [sSet 6 (e2 ixD (e2 ixD (eLst true (eL [eV 15, eV 16])) (e2 subD (eV 17) (eC (.int 1)))) (eC (.int 1))),
      sSet 4 (eA (on1 (listD true)) (eL [e2 ixD (e2 ixD (eV 14) (e2 subD (eV 17) (eC (.int 1)))) (eC (.int 1))])),
      sSet 5 (eA (on1 (listD true)) (eL [e2 ixD (e2 ixD (eV 14) (e2 subD (eV 17) (eC (.int 1)))) (eC (.int 2))]))]) (sB [])]),
  sRet (eC (.bl true))]
def F_law_k20 : AF := fnT 1 18 b_law_k20
end Sm
end

section
set_option linter.all false
/-! k62: plain computations (printed by gen2.py) -/
namespace Sm
/- _law_is_differ: _law_actual, _law_first, _law_second_here -/
def b_q_is_differ : AS := sB [sRet (eAnd (e2 eqD (e2 ixD (eV 0) (eC (.int 0))) (eC (.str [100, 105, 102, 102, 101, 114]))) (eAnd (eA (F_q_same_v4 12) (eL [e2 ixD (eV 0) (eC (.int 1)), eTup (eL [eV 1, eV 2])])) (e2 ixD (eV 0) (eC (.int 2)))))]
def F_q_is_differ : AF := fnT 3 3 b_q_is_differ
/- check_same_fields: first, second -/
def b_check_same_fields : AS := sB [sIf (tB1 (e2 neD (e1 (fldD ["Forest"] "fields") (eV 0)) (e1 (fldD ["Forest"] "fields") (eV 1)))) (sB [sRaise "FieldsDiffer" ["first", "second"] (eL [e1 (fldD ["Forest"] "fields") (eV 0), e1 (fldD ["Forest"] "fields") (eV 1)])]) (sB [])]
def F_check_same_fields : AF := fnT 2 2 b_check_same_fields
/- change_plan: first, second, early, late, field, turns, place -/
def b_change_plan : AS := sB [sE (eA (F_check_same_fields) (eL [eV 0, eV 1])),
  sSet 2 (eLst false (eL [])),
  sSet 3 (eLst false (eL [])),
  sFor (iR1 (e1 (fldD ["Forest"] "fields") (eV 0))) (gV 4) (sB [sIf (tAnd (tB1 (e2 eqD (e2 ixD (e1 (fldD ["Forest"] "parents") (eV 0)) (eV 4)) (e2 ixD (e1 (fldD ["Forest"] "parents") (eV 1)) (eV 4)))) (tB1 (e2 eqD (e2 ixD (e1 (fldD ["Forest"] "kinds") (eV 0)) (eV 4)) (e2 ixD (e1 (fldD ["Forest"] "kinds") (eV 1)) (eV 4))))) (sB [sCt]) (sB []),
    sIf (tB1 (e2 inD (e2 ixD (e1 (fldD ["Forest"] "kinds") (eV 1)) (eV 4)) (eTup (eL [eC (.str [117, 112]), eC (.str [100, 111, 119, 110])])))) (sB [sE (eM isLst (mt1 appendD) (eV 2) (eL [eTup (eL [eA (on1 lenD) (eL [eMth [("Forest", F_Forest_path)] "path" (eV 1) (eL [eV 4])]), eV 4])]))]) (sB [sE (eM isLst (mt1 appendD) (eV 3) (eL [eTup (eL [e1 negD (eA (on1 lenD) (eL [eMth [("Forest", F_Forest_path)] "path" (eV 0) (eL [eV 4])])), eV 4])]))])]),
  sSet 5 (eLC true [6] (iS (e2 (addD true) (eA (on1 (sortedPD true)) (eL [eV 2])) (eA (on1 (sortedPD true)) (eL [eV 3])))) (gV 6) (tYes) (e2 ixD (eV 6) (eC (.int 1)))),
  sRet (eLC false [4] (iS (eV 5)) (gV 4) (tYes) (eTup (eL [eV 4, e2 ixD (e1 (fldD ["Forest"] "parents") (eV 1)) (eV 4), e2 ixD (e1 (fldD ["Forest"] "kinds") (eV 1)) (eV 4)])))]
def F_change_plan : AF := fnK 2 7 b_change_plan
/- _law_plan: _law_first, _law_second_here, _law_actual, e, _law_alone -/
def b_q_plan : AS := sB [sTryAs [("BadRecord", false), ("BadForest", false), ("FieldsDiffer", true), ("WordsClash", false), ("BadPlace", false)] 3 (sB [sSet 2 (eA (F_change_plan) (eL [eV 0, eV 1]))]) (fun x => sB [sSet 4 (eAnd (eXis x [("FieldsDiffer", true)]) (eXis x [("FieldsDiffer", true)])),
    sRet (eLst false (eL [eC (.str [100, 105, 102, 102, 101, 114]), eTup (eL [eXf ["FieldsDiffer", "WordsClash"] x "first", eXf ["FieldsDiffer", "WordsClash"] x "second"]), eAnd (eV 4) (e1 notD (eXis x [("FieldsDiffer", false)]))]))]),
  sRet (eLst false (eL [eC (.str [108, 101, 116]), eV 2]))]
def F_q_plan : AF := fnK 2 5 b_q_plan
/- _law_due_plan: _law_one, _law_two, _law_early, _law_late, _law_field, _law_turns_here, _law_place -/
def b_q_due_plan : AS := sB [sSet 2 (eLst false (eL [])),
  sSet 3 (eLst false (eL [])),
  sFor (iR1 (eA (on1 lenD) (eL [e2 ixD (eV 0) (eC (.int 0))]))) (gV 4) (sB [sIf (tOr (tB1 (e2 neD (e2 ixD (e2 ixD (eV 0) (eC (.int 0))) (eV 4)) (e2 ixD (e2 ixD (eV 1) (eC (.int 0))) (eV 4)))) (tB1 (e2 neD (e2 ixD (e2 ixD (eV 0) (eC (.int 1))) (eV 4)) (e2 ixD (e2 ixD (eV 1) (eC (.int 1))) (eV 4))))) (sB [sIf (tB1 (e2 inD (e2 ixD (e2 ixD (eV 1) (eC (.int 1))) (eV 4)) (eLst true (eL [eC (.str [117, 112]), eC (.str [100, 111, 119, 110])])))) (sB [sE (eM isLst (mt1 appendD) (eV 2) (eL [eTup (eL [eA (on1 lenD) (eL [eA (F_q_path) (eL [e2 ixD (eV 1) (eC (.int 0)), eV 4])]), eV 4])]))]) (sB [sE (eM isLst (mt1 appendD) (eV 3) (eL [eTup (eL [e2 subD (eC (.int 0)) (eA (on1 lenD) (eL [eA (F_q_path) (eL [e2 ixD (eV 0) (eC (.int 0)), eV 4])])), eV 4])]))])]) (sB [])]),
  sSet 5 (eLC true [6] (iS (e2 (addD true) (eA (on1 (sortedPD true)) (eL [eV 2])) (eA (on1 (sortedPD true)) (eL [eV 3])))) (gV 6) (tYes) (e2 ixD (eV 6) (eC (.int 1)))),
  sRet (eLC true [4] (iS (eV 5)) (gV 4) (tYes) (eTup (eL [eV 4, e2 ixD (e2 ixD (eV 1) (eC (.int 0))) (eV 4), e2 ixD (e2 ixD (eV 1) (eC (.int 1))) (eV 4)])))]
def F_q_due_plan : AF := fnT 2 7 b_q_due_plan
/- _law_steps_right: _law_first, _law_one, _law_two, _law_plan_here, _law_n, _law_words, _law_field, _law_alike, _law_forest, _law_parents_here, _law_kinds_here, _law_step -/
def b_q_steps_right : AS := sB [sSet 4 (eA (on1 lenD) (eL [e2 ixD (eV 1) (eC (.int 0))])),
  sSet 5 (eLC true [6] (iR1 (eV 4)) (gV 6) (tYes) (eA (F_q_word) (eL [e2 ixD (eV 1) (eC (.int 0)), e2 ixD (eV 1) (eC (.int 1)), eV 6]))),
  sSet 7 (eLC true [6] (iR1 (eV 4)) (gV 6) (tB1 (e2 eqD (e2 ixD (eV 5) (eV 6)) (eA (F_q_word) (eL [e2 ixD (eV 2) (eC (.int 0)), e2 ixD (eV 2) (eC (.int 1)), eV 6])))) (eV 6)),
  sSet 8 (eV 0),
  sSet 9 (eA (on1 (listD false)) (eL [e2 ixD (eV 1) (eC (.int 0))])),
  sSet 10 (eA (on1 (listD false)) (eL [e2 ixD (eV 1) (eC (.int 1))])),
  sFor (iS (eV 3)) (gV 11) (sB [sSet 8 (eA (F_change) (eL [eV 8, e2 ixD (eV 11) (eC (.int 0)), e2 ixD (eV 11) (eC (.int 1)), e2 ixD (eV 11) (eC (.int 2))])),
    sSub setIxD (eV 9) (e2 ixD (eV 11) (eC (.int 0))) (e2 ixD (eV 11) (eC (.int 1))),
    sSub setIxD (eV 10) (e2 ixD (eV 11) (eC (.int 0))) (e2 ixD (eV 11) (eC (.int 2))),
    sIf (tOr (tB1 (e2 gtD (eA (on1 lenD) (eL [eA (F_q_fault) (eL [eV 9, eV 10])])) (eC (.int 0)))) (tNot (tV (eA (F_q_same_forest) (eL [eV 8, eV 9, eV 10]))))) (sB [sRet (eC (.bl false))]) (sB []),
    sFor (iS (eV 7)) (gV 6) (sB [sIf (tNot (tV (eA (F_q_same_v4 12) (eL [eMth [("Forest", F_Forest_word)] "word" (eV 8) (eL [eV 6]), e2 ixD (eV 5) (eV 6)])))) (sB [sRet (eC (.bl false))]) (sB [])])]),
  sRet (eA (F_q_same_forest) (eL [eV 8, e2 ixD (eV 2) (eC (.int 0)), e2 ixD (eV 2) (eC (.int 1))]))]
def F_q_steps_right : AF := fnT 4 12 b_q_steps_right
/- _law_plan_right: _law_first, _law_second_here, _law_one, _law_two, _law_due, _law_actual, _law_again -/
def b_q_plan_right : AS := sB [sSet 4 (eA (F_q_due_plan) (eL [eV 2, eV 3])),
  sSet 5 (eA (F_q_plan) (eL [eV 0, eV 1])),
  sIf (tOr (tB1 (e2 neD (e2 ixD (eV 5) (eC (.int 0))) (eC (.str [108, 101, 116])))) (tNot (tV (eA (F_q_same_v4 12) (eL [e2 ixD (eV 5) (eC (.int 1)), eV 4]))))) (sB [sRet (eC (.bl false))]) (sB []),
  sE (eM isLst (mt1 appendD) (e2 ixD (eV 5) (eC (.int 1))) (eL [eTup (eL [eC (.int 0), eC .non, eC (.str [117, 112])])])),
  sSet 6 (eA (F_q_plan) (eL [eV 0, eV 1])),
  sIf (tOr (tB1 (e2 neD (e2 ixD (eV 6) (eC (.int 0))) (eC (.str [108, 101, 116])))) (tNot (tV (eA (F_q_same_v4 12) (eL [e2 ixD (eV 6) (eC (.int 1)), eV 4]))))) (sB [sRet (eC (.bl false))]) (sB []),
  sIf (tNot (tV (eA (F_q_steps_right) (eL [eV 0, eV 2, eV 3, e2 ixD (eV 6) (eC (.int 1))])))) (sB [sRet (eC (.bl false))]) (sB []),
  sRet (eAnd (eA (F_q_same_forest) (eL [eV 0, e2 ixD (eV 2) (eC (.int 0)), e2 ixD (eV 2) (eC (.int 1))])) (eA (F_q_same_forest) (eL [eV 1, e2 ixD (eV 3) (eC (.int 0)), e2 ixD (eV 3) (eC (.int 1))])))]
def F_q_plan_right : AF := fnT 4 7 b_q_plan_right
/- _law_near: _law_tape_here, _law_parents_here, _law_kinds_here, _law_n, _law_near_here, _law_k, _law_field, _law_pick, _law_moved, _law_turned -/
def b_q_near_v2 : AS := sB [sSet 3 (eA (on1 lenD) (eL [eV 1])),
  sSet 4 (eLst true (eL [eA (on1 (listD true)) (eL [eV 1]), eA (on1 (listD true)) (eL [eV 2])])),
  sFor (iR1 (e2 (addD true) (eC (.int 1)) (eA (F_q_take) (eL [eV 0, eC (.int 6)])))) (gV 5) (sB [sSet 6 (eA (F_q_take) (eL [eV 0, eV 3])),
    sSet 7 (eA (F_q_take) (eL [eV 0, e2 (addD true) (e2 (mulD true) (eC (.int 2)) (eV 3)) (eC (.int 2))])),
    sSet 8 (eA (on1 (listD false)) (eL [e2 ixD (eV 4) (eC (.int 0))])),
    sIf (tB1 (e2 ltD (eV 7) (eV 3))) (sB [sSub setIxD (eV 8) (eV 6) (eV 7)]) (sB []),
    sIf (tB1 (e2 eqD (eV 7) (eV 3))) (sB [sSub setIxD (eV 8) (eV 6) (eC .non)]) (sB []),
    sSet 9 (eA (on1 (listD false)) (eL [e2 ixD (eV 4) (eC (.int 1))])),
    sSub setIxD (eV 9) (eV 6) (e2 ixD (eLst true (eL [eC (.str [117, 112]), eC (.str [100, 111, 119, 110]), eC (.str [102, 105, 114, 115, 116]), eC (.str [108, 97, 115, 116])])) (eA (F_q_take) (eL [eV 0, eC (.int 4)]))),
    sIf (tB1 (e2 eqD (eA (on1 lenD) (eL [eA (F_q_fault) (eL [eV 8, eV 9])])) (eC (.int 0)))) (sB [sSet 4 (eLst true (eL [eV 8, eV 9]))]) (sB [])]),
  sRet (eV 4)]
def F_q_near_v2 : AF := fnT 3 10 b_q_near_v2
/- _law_second: _law_script, _law_parents_here, _law_kinds_here, _law_tape_here, _law_pick, _law_free -/
def b_q_second : AS := sB [sSet 3 (eA (F_q_tape) (eL [eV 0, eC (.int 2)])),
  sSet 4 (eA (F_q_take) (eL [eV 3, eC (.int 8)])),
  sIf (tB1 (e2 ltD (eV 4) (eC (.int 4)))) (sB [sSet 5 (eA (F_q_parents) (eL [eV 3, eA (on1 lenD) (eL [eV 1])])),
    sRet (eLst true (eL [eV 5, eA (F_q_kinds) (eL [eA (F_q_tape) (eL [eV 0, eC (.int 3)]), eV 5, eC (.bl false)])]))]) (sB []),
  sIf (tB1 (e2 eqD (eV 4) (eC (.int 4)))) (sB [sRet (eLst true (eL [eA (on1 (listD true)) (eL [eV 1]), eA (on1 (listD true)) (eL [eV 2])]))]) (sB []),
  sRet (eA (F_q_near_v2) (eL [eV 3, eV 1, eV 2]))]
def F_q_second : AF := fnT 3 6 b_q_second
/- _law_size: _law_tape_here -/
def b_q_size_v4 : AS := sB [sIf (tB1 (e2 eqD (eA (F_q_take) (eL [eV 0, eC (.int 8)])) (eC (.int 0)))) (sB [sRet (e2 (addD true) (eC (.int 7)) (eA (F_q_take) (eL [eV 0, eC (.int 2)])))]) (sB []),
  sRet (e2 (addD true) (eC (.int 1)) (eA (F_q_take) (eL [eV 0, eC (.int 6)])))]
def F_q_size_v4 : AF := fnT 1 1 b_q_size_v4
/- law: _law_script, _law_tape_here, _law_n, _law_other, _law_parents_here, _law_one, _law_two, _law_first, _law_second_here, _law_third, _law_k, _law_same_here -/
def b_law_k62 : AS := sB [sSet 1 (eA (F_q_tape) (eL [eV 0, eC (.int 0)])),
  sSet 2 (eA (F_q_size_v4) (eL [eV 1])),
  sSet 3 (e2 (addD true) (eC (.int 1)) (eA (F_q_take) (eL [eV 1, eC (.int 7)]))),
  sIf (tB1 (e2 geD (eV 3) (eV 2))) (sB [sSet 3 (e2 (addD true) (eV 3) (eC (.int 1)))]) (sB []),
  sSet 4 (eA (F_q_parents) (eL [eV 1, eV 2])),
  sSet 5 (eLst true (eL [eV 4, eA (F_q_kinds) (eL [eA (F_q_tape) (eL [eV 0, eC (.int 1)]), eV 4, eC (.bl false)])])),
  sSet 6 (eA (F_q_second) (eL [eV 0, e2 ixD (eV 5) (eC (.int 0)), e2 ixD (eV 5) (eC (.int 1))])),
  sSet 7 (eA (mkI "Forest" true (F_Forest_init)) (eL [eA (on1 (listD true)) (eL [e2 ixD (eV 5) (eC (.int 0))]), eA (on1 (listD true)) (eL [e2 ixD (eV 5) (eC (.int 1))])])),
  sSet 8 (eA (mkI "Forest" true (F_Forest_init)) (eL [eA (on1 (listD true)) (eL [e2 ixD (eV 6) (eC (.int 0))]), eA (on1 (listD true)) (eL [e2 ixD (eV 6) (eC (.int 1))])])),
  sSet 9 (eA (mkI "Forest" true (F_Forest_init)) (eL [eLC true [10] (iR1 (eV 3)) (gV 10) (tYes) (eC .non), eLC true [10] (iR1 (eV 3)) (gV 10) (tYes) (eC (.str [117, 112]))])),
  sIf (tOr (tNot (tV (eA (F_q_is_differ) (eL [eA (F_q_plan) (eL [eV 7, eV 9]), eV 2, eV 3])))) (tNot (tV (eA (F_q_is_differ) (eL [eA (F_q_plan) (eL [eV 9, eV 8]), eV 3, eV 2]))))) (sB [sRet (eC (.bl false))]) (sB []),
  sIf (tOr (tNot (tV (eA (F_q_plan_right) (eL [eV 7, eV 8, eV 5, eV 6])))) (tNot (tV (eA (F_q_plan_right) (eL [eV 8, eV 7, eV 6, eV 5]))))) (sB [sRet (eC (.bl false))]) (sB []),
  sSet 11 (eA (F_q_plan) (eL [eV 7, eV 7])),
  sRet (eAnd (e2 eqD (e2 ixD (eV 11) (eC (.int 0))) (eC (.str [108, 101, 116]))) (eA (F_q_same_v4 12) (eL [e2 ixD (eV 11) (eC (.int 1)), eLst true (eL [])])))]
def F_law_k62 : AF := fnT 1 12 b_law_k62
end Sm
end

section
set_option linter.all false
/-! k58: plain computations (printed by gen2.py) -/
namespace Sm
/- _law_healed: _law_question_here, _law_n, _law_receivers -/
def b_q_healed_v2 : AS := sB [sSet 2 (e2 ixD (eV 0) (eC (.int 2))),
  sRet (eLst true (eL [e2 ixD (eV 2) (eC (.int 0)), eSl true (e2 (addD true) (e2 ixD (eV 0) (eC (.int 1))) (eTup (eL [eC (.int 0)]))) (oN) (oS (eV 1)), eV 2, e2 ixD (eV 0) (eC (.int 3))]))]
def F_q_healed_v2 : AF := fnT 2 3 b_q_healed_v2
/- winning_fields: forest, known, copy, field -/
def b_winning_fields : AS := sB [sE (eA (F_check_two) (eL [eV 0, eV 1, eV 2])),
  sRet (eA (on1 tupD) (eL [eLC true [3] (iR1 (e1 (fldD ["Forest"] "fields") (eV 0))) (gV 3) (tV (eA (F_wins) (eL [eV 0, eV 3, eV 2, eV 1]))) (eV 3)]))]
def F_winning_fields : AF := fnT 3 4 b_winning_fields
/- least_letter: forest, known, copy, needed, field, place -/
def b_least_letter : AS := sB [sSet 3 (eNewS),
  sFor (iS (eA (F_winning_fields) (eL [eV 0, eV 1, eV 2]))) (gV 4) (sB [sFor (iS (eA (F_path_of) (eL [e1 (fldD ["Forest"] "parents") (eV 0), eV 4]))) (gV 5) (sB [sE (eM isSetB (mt1 sAddD) (eV 3) (eL [eV 5]))])]),
  sRet (eA (on1 tupD) (eL [eLC true [4] (iR1 (e1 (fldD ["Forest"] "fields") (eV 0))) (gV 4) (tYes) (eIf (tB1 (e2 inSD (eV 4) (eV 3))) (e2 ixD (eV 2) (eV 4)) (eC .non))]))]
def F_least_letter : AF := fnT 3 6 b_least_letter
/- left_out_shows: forest, known, copy, field, result -/
def b_left_out_shows : AS := sB [sE (eA (F_check_two) (eL [eV 0, eV 1, eV 2])),
  sE (eA (F_check_place) (eL [e1 (fldD ["Forest"] "fields") (eV 0), eV 3])),
  sIf (tNot (tV (eA (F_wins) (eL [eV 0, eV 3, eV 2, eV 1])))) (sB [sRet (eC .non)]) (sB []),
  sSet 4 (eA (on1 (listD false)) (eL [eV 1])),
  sIf (tB1 (e2 eqD (e2 ixD (eV 1) (eV 3)) (e2 ixD (eV 2) (eV 3)))) (sB [sSub setIxD (eV 4) (eV 3) (eA (F_raised) (eL [e2 ixD (e1 (fldD ["Forest"] "kinds") (eV 0)) (eV 3), e2 ixD (eV 1) (eV 3), eC (.int 1)]))]) (sB []),
  sRet (eA (on1 tupD) (eL [eV 4]))]
def F_left_out_shows : AF := fnT 4 5 b_left_out_shows
/- _law_ask: _law_which, _law_forest, _law_known, _law_sent, _law_field, _law_found, e -/
def b_q_ask_v3 : AS := sB [sSet 5 (eLst false (eL [])),
  sTryAs [("BadRecord", true), ("BadTree", true), ("BadForest", true), ("NotFair", true), ("CannotLand", true), ("BadLetter", true), ("BadAnswer", true), ("BadPlace", true), ("Marked", true)] 6 (sB [sIf (tB1 (e2 eqD (eV 0) (eC (.int 0)))) (sB [sRet (eLst true (eL [eA (F_winning_fields) (eL [eV 1, eV 2, eV 3])]))]) (sB []),
    sIf (tB1 (e2 eqD (eV 0) (eC (.int 1)))) (sB [sRet (eLst true (eL [eA (F_least_letter) (eL [eV 1, eV 2, eV 3])]))]) (sB []),
    sRet (eLst true (eL [eA (F_left_out_shows) (eL [eV 1, eV 2, eV 3, eV 4])]))]) (fun x => sB [sIf (tOr (tNot (tV (eXis x [("BadRecord", true), ("BadTree", true), ("BadForest", true), ("NotFair", true), ("CannotLand", true), ("BadLetter", true), ("BadAnswer", true), ("BadPlace", true), ("Marked", true)]))) (tOr (tV (eXis x [("BadRecord", false), ("BadTree", false), ("BadForest", false), ("NotFair", false), ("CannotLand", false), ("BadLetter", false), ("BadAnswer", false), ("BadPlace", false), ("Marked", true)])) (tV (eXis x [("BadRecord", false), ("BadTree", false), ("BadForest", true), ("NotFair", false), ("CannotLand", false), ("BadLetter", false), ("BadAnswer", false), ("BadPlace", false), ("Marked", false)])))) (sB [sE (eM isLst (mt1 appendD) (eV 5) (eL [eTup (eL [eC (.str [97, 110, 111, 116, 104, 101, 114, 32, 99, 108, 97, 115, 115]), eC (.int 0)])]))]) (sB []),
    sIf (tV (eXis x [("BadRecord", false), ("BadTree", true), ("BadForest", false), ("NotFair", false), ("CannotLand", true), ("BadLetter", true), ("BadAnswer", true), ("BadPlace", false), ("Marked", false)])) (sB [sE (eM isLst (mt1 appendD) (eV 5) (eL [eTup (eL [eC (.str [97, 110, 111, 116, 104, 101, 114, 32, 99, 108, 97, 115, 115]), eC (.int 0)])]))]) (sB []),
    sIf (tV (eXis x [("BadRecord", false), ("BadTree", false), ("BadForest", false), ("NotFair", true), ("CannotLand", false), ("BadLetter", false), ("BadAnswer", false), ("BadPlace", false), ("Marked", false)])) (sB [sE (eM isLst (mt1 appendD) (eV 5) (eL [eTup (eL [eC (.str [78, 111, 116, 70, 97, 105, 114]), eXf ["BadTree", "BadForest", "NotFair", "CannotLand", "BadLetter", "BadAnswer"] x "field"])]))]) (sB []),
    sIf (tV (eXis x [("BadRecord", true), ("BadTree", false), ("BadForest", false), ("NotFair", false), ("CannotLand", false), ("BadLetter", false), ("BadAnswer", false), ("BadPlace", false), ("Marked", false)])) (sB [sE (eM isLst (mt1 appendD) (eV 5) (eL [eTup (eL [eC (.str [66, 97, 100, 82, 101, 99, 111, 114, 100]), eXf ["BadRecord"] x "record"])]))]) (sB []),
    sIf (tV (eXis x [("BadRecord", false), ("BadTree", false), ("BadForest", false), ("NotFair", false), ("CannotLand", false), ("BadLetter", false), ("BadAnswer", false), ("BadPlace", true), ("Marked", true)])) (sB [sE (eM isLst (mt1 appendD) (eV 5) (eL [eTup (eL [eC (.str [66, 97, 100, 80, 108, 97, 99, 101]), eXf ["BadPlace", "Marked"] x "place"])]))]) (sB [])]),
  sRet (eA (on1 tupD) (eL [eV 5]))]
def F_q_ask_v3 : AF := fnT 5 7 b_q_ask_v3
/- _law_letter: _law_parents_here, _law_sent, _law_fields, _law_letter_here, _law_field, _law_place -/
def b_q_letter : AS := sB [sSet 3 (eLC false [4] (iR1 (eA (on1 lenD) (eL [eV 0]))) (gV 4) (tYes) (eC .non)),
  sFor (iS (eV 2)) (gV 4) (sB [sFor (iS (eA (F_q_path) (eL [eV 0, eV 4]))) (gV 5) (sB [sSub setIxD (eV 3) (eV 5) (e2 ixD (eV 1) (eV 5))])]),
  sRet (eA (on1 tupD) (eL [eV 3]))]
def F_q_letter : AF := fnT 3 6 b_q_letter
/- _law_receives: _law_forest, _law_receiver, _law_letter_here, _law_end, _law_got -/
def b_q_receives : AS := sB [sSet 4 (eA (F_receive) (eL [eV 0, eV 1, eV 2])),
  sRet (eAnd (eA (F_q_is_record) (eL [eV 4, eA (on1 lenD) (eL [eV 3])])) (e2 eqD (eV 4) (eV 3)))]
def F_q_receives : AF := fnT 4 5 b_q_receives
/- _law_shows: _law_forest, _law_parents_here, _law_kinds_here, _law_known, _law_sent, _law_letter_here, _law_field, _law_told_here, _law_shown, _law_end, _law_cut, _law_place, _law_got -/
def b_q_shows : AS := sB [sIf (tOr (tNot (tV (e1 (isTy "list") (eV 7)))) (tNot (tV (eA (F_q_is_record) (eL [e2 ixD (eV 7) (eC (.int 0)), eA (on1 lenD) (eL [eV 2])]))))) (sB [sRet (eC (.bl false))]) (sB []),
  sSet 8 (e2 ixD (eV 7) (eC (.int 0))),
  sSet 9 (eA (F_q_merge_v2) (eL [eV 1, eV 2, eV 8, eV 4])),
  sIf (tOr (tB1 (e2 neD (eA (F_q_merge_v2) (eL [eV 1, eV 2, eV 3, eV 8])) (eV 8))) (tB1 (e2 eqD (e2 ixD (eV 9) (eV 6)) (e2 ixD (eV 8) (eV 6))))) (sB [sRet (eC (.bl false))]) (sB []),
  sIf (tNot (tV (eA (F_q_receives) (eL [eV 0, eV 8, eV 5, eV 9])))) (sB [sRet (eC (.bl false))]) (sB []),
  sSet 10 (eA (on1 (listD false)) (eL [eV 5])),
  sFor (iR1 (eA (on1 lenD) (eL [eV 2]))) (gV 11) (sB [sIf (tB1 (e2 inD (eV 6) (eA (F_q_path) (eL [eV 1, eV 11])))) (sB [sSub setIxD (eV 10) (eV 11) (eC .non)]) (sB [])]),
  sSet 12 (eA (F_receive) (eL [eV 0, eV 8, eA (on1 tupD) (eL [eV 10])])),
  sRet (eAnd (eA (F_q_is_record) (eL [eV 12, eA (on1 lenD) (eL [eV 2])])) (e2 eqD (e2 ixD (eV 12) (eV 6)) (e2 ixD (eV 8) (eV 6))))]
def F_q_shows : AF := fnT 8 13 b_q_shows
/- _law_told: _law_forest, _law_parents_here, _law_kinds_here, _law_question_here, _law_told_here, _law_known, _law_sent, _law_winning, _law_field, _law_letter_here, _law_receiver, _law_shown -/
def b_q_told_v5 : AS := sB [sSet 5 (e2 ixD (eV 3) (eC (.int 0))),
  sSet 6 (e2 ixD (eV 3) (eC (.int 1))),
  sSet 7 (eLC true [8] (iR1 (eA (on1 lenD) (eL [eV 2]))) (gV 8) (tB1 (e2 eqD (eA (F_q_side) (eL [eV 1, eV 2, eV 8, eV 5, eV 6])) (eC (.int 1)))) (eV 8)),
  sSet 9 (eA (F_q_letter) (eL [eV 1, eV 6, eV 7])),
  sIf (tOr (tNot (tV (e1 (isTy "list") (e2 ixD (eV 4) (eC (.int 0)))))) (tNot (tV (eA (F_q_is_ascending) (eL [e2 ixD (e2 ixD (eV 4) (eC (.int 0))) (eC (.int 0)), eA (on1 lenD) (eL [eV 2])]))))) (sB [sRet (eC (.bl false))]) (sB []),
  sIf (tOr (tB1 (e2 neD (e2 ixD (e2 ixD (eV 4) (eC (.int 0))) (eC (.int 0))) (eA (on1 tupD) (eL [eV 7])))) (tOr (tNot (tV (e1 (isTy "list") (e2 ixD (eV 4) (eC (.int 1)))))) (tNot (tV (eA (F_q_is_letter) (eL [e2 ixD (e2 ixD (eV 4) (eC (.int 1))) (eC (.int 0)), eV 9])))))) (sB [sRet (eC (.bl false))]) (sB []),
  sFor (iS (e2 ixD (eV 3) (eC (.int 2)))) (gV 10) (sB [sIf (tNot (tV (eA (F_q_receives) (eL [eV 0, eV 10, e2 ixD (e2 ixD (eV 4) (eC (.int 1))) (eC (.int 0)), eA (F_q_merge_v2) (eL [eV 1, eV 2, eV 10, eV 6])])))) (sB [sRet (eC (.bl false))]) (sB [])]),
  sFor (iR1 (eA (on1 lenD) (eL [eV 2]))) (gV 8) (sB [sSet 11 (eA (F_q_ask_v3) (eL [eC (.int 2), eV 0, eV 5, eV 6, eV 8])),
    sIf (tB1 (e2 inD (eV 8) (eV 7))) (sB [sIf (tNot (tV (eA (F_q_shows) (eL [eV 0, eV 1, eV 2, eV 5, eV 6, eV 9, eV 8, eV 11])))) (sB [sRet (eC (.bl false))]) (sB [])]) (sB [sIf (tOr (tNot (tV (e1 (isTy "list") (eV 11)))) (tB1 (e1 notNonD (e2 ixD (eV 11) (eC (.int 0)))))) (sB [sRet (eC (.bl false))]) (sB [])])]),
  sRet (eC (.bl true))]
def F_q_told_v5 : AF := fnT 5 12 b_q_told_v5
/- _law_holds: _law_forest, _law_parents_here, _law_kinds_here, _law_question_here, _law_due, _law_told_here, _law_which, _law_strange, _law_answer -/
def b_q_holds_v3 : AS := sB [sSet 4 (eA (F_q_refusal_v2) (eL [eV 2, e2 ixD (eV 3) (eC (.int 0)), e2 ixD (eV 3) (eC (.int 1))])),
  sSet 5 (eLC true [6] (iR1 (eC (.int 3))) (gV 6) (tYes) (eA (F_q_ask_v3) (eL [eV 6, eV 0, e2 ixD (eV 3) (eC (.int 0)), e2 ixD (eV 3) (eC (.int 1)), eC (.int 0)]))),
  sSet 7 (eA (F_q_ask_v3) (eL [eC (.int 2), eV 0, e2 ixD (eV 3) (eC (.int 0)), e2 ixD (eV 3) (eC (.int 1)), e2 ixD (eV 3) (eC (.int 3))])),
  sIf (tB1 (e1 isNonD (eV 4))) (sB [sIf (tNot (tV (eA (F_q_is_refusal_v2) (eL [eV 7, eTup (eL [eC (.str [66, 97, 100, 80, 108, 97, 99, 101]), e2 ixD (eV 3) (eC (.int 3))])])))) (sB [sRet (eC (.bl false))]) (sB []),
    sRet (eA (F_q_told_v5) (eL [eV 0, eV 1, eV 2, eV 3, eV 5]))]) (sB []),
  sFor (iS (e2 (addD true) (eV 5) (eLst true (eL [eV 7])))) (gV 8) (sB [sIf (tNot (tV (eA (F_q_is_refusal_v2) (eL [eV 8, eV 4])))) (sB [sRet (eC (.bl false))]) (sB [])]),
  sRet (eC (.bl true))]
def F_q_holds_v3 : AF := fnT 4 9 b_q_holds_v3
/- _law_near: _law_tape_here, _law_kinds_here, _law_record_here, _law_near_here, _law_field, _law_pick, _law_by -/
def b_q_near : AS := sB [sSet 3 (eLst false (eL [])),
  sFor (iR1 (eA (on1 lenD) (eL [eV 1]))) (gV 4) (sB [sSet 5 (eA (F_q_take) (eL [eV 0, eC (.int 6)])),
    sSet 6 (e2 (addD true) (eC (.int 1)) (eA (F_q_take) (eL [eV 0, eC (.int 3)]))),
    sIf (tB1 (e2 eqD (eV 5) (eC (.int 0)))) (sB [sE (eM isLst (mt1 appendD) (eV 3) (eL [eA (F_q_raised_v2) (eL [e2 ixD (eV 1) (eV 4), e2 ixD (eV 2) (eV 4), eV 6])]))]) (sB [sIf (tB1 (e2 eqD (eV 5) (eC (.int 1)))) (sB [sE (eM isLst (mt1 appendD) (eV 3) (eL [eA (F_q_raised_v2) (eL [e2 ixD (eV 1) (eV 4), e2 ixD (eV 2) (eV 4), e2 subD (eC (.int 0)) (eV 6)])]))]) (sB [sE (eM isLst (mt1 appendD) (eV 3) (eL [e2 ixD (eV 2) (eV 4)]))])])]),
  sRet (eA (on1 tupD) (eL [eV 3]))]
def F_q_near : AF := fnT 3 7 b_q_near
/- _law_question: _law_script, _law_turn, _law_parents_here, _law_kinds_here, _law_n, _law_known, _law_tape_here, _law_pick, _law_sent, _law_receivers, _law_many, _law_strange, _law_spoil, _law_k, _law_other -/
def b_q_question_v3 : AS := sB [sSet 4 (eA (on1 lenD) (eL [eV 3])),
  sSet 5 (eA (F_q_record) (eL [eA (F_q_tape) (eL [eV 0, e2 (addD true) (eC (.int 2)) (e2 (mulD true) (eC (.int 6)) (eV 1))]), eV 4, eC (.int 3)])),
  sSet 6 (eA (F_q_tape) (eL [eV 0, e2 (addD true) (eC (.int 3)) (e2 (mulD true) (eC (.int 6)) (eV 1))])),
  sSet 7 (eA (F_q_take) (eL [eV 6, eC (.int 3)])),
  sIf (tB1 (e2 eqD (eV 7) (eC (.int 0)))) (sB [sSet 8 (eA (F_q_record) (eL [eV 6, eV 4, eC (.int 3)]))]) (sB [sIf (tB1 (e2 eqD (eV 7) (eC (.int 1)))) (sB [sSet 8 (eA (F_q_merge_v2) (eL [eV 2, eV 3, eV 5, eA (F_q_record) (eL [eV 6, eV 4, eC (.int 3)])]))]) (sB [sSet 8 (eA (F_q_near) (eL [eV 6, eV 3, eV 5]))])]),
  sSet 9 (eLst false (eL [eV 5])),
  sSet 10 (eA (F_q_take) (eL [eV 6, eC (.int 5)])),
  sSet 11 (eA (F_q_no_field) (eL [eV 6, eV 4])),
  sSet 12 (eA (F_q_take) (eL [eV 6, eC (.int 16)])),
  sFor (iR1 (eV 10)) (gV 13) (sB [sSet 14 (eA (F_q_record) (eL [eA (F_q_tape) (eL [eV 0, e2 (addD true) (e2 (addD true) (eC (.int 4)) (e2 (mulD true) (eC (.int 6)) (eV 1))) (eV 13)]), eV 4, eC (.int 3)])),
    sE (eM isLst (mt1 appendD) (eV 9) (eL [eA (F_q_merge_v2) (eL [eV 2, eV 3, eV 5, eV 14])]))]),
  sIf (tOr (tB1 (e2 eqD (eV 12) (eC (.int 0)))) (tB1 (e2 eqD (eV 12) (eC (.int 2))))) (sB [sSet 5 (e2 (addD true) (eV 5) (eTup (eL [eC (.int 7)])))]) (sB []),
  sIf (tB1 (e2 eqD (eV 12) (eC (.int 1)))) (sB [sSet 5 (eSl true (eV 5) (oS (eC (.int 1))) (oN))]) (sB []),
  sIf (tOr (tB1 (e2 eqD (eV 12) (eC (.int 2)))) (tB1 (e2 eqD (eV 12) (eC (.int 3))))) (sB [sSet 8 (eSl true (eV 8) (oS (eC (.int 1))) (oN))]) (sB []),
  sRet (eLst true (eL [eV 5, eV 8, eV 9, eV 11]))]
def F_q_question_v3 : AF := fnT 4 15 b_q_question_v3
/- law: _law_script, _law_tape_here, _law_n, _law_parents_here, _law_fair, _law_kinds_here, _law_level_here, _law_ranks, _law_forests, _law_turns_here, _law_at, _law_question_here, _law_asked, _law_k, _law_pick -/
def b_law_k58 : AS := sB [sSet 1 (eA (F_q_tape) (eL [eV 0, eC (.int 0)])),
  sSet 2 (eA (F_q_size) (eL [eV 1])),
  sSet 3 (eA (F_q_parents) (eL [eV 1, eV 2])),
  sSet 1 (eA (F_q_tape) (eL [eV 0, eC (.int 1)])),
  sSet 4 (e2 gtD (eA (F_q_take) (eL [eV 1, eC (.int 6)])) (eC (.int 0))),
  sSet 5 (eA (F_q_kinds) (eL [eV 1, eV 3, eV 4])),
  sSet 6 (eA (F_q_level) (eL [eV 5])),
  sSet 7 (eLst true (eL [eV 5, eV 6])),
  sSet 8 (eLst true (eL [eA (mkI "Forest" true (F_Forest_init)) (eL [eA (on1 (listD true)) (eL [eV 3]), eA (on1 (listD true)) (eL [eV 5])]), eA (mkI "Forest" true (F_Forest_init)) (eL [eA (on1 (listD true)) (eL [eV 3]), eA (on1 (listD true)) (eL [eV 6])])])),
  sSet 9 (eLst true (eL [eC (.int 0), eC (.int 1), eC (.int 0)])),
  sFor (iR1 (eA (on1 lenD) (eL [eV 9]))) (gV 10) (sB [sSet 11 (eA (F_q_question_v3) (eL [eV 0, e2 ixD (eV 9) (eV 10), eV 3, eV 6])),
    sSet 12 (eLst true (eL [eV 11, eA (F_q_healed_v2) (eL [eV 11, eV 2])])),
    sFor (iR1 (eC (.int 2))) (gV 13) (sB [sSet 14 (e2 modD (eA (on1 intD) (eL [e2 (addD true) (eV 13) (eV 10)])) (eC (.int 2))),
      sIf (tNot (tV (eA (F_q_holds_v3) (eL [e2 ixD (eV 8) (eV 14), eV 3, e2 ixD (eV 7) (eV 14), e2 ixD (eV 12) (eV 13)])))) (sB [sRet (eC (.bl false))]) (sB [])])]),
  sRet (eAnd (eA (F_q_stays) (eL [e2 ixD (eV 8) (eC (.int 0)), eV 3, eV 5])) (eA (F_q_stays) (eL [e2 ixD (eV 8) (eC (.int 1)), eV 3, eV 6])))]
def F_law_k58 : AF := fnT 1 15 b_law_k58
end Sm
end

section
set_option linter.all false
/-! k74: plain computations (printed by gen2.py) -/
namespace Sm
/- _law_same: _law_actual, _law_wanted, _law_k -/
def b_q_same_v3 (F : AF) : AS := sB [sIf (tB1 (e1 isNonD (eV 1))) (sB [sRet (e1 isNonD (eV 0))]) (sB []),
  sIf (tV (e1 (isTy "int") (eV 1))) (sB [sRet (eAnd (e1 (isTy "int") (eV 0)) (eAnd (e1 notD (e1 (isTy "bool") (eV 0))) (e2 eqD (eV 0) (eV 1))))]) (sB []),
  sIf (tV (e1 (isTy "str") (eV 1))) (sB [sRet (eAnd (e1 (isTy "str") (eV 0)) (e2 eqD (eV 0) (eV 1)))]) (sB []),
  sIf (tOr (tNot (tV (e1 (isTy "tuple") (eV 0)))) (tB1 (e2 neD (eA (on1 lenD) (eL [eV 0])) (eA (on1 lenD) (eL [eV 1]))))) (sB [sRet (eC (.bl false))]) (sB []),
  sFor (iR1 (eA (on1 lenD) (eL [eV 1]))) (gV 2) (sB [sIf (tNot (tV (eA (F) (eL [e2 ixD (eV 0) (eV 2), e2 ixD (eV 1) (eV 2)])))) (sB [sRet (eC (.bl false))]) (sB [])]),
  sRet (eC (.bl true))]
def F_q_same_v3 : Nat → AF
  | 0 => fun _ _ => .no
  | n + 1 => fnT 2 3 (b_q_same_v3 (F_q_same_v3 n))
/- _law_delivered: _law_forest, _law_paths_here, _law_kinds_here, _law_houses, _law_post, _law_to, _law_due, _law_told -/
def b_q_delivered : AS := sB [sSet 5 (e2 ixD (eV 4) (eC (.int 0))),
  sSet 6 (eA (F_q_merge) (eL [eV 1, eV 2, e2 ixD (eV 3) (eV 5), e2 ixD (eV 4) (eC (.int 2))])),
  sSet 7 (eA (F_receive) (eL [eV 0, e2 ixD (eV 3) (eV 5), e2 ixD (eV 4) (eC (.int 1))])),
  sSub setIxD (eV 3) (eV 5) (eV 6),
  sRet (eA (F_q_same_v3 12) (eL [eV 7, eV 6]))]
def F_q_delivered : AF := fnT 5 8 b_q_delivered
/- _law_known: _law_tape_here, _law_paths_here, _law_kinds_here, _law_first, _law_held, _law_sent_here, _law_pick -/
def b_q_known : AS := sB [sSet 6 (eA (F_q_take) (eL [eV 0, eC (.int 4)])),
  sIf (tB1 (e2 eqD (eV 6) (eC (.int 0)))) (sB [sRet (eV 3)]) (sB []),
  sIf (tB1 (e2 eqD (eV 6) (eC (.int 1)))) (sB [sRet (eV 4)]) (sB []),
  sIf (tB1 (e2 eqD (eV 6) (eC (.int 2)))) (sB [sRet (eA (F_q_merge) (eL [eV 1, eA (F_q_turned) (eL [eV 2]), eV 4, eV 5]))]) (sB []),
  sRet (eA (F_q_merge) (eL [eV 1, eA (F_q_turned) (eL [eV 2]), eV 4, eA (F_q_record) (eL [eV 0, eA (on1 lenD) (eL [eV 1]), eC (.int 3)])]))]
def F_q_known : AF := fnT 6 7 b_q_known
/- _law_letter: _law_paths_here, _law_kinds_here, _law_known_here, _law_sent_here, _law_letter_here, _law_path, _law_place -/
def b_q_letter_v2 : AS := sB [sSet 4 (eLC false [5] (iS (eV 0)) (gV 5) (tYes) (eC .non)),
  sFor (iS (eV 0)) (gV 5) (sB [sIf (tB1 (e2 eqD (eA (F_q_side_v2) (eL [eV 5, eV 1, eV 2, eV 3])) (eC (.int 1)))) (sB [sFor (iS (eV 5)) (gV 6) (sB [sSub setIxD (eV 4) (eV 6) (e2 ixD (eV 3) (eV 6))])]) (sB [])]),
  sRet (eA (on1 tupD) (eL [eV 4]))]
def F_q_letter_v2 : AF := fnT 4 7 b_q_letter_v2
/- _law_sent: _law_tape_here, _law_forest, _law_paths_here, _law_kinds_here, _law_firsts, _law_houses, _law_sender, _law_to, _law_known_here, _law_letter_here -/
def b_q_sent : AS := sB [sSet 8 (eA (F_q_known) (eL [eV 0, eV 2, eV 3, e2 ixD (eV 4) (eV 7), e2 ixD (eV 5) (eV 7), e2 ixD (eV 5) (eV 6)])),
  sSet 9 (eA (F_least_letter) (eL [eV 1, eV 8, e2 ixD (eV 5) (eV 6)])),
  sIf (tNot (tV (eA (F_q_same_v3 12) (eL [eV 9, eA (F_q_letter_v2) (eL [eV 2, eV 3, eV 8, e2 ixD (eV 5) (eV 6)])])))) (sB [sRet (eC .non)]) (sB []),
  sRet (eTup (eL [eV 7, eV 9, e2 ixD (eV 5) (eV 6)]))]
def F_q_sent : AF := fnT 8 10 b_q_sent
/- _law_chain: _law_tape_here, _law_forest, _law_paths_here, _law_kinds_here, _law_firsts, _law_houses, _law_last, _law_steps, _law_k, _law_step, _law_post -/
def b_q_chain : AS := sB [sSet 6 (e2 subD (eA (on1 lenD) (eL [eV 5])) (eC (.int 1))),
  sSet 7 (e2 (addD true) (eLC true [8] (iR1 (eV 6)) (gV 8) (tYes) (eTup (eL [eV 8, e2 (addD true) (eV 8) (eC (.int 1))]))) (eLC true [8] (iR1 (eV 6)) (gV 8) (tYes) (eTup (eL [e2 subD (eV 6) (eV 8), e2 subD (e2 subD (eV 6) (eV 8)) (eC (.int 1))])))),
  sFor (iS (eV 7)) (gV 9) (sB [sSet 10 (eA (F_q_sent) (eL [eV 0, eV 1, eV 2, eV 3, eV 4, eV 5, e2 ixD (eV 9) (eC (.int 0)), e2 ixD (eV 9) (eC (.int 1))])),
    sIf (tOr (tB1 (e1 isNonD (eV 10))) (tNot (tV (eA (F_q_delivered) (eL [eV 1, eV 2, eV 3, eV 5, eV 10]))))) (sB [sRet (eC (.bl false))]) (sB [])]),
  sRet (eC (.bl true))]
def F_q_chain : AF := fnT 6 11 b_q_chain
/- _law_copies: _law_script, _law_paths_here, _law_count, _law_copies_here, _law_k, _law_tape_here, _law_record_here, _law_pick, _law_elder, _law_path, _law_place -/
def b_q_copies : AS := sB [sSet 3 (eLst false (eL [])),
  sFor (iR1 (eV 2)) (gV 4) (sB [sSet 5 (eA (F_q_tape) (eL [eV 0, e2 (addD true) (eC (.int 2)) (eV 4)])),
    sSet 6 (eA (on1 (listD false)) (eL [eA (F_q_record) (eL [eV 5, eA (on1 lenD) (eL [eV 1]), eC (.int 3)])])),
    sSet 7 (eA (F_q_take) (eL [eV 5, eC (.int 6)])),
    sIf (tAnd (tB1 (e2 gtD (eV 4) (eC (.int 0)))) (tB1 (e2 ltD (eV 7) (eC (.int 3))))) (sB [sSet 8 (e2 ixD (eV 3) (eA (F_q_take) (eL [eV 5, eV 4]))),
      sSet 9 (e2 ixD (eV 1) (eA (F_q_take) (eL [eV 5, eA (on1 lenD) (eL [eV 1])]))),
      sFor (iR1 (eA (on1 lenD) (eL [eV 1]))) (gV 10) (sB [sIf (tOr (tAnd (tB1 (e2 ltD (eV 7) (eC (.int 2)))) (tB1 (e2 inD (eV 10) (eV 9)))) (tAnd (tB1 (e2 eqD (eV 7) (eC (.int 2)))) (tB1 (e2 neD (eV 10) (e2 ixD (eV 9) (eC (.int 0))))))) (sB [sSub setIxD (eV 6) (eV 10) (e2 ixD (eV 8) (eV 10))]) (sB [])])]) (sB []),
    sE (eM isLst (mt1 appendD) (eV 3) (eL [eA (on1 tupD) (eL [eV 6])]))]),
  sRet (eV 3)]
def F_q_copies : AF := fnT 3 11 b_q_copies
/- _law_walk: _law_script, _law_forest, _law_paths_here, _law_kinds_here, _law_firsts, _law_houses, _law_records, _law_many, _law_posts, _law_count, _law_holder, _law_k, _law_tape_here, _law_sender, _law_record_here, _law_to, _law_post, _law_again -/
def b_q_walk : AS := sB [sSet 8 (eLst false (eL [])),
  sSet 9 (eA (on1 lenD) (eL [eV 5])),
  sSet 10 (eC (.int 0)),
  sFor (iR1 (eV 7)) (gV 11) (sB [sSet 12 (eA (F_q_tape) (eL [eV 0, e2 (addD true) (eC (.int 8)) (eV 11)])),
    sSet 13 (eV 10),
    sIf (tB1 (e2 eqD (eA (F_q_take) (eL [eV 12, eC (.int 4)])) (eC (.int 0)))) (sB [sSet 13 (eA (F_q_take) (eL [eV 12, eV 9]))]) (sB []),
    sIf (tB1 (e2 eqD (eA (F_q_take) (eL [eV 12, eC (.int 3)])) (eC (.int 0)))) (sB [sSet 14 (eA (F_q_record) (eL [eV 12, eA (on1 lenD) (eL [eV 2]), eC (.int 3)])),
      sE (eM isLst (mt1 appendD) (eV 6) (eL [eV 14])),
      sSub setIxD (eV 5) (eV 13) (eA (F_q_merge) (eL [eV 2, eV 3, e2 ixD (eV 5) (eV 13), eV 14]))]) (sB []),
    sSet 15 (e2 modD (eA (on1 intD) (eL [e2 (addD true) (e2 (addD true) (eV 13) (eC (.int 1))) (eA (F_q_take) (eL [eV 12, e2 subD (eV 9) (eC (.int 1))]))])) (eV 9)),
    sSet 16 (eA (F_q_sent) (eL [eV 12, eV 1, eV 2, eV 3, eV 4, eV 5, eV 13, eV 15])),
    sIf (tB1 (e1 isNonD (eV 16))) (sB [sRet (eC .non)]) (sB []),
    sE (eM isLst (mt1 appendD) (eV 8) (eL [eV 16])),
    sIf (tB1 (e2 gtD (eA (F_q_take) (eL [eV 12, eC (.int 4)])) (eC (.int 0)))) (sB [sSet 10 (eV 15),
      sIf (tNot (tV (eA (F_q_delivered) (eL [eV 1, eV 2, eV 3, eV 5, eV 16])))) (sB [sRet (eC .non)]) (sB [])]) (sB []),
    sIf (tB1 (e2 eqD (eA (F_q_take) (eL [eV 12, eC (.int 3)])) (eC (.int 0)))) (sB [sSet 17 (e2 ixD (eV 8) (eA (F_q_take) (eL [eV 12, eA (on1 lenD) (eL [eV 8])]))),
      sIf (tNot (tV (eA (F_q_delivered) (eL [eV 1, eV 2, eV 3, eV 5, eV 17])))) (sB [sRet (eC .non)]) (sB [])]) (sB [])]),
  sRet (eV 8)]
def F_q_walk : AF := fnT 8 18 b_q_walk
/- law: _law_script, _law_tape_here, _law_n, _law_parents_here, _law_count, _law_many, _law_kinds_here, _law_paths_here, _law_firsts, _law_houses, _law_records, _law_forest, _law_posts, _law_k, _law_end, _law_house -/
def b_law_k74 : AS := sB [sSet 1 (eA (F_q_tape) (eL [eV 0, eC (.int 0)])),
  sSet 2 (eA (F_q_fields) (eL [eV 1])),
  sSet 3 (eA (F_q_parents) (eL [eV 1, eV 2])),
  sSet 4 (e2 (addD true) (eC (.int 2)) (eA (F_q_take) (eL [eV 1, eC (.int 5)]))),
  sSet 5 (e2 (addD true) (eC (.int 4)) (eA (F_q_take) (eL [eV 1, eC (.int 9)]))),
  sSet 6 (eA (F_q_kinds) (eL [eA (F_q_tape) (eL [eV 0, eC (.int 1)]), eV 3, eC (.bl true)])),
  sSet 7 (eA (F_q_paths) (eL [eV 3])),
  sSet 8 (eA (F_q_copies) (eL [eV 0, eV 7, eV 4])),
  sSet 9 (eA (on1 (listD false)) (eL [eV 8])),
  sSet 10 (eA (on1 (listD false)) (eL [eV 8])),
  sSet 11 (eA (mkI "Forest" true (F_Forest_init)) (eL [eA (on1 (listD true)) (eL [eV 3]), eA (on1 (listD true)) (eL [eV 6])])),
  sSet 12 (eA (F_q_walk) (eL [eV 0, eV 11, eV 7, eV 6, eV 8, eV 9, eV 10, eV 5])),
  sIf (tB1 (e1 isNonD (eV 12))) (sB [sRet (eC (.bl false))]) (sB []),
  sFor (iS (eA (F_q_turns) (eL [eV 1, eA (on1 lenD) (eL [eV 12])]))) (gV 13) (sB [sIf (tNot (tV (eA (F_q_delivered) (eL [eV 11, eV 7, eV 6, eV 9, e2 ixD (eV 12) (eV 13)])))) (sB [sRet (eC (.bl false))]) (sB [])]),
  sIf (tNot (tV (eA (F_q_chain) (eL [eV 1, eV 11, eV 7, eV 6, eV 8, eV 9])))) (sB [sRet (eC (.bl false))]) (sB []),
  sSet 14 (eA (F_q_fold) (eL [eV 7, eV 6, eV 10])),
  sFor (iS (eV 9)) (gV 15) (sB [sIf (tB1 (e2 neD (eV 15) (eV 14))) (sB [sRet (eC (.bl false))]) (sB [])]),
  sRet (eAnd (e2 eqD (e1 (fldD ["Forest"] "parents") (eV 11)) (eA (on1 tupD) (eL [eV 3]))) (e2 eqD (e1 (fldD ["Forest"] "kinds") (eV 11)) (eA (on1 tupD) (eL [eV 6]))))]
def F_law_k74 : AF := fnT 1 16 b_law_k74
end Sm
end

section
set_option linter.all false
/-! k76: plain computations (printed by gen2.py) -/
namespace Sm
/- _law_side: _law_path, _law_kinds_here, _law_older, _law_newer, _law_place -/
def b_q_side_v3 : AS := sB [sFor (iS (eV 0)) (gV 4) (sB [sIf (tB1 (e2 neD (e2 ixD (eV 2) (eV 4)) (e2 ixD (eV 3) (eV 4)))) (sB [sIf (tB1 (e2 eqD (e2 ixD (eV 1) (eV 4)) (eC (.str [102, 105, 114, 115, 116])))) (sB [sRet (eC (.int 0))]) (sB []),
      sIf (tB1 (e2 eqD (e2 ixD (eV 1) (eV 4)) (eC (.str [108, 97, 115, 116])))) (sB [sRet (eC (.int 1))]) (sB []),
      sRet (eA (on1 intD) (eL [e2 neD (e2 gtD (e2 ixD (eV 2) (eV 4)) (e2 ixD (eV 3) (eV 4))) (e2 eqD (e2 ixD (eV 1) (eV 4)) (eC (.str [117, 112])))]))]) (sB [])]),
  sRet (eC (.int 0))]
def F_q_side_v3 : AF := fnT 4 5 b_q_side_v3
/- _law_merge: _law_paths_here, _law_kinds_here, _law_older, _law_newer, _law_pair, _law_f -/
def b_q_merge_v3 : AS := sB [sSet 4 (eLst true (eL [eV 2, eV 3])),
  sRet (eA (on1 tupD) (eL [eLC true [5] (iR1 (eA (on1 lenD) (eL [eV 0]))) (gV 5) (tYes) (e2 ixD (e2 ixD (eV 4) (eA (F_q_side_v3) (eL [e2 ixD (eV 0) (eV 5), eV 1, eV 2, eV 3]))) (eV 5))]))]
def F_q_merge_v3 : AF := fnT 4 6 b_q_merge_v3
/- _law_fold: _law_paths_here, _law_kinds_here, _law_records_here, _law_end, _law_record_here -/
def b_q_fold_v3 : AS := sB [sSet 3 (e2 ixD (eV 2) (eC (.int 0))),
  sFor (iS (eSl true (eV 2) (oS (eC (.int 1))) (oN))) (gV 4) (sB [sSet 3 (eA (F_q_merge_v3) (eL [eV 0, eV 1, eV 3, eV 4]))]),
  sRet (eV 3)]
def F_q_fold_v3 : AF := fnT 3 5 b_q_fold_v3
/- _law_is_forest: _law_actual, _law_parents_here, _law_kinds_here -/
def b_q_is_forest : AS := sB [sIf (tOr (tNot (tV (e1 (isClsD "Forest") (eV 0)))) (tNot (tV (eA (F_q_same_v3 12) (eL [e1 (fldD ["Forest"] "fields") (eV 0), eA (on1 lenD) (eL [eV 1])]))))) (sB [sRet (eC (.bl false))]) (sB []),
  sRet (eAnd (eA (F_q_same_v3 12) (eL [e1 (fldD ["Forest"] "parents") (eV 0), eA (on1 tupD) (eL [eV 1])])) (eA (F_q_same_v3 12) (eL [e1 (fldD ["Forest"] "kinds") (eV 0), eA (on1 tupD) (eL [eV 2])])))]
def F_q_is_forest : AF := fnT 3 3 b_q_is_forest
/- _law_mixed: _law_tape_here, _law_stages_here, _law_records_here, _law_row, _law_k, _law_place, _law_stage, _law_forest, _law_due -/
def b_q_mixed : AS := sB [sSet 3 (eA (on1 (listD false)) (eL [eV 2])),
  sFor (iR1 (e2 subD (eA (on1 lenD) (eL [eV 2])) (eC (.int 1)))) (gV 4) (sB [sSet 5 (eA (F_q_take) (eL [eV 0, e2 subD (eA (on1 lenD) (eL [eV 3])) (eC (.int 1))])),
    sSet 6 (e2 ixD (eV 1) (eA (F_q_take) (eL [eV 0, eA (on1 lenD) (eL [eV 1])]))),
    sSet 7 (e2 ixD (eV 6) (eC (.int 0))),
    sSet 8 (eA (F_q_merge_v3) (eL [eA (F_q_paths) (eL [e2 ixD (eV 6) (eC (.int 1))]), e2 ixD (eV 6) (eC (.int 2)), e2 ixD (eV 3) (eV 5), e2 ixD (eV 3) (e2 (addD true) (eV 5) (eC (.int 1)))])),
    sIf (tNot (tV (eA (F_q_same_v3 12) (eL [eCal [("Forest", F_Forest_call)] (eV 7) (eL [e2 ixD (eV 3) (eV 5), e2 ixD (eV 3) (e2 (addD true) (eV 5) (eC (.int 1)))]), eV 8])))) (sB [sRet (eC .non)]) (sB []),
    sSub setIxD (eV 3) (eV 5) (eV 8),
    sE (eM isLst (mt1 popAtD) (eV 3) (eL [e2 (addD true) (eV 5) (eC (.int 1))]))]),
  sRet (e2 ixD (eV 3) (eC (.int 0)))]
def F_q_mixed : AF := fnT 3 9 b_q_mixed
/- _law_records: _law_script, _law_n, _law_count, _law_records_here, _law_k, _law_tape_here, _law_record_here, _law_kin, _law_field -/
def b_q_records : AS := sB [sSet 3 (eLst false (eL [])),
  sFor (iR1 (eV 2)) (gV 4) (sB [sSet 5 (eA (F_q_tape) (eL [eV 0, e2 (addD true) (eC (.int 4)) (eV 4)])),
    sSet 6 (eA (F_q_record) (eL [eV 5, eV 1, eC (.int 3)])),
    sIf (tAnd (tB1 (e2 gtD (eV 4) (eC (.int 0)))) (tB1 (e2 eqD (eA (F_q_take) (eL [eV 5, eC (.int 3)])) (eC (.int 0))))) (sB [sSet 7 (eA (on1 (listD false)) (eL [e2 ixD (eV 3) (eA (F_q_take) (eL [eV 5, eV 4]))])),
      sSet 8 (eA (F_q_take) (eL [eV 5, eV 1])),
      sSub setIxD (eV 7) (eV 8) (e2 ixD (eV 6) (eV 8)),
      sSet 6 (eA (on1 tupD) (eL [eV 7]))]) (sB []),
    sE (eM isLst (mt1 appendD) (eV 3) (eL [eV 6]))]),
  sRet (eV 3)]
def F_q_records : AF := fnK 3 9 b_q_records
/- _law_is_shape: _law_parents_here, _law_kinds_here, _law_n, _law_field, _law_place, _law_k -/
def b_q_is_shape : AS := sB [sSet 2 (eA (on1 lenD) (eL [eV 0])),
  sFor (iR1 (eV 2)) (gV 3) (sB [sSet 4 (e2 ixD (eV 0) (eV 3)),
    sFor (iR1 (eV 2)) (gV 5) (sB [sIf (tB1 (e1 notNonD (eV 4))) (sB [sSet 4 (e2 ixD (eV 0) (eV 4))]) (sB [])]),
    sIf (tB1 (e1 notNonD (eV 4))) (sB [sRet (eC (.bl false))]) (sB []),
    sIf (tAnd (tB1 (e2 inD (e2 ixD (eV 1) (eV 3)) (eLst true (eL [eC (.str [102, 105, 114, 115, 116]), eC (.str [108, 97, 115, 116])])))) (tB1 (e2 inD (eV 3) (eV 0)))) (sB [sRet (eC (.bl false))]) (sB [])]),
  sRet (eC (.bl true))]
def F_q_is_shape : AF := fnT 2 6 b_q_is_shape
/- _law_near: _law_tape_here, _law_parents_here, _law_kinds_here, _law_n, _law_near_here, _law_k, _law_field, _law_pick, _law_moved, _law_turned -/
def b_q_near_v3 : AS := sB [sSet 3 (eA (on1 lenD) (eL [eV 1])),
  sSet 4 (eLst true (eL [eA (on1 (listD true)) (eL [eV 1]), eA (on1 (listD true)) (eL [eV 2])])),
  sFor (iR1 (e2 (addD true) (eC (.int 2)) (eA (F_q_take) (eL [eV 0, eC (.int 4)])))) (gV 5) (sB [sSet 6 (eA (F_q_take) (eL [eV 0, eV 3])),
    sSet 7 (eA (F_q_take) (eL [eV 0, e2 (addD true) (e2 (mulD true) (eC (.int 2)) (eV 3)) (eC (.int 2))])),
    sSet 8 (eA (on1 (listD false)) (eL [e2 ixD (eV 4) (eC (.int 0))])),
    sIf (tB1 (e2 ltD (eV 7) (eV 3))) (sB [sSub setIxD (eV 8) (eV 6) (eV 7)]) (sB []),
    sIf (tB1 (e2 eqD (eV 7) (eV 3))) (sB [sSub setIxD (eV 8) (eV 6) (eC .non)]) (sB []),
    sSet 9 (eA (on1 (listD false)) (eL [e2 ixD (eV 4) (eC (.int 1))])),
    sSet 7 (eA (F_q_take) (eL [eV 0, eC (.int 4)])),
    sIf (tB1 (e2 inD (eV 6) (eV 8))) (sB [sSet 7 (e2 modD (eA (on1 intD) (eL [eV 7])) (eC (.int 2)))]) (sB []),
    sSub setIxD (eV 9) (eV 6) (e2 ixD (eLst true (eL [eC (.str [117, 112]), eC (.str [100, 111, 119, 110]), eC (.str [102, 105, 114, 115, 116]), eC (.str [108, 97, 115, 116])])) (eV 7)),
    sIf (tV (eA (F_q_is_shape) (eL [eV 8, eV 9]))) (sB [sSet 4 (eLst true (eL [eV 8, eV 9]))]) (sB [])]),
  sRet (eV 4)]
def F_q_near_v3 : AF := fnT 3 10 b_q_near_v3
/- _law_second: _law_script, _law_parents_here, _law_kinds_here, _law_tape_here, _law_pick, _law_free -/
def b_q_second_v2 : AS := sB [sSet 3 (eA (F_q_tape) (eL [eV 0, eC (.int 2)])),
  sSet 4 (eA (F_q_take) (eL [eV 3, eC (.int 8)])),
  sIf (tB1 (e2 ltD (eV 4) (eC (.int 3)))) (sB [sSet 5 (eA (F_q_parents) (eL [eV 3, eA (on1 lenD) (eL [eV 1])])),
    sRet (eLst true (eL [eV 5, eA (F_q_kinds) (eL [eA (F_q_tape) (eL [eV 0, eC (.int 3)]), eV 5, eC (.bl false)])]))]) (sB []),
  sIf (tB1 (e2 eqD (eV 4) (eC (.int 3)))) (sB [sRet (eLst true (eL [eA (on1 (listD true)) (eL [eV 1]), eA (on1 (listD true)) (eL [eV 2])]))]) (sB []),
  sRet (eA (F_q_near_v3) (eL [eV 3, eV 1, eV 2]))]
def F_q_second_v2 : AF := fnT 3 6 b_q_second_v2
/- _law_plan: _law_one, _law_two, _law_old, _law_new, _law_early, _law_late, _law_field, _law_turns_here, _law_place -/
def b_q_plan_v2 : AS := sB [sSet 2 (eA (F_q_paths) (eL [e2 ixD (eV 0) (eC (.int 0))])),
  sSet 3 (eA (F_q_paths) (eL [e2 ixD (eV 1) (eC (.int 0))])),
  sSet 4 (eLst false (eL [])),
  sSet 5 (eLst false (eL [])),
  sFor (iR1 (eA (on1 lenD) (eL [e2 ixD (eV 0) (eC (.int 0))]))) (gV 6) (sB [sIf (tOr (tB1 (e2 neD (e2 ixD (e2 ixD (eV 0) (eC (.int 0))) (eV 6)) (e2 ixD (e2 ixD (eV 1) (eC (.int 0))) (eV 6)))) (tB1 (e2 neD (e2 ixD (e2 ixD (eV 0) (eC (.int 1))) (eV 6)) (e2 ixD (e2 ixD (eV 1) (eC (.int 1))) (eV 6))))) (sB [sIf (tB1 (e2 inD (e2 ixD (e2 ixD (eV 1) (eC (.int 1))) (eV 6)) (eLst true (eL [eC (.str [117, 112]), eC (.str [100, 111, 119, 110])])))) (sB [sE (eM isLst (mt1 appendD) (eV 4) (eL [eTup (eL [eA (on1 lenD) (eL [e2 ixD (eV 3) (eV 6)]), eV 6])]))]) (sB [sE (eM isLst (mt1 appendD) (eV 5) (eL [eTup (eL [e2 subD (eC (.int 0)) (eA (on1 lenD) (eL [e2 ixD (eV 2) (eV 6)])), eV 6])]))])]) (sB [])]),
  sSet 7 (eLC true [8] (iS (e2 (addD true) (eA (on1 (sortedPD true)) (eL [eV 4])) (eA (on1 (sortedPD true)) (eL [eV 5])))) (gV 8) (tYes) (e2 ixD (eV 8) (eC (.int 1)))),
  sRet (eLC true [6] (iS (eV 7)) (gV 6) (tYes) (eTup (eL [eV 6, e2 ixD (e2 ixD (eV 1) (eC (.int 0))) (eV 6), e2 ixD (e2 ixD (eV 1) (eC (.int 1))) (eV 6)])))]
def F_q_plan_v2 : AF := fnT 2 9 b_q_plan_v2
/- _law_words: _law_parents_here, _law_kinds_here, _law_words_here, _law_path, _law_place -/
def b_q_words : AS := sB [sSet 2 (eLst false (eL [])),
  sFor (iS (eA (F_q_paths) (eL [eV 0]))) (gV 3) (sB [sE (eM isLst (mt1 appendD) (eV 2) (eL [eLC true [4] (iS (eV 3)) (gV 4) (tYes) (eTup (eL [eV 4, e2 ixD (eV 1) (eV 4)]))]))]),
  sRet (eV 2)]
def F_q_words : AF := fnT 2 5 b_q_words
/- unlike_fields: first, second, field -/
def b_unlike_fields : AS := sB [sE (eA (F_check_same_fields) (eL [eV 0, eV 1])),
  sRet (eA (on1 tupD) (eL [eLC true [2] (iR1 (e1 (fldD ["Forest"] "fields") (eV 0))) (gV 2) (tB1 (e2 neD (eMth [("Forest", F_Forest_word)] "word" (eV 0) (eL [eV 2])) (eMth [("Forest", F_Forest_word)] "word" (eV 1) (eL [eV 2])))) (eV 2)]))]
def F_unlike_fields : AF := fnT 2 3 b_unlike_fields
/- _law_unlike_told: _law_first, _law_stage, _law_one, _law_parents_here, _law_kinds_here, _law_alike, _law_words_here, _law_old, _law_unlike, _law_field -/
def b_q_unlike_told : AS := sB [sSet 6 (eA (F_q_words) (eL [eV 3, eV 4])),
  sSet 7 (eA (F_q_words) (eL [e2 ixD (eV 2) (eC (.int 0)), e2 ixD (eV 2) (eC (.int 1))])),
  sSet 8 (eLC true [9] (iR1 (eA (on1 lenD) (eL [eV 6]))) (gV 9) (tB1 (e2 neD (e2 ixD (eV 6) (eV 9)) (e2 ixD (eV 7) (eV 9)))) (eV 9)),
  sIf (tB1 (e2 gtD (eA (on1 lenD) (eL [eLC true [9] (iS (eV 8)) (gV 9) (tB1 (e2 inD (eV 9) (eV 5))) (eV 9)])) (eC (.int 0)))) (sB [sRet (eC (.bl false))]) (sB []),
  sIf (tNot (tV (eA (F_q_same_v3 12) (eL [eA (F_unlike_fields) (eL [eV 0, eV 1]), eA (on1 tupD) (eL [eV 8])])))) (sB [sRet (eC (.bl false))]) (sB []),
  sRet (eA (F_q_same_v3 12) (eL [eA (F_unlike_fields) (eL [eV 1, eV 0]), eA (on1 tupD) (eL [eV 8])]))]
def F_q_unlike_told : AF := fnT 6 10 b_q_unlike_told
/- _law_stages: _law_first, _law_second_here, _law_one, _law_two, _law_alike, _law_plan_here, _law_told, _law_again, _law_stages_here, _law_parents_here, _law_kinds_here, _law_stage, _law_step -/
def b_q_stages : AS := sB [sSet 5 (eA (F_q_plan_v2) (eL [eV 2, eV 3])),
  sSet 6 (eA (F_change_plan) (eL [eV 0, eV 1])),
  sIf (tOr (tNot (tV (e1 (isTy "list") (eV 6)))) (tNot (tV (eA (F_q_same_v3 12) (eL [eA (on1 tupD) (eL [eV 6]), eA (on1 tupD) (eL [eV 5])]))))) (sB [sRet (eC .non)]) (sB []),
  sE (eM isLst (mt1 appendD) (eV 6) (eL [eTup (eL [eC (.int 0), eC .non, eC (.str [117, 112])])])),
  sSet 7 (eA (F_change_plan) (eL [eV 0, eV 1])),
  sIf (tOr (tNot (tV (e1 (isTy "list") (eV 7)))) (tNot (tV (eA (F_q_same_v3 12) (eL [eA (on1 tupD) (eL [eV 7]), eA (on1 tupD) (eL [eV 5])]))))) (sB [sRet (eC .non)]) (sB []),
  sSet 8 (eLst false (eL [eTup (eL [eV 0, eA (on1 (listD true)) (eL [e2 ixD (eV 2) (eC (.int 0))]), eA (on1 (listD true)) (eL [e2 ixD (eV 2) (eC (.int 1))])])])),
  sSet 9 (eA (on1 (listD false)) (eL [e2 ixD (eV 2) (eC (.int 0))])),
  sSet 10 (eA (on1 (listD false)) (eL [e2 ixD (eV 2) (eC (.int 1))])),
  sSet 11 (eV 0),
  sFor (iS (eV 5)) (gV 12) (sB [sSub setIxD (eV 9) (e2 ixD (eV 12) (eC (.int 0))) (e2 ixD (eV 12) (eC (.int 1))),
    sSub setIxD (eV 10) (e2 ixD (eV 12) (eC (.int 0))) (e2 ixD (eV 12) (eC (.int 2))),
    sIf (tNot (tV (eA (F_q_is_shape) (eL [eV 9, eV 10])))) (sB [sRet (eC .non)]) (sB []),
    sSet 11 (eA (F_change) (eL [eV 11, e2 ixD (eV 12) (eC (.int 0)), e2 ixD (eV 12) (eC (.int 1)), e2 ixD (eV 12) (eC (.int 2))])),
    sIf (tNot (tV (eA (F_q_is_forest) (eL [eV 11, eV 9, eV 10])))) (sB [sRet (eC .non)]) (sB []),
    sIf (tNot (tV (eA (F_q_unlike_told) (eL [eV 0, eV 11, eV 2, eV 9, eV 10, eV 4])))) (sB [sRet (eC .non)]) (sB []),
    sE (eM isLst (mt1 appendD) (eV 8) (eL [eTup (eL [eV 11, eA (on1 (listD true)) (eL [eV 9]), eA (on1 (listD true)) (eL [eV 10])])]))]),
  sIf (tOr (tB1 (e2 neD (eV 9) (e2 ixD (eV 3) (eC (.int 0))))) (tB1 (e2 neD (eV 10) (e2 ixD (eV 3) (eC (.int 1)))))) (sB [sRet (eC .non)]) (sB []),
  sRet (eV 8)]
def F_q_stages : AF := fnT 5 13 b_q_stages
/- law: _law_script, _law_tape_here, _law_n, _law_parents_here, _law_count, _law_again, _law_one, _law_two, _law_first, _law_second_here, _law_words_here, _law_other, _law_alike, _law_field, _law_there, _law_back, _law_records_here, _law_ends, _law_turn, _law_end -/
def b_law_k76 : AS := sB [sSet 1 (eA (F_q_tape) (eL [eV 0, eC (.int 0)])),
  sSet 2 (eA (F_q_fields) (eL [eV 1])),
  sSet 3 (eA (F_q_parents) (eL [eV 1, eV 2])),
  sSet 4 (e2 (addD true) (eC (.int 2)) (eA (F_q_take) (eL [eV 1, eC (.int 7)]))),
  sSet 5 (e2 eqD (eA (F_q_take) (eL [eV 1, eC (.int 4)])) (eC (.int 0))),
  sSet 6 (eLst true (eL [eV 3, eA (F_q_kinds) (eL [eA (F_q_tape) (eL [eV 0, eC (.int 1)]), eV 3, eC (.bl false)])])),
  sSet 7 (eA (F_q_second_v2) (eL [eV 0, e2 ixD (eV 6) (eC (.int 0)), e2 ixD (eV 6) (eC (.int 1))])),
  sSet 8 (eA (mkI "Forest" true (F_Forest_init)) (eL [eA (on1 (listD true)) (eL [e2 ixD (eV 6) (eC (.int 0))]), eA (on1 (listD true)) (eL [e2 ixD (eV 6) (eC (.int 1))])])),
  sSet 9 (eA (mkI "Forest" true (F_Forest_init)) (eL [eA (on1 (listD true)) (eL [e2 ixD (eV 7) (eC (.int 0))]), eA (on1 (listD true)) (eL [e2 ixD (eV 7) (eC (.int 1))])])),
  sSet 10 (eA (F_q_words) (eL [e2 ixD (eV 6) (eC (.int 0)), e2 ixD (eV 6) (eC (.int 1))])),
  sSet 11 (eA (F_q_words) (eL [e2 ixD (eV 7) (eC (.int 0)), e2 ixD (eV 7) (eC (.int 1))])),
  sSet 12 (eLC true [13] (iR1 (eV 2)) (gV 13) (tB1 (e2 eqD (e2 ixD (eV 10) (eV 13)) (e2 ixD (eV 11) (eV 13)))) (eV 13)),
  sSet 14 (eA (F_q_stages) (eL [eV 8, eV 9, eV 6, eV 7, eV 12])),
  sIf (tB1 (e1 isNonD (eV 14))) (sB [sRet (eC (.bl false))]) (sB []),
  sSet 15 (eA (F_q_stages) (eL [eV 9, eV 8, eV 7, eV 6, eV 12])),
  sIf (tB1 (e1 isNonD (eV 15))) (sB [sRet (eC (.bl false))]) (sB []),
  sSet 16 (eA (F_q_records) (eL [eV 0, eV 2, eV 4])),
  sIf (tV (eV 5)) (sB [sSub setIxD (eV 16) (e2 subD (eV 4) (eC (.int 1))) (e2 ixD (eV 16) (eC (.int 0)))]) (sB []),
  sSet 17 (eLst true (eL [eA (F_q_fold_v3) (eL [eA (F_q_paths) (eL [e2 ixD (eV 6) (eC (.int 0))]), e2 ixD (eV 6) (eC (.int 1)), eV 16]), eA (F_q_fold_v3) (eL [eA (F_q_paths) (eL [e2 ixD (eV 7) (eC (.int 0))]), e2 ixD (eV 7) (eC (.int 1)), eV 16])])),
  sFor (iR1 (eC (.int 2))) (gV 18) (sB [sSet 19 (eA (F_q_mixed) (eL [eA (F_q_tape) (eL [eV 0, e2 (addD true) (eC (.int 12)) (eV 18)]), e2 (addD true) (eV 14) (eV 15), eV 16])),
    sIf (tB1 (e1 isNonD (eV 19))) (sB [sRet (eC (.bl false))]) (sB []),
    sFor (iS (eV 12)) (gV 13) (sB [sIf (tOr (tB1 (e2 neD (e2 ixD (eV 19) (eV 13)) (e2 ixD (e2 ixD (eV 17) (eC (.int 0))) (eV 13)))) (tB1 (e2 neD (e2 ixD (eV 19) (eV 13)) (e2 ixD (e2 ixD (eV 17) (eC (.int 1))) (eV 13))))) (sB [sRet (eC (.bl false))]) (sB [])])]),
  sRet (eAnd (eA (F_q_is_forest) (eL [eV 8, e2 ixD (eV 6) (eC (.int 0)), e2 ixD (eV 6) (eC (.int 1))])) (eA (F_q_is_forest) (eL [eV 9, e2 ixD (eV 7) (eC (.int 0)), e2 ixD (eV 7) (eC (.int 1))])))]
def F_law_k76 : AF := fnT 1 20 b_law_k76
end Sm
end

section
set_option linter.all false
set_option maxRecDepth 10000
/-! Ta: merges, folds by any kinds, over the ways told; mixed stages. -/
namespace Sm
section
variable {ps : Par} {ks : List Kd} (g : Good ps ks)
include g
end
/-! alike on a way -/
def AlP (L : List Nat) (a b : List Int) : Prop := ∀ p ∈ L, rv a p = rv b p
section
variable {ps cs : Par} {ks js : List Kd}
end
end Sm
end

section
set_option linter.all false
set_option maxRecDepth 10000
/-! Rl: the plan that the program makes is a good one. -/
namespace Sm
section
variable (ps qs : Par) (ks js : List Kd)
def earF : List Nat := (List.range ps.length).filter fun f => decide (diff ps qs ks js f) && !(kd js f).end_
def latF : List Nat := (List.range ps.length).filter fun f => decide (diff ps qs ks js f) && (kd js f).end_
def earP : List (Int × Int) := (earF ps qs ks js).map fun (f : Nat) => (((path qs f).length : Int), (f : Int))
def latP : List (Int × Int) := (latF ps qs ks js).map fun (f : Nat) => (-((path ps f).length : Int), (f : Int))
def planT : List Nat := (sortP (earP ps qs ks js)).map (fun p => p.2.toNat) ++ (sortP (latP ps qs ks js)).map fun p => p.2.toNat
end
section
variable {ps qs : Par} {ks js : List Kd}
end
end Sm
end

section
set_option linter.all false
/-! k05: plain computations (printed by gen2.py) -/
namespace Sm
/- _law_due: _law_parents_here, _law_kinds_here, _law_n, _law_field, _law_place, _law_k -/
def b_q_due_v4 : AS := sB [sSet 2 (eA (on1 lenD) (eL [eV 0])),
  sIf (tOr (tB1 (e2 neD (eV 2) (eA (on1 lenD) (eL [eV 1])))) (tOr (tB1 (e2 eqD (eV 2) (eC (.int 0)))) (tB1 (e2 gtD (eV 2) (eC (.int 16)))))) (sB [sRet (eLst true (eL [eC (.bl true), eC .non]))]) (sB []),
  sFor (iR1 (eV 2)) (gV 3) (sB [sIf (tAnd (tB1 (e1 notNonD (e2 ixD (eV 0) (eV 3)))) (tOr (tB1 (e2 ltD (e2 ixD (eV 0) (eV 3)) (eC (.int 0)))) (tB1 (e2 geD (e2 ixD (eV 0) (eV 3)) (eV 2))))) (sB [sRet (eLst true (eL [eC (.bl true), eV 3]))]) (sB [])]),
  sFor (iR1 (eV 2)) (gV 3) (sB [sSet 4 (eV 3),
    sFor (iR1 (e2 (addD true) (eV 2) (eC (.int 1)))) (gV 5) (sB [sIf (tB1 (e1 notNonD (eV 4))) (sB [sSet 4 (e2 ixD (eV 0) (eV 4))]) (sB [])]),
    sIf (tB1 (e1 notNonD (eV 4))) (sB [sRet (eLst true (eL [eC (.bl true), eV 3]))]) (sB [])]),
  sFor (iR1 (eV 2)) (gV 3) (sB [sIf (tAnd (tB1 (e2 inD (e2 ixD (eV 1) (eV 3)) (eLst true (eL [eC (.str [102, 105, 114, 115, 116]), eC (.str [108, 97, 115, 116])])))) (tB1 (e2 inD (eV 3) (eV 0)))) (sB [sRet (eLst true (eL [eC (.bl true), eV 3]))]) (sB [])]),
  sRet (eLst true (eL [eC (.bl false), eC .non]))]
def F_q_due_v4 : AF := fnT 2 6 b_q_due_v4
/- _law_free: _law_tape_here, _law_n, _law_parents_here, _law_k, _law_low, _law_high, _law_field -/
def b_q_free : AS := sB [sSet 2 (eLst false (eL [])),
  sFor (iR1 (eV 1)) (gV 3) (sB [sSet 4 (e2 subD (e2 subD (eC (.int 0)) (eC (.int 1))) (e2 (mulD true) (eA (F_q_take) (eL [eV 0, eC (.int 2)])) (e2 powD (eC (.int 10)) (eC (.int 20))))),
    sSet 5 (e2 (addD true) (eV 1) (e2 (mulD true) (eA (F_q_take) (eL [eV 0, eC (.int 2)])) (e2 powD (eC (.int 10)) (eC (.int 20))))),
    sSet 6 (eA (F_q_take) (eL [eV 0, eV 1])),
    sE (eM isLst (mt1 appendD) (eV 2) (eL [e2 ixD (eLst true (eL [eC .non, eC .non, eV 4, eV 5, eV 3, eV 6, eV 6, eV 6])) (eA (F_q_take) (eL [eV 0, eC (.int 8)]))]))]),
  sRet (eV 2)]
def F_q_free : AF := fnT 2 7 b_q_free
/- _law_made: _law_given, _law_parents_here, _law_kinds_here, _law_forest, _law_row -/
def b_q_made_v2 : AS := sB [sSet 3 (eA (mkI "Forest" true (F_Forest_init)) (eL [e2 ixD (eV 0) (eC (.int 0)), e2 ixD (eV 0) (eC (.int 1))])),
  sIf (tNot (tV (eA (F_q_shown) (eL [eV 3, eV 1, eV 2])))) (sB [sRet (eC (.bl false))]) (sB []),
  sFor (iS (eV 0)) (gV 4) (sB [sIf (tV (e1 (isTy "list") (eV 4))) (sB [sE (eM isLst (mt1 appendD) (eV 4) (eL [e2 ixD (eV 4) (eC (.int 0))])),
      sSub setIxD (eV 4) (eC (.int 0)) (eC (.str [108, 97, 115, 116]))]) (sB [])]),
  sRet (eA (F_q_shown) (eL [eV 3, eV 1, eV 2]))]
def F_q_made_v2 : AF := fnT 3 5 b_q_made_v2
/- _law_refusal: _law_given, e, _law_kin, _law_odd -/
def b_q_refusal_v3 : AS := sB [sTryAs [("BadRecord", false), ("BadTree", false), ("BadForest", true), ("NotFair", false), ("FieldsDiffer", false), ("WordsClash", false), ("BadNumber", false), ("BadPlace", false)] 1 (sB [sE (eA (mkI "Forest" true (F_Forest_init)) (eL [e2 ixD (eV 0) (eC (.int 0)), e2 ixD (eV 0) (eC (.int 1))]))]) (fun x => sB [sSet 2 (eAnd (eXis x [("BadForest", true)]) (eXis x [("BadForest", true)])),
    sSet 3 (eXis x [("BadForest", false)]),
    sRet (eLst true (eL [eC (.bl true), eXf ["BadTree", "BadForest", "NotFair"] x "field", eAnd (eV 2) (e1 notD (eV 3))]))]),
  sRet (eLst true (eL [eC (.bl false), eC .non, eC (.bl true)]))]
def F_q_refusal_v3 : AF := fnT 1 4 b_q_refusal_v3
/- _law_spoil: _law_tape_here, _law_parents_here, _law_kinds_here, _law_n, _law_place, _law_pick -/
def b_q_spoil : AS := sB [sSet 3 (eA (on1 lenD) (eL [eV 1])),
  sSet 4 (eA (F_q_take) (eL [eV 0, eV 3])),
  sSet 5 (eA (F_q_take) (eL [eV 0, eC (.int 6)])),
  sIf (tB1 (e2 eqD (eV 5) (eC (.int 0)))) (sB [sSub setIxD (eV 1) (eV 4) (e2 subD (e2 subD (eC (.int 0)) (eC (.int 1))) (e2 (mulD true) (eA (F_q_take) (eL [eV 0, eC (.int 2)])) (e2 powD (eC (.int 10)) (eC (.int 20)))))]) (sB []),
  sIf (tB1 (e2 eqD (eV 5) (eC (.int 1)))) (sB [sSub setIxD (eV 1) (eV 4) (e2 (addD true) (eV 3) (e2 (mulD true) (eA (F_q_take) (eL [eV 0, eC (.int 2)])) (e2 powD (eC (.int 10)) (eC (.int 20)))))]) (sB []),
  sIf (tB1 (e2 eqD (eV 5) (eC (.int 2)))) (sB [sSub setIxD (eV 1) (eV 4) (eA (F_q_take) (eL [eV 0, eV 3]))]) (sB []),
  sIf (tB1 (e2 eqD (eV 5) (eC (.int 3)))) (sB [sSub setIxD (eV 1) (eV 4) (eV 4)]) (sB []),
  sIf (tB1 (e2 eqD (eV 5) (eC (.int 4)))) (sB [sSub setIxD (eV 2) (eV 4) (eC (.str [102, 105, 114, 115, 116]))]) (sB []),
  sIf (tB1 (e2 eqD (eV 5) (eC (.int 5)))) (sB [sSub setIxD (eV 2) (eV 4) (eC (.str [108, 97, 115, 116]))]) (sB [])]
def F_q_spoil : AF := fnT 3 6 b_q_spoil
/- law: _law_script, _law_sizes, _law_words, _law_spoils, _law_way, _law_n, _law_good, _law_near, _law_parents_here, _law_kinds_here, _law_k, _law_cut, _law_due_here, _law_given, _law_before, _law_turn, _law_told -/
def b_law_k05 : AS := sB [sSet 1 (eA (F_q_tape) (eL [eV 0, eC (.int 0)])),
  sSet 2 (eA (F_q_tape) (eL [eV 0, eC (.int 1)])),
  sSet 3 (eA (F_q_tape) (eL [eV 0, eC (.int 3)])),
  sSet 4 (eA (F_q_take) (eL [eV 1, eC (.int 9)])),
  sSet 5 (e2 (addD true) (eC (.int 1)) (eA (F_q_take) (eL [eV 1, eC (.int 7)]))),
  sIf (tB1 (e2 ltD (eV 4) (eC (.int 2)))) (sB [sSet 5 (e2 (addD true) (eC (.int 16)) (eV 4))]) (sB []),
  sSet 6 (eA (F_q_parents) (eL [eV 1, eV 5])),
  sSet 7 (eA (F_q_kinds) (eL [eV 2, eV 6, eC (.bl false)])),
  sSet 8 (eA (on1 (listD false)) (eL [eV 6])),
  sSet 9 (eA (on1 (listD false)) (eL [eV 7])),
  sIf (tB1 (e2 eqD (eV 4) (eC (.int 1)))) (sB [sSet 6 (eLC true [10] (iR1 (eC (.int 16))) (gV 10) (tYes) (eC .non)),
    sSet 7 (eSl true (eV 7) (oN) (oS (eC (.int 16))))]) (sB []),
  sIf (tB1 (eChain leD ltD (eC (.int 2)) (eV 4) (eC (.int 5)))) (sB [sSet 5 (eA (F_q_take) (eL [eV 1, eC (.int 8)])),
    sSet 8 (eA (F_q_free) (eL [eA (F_q_tape) (eL [eV 0, eC (.int 2)]), eV 5])),
    sSet 9 (eLC false [10] (iR1 (eV 5)) (gV 10) (tYes) (e2 ixD (eLst true (eL [eC (.str [117, 112]), eC (.str [100, 111, 119, 110]), eC (.str [102, 105, 114, 115, 116]), eC (.str [108, 97, 115, 116])])) (eA (F_q_take) (eL [eV 2, eC (.int 4)]))))]) (sB []),
  sIf (tOr (tB1 (e2 eqD (eV 4) (eC (.int 0)))) (tB1 (e2 gtD (eV 4) (eC (.int 4))))) (sB [sFor (iR1 (eA (F_q_take) (eL [eV 3, eC (.int 3)]))) (gV 10) (sB [sE (eA (F_q_spoil) (eL [eV 3, eV 8, eV 9]))])]) (sB []),
  sSet 11 (eA (F_q_take) (eL [eV 3, eC (.int 8)])),
  sIf (tB1 (e2 eqD (eV 11) (eC (.int 0)))) (sB [sE (eM isLst (mt1 appendD) (eV 9) (eL [eC (.str [117, 112])]))]) (sB []),
  sIf (tAnd (tB1 (e2 eqD (eV 11) (eC (.int 1)))) (tB1 (e2 gtD (eA (on1 lenD) (eL [eV 9])) (eC (.int 0))))) (sB [sE (eM isLst (mt0 popD) (eV 9) (eL []))]) (sB []),
  sSet 12 (eA (F_q_due_v4) (eL [eV 8, eV 9])),
  sSet 13 (eLst false (eL [eA (on1 (listD false)) (eL [eV 8]), eA (on1 (listD false)) (eL [eV 9])])),
  sIf (tB1 (e2 eqD (eA (F_q_take) (eL [eV 1, eC (.int 2)])) (eC (.int 1)))) (sB [sSub setIxD (eV 13) (eC (.int 0)) (eA (on1 tupD) (eL [eV 8]))]) (sB []),
  sIf (tB1 (e2 eqD (eA (F_q_take) (eL [eV 1, eC (.int 2)])) (eC (.int 1)))) (sB [sSub setIxD (eV 13) (eC (.int 1)) (eA (on1 tupD) (eL [eV 9]))]) (sB []),
  sSet 14 (eA (on1 reprD) (eL [eV 13])),
  sFor (iR1 (eC (.int 2))) (gV 15) (sB [sSet 16 (eA (F_q_refusal_v3) (eL [eV 13])),
    sIf (tOr (tB1 (e2 neD (e2 ixD (eV 16) (eC (.int 0))) (e2 ixD (eV 12) (eC (.int 0))))) (tOr (tNot (tV (e2 ixD (eV 16) (eC (.int 2))))) (tNot (tV (eA (F_q_same) (eL [eTup (eL [e2 ixD (eV 16) (eC (.int 1))]), eLst true (eL [e2 ixD (eV 12) (eC (.int 1))])])))))) (sB [sRet (eC (.bl false))]) (sB [])]),
  sIf (tB1 (e2 neD (eA (on1 reprD) (eL [eV 13])) (eV 14))) (sB [sRet (eC (.bl false))]) (sB []),
  sIf (tAnd (tNot (tV (e2 ixD (eV 12) (eC (.int 0))))) (tNot (tV (eA (F_q_made_v2) (eL [eV 13, eV 8, eV 9]))))) (sB [sRet (eC (.bl false))]) (sB []),
  sRet (eA (F_q_made_v2) (eL [eLst false (eL [eA (on1 (listD false)) (eL [eV 6]), eA (on1 (listD false)) (eL [eV 7])]), eV 6, eV 7]))]
def F_law_k05 : AF := fnT 1 17 b_law_k05
end Sm
end

section
set_option linter.all false
set_option maxRecDepth 10000
/-! Rc: k05: what is due, drawn parents, spoilt ones. -/
namespace Sm
def dueD : Option (Option Nat) → D
  | none => .lst [.bl false, .non]
  | some f => .lst [.bl true, eO f]
@[simp] theorem clo_dueD (n : Nat) (o : Option (Option Nat)) : clo n (dueD o) = true := by cases o <;> simp [dueD]
@[simp] theorem nloc_dueD (o : Option (Option Nat)) : nloc (dueD o) = true := by cases o <;> rfl
section
variable {h : AH} {P Q : D} {X : List (Option Int)} {ks : List Kd}
end
end Sm
end

section
set_option linter.all false
/-! k07: plain computations (printed by gen2.py) -/
namespace Sm
/- _law_unlike: _law_parents_here, _law_field, _law_first_here, _law_second, _law_place -/
def b_q_unlike : AS := sB [sFor (iS (eA (F_q_path) (eL [eV 0, eV 1]))) (gV 4) (sB [sIf (tB1 (e2 neD (e2 ixD (eV 2) (eV 4)) (e2 ixD (eV 3) (eV 4)))) (sB [sRet (eV 4)]) (sB [])]),
  sRet (eC .non)]
def F_q_unlike : AF := fnT 4 5 b_q_unlike
/- first_unlike: forest, field, first, second -/
def b_first_unlike : AS := sB [sE (eA (F_check_place) (eL [e1 (fldD ["Forest"] "fields") (eV 0), eV 1])),
  sE (eA (F_check_record) (eL [e1 (fldD ["Forest"] "fields") (eV 0), eV 2])),
  sE (eA (F_check_record) (eL [e1 (fldD ["Forest"] "fields") (eV 0), eV 3])),
  sRet (eA (F_first_unlike_on) (eL [eA (F_path_of) (eL [e1 (fldD ["Forest"] "parents") (eV 0), eV 1]), eV 2, eV 3]))]
def F_first_unlike : AF := fnT 4 4 b_first_unlike
/- _law_answers: _law_forest, _law_parents_here, _law_kinds_here, _law_older, _law_newer, _law_field, _law_told, _law_actual -/
def b_q_answers_v4 : AS := sB [sFor (iR1 (eA (on1 lenD) (eL [eV 1]))) (gV 5) (sB [sSet 6 (eA (F_first_unlike) (eL [eV 0, eV 5, eV 3, eV 4])),
    sIf (tNot (tV (eA (F_q_same) (eL [eTup (eL [eV 6]), eLst true (eL [eA (F_q_unlike) (eL [eV 1, eV 5, eV 3, eV 4])])])))) (sB [sRet (eC (.bl false))]) (sB [])]),
  sSet 7 (eCal [("Forest", F_Forest_call)] (eV 0) (eL [eV 3, eV 4])),
  sRet (eAnd (eA (F_q_is_record) (eL [eV 7, eA (on1 lenD) (eL [eV 1])])) (e2 eqD (eV 7) (eA (F_q_merge_v2) (eL [eV 1, eV 2, eV 3, eV 4]))))]
def F_q_answers_v4 : AF := fnT 5 8 b_q_answers_v4
/- _law_first: _law_forest, _law_field, _law_first_here, _law_second, _law_actual, e, _law_kin, why -/
def b_q_first : AS := sB [sTryMs [([("BadRecord", false), ("NoRecord", false), ("BadForest", false), ("BadNumber", false), ("BadPlace", true), ("Marked", true), ("BadSizes", false)], 5, fun x => sB [sSet 6 (eAnd (eXis x [("BadPlace", true), ("Marked", true)]) (eXis x [("BadPlace", true), ("Marked", true)])),
    sRet (eLst true (eL [eC (.int 1), eXf ["BadPlace", "Marked"] x "place", eAnd (eV 6) (e1 notD (eXis x [("BadPlace", false), ("Marked", true)]))]))]), ([("BadRecord", true), ("NoRecord", false), ("BadForest", false), ("BadNumber", false), ("BadPlace", false), ("Marked", false), ("BadSizes", false)], 7, fun x => sB [sSet 6 (eAnd (eXis x [("BadRecord", true)]) (eXis x [("BadRecord", true)])),
    sRet (eLst true (eL [eC (.int 2), eXf ["BadRecord"] x "record", eAnd (eV 6) (e1 notD (eXis x [("BadRecord", false)]))]))])] (sB [sSet 4 (eA (F_first_unlike) (eL [eV 0, eV 1, eV 2, eV 3]))]),
  sRet (eLst true (eL [eC (.int 0), eV 4, eC (.bl true)]))]
def F_q_first : AF := fnT 4 8 b_q_first
/- _law_merged: _law_forest, _law_older, _law_newer, _law_actual, e, _law_kin -/
def b_q_merged : AS := sB [sTryAs [("BadRecord", true), ("NoRecord", false), ("BadForest", false), ("BadNumber", false), ("BadPlace", false), ("Marked", false), ("BadSizes", false)] 4 (sB [sSet 3 (eCal [("Forest", F_Forest_call)] (eV 0) (eL [eV 1, eV 2]))]) (fun x => sB [sSet 5 (eAnd (eXis x [("BadRecord", true)]) (eXis x [("BadRecord", true)])),
    sRet (eLst true (eL [eC (.int 2), eXf ["BadRecord"] x "record", eAnd (eV 5) (e1 notD (eXis x [("BadRecord", false)]))]))]),
  sRet (eLst true (eL [eC (.int 0), eV 3, eC (.bl true)]))]
def F_q_merged : AF := fnT 3 6 b_q_merged
/- _law_refuses: _law_forest, _law_parents_here, _law_kinds_here, _law_tape_here, _law_pair, _law_n, _law_field, _law_due, _law_given, _law_record_here, _law_pick, _law_told, _law_turn -/
def b_q_refuses_v6 : AS := sB [sSet 5 (eA (on1 lenD) (eL [eV 1])),
  sSet 6 (eA (F_q_take) (eL [eV 3, eV 5])),
  sSet 7 (eLst true (eL [eC (.int 0), eC .non])),
  sSet 8 (eLst false (eL [])),
  sFor (iS (eV 4)) (gV 9) (sB [sSet 10 (eA (F_q_take) (eL [eV 3, eC (.int 4)])),
    sE (eM isLst (mt1 appendD) (eV 8) (eL [e2 ixD (eLst true (eL [eSl true (eV 9) (oN) (oS (e2 subD (eV 5) (eC (.int 1)))), e2 (addD true) (eV 9) (eTup (eL [eC (.int 0)])), eV 9, eV 9])) (eV 10)]))]),
  sIf (tB1 (e2 neD (eA (on1 lenD) (eL [e2 ixD (eV 8) (eC (.int 1))])) (eV 5))) (sB [sSet 7 (eLst true (eL [eC (.int 2), e2 ixD (eV 8) (eC (.int 1))]))]) (sB []),
  sIf (tB1 (e2 neD (eA (on1 lenD) (eL [e2 ixD (eV 8) (eC (.int 0))])) (eV 5))) (sB [sSet 7 (eLst true (eL [eC (.int 2), e2 ixD (eV 8) (eC (.int 0))]))]) (sB []),
  sSet 11 (eA (F_q_merged) (eL [eV 0, e2 ixD (eV 8) (eC (.int 0)), e2 ixD (eV 8) (eC (.int 1))])),
  sIf (tOr (tB1 (e2 neD (e2 ixD (eV 11) (eC (.int 0))) (e2 ixD (eV 7) (eC (.int 0))))) (tNot (tV (e2 ixD (eV 11) (eC (.int 2)))))) (sB [sRet (eC (.bl false))]) (sB []),
  sIf (tAnd (tB1 (e2 eqD (e2 ixD (eV 7) (eC (.int 0))) (eC (.int 2)))) (tNot (tV (eA (F_q_same) (eL [e2 ixD (eV 11) (eC (.int 1)), e2 ixD (eV 7) (eC (.int 1))]))))) (sB [sRet (eC (.bl false))]) (sB []),
  sIf (tB1 (e2 eqD (eA (F_q_take) (eL [eV 3, eC (.int 2)])) (eC (.int 1)))) (sB [sSet 6 (e2 ixD (eLst true (eL [e2 subD (eC (.int 0)) (eC (.int 1)), eV 5, e2 (addD true) (eV 5) (e2 powD (eC (.int 10)) (eC (.int 20))), e2 subD (eC (.int 0)) (e2 powD (eC (.int 10)) (eC (.int 20)))])) (eA (F_q_take) (eL [eV 3, eC (.int 4)]))),
    sSet 7 (eLst true (eL [eC (.int 1), eV 6]))]) (sB []),
  sFor (iR1 (eC (.int 2))) (gV 12) (sB [sSet 11 (eA (F_q_first) (eL [eV 0, eV 6, e2 ixD (eV 8) (eC (.int 0)), e2 ixD (eV 8) (eC (.int 1))])),
    sIf (tOr (tB1 (e2 neD (e2 ixD (eV 11) (eC (.int 0))) (e2 ixD (eV 7) (eC (.int 0))))) (tNot (tV (e2 ixD (eV 11) (eC (.int 2)))))) (sB [sRet (eC (.bl false))]) (sB []),
    sIf (tAnd (tB1 (e2 eqD (e2 ixD (eV 7) (eC (.int 0))) (eC (.int 2)))) (tNot (tV (eA (F_q_same) (eL [e2 ixD (eV 11) (eC (.int 1)), e2 ixD (eV 7) (eC (.int 1))]))))) (sB [sRet (eC (.bl false))]) (sB []),
    sIf (tAnd (tB1 (e2 eqD (e2 ixD (eV 7) (eC (.int 0))) (eC (.int 1)))) (tNot (tV (eA (F_q_same) (eL [eTup (eL [e2 ixD (eV 11) (eC (.int 1))]), eLst true (eL [eV 6])]))))) (sB [sRet (eC (.bl false))]) (sB []),
    sIf (tAnd (tB1 (e2 eqD (e2 ixD (eV 7) (eC (.int 0))) (eC (.int 0)))) (tNot (tV (eA (F_q_same) (eL [eTup (eL [e2 ixD (eV 11) (eC (.int 1))]), eLst true (eL [eA (F_q_unlike) (eL [eV 1, eV 6, e2 ixD (eV 4) (eC (.int 0)), e2 ixD (eV 4) (eC (.int 1))])])]))))) (sB [sRet (eC (.bl false))]) (sB [])]),
  sRet (eC (.bl true))]
def F_q_refuses_v6 : AF := fnT 5 13 b_q_refuses_v6
/- _law_values: _law_tape_here, _law_one, _law_two, _law_amount, _law_kind, _law_due, _law_told, _law_k, _law_sum_due -/
def b_q_values : AS := sB [sSet 1 (eA (F_q_value) (eL [eV 0, eC (.int 3)])),
  sSet 2 (eA (F_q_value) (eL [eV 0, eC (.int 3)])),
  sSet 3 (eA (F_q_value) (eL [eV 0, eC (.int 3)])),
  sFor (iS (eLst true (eL [eC (.str [117, 112]), eC (.str [100, 111, 119, 110]), eC (.str [102, 105, 114, 115, 116]), eC (.str [108, 97, 115, 116])]))) (gV 4) (sB [sSet 5 (eLst true (eL [eOr (eAnd (e2 eqD (eV 4) (eC (.str [117, 112]))) (e2 gtD (eV 1) (eV 2))) (eAnd (e2 eqD (eV 4) (eC (.str [100, 111, 119, 110]))) (e2 ltD (eV 1) (eV 2))), eC (.bl false)])),
    sSet 6 (eLst true (eL [eA (F_better) (eL [eV 4, eV 1, eV 2]), eA (F_better) (eL [eV 4, eV 1, eV 1])])),
    sFor (iR1 (eC (.int 2))) (gV 7) (sB [sIf (tOr (tNot (tV (e1 (isTy "bool") (e2 ixD (eV 6) (eV 7))))) (tB1 (e2 neD (e2 ixD (eV 6) (eV 7)) (e2 ixD (eV 5) (eV 7))))) (sB [sRet (eC (.bl false))]) (sB [])]),
    sSet 8 (e2 (addD true) (eV 1) (eV 3)),
    sIf (tB1 (e2 eqD (eV 4) (eC (.str [100, 111, 119, 110])))) (sB [sSet 8 (e2 subD (eV 1) (eV 3))]) (sB []),
    sIf (tNot (tV (eA (F_q_same) (eL [eTup (eL [eA (F_raised) (eL [eV 4, eV 1, eV 3])]), eLst true (eL [eV 8])])))) (sB [sRet (eC (.bl false))]) (sB [])]),
  sRet (eC (.bl true))]
def F_q_values : AF := fnT 1 9 b_q_values
/- law: _law_script, _law_sizes, _law_n, _law_shapes, _law_k, _law_parents_here, _law_older, _law_newer, _law_alike, _law_path_here, _law_row, _law_place, _law_forests, _law_shape, _law_pair, _law_tape_here -/
def b_law_k07 : AS := sB [sSet 1 (eA (F_q_tape) (eL [eV 0, eC (.int 0)])),
  sSet 2 (e2 (addD true) (eC (.int 1)) (eA (F_q_take) (eL [eV 1, eC (.int 6)]))),
  sIf (tB1 (e2 eqD (eA (F_q_take) (eL [eV 1, eC (.int 8)])) (eC (.int 0)))) (sB [sSet 2 (e2 (addD true) (eC (.int 7)) (eA (F_q_take) (eL [eV 1, eC (.int 2)])))]) (sB []),
  sSet 3 (eLst false (eL [])),
  sFor (iR1 (eC (.int 2))) (gV 4) (sB [sSet 5 (eA (F_q_parents) (eL [eV 1, eV 2])),
    sE (eM isLst (mt1 appendD) (eV 3) (eL [eLst true (eL [eV 5, eA (F_q_kinds) (eL [eA (F_q_tape) (eL [eV 0, e2 (addD true) (eC (.int 1)) (e2 (mulD true) (eC (.int 3)) (eV 4))]), eV 5, eC (.bl false)])])]))]),
  sSet 6 (eA (F_q_record) (eL [eA (F_q_tape) (eL [eV 0, eC (.int 2)]), eV 2, eC (.int 3)])),
  sSet 7 (eA (F_q_record) (eL [eA (F_q_tape) (eL [eV 0, eC (.int 3)]), eV 2, eC (.int 3)])),
  sSet 8 (eA (F_q_take) (eL [eV 1, eC (.int 6)])),
  sIf (tB1 (e2 ltD (eV 8) (eC (.int 2)))) (sB [sSet 9 (eA (F_q_path) (eL [e2 ixD (e2 ixD (eV 3) (eC (.int 0))) (eC (.int 0)), eA (F_q_take) (eL [eV 1, eV 2])])),
    sSet 10 (eA (on1 (listD false)) (eL [eV 7])),
    sFor (iS (eSl true (eV 9) (oN) (oS (e2 subD (eA (on1 lenD) (eL [eV 9])) (eV 8))))) (gV 11) (sB [sSub setIxD (eV 10) (eV 11) (e2 ixD (eV 6) (eV 11))]),
    sSet 7 (eA (on1 tupD) (eL [eV 10]))]) (sB []),
  sSet 12 (eLC true [13] (iS (eV 3)) (gV 13) (tYes) (eA (mkI "Forest" true (F_Forest_init)) (eL [eA (on1 (listD true)) (eL [e2 ixD (eV 13) (eC (.int 0))]), eA (on1 (listD true)) (eL [e2 ixD (eV 13) (eC (.int 1))])]))),
  sFor (iS (eLst true (eL [eLst true (eL [eV 6, eV 7]), eLst true (eL [eV 7, eV 6]), eLst true (eL [eV 6, eV 6]), eLst true (eL [eV 6, eV 7])]))) (gV 14) (sB [sFor (iR1 (eC (.int 2))) (gV 4) (sB [sIf (tNot (tV (eA (F_q_answers_v4) (eL [e2 ixD (eV 12) (eV 4), e2 ixD (e2 ixD (eV 3) (eV 4)) (eC (.int 0)), e2 ixD (e2 ixD (eV 3) (eV 4)) (eC (.int 1)), e2 ixD (eV 14) (eC (.int 0)), e2 ixD (eV 14) (eC (.int 1))])))) (sB [sRet (eC (.bl false))]) (sB [])])]),
  sSet 15 (eA (F_q_tape) (eL [eV 0, eC (.int 5)])),
  sFor (iR1 (eC (.int 2))) (gV 4) (sB [sIf (tNot (tV (eA (F_q_refuses_v6) (eL [e2 ixD (eV 12) (eV 4), e2 ixD (e2 ixD (eV 3) (eV 4)) (eC (.int 0)), e2 ixD (e2 ixD (eV 3) (eV 4)) (eC (.int 1)), eV 15, eLst true (eL [eV 6, eV 7])])))) (sB [sRet (eC (.bl false))]) (sB []),
    sIf (tNot (tV (eA (F_q_answers_v4) (eL [e2 ixD (eV 12) (eV 4), e2 ixD (e2 ixD (eV 3) (eV 4)) (eC (.int 0)), e2 ixD (e2 ixD (eV 3) (eV 4)) (eC (.int 1)), eV 6, eV 7])))) (sB [sRet (eC (.bl false))]) (sB [])]),
  sRet (eA (F_q_values) (eL [eA (F_q_tape) (eL [eV 0, eC (.int 6)])]))]
def F_law_k07 : AF := fnT 1 16 b_law_k07
end Sm
end

section
set_option linter.all false
set_option maxRecDepth 10000
/-! Pa: the first unlike field, asked; several clauses in the plain. -/
namespace Sm
section
variable {e : Env} {h : AH} {d : D} {x : Ex} {cs : List Cl3}
@[simp] theorem sTryMs_def (cs : List Cl3) (b : AS) : sTryMs cs b e h = (b e h).bind (tryKs cs) := rfl
@[simp] theorem tryKs_nx : tryKs cs (.nx e) h = .ok (.nx e) h := rfl
@[simp] theorem tryKs_rt : tryKs cs (.rt d) h = .ok (.rt d) h := rfl
end
section
variable {ps : Par} {ks : List Kd} (g : Good ps ks)
include g
end
end Sm
end

section
set_option linter.all false
set_option maxRecDepth 10000
/-! Ch23: k53: below, ordered, bounds, distributes. -/
namespace Sm
section
variable {ps : Par} {ks : List Kd} (g : Good ps ks) (hw : ∀ p < ps.length, (kd ks p).end_ = false)
include g hw
end
end Sm
end

section
set_option linter.all false
set_option maxRecDepth 10000
/-! Ch24: k53: ordered, bounds, distributes, meets. -/
namespace Sm
def hwT {ps : Par} {ks : List Kd} (g : Good ps ks) : ∀ p < ps.length, (kd (ks.map tn) p).end_ = false := fun p hp => by
  have hk := g.len
  rw [kd_map tn ks (by omega)]
  cases kd ks p <;> rfl
section
variable {ps : Par} {ks : List Kd} (g : Good ps ks) (hw : ∀ p < ps.length, (kd ks p).end_ = false)
include g hw
end
end Sm
end

section
set_option linter.all false
set_option maxRecDepth 10000
/-! Ch25: k53: refusals. -/
namespace Sm
end Sm
end

section
set_option linter.all false
set_option maxRecDepth 10000
/-! Le: the letter laws' tools. -/
namespace Sm
def lv : Kd → Kd
  | .first => .up
  | .last => .down
  | k => k
def encKt (ks : List Kd) (i : Nat) : List D := encK ((ks.map lv).take i)
def raiV (k : Kd) (v w : Int) : Int := match k with
  | .down => v - w
  | _ => v + w
theorem ascending_ok {p : Nat → Bool} {n : Nat} (hn : n ≤ 1000) (h : AH) : F_q_is_ascending [.tup (((List.range n).filter p).map eN), .int n] h = .ok (.bl true) h := by
  have hl := range_len p n
  have hs : ((List.range n).filter p).Pairwise (· < ·) := List.pairwise_lt_range.filter _
  have hm : ∀ x ∈ (List.range n).filter p, x < n := fun x hx => List.mem_range.mp (List.mem_filter.mp hx).1
  generalize (List.range n).filter p = xs at hl hs hm
  refine fnT_x rfl ?_
  simp [b_q_is_ascending, envOf]
  refine wp_bind (for_w (I := fun i e k => (∃ (v : Int) (y : Option D), e = [some (.tup (xs.map eN)), some (.int n), some (.int v), y] ∧ ∀ x ∈ xs.drop i, v < x) ∧ k = h) ⟨⟨-1, none, rfl, fun x _ => by omega⟩, rfl⟩ ?_ ?_)
  · rintro i z e k hz ⟨⟨v, y, rfl, hv⟩, rfl⟩
    rw [List.getElem?_map] at hz
    cases hx : xs[i]? with
    | none => rw [hx] at hz; cases hz
    | some x =>
      rw [hx] at hz
      cases hz
      have hd : xs.drop i = x :: xs.drop (i + 1) := by
        obtain ⟨hi, he⟩ := List.getElem?_eq_some_iff.mp hx
        rw [← he]; exact List.drop_eq_getElem_cons hi
      have h1 : v < x := hv x (by rw [hd]; simp)
      have h2 := hm x (List.mem_of_getElem? hx)
      have h3 := is_int_ok (x : Int) k
      simp [h3, h1, h2]
      intro y hy
      have : (xs.drop i).Pairwise (· < ·) := hs.sublist (List.drop_sublist _ _)
      rw [hd, List.pairwise_cons] at this
      have := this.1 y hy
      omega
  · rintro e k ⟨⟨v, y, rfl, hv⟩, rfl⟩
    simp
end Sm
end

section
set_option linter.all false
set_option maxRecDepth 10000
/-! Lv: plain fields: what the end of a plain lot is. -/
namespace Sm
abbrev PR := List Int × List Int
def hp (ps : Par) : Option Nat → List Nat
  | none => []
  | some f => path ps f
def Ag (pa : List Nat) (r E : List Int) : Prop := ∀ p ∈ pa, rv r p = rv E p
/-- what stands in a plain field at the end E of the lot X -/
structure BV (X : List PR) (E : List Int) (pa : List Nat) (w : Nat) (c : Int) : Prop where
  ne : ∃ x ∈ X, Ag pa x.1 E
  is : (∀ x ∈ X, Ag pa x.1 E → rv x.2 w = c) ∨ (c = 0 ∧ ∃ x ∈ X, ∃ y ∈ X, Ag pa x.1 E ∧ Ag pa y.1 E ∧ rv x.2 w ≠ rv y.2 w)
theorem BV.congr {X Y : List PR} {E : List Int} {pa : List Nat} {w : Nat} {c : Int} (h : BV X E pa w c) (e : ∀ x, x ∈ X ↔ x ∈ Y) : BV Y E pa w c := by
  obtain ⟨x, hx, ax⟩ := h.ne
  refine ⟨⟨x, (e x).mp hx, ax⟩, ?_⟩
  rcases h.is with h1 | ⟨h1, u, hu, v, hv, au, av, huv⟩
  · exact .inl fun y hy ay => h1 y ((e y).mpr hy) ay
  · exact .inr ⟨h1, u, (e u).mp hu, v, (e v).mp hv, au, av, huv⟩
theorem BV.ag {X : List PR} {E F : List Int} {pa : List Nat} {w : Nat} {c : Int} (h : BV X E pa w c) (e : Ag pa E F) : BV X F pa w c := by
  have f : ∀ r, Ag pa r E ↔ Ag pa r F := fun r => ⟨fun q p hp => (q p hp).trans (e p hp), fun q p hp => (q p hp).trans (e p hp).symm⟩
  obtain ⟨x, hx, ax⟩ := h.ne
  refine ⟨⟨x, hx, (f _).mp ax⟩, ?_⟩
  rcases h.is with h1 | ⟨h1, u, hu, v, hv, au, av, huv⟩
  · exact .inl fun y hy ay => h1 y hy ((f _).mpr ay)
  · exact .inr ⟨h1, u, hu, v, hv, (f _).mp au, (f _).mp av, huv⟩
/-- only the one lot bears it -/
theorem BV.left {X Y : List PR} {E : List Int} {pa : List Nat} {w : Nat} {c : Int} (h : BV X E pa w c) (no : ∀ y ∈ Y, ¬ Ag pa y.1 E) : BV (X ++ Y) E pa w c := by
  obtain ⟨x, hx, ax⟩ := h.ne
  refine ⟨⟨x, List.mem_append_left _ hx, ax⟩, ?_⟩
  rcases h.is with h1 | ⟨h1, u, hu, v, hv, au, av, huv⟩
  · exact .inl fun z hz az => (List.mem_append.mp hz).elim (fun q => h1 z q az) fun q => absurd az (no z q)
  · exact .inr ⟨h1, u, List.mem_append_left _ hu, v, List.mem_append_left _ hv, au, av, huv⟩
theorem BV.right {X Y : List PR} {E : List Int} {pa : List Nat} {w : Nat} {c : Int} (h : BV Y E pa w c) (no : ∀ y ∈ X, ¬ Ag pa y.1 E) : BV (X ++ Y) E pa w c :=
  (h.left no).congr fun x => by simp [or_comm]
def pvV (ps : Par) (ks : List Kd) (g : Option Nat) (a b : PR) (w : Nat) : Int := if rv a.2 w = rv b.2 w then rv a.2 w else match g with
  | none => 0
  | some f => match fu (path ps f) (rec a.1) (rec b.1) with
    | none => 0
    | some p => if bet (kd ks p) (rv a.1 p) (rv b.1 p) then rv a.2 w else rv b.2 w
def hg (hs : List (Option Nat)) (w : Nat) : Option Nat := (hs[w]?).join
def mgV (ps : Par) (ks : List Kd) (hs : List (Option Nat)) (a b : PR) : PR := (mrg ps ks a.1 b.1, (List.range hs.length).map fun w => pvV ps ks (hg hs w) a b w)
structure PChar (ps : Par) (ks : List Kd) (hs : List (Option Nat)) (X : List PR) (E : PR) : Prop where
  c : Char ps ks (X.map (·.1)) E.1
  len : E.2.length = hs.length
  v : ∀ w < hs.length, BV X E.1 (hp ps (hg hs w)) w (rv E.2 w)
section
variable {ps : Par} {ks : List Kd} {hs : List (Option Nat)} (ac : Acy ps)
include ac
theorem PChar.congr {X Y : List PR} {E : PR} (h : PChar ps ks hs X E) (e : ∀ x, x ∈ X ↔ x ∈ Y) : PChar ps ks hs Y E :=
  ⟨h.c.congr ac fun r => by simp only [List.mem_map]; exact ⟨fun ⟨x, h1, h2⟩ => ⟨x, (e x).mp h1, h2⟩, fun ⟨x, h1, h2⟩ => ⟨x, (e x).mpr h1, h2⟩⟩, h.len, fun w hw => (h.v w hw).congr e⟩
theorem PChar.one {x : PR} (h1 : x.1.length = ps.length) (h2 : x.2.length = hs.length) : PChar ps ks hs [x] x :=
  ⟨Char.one ac h1, h2, fun w hw => ⟨⟨x, by simp, fun _ _ => rfl⟩, .inl fun y hy _ => by simp at hy; rw [hy]⟩⟩
variable (hw : ∀ p < ps.length, (kd ks p).end_ = false) (hh : ∀ f, some f ∈ hs → f < ps.length)
include hw hh
end
end Sm
end

section
set_option linter.all false
set_option maxRecDepth 10000
/-! Lf: firm fields (k59), the program's side. -/
namespace Sm
def firmB (ps : Par) (ks : List Kd) (a b : List Int) (f : Nat) : Bool := match fu (path ps f) (rec a) (rec b) with
  | none => true
  | some p => bet (kd ks p) (rv a p) (rv b p)
section
variable {ps : Par} {ks : List Kd} (g : Good ps ks) {a b : List Int} (la : a.length = ps.length) (lb : b.length = ps.length) {h : AH}
include g la lb
end
def firmL (ps : Par) (ks : List Kd) (a b : List Int) : List Nat := (List.range ps.length).filter (firmB ps ks a b)
def mdue (ks : List Kd) (a b : List Int) (i : Int) : Option BDue := match ldue ks [a, b] with
  | some d => some d
  | none => if 0 ≤ i ∧ i < ks.length then none else some (.pl i)
def movL (ks : List Kd) (a b : List Int) (f : Nat) : List Int := if rv a f = rv b f then b.set f (raiV (kd ks f) (rv b f) (-1)) else b
def ansD (r : Option BDue) (v : D) : D := match r with
  | none => .lst [v]
  | some d => .tup [encB d]
def resB (r : Option BDue) (v : D) (h : AH) : R D := match r with
  | none => .ok v h
  | some d => .exc (exB d) h
end Sm
end

section
set_option linter.all false
set_option maxRecDepth 10000
/-! Lg: firm fields, the law's side. -/
namespace Sm
section
variable {ps : Par} {ks : List Kd} (g : Good ps ks) (hw : ∀ p < ps.length, (kd ks p).end_ = false)
include g hw
end
def stepV (k : Kd) (a b : Int) : Int := if a = b then 0 else if adj k a < adj k b then 1 else -1
end Sm
end

section
set_option linter.all false
set_option maxRecDepth 10000
/-! Lh: firm fields: moves, stay firm, holds. -/
namespace Sm
section
variable {ps : Par} {ks : List Kd} (g : Good ps ks) (hw : ∀ p < ps.length, (kd ks p).end_ = false) {a b : List Int} (la : a.length = ps.length) (lb : b.length = ps.length)
include g hw la lb
omit g hw la in
@[simp] theorem mov_len (f : Nat) : (movL ks a b f).length = ps.length := by
  unfold movL
  split <;> simp [lb]
end
end Sm
end

section
set_option linter.all false
set_option maxRecDepth 10000
/-! Li: firm fields: stay firm, holds. -/
namespace Sm
def Within (ps : Par) (ks : List Kd) (b L : List Int) : Prop := L.length = ps.length ∧ ∀ p < ps.length, adj (kd ks p) (rv L p) ≤ adj (kd ks p) (rv b p)
section
variable {ps : Par} {ks : List Kd} (g : Good ps ks) (hw : ∀ p < ps.length, (kd ks p).end_ = false)
include g hw
end
end Sm
end

section
set_option linter.all false
set_option maxRecDepth 10000
/-! Lj: k59's questions. -/
namespace Sm
theorem frz_clo {h : AH} {n k : Nat} {d : D} (c : clo n d = true) : frzD h n k d = some d := by
  cases k with
  | zero => unfold frzD; rw [c]; rfl
  | succ k => unfold frzD; rw [c]; rfl
def shiftL (ks : List Kd) (b : List Int) (st : List Int) : List Int := (List.range ks.length).map fun f => raiV (kd ks f) (rv b f) (rv st f)
@[simp] theorem shiftL_len (ks : List Kd) (b st : List Int) : (shiftL ks b st).length = ks.length := by simp [shiftL]
def e30 : Int := 1000000000000000000000000000000
end Sm
end

section
set_option linter.all false
set_option maxRecDepth 10000
/-! Lk: least letters (k58), the program's side. -/
namespace Sm
/-- b wins over a -/
def winE (ps : Par) (ks : List Kd) (a b : List Int) (f : Nat) : Bool := winsB ps ks f (rec b) (rec a)
section
variable {ps : Par} {ks : List Kd} (g : Good ps ks)
include g
omit g in
def winL (ps : Par) (ks : List Kd) (a b : List Int) : List Nat := (List.range ps.length).filter (winE ps ks a b)
omit g in
def inLet (ps : Par) (ws : List Nat) (f : Nat) : Bool := ws.any fun w => decide (f ∈ path ps w)
omit g in
def leastL (ps : Par) (ks : List Kd) (a b : List Int) : Let := (List.range ps.length).map fun f => if inLet ps (winL ps ks a b) f then some (rv b f) else none
omit g in
@[simp] theorem leastL_len (a b : List Int) : (leastL ps ks a b).length = ps.length := by simp [leastL]
end
end Sm
end

section
set_option linter.all false
set_option maxRecDepth 10000
/-! Lw: plain lots: the program. -/
namespace Sm
def eP (x : PR) : D := .tup [eR x.1, eR x.2]
@[simp] theorem clo_eP (n : Nat) (x : PR) : clo n (eP x) = true := by simp [eP]
@[simp] theorem nloc_eP (x : PR) : nloc (eP x) = true := rfl
@[simp] theorem eP_0 (x : PR) (h : AH) : ixD (eP x) (.int 0) h = .ok (eR x.1) h := by simp [eP]
@[simp] theorem eP_1 (x : PR) (h : AH) : ixD (eP x) (.int 1) h = .ok (eR x.2) h := by simp [eP]
def okP (ps : Par) (hs : List (Option Nat)) (x : PR) : Prop := x.1.length = ps.length ∧ x.2.length = hs.length
section
variable {ps : Par} {ks : List Kd} {hs : List (Option Nat)} (g : Good ps ks) (hw : ∀ p < ps.length, (kd ks p).end_ = false) (hh : ∀ f, some f ∈ hs → f < ps.length) (hm : hs.length ≤ 1000)
include g hw hh hm
def mgF (ps : Par) (ks : List Kd) (hs : List (Option Nat)) : List PR → PR
  | [] => ([], [])
  | x :: X => X.foldl (mgV ps ks hs) x
def plb (ps : Par) (ks : List Kd) (hs : List (Option Nat)) : D := .ins "PlainBook" ["forest", "hangs"] [fo ps ks, .tup (hs.map eO)]
@[simp] theorem nloc_plb (ps : Par) (ks : List Kd) (hs : List (Option Nat)) : nloc (plb ps ks hs) = true := rfl
end
end Sm
end

section
set_option linter.all false
set_option maxRecDepth 10000
/-! Lx: plain lots: the book, the law's own reckoning. -/
namespace Sm
def SeqP (h : AH) (P : D) (xs : List D) : Prop := P = .lst xs ∨ ∃ l, P = .loc l ∧ getL h l = some xs
theorem SeqP.i {h : AH} {P : D} {xs : List D} (s : SeqP h P xs) : SeqI h P xs := by
  rcases s with rfl | ⟨l, rfl, g⟩
  · exact SeqI.lst xs h
  · exact SeqI.loc g
theorem SeqP.cut {h : AH} {P : D} {xs : List D} (s : SeqP h P xs) (lo hi : Option Int) : slD true P lo hi h = .ok (.lst (cut xs lo hi)) h := by
  rcases s with rfl | ⟨l, rfl, g⟩
  · exact slT_lst xs lo hi h
  · exact sl_loc g lo hi
section
variable {ps : Par} {ks : List Kd} {hs : List (Option Nat)} (g : Good ps ks) (hw : ∀ p < ps.length, (kd ks p).end_ = false) (hh : ∀ f, some f ∈ hs → f < ps.length) (hm : hs.length ≤ 1000)
include g hw hh hm
/-! the law's own -/
end
end Sm
end

section
set_option linter.all false
set_option maxRecDepth 10000
/-! Ly: plain lots: merges that press a row, what is due. -/
namespace Sm
def agB (pa : List Nat) (r E : List Int) : Bool := decide (pa.map (rv r) = pa.map (rv E))
def bvs (X : List PR) (E : List Int) (pa : List Nat) (w : Nat) : List Int := (X.filter fun x => agB pa x.1 E).map fun x => rv x.2 w
def hdI (l : List Int) : Int := l.headD 0
def bvV (X : List PR) (E : List Int) (pa : List Nat) (w : Nat) : Int := if (bvs X E pa w).find? (fun v => !decide (v = hdI (bvs X E pa w))) = none then hdI (bvs X E pa w) else 0
def dueP (ps : Par) (ks : List Kd) (hs : List (Option Nat)) (X : List PR) : PR := (foldE ps ks (X.map (·.1)), (List.range hs.length).map fun w => bvV X (foldE ps ks (X.map (·.1))) (hp ps (hg hs w)) w)
section
variable {ps : Par} {ks : List Kd} {hs : List (Option Nat)} (g : Good ps ks) (hw : ∀ p < ps.length, (kd ks p).end_ = false) (hh : ∀ f, some f ∈ hs → f < ps.length) (hm : hs.length ≤ 1000)
include g hw hh hm
end
end Sm
end

section
set_option linter.all false
set_option maxRecDepth 10000
/-! Lz: plain lots: what is due, reckoned by the law. -/
namespace Sm
def unP : D → PR
  | .tup [a, b] => (unR a, unR b)
  | _ => ([], [])
@[simp] theorem unP_eP (x : PR) : unP (eP x) = x := by simp [unP, eP]
section
variable {ps : Par} {ks : List Kd} {hs : List (Option Nat)} (g : Good ps ks) (hw : ∀ p < ps.length, (kd ks p).end_ = false) (hh : ∀ f, some f ∈ hs → f < ps.length) (hm : hs.length ≤ 1000)
include g
include hw hh hm
theorem SeqP.app {h : AH} {R0 : D} {xs : List D} (sq : SeqP h R0 xs) (L : AH) : SeqP (h ++ L) R0 xs := by
  rcases sq with rfl | ⟨l, rfl, gl⟩
  · exact .inl rfl
  · exact .inr ⟨l, rfl, by
      have hl : l < h.length := by
        unfold getL at gl
        cases q : h[l]? with
        | none => rw [q] at gl; cases gl
        | some o => exact (List.getElem?_eq_some_iff.mp q).1
      rw [getL_old hl]; exact gl⟩
end
end Sm
end

section
set_option linter.all false
set_option maxRecDepth 10000
/-! Ma: plain lots: what the law draws. -/
namespace Sm
end Sm
end

section
set_option linter.all false
set_option maxRecDepth 10000
/-! Mb: plain lots: draws. -/
namespace Sm
end Sm
end

section
set_option linter.all false
set_option maxRecDepth 10000
/-! Mc: plain lots: looks, and rows pressed by the book. -/
namespace Sm
def atP (X : List PR) (i : Nat) : PR := X.getD i ([], [])
section
variable {ps : Par} {ks : List Kd} {hs : List (Option Nat)} (g : Good ps ks) (hw : ∀ p < ps.length, (kd ks p).end_ = false) (hh : ∀ f, some f ∈ hs → f < ps.length) (hm : hs.length ≤ 1000)
include g hw hh hm
end
end Sm
end

section
set_option linter.all false
set_option maxRecDepth 10000
/-! Rg: change, graft; what is due of them. -/
namespace Sm
def fltD : Option (Option Nat) → D
  | none => .tup []
  | some f => .tup [eO f]
@[simp] theorem clo_fltD (n : Nat) (o : Option (Option Nat)) : clo n (fltD o) = true := by cases o <;> simp [fltD]
@[simp] theorem nloc_fltD (o : Option (Option Nat)) : nloc (fltD o) = true := by cases o <;> rfl
end Sm
end

section
set_option linter.all false
set_option maxRecDepth 10000
/-! Rd: k05: drawn parents, spoilt ones, a refusal, a making. -/
namespace Sm
def bndX (X : List (Option Int)) : Prop := ∀ v : Int, some v ∈ X → v.natAbs ≤ 1000000000000000000000
theorem bndX.set {X : List (Option Int)} (b : bndX X) {i : Nat} {o : Option Int} (ho : ∀ v, o = some v → v.natAbs ≤ 1000000000000000000000) : bndX (X.set i o) := fun v hv => by
  rcases List.mem_or_eq_of_mem_set hv with h | h
  · exact b v h
  · exact ho v h.symm
theorem bndX.app {X : List (Option Int)} (b : bndX X) {o : Option Int} (ho : ∀ v, o = some v → v.natAbs ≤ 1000000000000000000000) : bndX (X ++ [o]) := fun v hv => by
  rcases List.mem_append.mp hv with h | h
  · exact b v h
  · simp at h; exact ho v h.symm
@[simp] theorem clos_mapOI (n : Nat) (X : List (Option Int)) : clos n (X.map encOI) = true := by rw [clos_all]; simp
end Sm
end

section
set_option linter.all false
set_option maxRecDepth 10000
/-! Re: k05: a refusal, a making. -/
namespace Sm
/-- a row that was given: a tuple, or a list object -/
def Row (h : AH) (d : D) (xs : List D) : Prop := d = .tup xs ∨ ∃ l, d = .loc l ∧ getL h l = some xs
theorem Row.a {h : AH} {d : D} {xs : List D} (r : Row h d xs) : SeqA h d xs := by
  rcases r with rfl | ⟨l, rfl, e⟩
  · exact (SeqD.t xs).a h
  · exact SeqA.loc e
theorem getL_lt {h : AH} {l : Nat} {xs : List D} (e : getL h l = some xs) : l < h.length := by
  unfold getL at e
  cases q : h[l]? with
  | none => rw [q] at e; cases e
  | some o => exact (List.getElem?_eq_some_iff.mp q).1
theorem Row.app {h : AH} {d : D} {xs : List D} (r : Row h d xs) (L : AH) : Row (h ++ L) d xs := by
  rcases r with rfl | ⟨l, rfl, e⟩
  · exact .inl rfl
  · exact .inr ⟨l, rfl, by rw [getL_old (getL_lt e)]; exact e⟩
def refD : Option (Option Nat) → D
  | none => .lst [.bl false, .non, .bl true]
  | some f => .lst [.bl true, eO f, .bl true]
section
variable {h : AH} {gl : Nat} {p q : D} {X : List (Option Int)} {ks : List Kd}
section
variable {h : AH}
end
def sLast : D := .str [108, 97, 115, 116]
def effL (xs : List D) : List D := (xs ++ [xs.headD .non]).set 0 sLast
def eff (h : AH) : D → AH
  | .loc l => match getL h l with
    | some xs => h.set l (.lst (effL xs))
    | none => h
  | _ => h
end
end Sm
end

section
set_option linter.all false
set_option maxRecDepth 10000
/-! Rh: change, graft; what is due of them. -/
namespace Sm
def sLet : D := .str [108, 101, 116]
def sFor_ : D := .str [102, 111, 114, 101, 115, 116]
def sPla : D := .str [112, 108, 97, 99, 101]
section
variable {ps : Par} {ks : List Kd} {p : Option Int} {k : Kd} {f : Nat}
/-- what the law is told: a forest, or a refusal -/
def chgD (X : List (Option Int)) (ks : List Kd) : D := match flt X ks with
  | none => .lst [sLet, fo (toP X) ks]
  | some e => .lst [sFor_, eO e, .bl true]
@[simp] theorem clo_chgD (n : Nat) (X : List (Option Int)) (ks : List Kd) : clo n (chgD X ks) = true := by
  unfold chgD; split <;> simp [sLet, sFor_]
@[simp] theorem nloc_chgD (X : List (Option Int)) (ks : List Kd) : nloc (chgD X ks) = true := by
  unfold chgD; split <;> rfl
/-! ### what is due -/
def dueV (X : List (Option Int)) (ks : List Kd) : D := match flt X ks with
  | none => .lst [sLet, .lst (X.map encOI), .lst (encK ks)]
  | some e => .lst [sFor_, eO e]
/-! ### the same forest -/
end
end Sm
end

section
set_option linter.all false
set_option maxRecDepth 10000
/-! Ri: new parents; which words stay. -/
namespace Sm
section
variable {ps qs : Par} {ks js : List Kd} {CH : D}
end
end Sm
end

section
set_option linter.all false
set_option maxRecDepth 10000
/-! Rm: change plans, made by the program and by the law. -/
namespace Sm
section
variable (ps qs : Par) (ks js : List Kd)
def earI (i : Nat) : List (Int × Int) := ((List.range i).filter fun f => decide (diff ps qs ks js f) && !(kd js f).end_).map fun (f : Nat) => (((path qs f).length : Int), (f : Int))
def latI (i : Nat) : List (Int × Int) := ((List.range i).filter fun f => decide (diff ps qs ks js f) && (kd js f).end_).map fun (f : Nat) => (-((path ps f).length : Int), (f : Int))
def planD : List D := (planT ps qs ks js).map fun (f : Nat) => .tup [.int f, eO (par qs f), eK (kd js f)]
end
section
variable {ps qs : Par} {ks js : List Kd}
end
end Sm
end

section
set_option linter.all false
set_option maxRecDepth 10000
/-! Rn: what the law k62 is told of plans; the steps. -/
namespace Sm
def sDif : D := .str [100, 105, 102, 102, 101, 114]
section
variable {ps qs : Par} {ks js : List Kd}
end
end Sm
end

section
set_option linter.all false
set_option maxRecDepth 10000
/-! Ro: the steps of a plan, one after the other. -/
namespace Sm
def opI (p : Option Nat) : Option Int := p.map Int.ofNat
section
variable {ps qs : Par} {ks js : List Kd}
def alikeL (ps qs : Par) (ks js : List Kd) : List Nat := (List.range ps.length).filter fun x => decide (wordD ps ks x = wordD qs js x)
def wordsL (ps : Par) (ks : List Kd) : List D := (List.range ps.length).map fun x => .tup (wordD ps ks x)
end
end Sm
end

section
set_option linter.all false
set_option maxRecDepth 10000
/-! Rp: k62: a second forest, near or far. -/
namespace Sm
/-- a list: a value, or an object made since b -/
def NewL (b : Nat) (h : AH) (d : D) (xs : List D) : Prop := d = .lst xs ∨ ∃ l, d = .loc l ∧ b ≤ l ∧ getL h l = some xs
theorem NewL.a {b : Nat} {h : AH} {d : D} {xs : List D} (r : NewL b h d xs) : SeqA h d xs := by
  rcases r with rfl | ⟨l, rfl, _, e⟩
  · exact (SeqD.l xs).a h
  · exact SeqA.loc e
theorem NewL.app {b : Nat} {h : AH} {d : D} {xs : List D} (r : NewL b h d xs) (L : AH) : NewL b (h ++ L) d xs := by
  rcases r with rfl | ⟨l, rfl, b1, e⟩
  · exact .inl rfl
  · exact .inr ⟨l, rfl, b1, by rw [getL_old (getL_lt e)]; exact e⟩
theorem NewL.set {b : Nat} {h : AH} {d : D} {xs : List D} (r : NewL b h d xs) {l : Nat} (hl : l < b) (o : AO) : NewL b (h.set l o) d xs := by
  rcases r with rfl | ⟨m, rfl, b1, e⟩
  · exact .inl rfl
  · exact .inr ⟨m, rfl, b1, by rw [getL_set_ne (by omega)]; exact e⟩
theorem NewL.frz {n k : Nat} {h : AH} {d : D} {xs : List D} (r : NewL n h d xs) (hc : clos n xs = true) : frzD h n (k + 1) d = some (.lst xs) := by
  rcases r with rfl | ⟨l, rfl, b1, e⟩
  · exact frz_clo (by rw [clo_lst]; exact hc)
  · exact frz_loc1 b1 e hc
end Sm
end

section
set_option linter.all false
set_option maxRecDepth 10000
/-! Tb: ways, words over live lists; what is a shape. -/
namespace Sm
/-- a list that stays -/
def SeqX (h : AH) (P : D) (xs : List D) : Prop := P = .lst xs ∨ ∃ l, P = .loc l ∧ getL h l = some xs
theorem SeqX.at {h h2 : AH} {P : D} {xs : List D} (s : SeqX h P xs) {L : AH} (e : h2 = h ++ L) : SeqA h2 P xs := by
  rcases s with rfl | ⟨l, rfl, q⟩
  · exact (SeqD.l xs).a h2
  · exact SeqA.loc (by rw [e, getL_old (getL_lt q)]; exact q)
theorem SeqX.self {h : AH} {P : D} {xs : List D} (s : SeqX h P xs) : SeqA h P xs := s.at (L := []) (by simp)
theorem SeqX.app {h : AH} {P : D} {xs : List D} (s : SeqX h P xs) (L : AH) : SeqX (h ++ L) P xs := by
  rcases s with rfl | ⟨l, rfl, q⟩
  · exact .inl rfl
  · exact .inr ⟨l, rfl, by rw [getL_old (getL_lt q)]; exact q⟩
def wrdL (ps : Par) (ks : List Kd) : List D := (List.range ps.length).map fun x => D.lst (wordD ps ks x)
@[simp] theorem wrdL_len (ps : Par) (ks : List Kd) : (wrdL ps ks).length = ps.length := by simp [wrdL]
@[simp] theorem clos_wordD (n : Nat) (ps : Par) (ks : List Kd) (x : Nat) : clos n (wordD ps ks x) = true := by
  rw [clos_all, List.all_eq_true]
  intro y hy
  obtain ⟨k, _, rfl⟩ := List.mem_map.mp hy
  simp
@[simp] theorem clos_wrdL (n : Nat) (ps : Par) (ks : List Kd) : clos n (wrdL ps ks) = true := by
  rw [clos_all, List.all_eq_true]
  intro y hy
  obtain ⟨k, _, rfl⟩ := List.mem_map.mp hy
  simp
/-! ### shapes -/
def shp (ps : Par) (ks : List Kd) : Bool := (List.range ps.length).all fun f => !(itr ps ps.length (some f)).isSome && !((kd ks f).end_ && decide (some f ∈ ps))
end Sm
end

section
set_option linter.all false
set_option maxRecDepth 10000
/-! Tc: k76: a second forest, near or far; the plan over tables. -/
namespace Sm
end Sm
end

section
set_option linter.all false
set_option maxRecDepth 10000
/-! Td: k76: the plan over tables. -/
namespace Sm
section
variable {ps qs : Par} {ks js : List Kd}
end
end Sm
end

section
set_option linter.all false
set_option maxRecDepth 10000
/-! Te: k76: forests as asked; fields that are unlike. -/
namespace Sm
inductive PlT : Nat → D → Prop where
  | non (k : Nat) : PlT k .non
  | int (k : Nat) (i : Int) : PlT k (.int i)
  | str (k : Nat) (s : List Nat) : PlT k (.str s)
  | tup (k : Nat) (xs : List D) : xs.length ≤ 1000000 → (∀ x ∈ xs, PlT k x) → PlT (k + 1) (.tup xs)
section
variable {ps qs : Par} {ks js : List Kd}
def unL (ps qs : Par) (ks js : List Kd) : List Nat := (List.range ps.length).filter fun x => !decide (wordD ps ks x = wordD qs js x)
end
end Sm
end

section
set_option linter.all false
/-! k60: plain computations (printed by gen2.py) -/
namespace Sm
/- _law_count: _law_tape_here -/
def b_q_count_v3 : AS := sB [sIf (tB1 (e2 eqD (eA (F_q_take) (eL [eV 0, eC (.int 8)])) (eC (.int 0)))) (sB [sRet (e2 (addD true) (eC (.int 7)) (eA (F_q_take) (eL [eV 0, eC (.int 14)])))]) (sB []),
  sRet (e2 (addD true) (eC (.int 1)) (eA (F_q_take) (eL [eV 0, eC (.int 6)])))]
def F_q_count_v3 : AF := fnT 1 1 b_q_count_v3
/- _law_is_due: _law_actual, _law_word_here, _law_value_here -/
def b_q_is_due_v2 : AS := sB [sIf (tOr (tB1 (e2 neD (e2 ixD (eV 0) (eC (.int 0))) (eV 1))) (tNot (tV (eA (F_q_same_v4 12) (eL [e2 ixD (eV 0) (eC (.int 1)), eV 2]))))) (sB [sRet (eC (.bl false))]) (sB []),
  sRet (eOr (e2 eqD (eV 1) (eC (.str [108, 101, 116]))) (e2 ixD (eV 0) (eC (.int 2))))]
def F_q_is_due_v2 : AF := fnT 3 3 b_q_is_due_v2
/- _law_mixed: _law_tape_here, _law_first, _law_second_here, _law_records, _law_row, _law_k, _law_place -/
def b_q_mixed_v2 : AS := sB [sSet 4 (eA (on1 (listD false)) (eL [eV 3])),
  sFor (iR1 (e2 subD (eA (on1 lenD) (eL [eV 3])) (eC (.int 1)))) (gV 5) (sB [sSet 6 (eA (F_q_take) (eL [eV 0, e2 subD (eA (on1 lenD) (eL [eV 4])) (eC (.int 1))])),
    sIf (tB1 (e2 eqD (eA (F_q_take) (eL [eV 0, eC (.int 2)])) (eC (.int 0)))) (sB [sSub setIxD (eV 4) (eV 6) (eCal [("Forest", F_Forest_call)] (eV 1) (eL [e2 ixD (eV 4) (eV 6), e2 ixD (eV 4) (e2 (addD true) (eV 6) (eC (.int 1)))]))]) (sB [sSub setIxD (eV 4) (eV 6) (eCal [("Forest", F_Forest_call)] (eV 2) (eL [e2 ixD (eV 4) (eV 6), e2 ixD (eV 4) (e2 (addD true) (eV 6) (eC (.int 1)))]))]),
    sIf (tNot (tV (eA (F_q_is_record) (eL [e2 ixD (eV 4) (eV 6), eA (on1 lenD) (eL [e2 ixD (eV 3) (eC (.int 0))])])))) (sB [sRet (eC .non)]) (sB []),
    sE (eM isLst (mt1 popAtD) (eV 4) (eL [e2 (addD true) (eV 6) (eC (.int 1))]))]),
  sRet (e2 ixD (eV 4) (eC (.int 0)))]
def F_q_mixed_v2 : AF := fnT 4 7 b_q_mixed_v2
/- choices_of: places, choices, place, choice -/
def b_choices_of : AS := sB [sSet 1 (eLst true (eL [eTup (eL [])])),
  sFor (iS (eV 0)) (gV 2) (sB [sSet 1 (e2 (addD true) (eV 1) (eLC true [3] (iS (eV 1)) (gV 3) (tYes) (e2 (addD true) (eV 3) (eTup (eL [eV 2])))))]),
  sRet (eV 1)]
def F_choices_of : AF := fnT 1 4 b_choices_of
/- marked_record: fields, ones, field -/
def b_marked_record : AS := sB [sRet (eA (on1 tupD) (eL [eLC true [2] (iR1 (eV 0)) (gV 2) (tYes) (eA (on1 intD) (eL [e2 inD (eV 2) (eV 1)]))]))]
def F_marked_record : AF := fnT 2 3 b_marked_record
/- pair_parts: first, second, field, pair -/
def b_pair_parts : AS := sB [sRet (e2 neD (e2 ixD (eCal [("Forest", F_Forest_call)] (eV 0) (eL [e2 ixD (eV 3) (eC (.int 0)), e2 ixD (eV 3) (eC (.int 1))])) (eV 2)) (e2 ixD (eCal [("Forest", F_Forest_call)] (eV 1) (eL [e2 ixD (eV 3) (eC (.int 0)), e2 ixD (eV 3) (eC (.int 1))])) (eV 2)))]
def F_pair_parts : AF := fnT 4 4 b_pair_parts
/- unlike_step: one, two, index -/
def b_unlike_step : AS := sB [sFor (iR1 (eA (on2 min2D) (eL [eA (on1 lenD) (eL [eV 0]), eA (on1 lenD) (eL [eV 1])]))) (gV 2) (sB [sIf (tB1 (e2 neD (e2 ixD (eV 0) (eV 2)) (e2 ixD (eV 1) (eV 2)))) (sB [sRet (eV 2)]) (sB [])]),
  sRet (eC .non)]
def F_unlike_step : AF := fnT 2 3 b_unlike_step
/- parting_pair: first, second, field, index, unlike, ones, others, place, pair -/
def b_parting_pair : AS := sB [sE (eA (F_check_same_fields) (eL [eV 0, eV 1])),
  sE (eA (F_check_place) (eL [e1 (fldD ["Forest"] "fields") (eV 0), eV 2])),
  sSet 3 (eA (F_unlike_step) (eL [eMth [("Forest", F_Forest_word)] "word" (eV 0) (eL [eV 2]), eMth [("Forest", F_Forest_word)] "word" (eV 1) (eL [eV 2])])),
  sIf (tB1 (e1 isNonD (eV 3))) (sB [sRet (eC .non)]) (sB []),
  sSet 4 (eTup (eL [e2 ixD (eMth [("Forest", F_Forest_path)] "path" (eV 0) (eL [eV 2])) (eV 3), e2 ixD (eMth [("Forest", F_Forest_path)] "path" (eV 1) (eL [eV 2])) (eV 3), eV 2])),
  sFor (iS (eA (F_choices_of) (eL [eV 4]))) (gV 5) (sB [sSet 6 (eLC true [7] (iS (eV 4)) (gV 7) (tB1 (e2 notInD (eV 7) (eV 5))) (eV 7)),
    sSet 8 (eTup (eL [eA (F_marked_record) (eL [e1 (fldD ["Forest"] "fields") (eV 0), eV 5]), eA (F_marked_record) (eL [e1 (fldD ["Forest"] "fields") (eV 0), eV 6])])),
    sIf (tV (eA (F_pair_parts) (eL [eV 0, eV 1, eV 2, eV 8]))) (sB [sRet (eV 8)]) (sB [])]),
  sRet (eC .non)]
def F_parting_pair : AF := fnT 3 9 b_parting_pair
/- _law_pair: _law_first, _law_second_here, _law_field, _law_actual, e, _law_alone -/
def b_q_pair_v3 : AS := sB [sTryMs [([("BadRecord", false), ("BadForest", false), ("FieldsDiffer", true), ("BadPlace", false), ("Marked", false)], 4, fun x => sB [sSet 5 (eAnd (eXis x [("FieldsDiffer", true)]) (eXis x [("FieldsDiffer", true)])),
    sRet (eLst true (eL [eC (.str [100, 105, 102, 102, 101, 114]), eTup (eL [eXf ["FieldsDiffer"] x "first", eXf ["FieldsDiffer"] x "second"]), eAnd (eV 5) (e1 notD (eXis x [("FieldsDiffer", false)]))]))]), ([("BadRecord", false), ("BadForest", false), ("FieldsDiffer", false), ("BadPlace", true), ("Marked", true)], 4, fun x => sB [sSet 5 (eAnd (eXis x [("BadPlace", true), ("Marked", true)]) (eXis x [("BadPlace", true), ("Marked", true)])),
    sRet (eLst true (eL [eC (.str [112, 108, 97, 99, 101]), eXf ["BadPlace", "Marked"] x "place", eAnd (eV 5) (e1 notD (eXis x [("BadPlace", false), ("Marked", true)]))]))])] (sB [sSet 3 (eA (F_parting_pair) (eL [eV 0, eV 1, eV 2]))]),
  sRet (eLst true (eL [eC (.str [108, 101, 116]), eV 3]))]
def F_q_pair_v3 : AF := fnT 3 6 b_q_pair_v3
/- _law_pair_parts: _law_actual, _law_one, _law_two, _law_field, _law_n, _law_record_here, _law_value_here, _law_side_here, _law_other -/
def b_q_pair_parts : AS := sB [sSet 4 (eA (on1 lenD) (eL [e2 ixD (eV 1) (eC (.int 0))])),
  sIf (tOr (tNot (tV (e1 (isTy "tuple") (eV 0)))) (tB1 (e2 neD (eA (on1 lenD) (eL [eV 0])) (eC (.int 2))))) (sB [sRet (eC (.bl false))]) (sB []),
  sFor (iS (eV 0)) (gV 5) (sB [sIf (tNot (tV (eA (F_q_is_record) (eL [eV 5, eV 4])))) (sB [sRet (eC (.bl false))]) (sB []),
    sFor (iS (eV 5)) (gV 6) (sB [sIf (tB1 (e2 notInD (eV 6) (eLst true (eL [eC (.int 0), eC (.int 1)])))) (sB [sRet (eC (.bl false))]) (sB [])])]),
  sSet 7 (eA (F_q_side) (eL [e2 ixD (eV 1) (eC (.int 0)), e2 ixD (eV 1) (eC (.int 1)), eV 3, e2 ixD (eV 0) (eC (.int 0)), e2 ixD (eV 0) (eC (.int 1))])),
  sSet 8 (eA (F_q_side) (eL [e2 ixD (eV 2) (eC (.int 0)), e2 ixD (eV 2) (eC (.int 1)), eV 3, e2 ixD (eV 0) (eC (.int 0)), e2 ixD (eV 0) (eC (.int 1))])),
  sRet (eAnd (e2 neD (eV 7) (eV 8)) (e2 neD (e2 ixD (e2 ixD (eV 0) (eC (.int 0))) (eV 3)) (e2 ixD (e2 ixD (eV 0) (eC (.int 1))) (eV 3))))]
def F_q_pair_parts : AF := fnT 4 9 b_q_pair_parts
/- _law_pairs_right: _law_first, _law_second_here, _law_one, _law_two, _law_unlike_here, _law_field, _law_pair_here -/
def b_q_pairs_right : AS := sB [sFor (iR1 (eA (on1 lenD) (eL [e2 ixD (eV 2) (eC (.int 0))]))) (gV 5) (sB [sSet 6 (eA (F_q_pair_v3) (eL [eV 0, eV 1, eV 5])),
    sIf (tB1 (e2 neD (e2 ixD (eV 6) (eC (.int 0))) (eC (.str [108, 101, 116])))) (sB [sRet (eC (.bl false))]) (sB []),
    sIf (tAnd (tB1 (e2 notInD (eV 5) (eV 4))) (tB1 (e1 notNonD (e2 ixD (eV 6) (eC (.int 1)))))) (sB [sRet (eC (.bl false))]) (sB []),
    sIf (tAnd (tB1 (e2 inD (eV 5) (eV 4))) (tNot (tV (eA (F_q_pair_parts) (eL [e2 ixD (eV 6) (eC (.int 1)), eV 2, eV 3, eV 5]))))) (sB [sRet (eC (.bl false))]) (sB []),
    sIf (tB1 (e2 neD (eA (on1 reprD) (eL [eA (F_q_pair_v3) (eL [eV 0, eV 1, eV 5])])) (eA (on1 reprD) (eL [eV 6])))) (sB [sRet (eC (.bl false))]) (sB [])]),
  sRet (eC (.bl true))]
def F_q_pairs_right : AF := fnT 5 7 b_q_pairs_right
/- _law_unlike: _law_first, _law_second_here, _law_actual, e, _law_alone -/
def b_q_unlike_v2 : AS := sB [sTryAs [("BadRecord", false), ("BadForest", false), ("FieldsDiffer", true), ("BadPlace", false), ("Marked", false)] 3 (sB [sSet 2 (eA (F_unlike_fields) (eL [eV 0, eV 1]))]) (fun x => sB [sSet 4 (eAnd (eXis x [("FieldsDiffer", true)]) (eXis x [("FieldsDiffer", true)])),
    sRet (eLst true (eL [eC (.str [100, 105, 102, 102, 101, 114]), eTup (eL [eXf ["FieldsDiffer"] x "first", eXf ["FieldsDiffer"] x "second"]), eAnd (eV 4) (e1 notD (eXis x [("FieldsDiffer", false)]))]))]),
  sRet (eLst true (eL [eC (.str [108, 101, 116]), eV 2]))]
def F_q_unlike_v2 : AF := fnT 2 5 b_q_unlike_v2
/- _law_refusals_right: _law_first, _law_second_here, _law_third, _law_n, _law_other, _law_field, _law_differ, _law_place -/
def b_q_refusals_right : AS := sB [sSet 6 (eLst true (eL [eTup (eL [eV 3, eV 4]), eTup (eL [eV 4, eV 3])])),
  sIf (tNot (tV (eA (F_q_is_due_v2) (eL [eA (F_q_unlike_v2) (eL [eV 0, eV 2]), eC (.str [100, 105, 102, 102, 101, 114]), e2 ixD (eV 6) (eC (.int 0))])))) (sB [sRet (eC (.bl false))]) (sB []),
  sIf (tNot (tV (eA (F_q_is_due_v2) (eL [eA (F_q_unlike_v2) (eL [eV 2, eV 0]), eC (.str [100, 105, 102, 102, 101, 114]), e2 ixD (eV 6) (eC (.int 1))])))) (sB [sRet (eC (.bl false))]) (sB []),
  sFor (iS (eLst true (eL [e2 subD (eC (.int 0)) (eC (.int 1)), eV 3, eV 5]))) (gV 7) (sB [sIf (tNot (tV (eA (F_q_is_due_v2) (eL [eA (F_q_pair_v3) (eL [eV 0, eV 2, eV 7]), eC (.str [100, 105, 102, 102, 101, 114]), e2 ixD (eV 6) (eC (.int 0))])))) (sB [sRet (eC (.bl false))]) (sB [])]),
  sFor (iS (eLst true (eL [e2 subD (eC (.int 0)) (eC (.int 1)), eV 3, e2 subD (eC (.int 0)) (eV 3), e2 (addD true) (eV 3) (eC (.int 1)), e2 subD (e2 subD (eC (.int 0)) (eV 3)) (eC (.int 1)), e2 powD (eC (.int 10)) (eC (.int 20)), e2 subD (eC (.int 0)) (eC (.int 1))]))) (gV 7) (sB [sIf (tNot (tV (eA (F_q_is_due_v2) (eL [eA (F_q_pair_v3) (eL [eV 0, eV 1, eV 7]), eC (.str [112, 108, 97, 99, 101]), eV 7])))) (sB [sRet (eC (.bl false))]) (sB [])]),
  sRet (eA (F_q_is_due_v2) (eL [eA (F_q_pair_v3) (eL [eV 2, eV 0, eV 5]), eC (.str [100, 105, 102, 102, 101, 114]), e2 ixD (eV 6) (eC (.int 1))]))]
def F_q_refusals_right : AF := fnT 6 8 b_q_refusals_right
/- _law_near: _law_tape_here, _law_parents_here, _law_kinds_here, _law_n, _law_near_here, _law_k, _law_field, _law_pick, _law_moved, _law_turned_here -/
def b_q_near_v4 : AS := sB [sSet 3 (eA (on1 lenD) (eL [eV 1])),
  sSet 4 (eLst true (eL [eA (on1 (listD true)) (eL [eV 1]), eA (on1 (listD true)) (eL [eV 2])])),
  sFor (iR1 (e2 (addD true) (eC (.int 1)) (eA (F_q_take) (eL [eV 0, eC (.int 3)])))) (gV 5) (sB [sSet 6 (eA (F_q_take) (eL [eV 0, eV 3])),
    sSet 7 (eA (F_q_take) (eL [eV 0, e2 (addD true) (e2 (mulD true) (eC (.int 2)) (eV 3)) (eC (.int 2))])),
    sSet 8 (eA (on1 (listD false)) (eL [e2 ixD (eV 4) (eC (.int 0))])),
    sIf (tB1 (e2 ltD (eV 7) (eV 3))) (sB [sSub setIxD (eV 8) (eV 6) (eV 7)]) (sB []),
    sIf (tB1 (e2 eqD (eV 7) (eV 3))) (sB [sSub setIxD (eV 8) (eV 6) (eC .non)]) (sB []),
    sSet 9 (eA (on1 (listD false)) (eL [e2 ixD (eV 4) (eC (.int 1))])),
    sSub setIxD (eV 9) (eV 6) (e2 ixD (eLst true (eL [eC (.str [117, 112]), eC (.str [100, 111, 119, 110]), eC (.str [102, 105, 114, 115, 116]), eC (.str [108, 97, 115, 116])])) (eA (F_q_take) (eL [eV 0, eC (.int 4)]))),
    sIf (tB1 (e2 eqD (eA (on1 lenD) (eL [eA (F_q_fault) (eL [eV 8, eV 9])])) (eC (.int 0)))) (sB [sSet 4 (eLst true (eL [eV 8, eV 9]))]) (sB [])]),
  sRet (eV 4)]
def F_q_near_v4 : AF := fnT 3 10 b_q_near_v4
/- _law_second: _law_script, _law_parents_here, _law_kinds_here, _law_tape_here, _law_pick, _law_free -/
def b_q_second_v3 : AS := sB [sSet 3 (eA (F_q_tape) (eL [eV 0, eC (.int 2)])),
  sSet 4 (eA (F_q_take) (eL [eV 3, eC (.int 5)])),
  sIf (tB1 (e2 eqD (eV 4) (eC (.int 0)))) (sB [sSet 5 (eA (F_q_parents) (eL [eV 3, eA (on1 lenD) (eL [eV 1])])),
    sRet (eLst true (eL [eV 5, eA (F_q_kinds) (eL [eA (F_q_tape) (eL [eV 0, eC (.int 3)]), eV 5, eC (.bl false)])]))]) (sB []),
  sIf (tB1 (e2 eqD (eV 4) (eC (.int 1)))) (sB [sRet (eLst true (eL [eA (on1 (listD true)) (eL [eV 1]), eA (on1 (listD true)) (eL [eV 2])]))]) (sB []),
  sRet (eA (F_q_near_v4) (eL [eV 3, eV 1, eV 2]))]
def F_q_second_v3 : AF := fnT 3 6 b_q_second_v3
/- _law_turned: _law_kinds_here, _law_turned_here, _law_kind -/
def b_q_turned_v2 : AS := sB [sSet 1 (eDisp true [(eC (.str [117, 112]), eC (.str [100, 111, 119, 110])), (eC (.str [100, 111, 119, 110]), eC (.str [117, 112])), (eC (.str [102, 105, 114, 115, 116]), eC (.str [108, 97, 115, 116])), (eC (.str [108, 97, 115, 116]), eC (.str [102, 105, 114, 115, 116]))]),
  sRet (eLC true [2] (iS (eV 0)) (gV 2) (tYes) (e2 dixD (eV 1) (eV 2)))]
def F_q_turned_v2 : AF := fnT 1 3 b_q_turned_v2
/- law: _law_script, _law_tape_here, _law_n, _law_count_here, _law_other, _law_again, _law_parents_here, _law_one, _law_two, _law_first, _law_second_here, _law_third, _law_k, _law_words, _law_field, _law_unlike_here, _law_low, _law_records, _law_end, _law_due -/
def b_law_k60 : AS := sB [sSet 1 (eA (F_q_tape) (eL [eV 0, eC (.int 0)])),
  sSet 2 (eA (F_q_size_v4) (eL [eV 1])),
  sSet 3 (eA (F_q_count_v3) (eL [eV 1])),
  sSet 4 (e2 (addD true) (eC (.int 1)) (eA (F_q_take) (eL [eV 1, eC (.int 7)]))),
  sIf (tB1 (e2 geD (eV 4) (eV 2))) (sB [sSet 4 (e2 (addD true) (eV 4) (eC (.int 1)))]) (sB []),
  sSet 5 (e2 eqD (eA (F_q_take) (eL [eV 1, eC (.int 3)])) (eC (.int 0))),
  sSet 6 (eA (F_q_parents) (eL [eV 1, eV 2])),
  sSet 7 (eLst true (eL [eV 6, eA (F_q_kinds) (eL [eA (F_q_tape) (eL [eV 0, eC (.int 1)]), eV 6, eC (.bl false)])])),
  sSet 8 (eA (F_q_second_v3) (eL [eV 0, e2 ixD (eV 7) (eC (.int 0)), e2 ixD (eV 7) (eC (.int 1))])),
  sSet 9 (eA (mkI "Forest" true (F_Forest_init)) (eL [eA (on1 (listD true)) (eL [e2 ixD (eV 7) (eC (.int 0))]), eA (on1 (listD true)) (eL [e2 ixD (eV 7) (eC (.int 1))])])),
  sSet 10 (eA (mkI "Forest" true (F_Forest_init)) (eL [eA (on1 (listD true)) (eL [e2 ixD (eV 8) (eC (.int 0))]), eA (on1 (listD true)) (eL [e2 ixD (eV 8) (eC (.int 1))])])),
  sSet 11 (eA (mkI "Forest" true (F_Forest_init)) (eL [eLC true [12] (iR1 (eV 4)) (gV 12) (tYes) (eC .non), eLC true [12] (iR1 (eV 4)) (gV 12) (tYes) (eC (.str [117, 112]))])),
  sSet 1 (eA (F_q_tape) (eL [eV 0, eC (.int 4)])),
  sIf (tNot (tV (eA (F_q_refusals_right) (eL [eV 9, eV 10, eV 11, eV 2, eV 4, eA (F_q_take) (eL [eV 1, eV 2])])))) (sB [sRet (eC (.bl false))]) (sB []),
  sSet 13 (eLC true [14] (iR1 (eV 2)) (gV 14) (tYes) (eA (F_q_word) (eL [e2 ixD (eV 7) (eC (.int 0)), e2 ixD (eV 7) (eC (.int 1)), eV 14]))),
  sSet 15 (eLC true [14] (iR1 (eV 2)) (gV 14) (tB1 (e2 neD (e2 ixD (eV 13) (eV 14)) (eA (F_q_word) (eL [e2 ixD (eV 8) (eC (.int 0)), e2 ixD (eV 8) (eC (.int 1)), eV 14])))) (eV 14)),
  sFor (iR1 (eC (.int 2))) (gV 12) (sB [sIf (tNot (tV (eA (F_q_is_due_v2) (eL [eA (F_q_unlike_v2) (eL [eV 9, eV 10]), eC (.str [108, 101, 116]), eA (on1 tupD) (eL [eV 15])])))) (sB [sRet (eC (.bl false))]) (sB []),
    sIf (tNot (tV (eA (F_q_is_due_v2) (eL [eA (F_q_unlike_v2) (eL [eV 10, eV 9]), eC (.str [108, 101, 116]), eA (on1 tupD) (eL [eV 15])])))) (sB [sRet (eC (.bl false))]) (sB []),
    sIf (tNot (tV (eA (F_q_is_due_v2) (eL [eA (F_q_unlike_v2) (eL [eV 9, eV 9]), eC (.str [108, 101, 116]), eTup (eL [])])))) (sB [sRet (eC (.bl false))]) (sB [])]),
  sIf (tNot (tV (eA (F_q_pairs_right) (eL [eV 9, eV 10, eV 7, eV 8, eV 15])))) (sB [sRet (eC (.bl false))]) (sB []),
  sSet 16 (eLst true (eL [eV 6, eA (F_q_turned_v2) (eL [e2 ixD (eV 7) (eC (.int 1))])])),
  sIf (tNot (tV (eA (F_q_pairs_right) (eL [eV 9, eA (mkI "Forest" true (F_Forest_init)) (eL [eA (on1 (listD true)) (eL [eV 6]), eA (on1 (listD true)) (eL [e2 ixD (eV 16) (eC (.int 1))])]), eV 7, eV 16, eLR false true (eC (.int 0)) (eV 2)])))) (sB [sRet (eC (.bl false))]) (sB []),
  sIf (tOr (tNot (tV (eA (F_q_pairs_right) (eL [eV 9, eV 9, eV 7, eV 7, eLst true (eL [])])))) (tNot (tV (eA (F_q_pairs_right) (eL [eV 10, eV 9, eV 8, eV 7, eV 15]))))) (sB [sRet (eC (.bl false))]) (sB []),
  sIf (tNot (tV (eA (F_q_pairs_right) (eL [eV 9, eV 10, eV 7, eV 8, eV 15])))) (sB [sRet (eC (.bl false))]) (sB []),
  sSet 17 (eLC false [12] (iR1 (eV 3)) (gV 12) (tYes) (eA (F_q_record) (eL [eA (F_q_tape) (eL [eV 0, e2 (addD true) (eC (.int 5)) (eV 12)]), eV 2, eC (.int 3)]))),
  sIf (tAnd (tB1 (e2 gtD (eV 3) (eC (.int 1)))) (tV (eV 5))) (sB [sSub setIxD (eV 17) (e2 subD (eV 3) (eC (.int 1))) (e2 ixD (eV 17) (eC (.int 0)))]) (sB []),
  sSet 18 (eA (F_q_mixed_v2) (eL [eV 1, eV 9, eV 10, eV 17])),
  sIf (tB1 (e1 isNonD (eV 18))) (sB [sRet (eC (.bl false))]) (sB []),
  sSet 19 (eA (F_q_fold_v2) (eL [e2 ixD (eV 7) (eC (.int 0)), e2 ixD (eV 7) (eC (.int 1)), eV 17])),
  sFor (iR1 (eV 2)) (gV 14) (sB [sIf (tAnd (tB1 (e2 notInD (eV 14) (eV 15))) (tB1 (e2 neD (e2 ixD (eV 18) (eV 14)) (e2 ixD (eV 19) (eV 14))))) (sB [sRet (eC (.bl false))]) (sB [])]),
  sRet (eAnd (eA (F_q_same_forest) (eL [eV 9, e2 ixD (eV 7) (eC (.int 0)), e2 ixD (eV 7) (eC (.int 1))])) (eA (F_q_same_forest) (eL [eV 10, e2 ixD (eV 8) (eC (.int 0)), e2 ixD (eV 8) (eC (.int 1))])))]
def F_law_k60 : AF := fnT 1 20 b_law_k60
end Sm
end

section
set_option linter.all false
/-! k52: plain computations (printed by gen2.py) -/
namespace Sm
/- _law_both: _law_record_here, _law_end, _law_first, _law_second -/
def b_q_both : AS := sB [sRet (eAnd (e2 eqD (e2 ixD (eV 0) (eV 2)) (e2 ixD (eV 1) (eV 2))) (e2 eqD (e2 ixD (eV 0) (eV 3)) (e2 ixD (eV 1) (eV 3))))]
def F_q_both : AF := fnT 4 4 b_q_both
/- _law_is_small: _law_actual, _law_n, _law_value_here -/
def b_q_is_small : AS := sB [sIf (tOr (tNot (tV (e1 (isTy "tuple") (eV 0)))) (tB1 (e2 neD (eA (on1 lenD) (eL [eV 0])) (eV 1)))) (sB [sRet (eC (.bl false))]) (sB []),
  sFor (iS (eV 0)) (gV 2) (sB [sIf (tOr (tNot (tV (e1 (isTy "int") (eV 2)))) (tOr (tV (e1 (isTy "bool") (eV 2))) (tB1 (e2 notInD (eV 2) (eLst true (eL [e2 subD (eC (.int 0)) (eC (.int 1)), eC (.int 0), eC (.int 1)])))))) (sB [sRet (eC (.bl false))]) (sB [])]),
  sRet (eC (.bl true))]
def F_q_is_small : AF := fnT 2 3 b_q_is_small
/- _law_mixes: _law_paths_here, _law_kinds_here, _law_told, _law_first, _law_second, _law_end -/
def b_q_mixes : AS := sB [sIf (tOr (tNot (tV (e1 (isTy "list") (eV 2)))) (tB1 (e2 neD (eA (on1 lenD) (eL [eV 2])) (eC (.int 2))))) (sB [sRet (eC (.bl false))]) (sB []),
  sIf (tOr (tNot (tV (eA (F_q_is_small) (eL [e2 ixD (eV 2) (eC (.int 0)), eA (on1 lenD) (eL [eV 0])])))) (tNot (tV (eA (F_q_is_small) (eL [e2 ixD (eV 2) (eC (.int 1)), eA (on1 lenD) (eL [eV 0])]))))) (sB [sRet (eC (.bl false))]) (sB []),
  sSet 5 (eA (F_q_merge) (eL [eV 0, eV 1, e2 ixD (eV 2) (eC (.int 0)), e2 ixD (eV 2) (eC (.int 1))])),
  sRet (eAnd (e1 notD (eA (F_q_both) (eL [e2 ixD (eV 2) (eC (.int 0)), eV 5, eV 3, eV 4]))) (e1 notD (eA (F_q_both) (eL [e2 ixD (eV 2) (eC (.int 1)), eV 5, eV 3, eV 4]))))]
def F_q_mixes : AF := fnT 5 6 b_q_mixes
/- only_raised: forest, field, place -/
def b_only_raised : AS := sB [sRet (eA (on1 tupD) (eL [eLC true [2] (iR1 (e1 (fldD ["Forest"] "fields") (eV 0))) (gV 2) (tYes) (eA (F_raised) (eL [e2 ixD (e1 (fldD ["Forest"] "kinds") (eV 0)) (eV 2), eC (.int 0), eA (on1 intD) (eL [e2 eqD (eV 2) (eV 1)])]))]))]
def F_only_raised : AF := fnT 2 3 b_only_raised
/- mixed_lot: forest, first, second -/
def b_mixed_lot : AS := sB [sE (eA (F_check_fair) (eL [eV 0])),
  sE (eA (F_check_place) (eL [e1 (fldD ["Forest"] "fields") (eV 0), eV 1])),
  sE (eA (F_check_place) (eL [e1 (fldD ["Forest"] "fields") (eV 0), eV 2])),
  sIf (tOr (tB1 (e2 inD (eV 1) (eA (F_path_of) (eL [e1 (fldD ["Forest"] "parents") (eV 0), eV 2])))) (tB1 (e2 inD (eV 2) (eA (F_path_of) (eL [e1 (fldD ["Forest"] "parents") (eV 0), eV 1]))))) (sB [sRet (eC .non)]) (sB []),
  sRet (eLst false (eL [eA (F_only_raised) (eL [eV 0, eV 1]), eA (F_only_raised) (eL [eV 0, eV 2])]))]
def F_mixed_lot : AF := fnK 3 3 b_mixed_lot
/- _law_pair: _law_forest, _law_paths_here, _law_kinds_here, _law_lot_here, _law_end, _law_first, _law_second, _law_told, _law_together, _law_k, _law_text -/
def b_q_pair : AS := sB [sSet 7 (eA (F_mixed_lot) (eL [eV 0, eV 5, eV 6])),
  sIf (tOr (tB1 (e2 inD (eV 5) (e2 ixD (eV 1) (eV 6)))) (tB1 (e2 inD (eV 6) (e2 ixD (eV 1) (eV 5))))) (sB [sSet 8 (eLC true [9] (iR1 (eA (on1 lenD) (eL [eV 3]))) (gV 9) (tV (eA (F_q_both) (eL [e2 ixD (eV 3) (eV 9), eV 4, eV 5, eV 6]))) (eV 9)),
    sRet (eAnd (e1 isNonD (eV 7)) (eAnd (e2 gtD (eA (on1 lenD) (eL [eV 8])) (eC (.int 0))) (e1 isNonD (eA (F_mixed_lot) (eL [eV 0, eV 5, eV 6])))))]) (sB []),
  sIf (tOr (tB1 (e1 isNonD (eV 7))) (tNot (tV (eA (F_q_mixes) (eL [eV 1, eV 2, eV 7, eV 5, eV 6]))))) (sB [sRet (eC (.bl false))]) (sB []),
  sSet 10 (eA (on1 reprD) (eL [eV 7])),
  sSub setIxD (eV 7) (eC (.int 0)) (e2 ixD (eV 7) (eC (.int 1))),
  sE (eM isLst (mt1 appendD) (eV 7) (eL [eTup (eL [])])),
  sRet (e2 eqD (eA (on1 reprD) (eL [eA (F_mixed_lot) (eL [eV 0, eV 5, eV 6])])) (eV 10))]
def F_q_pair : AF := fnT 7 11 b_q_pair
/- never_mixed: forest -/
def b_never_mixed : AS := sB [sE (eA (F_check_fair) (eL [eV 0])),
  sRet (e2 eqD (eA (on1 lenD) (eL [ePrp [("Forest", F_Forest_leaves)] (eV 0)])) (eC (.int 1)))]
def F_never_mixed : AF := fnT 1 1 b_never_mixed
/- _law_never_told: _law_forest, e -/
def b_q_never_told : AS := sB [sTryAs [("BadRecord", true), ("NoRecord", true), ("BadForest", true), ("NotFair", true), ("FieldsDiffer", true), ("BadNumber", true), ("BadPlace", true), ("Marked", true), ("BadSizes", true)] 1 (sB [sE (eA (F_never_mixed) (eL [eV 0]))]) (fun x => sB [sIf (tV (eXis x [("BadRecord", true), ("NoRecord", true), ("BadForest", true), ("NotFair", false), ("FieldsDiffer", true), ("BadNumber", true), ("BadPlace", true), ("Marked", true), ("BadSizes", true)])) (sB [sRet (eTup (eL [eC (.str [97, 110, 111, 116, 104, 101, 114])]))]) (sB []),
    sIf (tAnd (tV (eXis x [("BadRecord", false), ("NoRecord", false), ("BadForest", false), ("NotFair", true), ("FieldsDiffer", false), ("BadNumber", false), ("BadPlace", false), ("Marked", false), ("BadSizes", false)])) (tV (eXis x [("BadRecord", true), ("NoRecord", true), ("BadForest", true), ("NotFair", true), ("FieldsDiffer", true), ("BadNumber", true), ("BadPlace", true), ("Marked", true), ("BadSizes", true)]))) (sB [sRet (eTup (eL [eC (.str [78, 111, 116, 70, 97, 105, 114]), eXf ["BadForest", "NotFair"] x "field"]))]) (sB []),
    sRet (eTup (eL [eC (.str [97, 110, 111, 116, 104, 101, 114])]))]),
  sRet (eC .non)]
def F_q_never_told : AF := fnT 1 2 b_q_never_told
/- _law_number: _law_tape_here, _law_n, _law_pick -/
def b_q_number : AS := sB [sSet 2 (eA (F_q_take) (eL [eV 0, eC (.int 8)])),
  sIf (tB1 (e2 eqD (eV 2) (eC (.int 0)))) (sB [sRet (e2 subD (eC (.int 0)) (eC (.int 1)))]) (sB []),
  sIf (tB1 (e2 eqD (eV 2) (eC (.int 1)))) (sB [sRet (eV 1)]) (sB []),
  sIf (tB1 (e2 eqD (eV 2) (eC (.int 2)))) (sB [sRet (e2 subD (eC (.int 0)) (eV 1))]) (sB []),
  sIf (tB1 (e2 eqD (eV 2) (eC (.int 3)))) (sB [sRet (e2 (addD true) (e2 (addD true) (eV 1) (eC (.int 1))) (eA (F_q_take) (eL [eV 0, e2 powD (eC (.int 10)) (eC (.int 9))])))]) (sB []),
  sRet (eA (F_q_take) (eL [eV 0, eV 1]))]
def F_q_number : AF := fnT 2 3 b_q_number
/- _law_pair_told: _law_forest, _law_first, _law_second, e, _law_family -/
def b_q_pair_told : AS := sB [sTryAs [("BadRecord", true), ("NoRecord", true), ("BadForest", true), ("NotFair", true), ("FieldsDiffer", true), ("BadNumber", true), ("BadPlace", true), ("Marked", true), ("BadSizes", true)] 3 (sB [sE (eA (F_mixed_lot) (eL [eV 0, eV 1, eV 2]))]) (fun x => sB [sSet 4 (eLst true (eL [eXis x [("BadRecord", true), ("NoRecord", true), ("BadForest", true), ("NotFair", true), ("FieldsDiffer", true), ("BadNumber", true), ("BadPlace", true), ("Marked", true), ("BadSizes", true)], eXis x [("BadRecord", false), ("NoRecord", false), ("BadForest", false), ("NotFair", true), ("FieldsDiffer", false), ("BadNumber", false), ("BadPlace", false), ("Marked", false), ("BadSizes", false)], eXis x [("BadRecord", false), ("NoRecord", false), ("BadForest", false), ("NotFair", false), ("FieldsDiffer", false), ("BadNumber", false), ("BadPlace", true), ("Marked", true), ("BadSizes", false)]])),
    sIf (tV (eXis x [("BadRecord", true), ("NoRecord", true), ("BadForest", true), ("NotFair", false), ("FieldsDiffer", true), ("BadNumber", true), ("BadPlace", false), ("Marked", true), ("BadSizes", true)])) (sB [sRet (eTup (eL [eC (.str [97, 110, 111, 116, 104, 101, 114])]))]) (sB []),
    sIf (tB1 (e2 eqD (eV 4) (eLst true (eL [eC (.bl true), eC (.bl true), eC (.bl false)])))) (sB [sRet (eTup (eL [eC (.str [78, 111, 116, 70, 97, 105, 114]), eXf ["BadForest", "NotFair"] x "field"]))]) (sB []),
    sIf (tB1 (e2 eqD (eV 4) (eLst true (eL [eC (.bl true), eC (.bl false), eC (.bl true)])))) (sB [sRet (eTup (eL [eC (.str [66, 97, 100, 80, 108, 97, 99, 101]), eXf ["BadPlace", "Marked"] x "place"]))]) (sB []),
    sRet (eTup (eL [eC (.str [97, 110, 111, 116, 104, 101, 114])]))]),
  sRet (eC .non)]
def F_q_pair_told : AF := fnT 3 5 b_q_pair_told
/- _law_refuses: _law_tape_here, _law_forest, _law_parents_here, _law_kinds_here, _law_n, _law_spoilt, _law_first, _law_second, _law_due, _law_unfair_here, _law_asked -/
def b_q_refuses_v5 : AS := sB [sSet 4 (eA (on1 lenD) (eL [eV 2])),
  sSet 5 (eA (on1 (listD true)) (eL [eV 3])),
  sIf (tB1 (e2 eqD (eA (F_q_take) (eL [eV 0, eC (.int 2)])) (eC (.int 0)))) (sB [sSet 5 (eA (F_q_unfair_v2) (eL [eV 0, eV 2, eV 3]))]) (sB []),
  sSet 6 (eA (F_q_number) (eL [eV 0, eV 4])),
  sSet 7 (eA (F_q_number) (eL [eV 0, eV 4])),
  sSet 8 (eC .non),
  sIf (tOr (tB1 (e2 ltD (eV 7) (eC (.int 0)))) (tB1 (e2 geD (eV 7) (eV 4)))) (sB [sSet 8 (eTup (eL [eC (.str [66, 97, 100, 80, 108, 97, 99, 101]), eV 7]))]) (sB []),
  sIf (tOr (tB1 (e2 ltD (eV 6) (eC (.int 0)))) (tB1 (e2 geD (eV 6) (eV 4)))) (sB [sSet 8 (eTup (eL [eC (.str [66, 97, 100, 80, 108, 97, 99, 101]), eV 6]))]) (sB []),
  sSet 9 (eC .non),
  sSet 10 (eV 1),
  sIf (tB1 (e2 neD (eV 5) (eV 3))) (sB [sSet 9 (eTup (eL [eC (.str [78, 111, 116, 70, 97, 105, 114]), eA (F_q_lowest) (eL [eV 5])])),
    sSet 8 (eV 9),
    sSet 10 (eA (mkI "Forest" true (F_Forest_init)) (eL [eA (on1 (listD true)) (eL [eV 2]), eA (on1 (listD true)) (eL [eV 5])]))]) (sB []),
  sRet (eAnd (eA (F_q_same_v2 12) (eL [eA (F_q_pair_told) (eL [eV 10, eV 6, eV 7]), eV 8])) (eA (F_q_same_v2 12) (eL [eA (F_q_never_told) (eL [eV 10]), eV 9])))]
def F_q_refuses_v5 : AF := fnT 4 11 b_q_refuses_v5
/- law: _law_script, _law_tape_here, _law_n, _law_parents_here, _law_count_here, _law_span_here, _law_turn, _law_kinds_here, _law_lot_here, _law_leaves, _law_leaf, _law_paths_here, _law_forest, _law_end, _law_first, _law_second -/
def b_law_k52 : AS := sB [sSet 1 (eA (F_q_tape) (eL [eV 0, eC (.int 0)])),
  sSet 2 (eA (F_q_fields) (eL [eV 1])),
  sSet 3 (eA (F_q_parents) (eL [eV 1, eV 2])),
  sSet 4 (eA (F_q_count) (eL [eV 1, eC (.int 1)])),
  sSet 5 (eA (F_q_span) (eL [eV 1])),
  sSet 6 (eA (F_q_tape) (eL [eV 0, eC (.int 1)])),
  sSet 7 (eA (F_q_kinds) (eL [eV 6, eV 3, eC (.bl true)])),
  sSet 8 (eA (F_q_lot) (eL [eV 0, eC (.int 2), eV 2, eV 4, eV 5])),
  sSet 9 (eLC true [10] (iR1 (eV 2)) (gV 10) (tB1 (e2 notInD (eV 10) (eV 3))) (eV 10)),
  sSet 11 (eA (F_q_paths) (eL [eV 3])),
  sSet 12 (eA (mkI "Forest" true (F_Forest_init)) (eL [eA (on1 (listD true)) (eL [eV 3]), eA (on1 (listD true)) (eL [eV 7])])),
  sSet 13 (eA (F_q_fold) (eL [eV 11, eV 7, eV 8])),
  sIf (tNot (tV (eA (F_q_same_v2 12) (eL [eA (F_lot_end) (eL [eV 12, eA (on1 (listD true)) (eL [eV 8])]), eV 13])))) (sB [sRet (eC (.bl false))]) (sB []),
  sIf (tNot (tV (eA (F_q_same_v2 12) (eL [eA (F_never_mixed) (eL [eV 12]), e2 eqD (eA (on1 lenD) (eL [eV 9])) (eC (.int 1))])))) (sB [sRet (eC (.bl false))]) (sB []),
  sIf (tAnd (tB1 (e2 eqD (eA (on1 lenD) (eL [eV 9])) (eC (.int 1)))) (tB1 (e2 notInDD (eV 13) (eV 8)))) (sB [sRet (eC (.bl false))]) (sB []),
  sFor (iR1 (eV 2)) (gV 14) (sB [sFor (iR1 (eV 2)) (gV 15) (sB [sIf (tNot (tV (eA (F_q_pair) (eL [eV 12, eV 11, eV 7, eV 8, eV 13, eV 14, eV 15])))) (sB [sRet (eC (.bl false))]) (sB [])])]),
  sIf (tNot (tV (eA (F_q_refuses_v5) (eL [eV 6, eV 12, eV 3, eV 7])))) (sB [sRet (eC (.bl false))]) (sB []),
  sSet 14 (eA (F_q_take) (eL [eV 6, eV 2])),
  sSet 15 (eA (F_q_take) (eL [eV 6, eV 2])),
  sIf (tNot (tV (eA (F_q_same_v2 12) (eL [eA (F_never_mixed) (eL [eV 12]), e2 eqD (eA (on1 lenD) (eL [eV 9])) (eC (.int 1))])))) (sB [sRet (eC (.bl false))]) (sB []),
  sRet (eA (F_q_pair) (eL [eV 12, eV 11, eV 7, eV 8, eV 13, eV 14, eV 15]))]
def F_law_k52 : AF := fnT 1 16 b_law_k52
end Sm
end

section
set_option linter.all false
set_option maxRecDepth 10000
/-! Me: mixed lots: the program. -/
namespace Sm
def upL (ks : List Kd) (n f : Nat) : List Int := (List.range n).map fun p => raiV (kd ks p) 0 (if p = f then 1 else 0)
@[simp] theorem upL_len (ks : List Kd) (n f : Nat) : (upL ks n f).length = n := by simp [upL]
def mixB (ps : Par) (i j : Nat) : Bool := decide (i ∈ path ps j) || decide (j ∈ path ps i)
def mixdue (ks : List Kd) (i j : Int) : Option BDue := match lowEnd ks with
  | some f => some (.fair f)
  | none => if 0 ≤ i ∧ i < ks.length then (if 0 ≤ j ∧ j < ks.length then none else some (.pl j)) else some (.pl i)
section
variable {ps : Par} {ks : List Kd} (g : Good ps ks)
include g
end
end Sm
end

section
set_option linter.all false
set_option maxRecDepth 10000
/-! Mf: mixed lots: the mathematics, the law's looks. -/
namespace Sm
def bothB (r E : List Int) (i j : Nat) : Bool := decide (rv r i = rv E i) && decide (rv r j = rv E j)
section
variable {ps : Par} {ks : List Kd} (g : Good ps ks) (hw : ∀ p < ps.length, (kd ks p).end_ = false)
include g
include hw
end
/-! looks -/
end Sm
end

section
set_option linter.all false
set_option maxRecDepth 10000
/-! Mg: mixed lots: the law's look at a pair of fields. -/
namespace Sm
section
variable {ps : Par} {ks : List Kd} (g : Good ps ks) (hw : ∀ p < ps.length, (kd ks p).end_ = false)
include g hw
end
end Sm
end

section
set_option linter.all false
set_option maxRecDepth 10000
/-! Mh: mixed lots: refusals. -/
namespace Sm
def Sp (ks ks2 : List Kd) : Prop := ks2 = ks ∨ ∃ f, f < ks2.length ∧ (kd ks2 f).end_ = true
section
variable {ps : Par} {ks : List Kd} (g : Good ps ks)
include g
end
end Sm
end

section
set_option linter.all false
set_option maxRecDepth 10000
/-! Mi: mixed lots: the law's refusals. -/
namespace Sm
def sBP : D := .str [66, 97, 100, 80, 108, 97, 99, 101]
def plD (n : Nat) (i j : Int) : D := if i < 0 ∨ (n : Int) ≤ i then .tup [sBP, .int i] else if j < 0 ∨ (n : Int) ≤ j then .tup [sBP, .int j] else .non
end Sm
end

section
set_option linter.all false
/-! k51: plain computations (printed by gen2.py) -/
namespace Sm
/- _law_is_lot: _law_actual, _law_n, _law_count, _law_record, _law_value -/
def b_q_is_lot : AS := sB [sIf (tOr (tNot (tV (e1 (isTy "list") (eV 0)))) (tB1 (e2 neD (eA (on1 lenD) (eL [eV 0])) (eV 2)))) (sB [sRet (eC (.bl false))]) (sB []),
  sFor (iS (eV 0)) (gV 3) (sB [sIf (tOr (tNot (tV (e1 (isTy "tuple") (eV 3)))) (tB1 (e2 neD (eA (on1 lenD) (eL [eV 3])) (eV 1)))) (sB [sRet (eC (.bl false))]) (sB []),
    sFor (iS (eV 3)) (gV 4) (sB [sIf (tOr (tNot (tV (e1 (isTy "int") (eV 4)))) (tV (e1 (isTy "bool") (eV 4)))) (sB [sRet (eC (.bl false))]) (sB [])])]),
  sRet (eC (.bl true))]
def F_q_is_lot : AF := fnT 3 5 b_q_is_lot
/- _law_needs_each: _law_leaves, _law_paths_here, _law_kinds_here, _law_lot, _law_size, _law_first, _law_leaf, _law_others, _law_end, _law_record, _law_longer -/
def b_q_needs_each : AS := sB [sFor (iR3 (eC (.int 0)) (eA (on1 lenD) (eL [eV 3])) (eV 4)) (gV 5) (sB [sSet 6 (e2 ixD (eV 0) (e2 fdivD (eV 5) (eV 4))),
    sSet 7 (e2 (addD true) (eSl true (eV 3) (oN) (oS (eV 5))) (eSl true (eV 3) (oS (e2 (addD true) (eV 5) (eV 4))) (oN))),
    sSet 8 (eC .non),
    sIf (tB1 (e2 gtD (eA (on1 lenD) (eL [eV 7])) (eC (.int 0)))) (sB [sSet 8 (eA (F_q_fold) (eL [eV 1, eV 2, eV 7]))]) (sB []),
    sFor (iS (eSl true (eV 3) (oS (eV 5)) (oS (e2 (addD true) (eV 5) (eV 4))))) (gV 9) (sB [sSet 10 (eV 9),
      sIf (tB1 (e1 notNonD (eV 8))) (sB [sSet 10 (eA (F_q_merge) (eL [eV 1, eV 2, eV 8, eV 9]))]) (sB []),
      sIf (tAnd (tB1 (e1 notNonD (eV 8))) (tB1 (e2 eqD (e2 ixD (eV 10) (eV 6)) (e2 ixD (eV 8) (eV 6))))) (sB [sRet (eC (.bl false))]) (sB []),
      sSet 8 (eV 10)])]),
  sRet (eC (.bl true))]
def F_q_needs_each : AF := fnT 5 11 b_q_needs_each
/- needy_lot: forest, losses, lot, leaf, step, record, field -/
def b_needy_lot : AS := sB [sE (eA (F_check_fair) (eL [eV 0])),
  sSet 2 (eLst false (eL [])),
  sFor (iS (ePrp [("Forest", F_Forest_leaves)] (eV 0))) (gV 3) (sB [sFor (iR2 (eC (.int 1)) (e2 (addD true) (eV 1) (eC (.int 2)))) (gV 4) (sB [sSet 5 (eLC false [6] (iR1 (e1 (fldD ["Forest"] "fields") (eV 0))) (gV 6) (tYes) (eC (.int 0))),
      sFor (iS (eA (F_path_of) (eL [e1 (fldD ["Forest"] "parents") (eV 0), eV 3]))) (gV 6) (sB [sSub setIxD (eV 5) (eV 6) (eA (F_raised) (eL [e2 ixD (e1 (fldD ["Forest"] "kinds") (eV 0)) (eV 6), eC (.int 0), eC (.int 1)]))]),
      sSub setIxD (eV 5) (eV 3) (eA (F_raised) (eL [e2 ixD (e1 (fldD ["Forest"] "kinds") (eV 0)) (eV 3), eC (.int 0), eV 4])),
      sE (eM isLst (mt1 appendD) (eV 2) (eL [eA (on1 tupD) (eL [eV 5])]))])]),
  sRet (eV 2)]
def F_needy_lot : AF := fnK 2 7 b_needy_lot
/- _law_answers: _law_forest, _law_leaves, _law_paths_here, _law_kinds_here, _law_losses, _law_told, _law_text -/
def b_q_answers_v3 : AS := sB [sSet 5 (eA (F_needy_lot) (eL [eV 0, eV 4])),
  sIf (tNot (tV (eA (F_q_is_lot) (eL [eV 5, eA (on1 lenD) (eL [eV 2]), e2 (mulD true) (e2 (addD true) (eV 4) (eC (.int 1))) (eA (on1 lenD) (eL [eV 1]))])))) (sB [sRet (eC (.bl false))]) (sB []),
  sIf (tNot (tV (eA (F_q_needs_each) (eL [eV 1, eV 2, eV 3, eA (on1 (listD true)) (eL [eV 5]), e2 (addD true) (eV 4) (eC (.int 1))])))) (sB [sRet (eC (.bl false))]) (sB []),
  sSet 6 (eA (on1 reprD) (eL [eV 5])),
  sSub setIxD (eV 5) (eC (.int 0)) (e2 ixD (eV 5) (e2 subD (eA (on1 lenD) (eL [eV 5])) (eC (.int 1)))),
  sE (eM isLst (mt1 appendD) (eV 5) (eL [eTup (eL [eC (.int 0)])])),
  sRet (e2 eqD (eA (on1 reprD) (eL [eA (F_needy_lot) (eL [eV 0, eV 4])])) (eV 6))]
def F_q_answers_v3 : AF := fnT 5 7 b_q_answers_v3
/- _law_refused: _law_forest, _law_losses, _law_due, _law_told, e -/
def b_q_refused : AS := sB [sSet 3 (eC .non),
  sTryAs [("BadRecord", true), ("NoRecord", true), ("BadForest", true), ("NotFair", true), ("FieldsDiffer", true), ("BadNumber", true), ("BadPlace", true), ("BadSizes", true)] 4 (sB [sE (eA (F_needy_lot) (eL [eV 0, eV 1]))]) (fun x => sB [sIf (tV (eXis x [("BadRecord", true), ("NoRecord", true), ("BadForest", true), ("NotFair", false), ("FieldsDiffer", true), ("BadNumber", true), ("BadPlace", true), ("BadSizes", true)])) (sB [sRet (eC (.bl false))]) (sB []),
    sIf (tOr (tNot (tV (eXis x [("BadRecord", false), ("NoRecord", false), ("BadForest", false), ("NotFair", true), ("FieldsDiffer", false), ("BadNumber", false), ("BadPlace", false), ("BadSizes", false)]))) (tNot (tV (eXis x [("BadRecord", true), ("NoRecord", true), ("BadForest", true), ("NotFair", true), ("FieldsDiffer", true), ("BadNumber", true), ("BadPlace", true), ("BadSizes", true)])))) (sB [sRet (eC (.bl false))]) (sB []),
    sSet 3 (eXf ["BadForest", "NotFair"] x "field")]),
  sRet (eA (F_q_same_v2 12) (eL [eV 3, eV 2]))]
def F_q_refused : AF := fnT 3 5 b_q_refused
/- law: _law_script, _law_tape_here, _law_n, _law_parents_here, _law_leaves, _law_leaf, _law_paths_here, _law_losses, _law_turn, _law_kinds_here, _law_forest, _law_text, _law_low, _law_spoilt -/
def b_law_k51 : AS := sB [sSet 1 (eA (F_q_tape) (eL [eV 0, eC (.int 0)])),
  sSet 2 (eA (F_q_fields) (eL [eV 1])),
  sSet 3 (eA (F_q_parents) (eL [eV 1, eV 2])),
  sSet 4 (eLC true [5] (iR1 (eV 2)) (gV 5) (tB1 (e2 notInD (eV 5) (eV 3))) (eV 5)),
  sSet 6 (eA (F_q_paths) (eL [eV 3])),
  sSet 7 (eA (F_q_take) (eL [eV 1, eC (.int 5)])),
  sIf (tAnd (tB1 (e2 eqD (eA (F_q_take) (eL [eV 1, eC (.int 8)])) (eC (.int 0)))) (tB1 (e2 ltD (eA (on1 lenD) (eL [eV 4])) (eC (.int 3))))) (sB [sSet 7 (e2 (addD true) (eC (.int 5)) (eA (F_q_take) (eL [eV 1, eC (.int 15)])))]) (sB []),
  sSet 8 (eA (F_q_tape) (eL [eV 0, eC (.int 1)])),
  sSet 9 (eA (F_q_kinds) (eL [eV 8, eV 3, eC (.bl true)])),
  sSet 10 (eA (mkI "Forest" true (F_Forest_init)) (eL [eA (on1 (listD true)) (eL [eV 3]), eA (on1 (listD true)) (eL [eV 9])])),
  sIf (tNot (tV (eA (F_q_answers_v3) (eL [eV 10, eV 4, eV 6, eV 9, eV 7])))) (sB [sRet (eC (.bl false))]) (sB []),
  sSet 11 (eA (on1 reprD) (eL [eA (F_needy_lot) (eL [eV 10, eV 7])])),
  sSet 12 (eA (F_q_turned) (eL [eV 9])),
  sIf (tNot (tV (eA (F_q_answers_v3) (eL [eA (mkI "Forest" true (F_Forest_init)) (eL [eA (on1 (listD true)) (eL [eV 3]), eA (on1 (listD true)) (eL [eV 12])]), eV 4, eV 6, eV 12, eV 7])))) (sB [sRet (eC (.bl false))]) (sB []),
  sSet 13 (eA (F_q_unfair_v2) (eL [eV 8, eV 3, eV 9])),
  sIf (tNot (tV (eA (F_q_refused) (eL [eA (mkI "Forest" true (F_Forest_init)) (eL [eA (on1 (listD true)) (eL [eV 3]), eA (on1 (listD true)) (eL [eV 13])]), eV 7, eA (F_q_lowest) (eL [eV 13])])))) (sB [sRet (eC (.bl false))]) (sB []),
  sIf (tNot (tV (eA (F_q_answers_v3) (eL [eV 10, eV 4, eV 6, eV 9, e2 (addD true) (eV 7) (eC (.int 1))])))) (sB [sRet (eC (.bl false))]) (sB []),
  sRet (e2 eqD (eA (on1 reprD) (eL [eA (F_needy_lot) (eL [eV 10, eV 7])])) (eV 11))]
def F_law_k51 : AF := fnT 1 14 b_law_k51
end Sm
end

section
set_option linter.all false
set_option maxRecDepth 10000
/-! Na: needy lots: the program. -/
namespace Sm
def ndR (ps : Par) (ks : List Kd) (f s : Nat) : List Int := (List.range ps.length).map fun p => if p = f then raiV (kd ks p) 0 s else if p ∈ path ps f then raiV (kd ks p) 0 1 else 0
@[simp] theorem ndR_len (ps : Par) (ks : List Kd) (f s : Nat) : (ndR ps ks f s).length = ps.length := by simp [ndR]
def grp (ps : Par) (ks : List Kd) (m f : Nat) : List (List Int) := (List.range m).map fun t => ndR ps ks f (t + 1)
@[simp] theorem grp_len (ps : Par) (ks : List Kd) (m f : Nat) : (grp ps ks m f).length = m := by simp [grp]
def needL (ps : Par) (ks : List Kd) (m : Nat) : List (List Int) := (leavesL ps).flatMap (grp ps ks m)
def pth (ps : Par) (ks : List Kd) (f i : Nat) : List Int := (List.range ps.length).map fun p => if p ∈ (path ps f).take i then raiV (kd ks p) 0 1 else 0
section
variable {ps : Par} {ks : List Kd} (g : Good ps ks)
include g
end
end Sm
end

section
set_option linter.all false
set_option maxRecDepth 10000
/-! Nb: needy lots: every group is needed. -/
namespace Sm
def Hy (ps : Par) (ks : List Kd) (f : Nat) (t : Int) (e : List Int) : Prop := e.length = ps.length ∧ (∀ p ∈ path ps f, p ≠ f → adj (kd ks p) (rv e p) ≤ 1) ∧ adj (kd ks f) (rv e f) = t
section
variable {ps : Par} {ks : List Kd} (g : Good ps ks) (hw : ∀ p < ps.length, (kd ks p).end_ = false)
include g hw
end
end Sm
end

section
set_option linter.all false
set_option maxRecDepth 10000
/-! Nc: needy lots: the law's look at every group. -/
namespace Sm
def oR : Option (List Int) → D
  | none => .non
  | some e => eR e
section
variable {ps : Par} {ks : List Kd} (g : Good ps ks) (hw : ∀ p < ps.length, (kd ks p).end_ = false)
include g hw
end
end Sm
end

section
set_option linter.all false
set_option maxRecDepth 10000
/-! Nd: needy lots: the law's looks. -/
namespace Sm
section
variable {ps : Par} {ks : List Kd} (g : Good ps ks)
include g
variable (hw : ∀ p < ps.length, (kd ks p).end_ = false)
include hw
end
end Sm
end

section
set_option linter.all false
set_option maxRecDepth 10000
/-! Ua: k60: where two words part; the pair that shows it. -/
namespace Sm
/-- the first step in which two words differ -/
def ust (A B : List D) : Option Nat := (List.range (min A.length B.length)).find? fun i => !decide (A[i]? = B[i]?)
section
variable {ps qs : Par} {ks js : List Kd}
/-! ### ones and noughts -/
def mk01 (n : Nat) (L : List Nat) : List Int := (List.range n).map fun p => if p ∈ L then 1 else 0
@[simp] theorem mk01_len (n : Nat) (L : List Nat) : (mk01 n L).length = n := by simp [mk01]
def oth (U L : List Nat) : List Nat := U.filter fun p => !decide (p ∈ L)
/-- the side a kind takes when the one has 1 and the other 0, or the other way -/
def kbit (k : Kd) (v : Bool) : Int := match k with
  | .first => 0
  | .last => 1
  | .up => if v then 0 else 1
  | .down => if v then 1 else 0
variable (g : Good ps ks) (g2 : Good qs js) (hl : qs.length = ps.length) {f x y : Nat} {u s t : List Nat} (hf : f < ps.length) (e1 : path ps f = u ++ x :: s) (e2 : path qs f = u ++ y :: t)
include g g2 hl hf e1 e2
def ptB (ps qs : Par) (ks js : List Kd) (f x y : Nat) (L : List Nat) : Bool := !decide (rv (mrg ps ks (mk01 ps.length L) (mk01 ps.length (oth [x, y, f] L))) f = rv (mrg qs js (mk01 ps.length L) (mk01 ps.length (oth [x, y, f] L))) f)
end
end Sm
end

section
set_option linter.all false
set_option maxRecDepth 10000
/-! Ub: k60: the program's pair. -/
namespace Sm
def encT (L : List Nat) : D := .tup (L.map eN)
@[simp] theorem clo_encT (n : Nat) (L : List Nat) : clo n (encT L) = true := by simp [encT]
def choF (cs : List (List Nat)) (p : Nat) : List (List Nat) := cs ++ cs.map (· ++ [p])
def choL (U : List Nat) : List (List Nat) := U.foldl choF [[]]
section
variable {ps qs : Par} {ks js : List Kd}
end
end Sm
end

section
set_option linter.all false
set_option maxRecDepth 10000
/-! Uc: k60: parting pairs, what the law is told of them. -/
namespace Sm
section
variable {ps qs : Par} {ks js : List Kd}
def difD (n m : Nat) : D := .lst [sDif, .tup [.int n, .int m], .bl true]
end
end Sm
end

section
set_option linter.all false
set_option maxRecDepth 10000
/-! Ud: k60: a second forest; what is asked of pairs. -/
namespace Sm
def trn : Kd → Kd
  | .up => .down
  | .down => .up
  | .first => .last
  | .last => .first
section
variable {ps qs : Par} {ks js : List Kd}
end
end Sm
end

section
set_option linter.all false
set_option maxRecDepth 10000
/-! Ue: k60: a row mixed by two forests; its fold. -/
namespace Sm
end Sm
end

section
set_option linter.all false
/-! k39: plain computations (printed by gen2.py) -/
namespace Sm
/- _law_borne: _law_parents_here, _law_records, _law_end, _law_field, _law_found, _law_path_here, _law_record_here, _law_place -/
def b_q_borne : AS := sB [sFor (iR1 (eA (on1 lenD) (eL [eV 0]))) (gV 3) (sB [sSet 4 (eC (.bl false)),
    sSet 5 (eA (F_q_path) (eL [eV 0, eV 3])),
    sFor (iS (eV 1)) (gV 6) (sB [sIf (tB1 (e2 eqD (eLC true [7] (iS (eV 5)) (gV 7) (tYes) (e2 ixD (eV 6) (eV 7))) (eLC true [7] (iS (eV 5)) (gV 7) (tYes) (e2 ixD (eV 2) (eV 7))))) (sB [sSet 4 (eC (.bl true))]) (sB [])]),
    sIf (tNot (tV (eV 4))) (sB [sRet (eC (.bl false))]) (sB [])]),
  sRet (eC (.bl true))]
def F_q_borne : AF := fnT 3 8 b_q_borne
/- _law_count: _law_tape_here, _law_low -/
def b_q_count_v5 : AS := sB [sIf (tB1 (e2 eqD (eA (F_q_take) (eL [eV 0, eC (.int 8)])) (eC (.int 7)))) (sB [sRet (e2 (addD true) (eC (.int 7)) (eA (F_q_take) (eL [eV 0, eC (.int 14)])))]) (sB []),
  sRet (e2 (addD true) (eV 1) (eA (F_q_take) (eL [eV 0, e2 subD (eC (.int 7)) (eV 1)])))]
def F_q_count_v5 : AF := fnT 2 2 b_q_count_v5
/- _law_fields: _law_tape_here -/
def b_q_fields_v2 : AS := sB [sIf (tB1 (e2 eqD (eA (F_q_take) (eL [eV 0, eC (.int 8)])) (eC (.int 7)))) (sB [sRet (e2 (addD true) (eC (.int 7)) (eA (F_q_take) (eL [eV 0, eC (.int 2)])))]) (sB []),
  sRet (e2 (addD true) (eC (.int 1)) (eA (F_q_take) (eL [eV 0, eC (.int 6)])))]
def F_q_fields_v2 : AF := fnT 1 1 b_q_fields_v2
/- _law_first_wrong: _law_records, _law_n, _law_record_here -/
def b_q_first_wrong : AS := sB [sFor (iS (eV 0)) (gV 2) (sB [sIf (tB1 (e2 neD (eA (on1 lenD) (eL [eV 2])) (eV 1))) (sB [sRet (eV 2)]) (sB [])]),
  sRet (eC .non)]
def F_q_first_wrong : AF := fnT 2 3 b_q_first_wrong
/- _law_from_right: _law_parents_here, _law_kinds_here, _law_records, _law_end, _law_k -/
def b_q_from_right : AS := sB [sSet 3 (e2 ixD (eV 2) (e2 subD (eA (on1 lenD) (eL [eV 2])) (eC (.int 1)))),
  sFor (iR2 (eC (.int 1)) (eA (on1 lenD) (eL [eV 2]))) (gV 4) (sB [sSet 3 (eA (F_q_merge_v2) (eL [eV 0, eV 1, e2 ixD (eV 2) (e2 subD (e2 subD (eA (on1 lenD) (eL [eV 2])) (eC (.int 1))) (eV 4)), eV 3]))]),
  sRet (eV 3)]
def F_q_from_right : AF := fnT 3 5 b_q_from_right
/- _law_long: _law_tape_here, _law_records, _law_n, _law_many, _law_k -/
def b_q_long : AS := sB [sSet 3 (eA (on2 min2D) (eL [eC (.int 190), e2 fdivD (eC (.int 12000)) (e2 (mulD true) (eV 2) (e2 (addD true) (e2 (mulD true) (eC (.int 2)) (eV 2)) (eC (.int 8))))])),
  sRet (eLC true [4] (iR1 (eV 3)) (gV 4) (tYes) (e2 ixD (eV 1) (eA (F_q_take) (eL [eV 0, eA (on1 lenD) (eL [eV 1])]))))]
def F_q_long : AF := fnT 3 5 b_q_long
/- _law_merged_by: _law_tape_here, _law_forest, _law_records, _law_row_here, _law_k, _law_place -/
def b_q_merged_by : AS := sB [sSet 3 (eA (on1 (listD false)) (eL [eV 2])),
  sFor (iR1 (e2 subD (eA (on1 lenD) (eL [eV 2])) (eC (.int 1)))) (gV 4) (sB [sSet 5 (eA (F_q_take) (eL [eV 0, e2 subD (eA (on1 lenD) (eL [eV 3])) (eC (.int 1))])),
    sSub setIxD (eV 3) (eV 5) (eCal [("Forest", F_Forest_call)] (eV 1) (eL [e2 ixD (eV 3) (eV 5), e2 ixD (eV 3) (e2 (addD true) (eV 5) (eC (.int 1)))])),
    sE (eM isLst (mt1 popAtD) (eV 3) (eL [e2 (addD true) (eV 5) (eC (.int 1))]))]),
  sRet (e2 ixD (eV 3) (eC (.int 0)))]
def F_q_merged_by : AF := fnT 3 6 b_q_merged_by
/- _law_pressed: _law_tape_here, _law_parents_here, _law_kinds_here, _law_records, _law_row_here, _law_k, _law_place -/
def b_q_pressed_v2 : AS := sB [sSet 4 (eA (on1 (listD false)) (eL [eV 3])),
  sFor (iR1 (e2 subD (eA (on1 lenD) (eL [eV 3])) (eC (.int 1)))) (gV 5) (sB [sSet 6 (eA (F_q_take) (eL [eV 0, e2 subD (eA (on1 lenD) (eL [eV 4])) (eC (.int 1))])),
    sSub setIxD (eV 4) (eV 6) (eA (F_q_merge_v2) (eL [eV 1, eV 2, e2 ixD (eV 4) (eV 6), e2 ixD (eV 4) (e2 (addD true) (eV 6) (eC (.int 1)))])),
    sE (eM isLst (mt1 popAtD) (eV 4) (eL [e2 (addD true) (eV 6) (eC (.int 1))]))]),
  sRet (e2 ixD (eV 4) (eC (.int 0)))]
def F_q_pressed_v2 : AF := fnT 4 7 b_q_pressed_v2
/- _law_value: _law_tape_here, _law_span, _law_pick, _law_high, _law_value_here -/
def b_q_value_v2 : AS := sB [sSet 2 (eA (F_q_take) (eL [eV 0, eC (.int 8)])),
  sIf (tB1 (e2 eqD (eV 2) (eC (.int 0)))) (sB [sSet 3 (eA (F_q_take) (eL [eV 0, e2 powD (eC (.int 10)) (eC (.int 9))])),
    sSet 4 (e2 subD (e2 (mulD true) (eV 3) (e2 powD (eC (.int 10)) (eC (.int 30)))) (eA (F_q_take) (eL [eV 0, e2 powD (eC (.int 10)) (eC (.int 9))]))),
    sRet (e2 ixD (eLst true (eL [eV 4, e2 subD (eC (.int 0)) (eV 4), e2 (mulD true) (eV 4) (e2 powD (eC (.int 10)) (eC (.int 20))), e2 subD (eC (.int 0)) (e2 (mulD true) (eV 4) (e2 powD (eC (.int 10)) (eC (.int 20))))])) (e2 modD (eA (on1 intD) (eL [eV 3])) (eC (.int 4))))]) (sB []),
  sIf (tB1 (e2 eqD (eV 2) (eC (.int 1)))) (sB [sRet (e2 subD (eC (.int 0)) (eA (F_q_take) (eL [eV 0, eV 1])))]) (sB []),
  sRet (eA (F_q_take) (eL [eV 0, eV 1]))]
def F_q_value_v2 : AF := fnT 2 5 b_q_value_v2
/- _law_record: _law_tape_here, _law_n, _law_span, _law_k -/
def b_q_record_v2 : AS := sB [sRet (eA (on1 tupD) (eL [eLC true [3] (iR1 (eV 1)) (gV 3) (tYes) (eA (F_q_value_v2) (eL [eV 0, eV 2]))]))]
def F_q_record_v2 : AF := fnT 3 4 b_q_record_v2
/- row_end: forest, records -/
def b_row_end : AS := sB [sE (eA (F_check_records) (eL [e1 (fldD ["Forest"] "fields") (eV 0), eV 1])),
  sRet (eA (F_end_of_row) (eL [e1 (fldD ["Forest"] "parents") (eV 0), e1 (fldD ["Forest"] "kinds") (eV 0), eV 1]))]
def F_row_end : AF := fnT 2 2 b_row_end
/- _law_refused: _law_forest, _law_records, _law_wrong, _law_rows, e -/
def b_q_refused_v3 : AS := sB [sSet 3 (eA (on1 (listD true)) (eL [eV 1])),
  sTryAs [("BadRecord", true), ("NoRecord", true), ("BadForest", true), ("NotFair", true), ("BadLetter", true), ("BadNumber", true), ("BadPlace", true)] 4 (sB [sE (eA (F_row_end) (eL [eV 0, eV 3]))]) (fun x => sB [sIf (tOr (tNot (tV (eXis x [("BadRecord", true), ("NoRecord", true), ("BadForest", true), ("NotFair", true), ("BadLetter", true), ("BadNumber", true), ("BadPlace", true)]))) (tB1 (e2 neD (eV 3) (eV 1)))) (sB [sRet (eC (.bl false))]) (sB []),
    sIf (tV (eXis x [("BadRecord", false), ("NoRecord", false), ("BadForest", true), ("NotFair", true), ("BadLetter", true), ("BadNumber", true), ("BadPlace", true)])) (sB [sRet (eC (.bl false))]) (sB []),
    sIf (tB1 (e1 isNonD (eV 2))) (sB [sRet (eAnd (eXis x [("BadRecord", false), ("NoRecord", true), ("BadForest", false), ("NotFair", false), ("BadLetter", false), ("BadNumber", false), ("BadPlace", false)]) (e1 notD (eXis x [("BadRecord", true), ("NoRecord", false), ("BadForest", false), ("NotFair", false), ("BadLetter", false), ("BadNumber", false), ("BadPlace", false)])))]) (sB []),
    sIf (tOr (tV (eXis x [("BadRecord", false), ("NoRecord", true), ("BadForest", false), ("NotFair", false), ("BadLetter", false), ("BadNumber", false), ("BadPlace", false)])) (tNot (tV (eXis x [("BadRecord", true), ("NoRecord", false), ("BadForest", false), ("NotFair", false), ("BadLetter", false), ("BadNumber", false), ("BadPlace", false)])))) (sB [sRet (eC (.bl false))]) (sB []),
    sRet (eAnd (eA (F_q_is_record) (eL [eXf ["BadRecord"] x "record", eA (on1 lenD) (eL [eV 2])])) (e2 eqD (eXf ["BadRecord"] x "record") (eV 2)))]),
  sRet (eC (.bl false))]
def F_q_refused_v3 : AF := fnT 3 5 b_q_refused_v3
/- _law_row: _law_script, _law_parents_here, _law_count_here, _law_span, _law_records, _law_k, _law_tape_here, _law_record_here, _law_elder, _law_place -/
def b_q_row : AS := sB [sSet 4 (eLst false (eL [])),
  sFor (iR1 (eV 2)) (gV 5) (sB [sSet 6 (eA (F_q_tape) (eL [eV 0, e2 (addD true) (eC (.int 2)) (eV 5)])),
    sSet 7 (eA (on1 (listD false)) (eL [eA (F_q_record_v2) (eL [eV 6, eA (on1 lenD) (eL [eV 1]), eV 3])])),
    sIf (tAnd (tB1 (e2 gtD (eV 5) (eC (.int 0)))) (tB1 (e2 eqD (eA (F_q_take) (eL [eV 6, eC (.int 3)])) (eC (.int 0))))) (sB [sSet 8 (e2 ixD (eV 4) (eA (F_q_take) (eL [eV 6, eV 5]))),
      sFor (iS (eA (F_q_path) (eL [eV 1, eA (F_q_take) (eL [eV 6, eA (on1 lenD) (eL [eV 1])])]))) (gV 9) (sB [sSub setIxD (eV 7) (eV 9) (e2 ixD (eV 8) (eV 9))])]) (sB []),
    sE (eM isLst (mt1 appendD) (eV 4) (eL [eA (on1 tupD) (eL [eV 7])]))]),
  sRet (eV 4)]
def F_q_row : AF := fnK 4 10 b_q_row
/- _law_spoilt: _law_tape_here, _law_records, _law_n, _law_spoilt_here, _law_sizes, _law_k, _law_wrong -/
def b_q_spoilt : AS := sB [sSet 3 (eA (on1 (listD false)) (eL [eV 1])),
  sSet 4 (eLst true (eL [e2 (addD true) (eV 2) (eC (.int 1)), e2 subD (eV 2) (eC (.int 1)), eC (.int 0), e2 (addD true) (eV 2) (eC (.int 2))])),
  sFor (iR1 (e2 (addD true) (eC (.int 1)) (eA (F_q_take) (eL [eV 0, eC (.int 2)])))) (gV 5) (sB [sSet 6 (eA (F_q_record_v2) (eL [eV 0, e2 ixD (eV 4) (eA (F_q_take) (eL [eV 0, eC (.int 4)])), eC (.int 3)])),
    sE (eM isLst (mt2 insertD) (eV 3) (eL [eA (F_q_take) (eL [eV 0, e2 (addD true) (eA (on1 lenD) (eL [eV 3])) (eC (.int 1))]), eV 6]))]),
  sRet (eV 3)]
def F_q_spoilt : AF := fnT 3 7 b_q_spoilt
/- _law_tells: _law_forest, _law_records, _law_end, _law_rows, _law_actual -/
def b_q_tells : AS := sB [sSet 3 (eA (on1 (listD true)) (eL [eV 1])),
  sSet 4 (eA (F_row_end) (eL [eV 0, eV 3])),
  sRet (eAnd (eA (F_q_is_record) (eL [eV 4, eA (on1 lenD) (eL [eV 2])])) (eAnd (e2 eqD (eV 4) (eV 2)) (e2 eqD (eV 3) (eV 1))))]
def F_q_tells : AF := fnT 3 5 b_q_tells
/- _law_twice: _law_tape_here, _law_records, _law_elder -/
def b_q_twice : AS := sB [sIf (tAnd (tB1 (e2 gtD (eA (on1 lenD) (eL [eV 1])) (eC (.int 1)))) (tB1 (e2 eqD (eA (F_q_take) (eL [eV 0, eC (.int 4)])) (eC (.int 0))))) (sB [sSet 2 (e2 ixD (eV 1) (eA (F_q_take) (eL [eV 0, eA (on1 lenD) (eL [eV 1])]))),
    sSub setIxD (eV 1) (eA (F_q_take) (eL [eV 0, eA (on1 lenD) (eL [eV 1])])) (eV 2)]) (sB []),
  sRet (eV 1)]
def F_q_twice : AF := fnT 2 3 b_q_twice
/- law: _law_script, _law_tape_here, _law_parents_here, _law_kinds_here, _law_n, _law_forest, _law_records, _law_extra, _law_end, _law_merged, _law_spoilt_here, _law_rows, _law_longer, _law_others, _law_second, _law_many -/
def b_law_k39 : AS := sB [sSet 1 (eA (F_q_tape) (eL [eV 0, eC (.int 0)])),
  sSet 2 (eA (F_q_parents) (eL [eV 1, eA (F_q_fields_v2) (eL [eV 1])])),
  sSet 3 (eA (F_q_kinds) (eL [eA (F_q_tape) (eL [eV 0, eC (.int 1)]), eV 2, eC (.bl false)])),
  sSet 4 (eA (on1 lenD) (eL [eV 2])),
  sSet 5 (eA (mkI "Forest" true (F_Forest_init)) (eL [eA (on1 (listD true)) (eL [eV 2]), eA (on1 (listD true)) (eL [eV 3])])),
  sSet 6 (eA (F_q_twice) (eL [eV 1, eA (F_q_row) (eL [eV 0, eV 2, eA (F_q_count_v5) (eL [eV 1, eC (.int 0)]), eC (.int 3)])])),
  sSet 7 (eA (F_q_record_v2) (eL [eV 1, eV 4, eC (.int 3)])),
  sIf (tB1 (e2 eqD (eV 6) (eLst true (eL [])))) (sB [sRet (eAnd (eA (F_q_refused_v3) (eL [eV 5, eLst true (eL []), eC .non])) (eAnd (eA (F_q_tells) (eL [eV 5, eLst true (eL [eV 7]), eV 7])) (eA (F_q_refused_v3) (eL [eV 5, eLst true (eL []), eC .non]))))]) (sB []),
  sSet 8 (eA (F_q_fold_v2) (eL [eV 2, eV 3, eV 6])),
  sIf (tOr (tNot (tV (eA (F_q_tells) (eL [eV 5, eV 6, eV 8])))) (tNot (tV (eA (F_q_borne) (eL [eV 2, eV 6, eV 8]))))) (sB [sRet (eC (.bl false))]) (sB []),
  sIf (tOr (tB1 (e2 neD (eA (F_q_from_right) (eL [eV 2, eV 3, eV 6])) (eV 8))) (tB1 (e2 neD (eA (F_q_pressed_v2) (eL [eV 1, eV 2, eV 3, eV 6])) (eV 8)))) (sB [sRet (eC (.bl false))]) (sB []),
  sSet 9 (eA (F_q_merged_by) (eL [eV 1, eV 5, eV 6])),
  sIf (tOr (tNot (tV (eA (F_q_is_record) (eL [eV 9, eV 4])))) (tB1 (e2 neD (eV 9) (eV 8)))) (sB [sRet (eC (.bl false))]) (sB []),
  sSet 10 (eA (F_q_spoilt) (eL [eV 1, eV 6, eV 4])),
  sIf (tNot (tV (eA (F_q_refused_v3) (eL [eV 5, eV 10, eA (F_q_first_wrong) (eL [eV 10, eV 4])])))) (sB [sRet (eC (.bl false))]) (sB []),
  sSet 11 (eA (on1 (listD false)) (eL [eV 6])),
  sIf (tB1 (e2 neD (eA (F_row_end) (eL [eV 5, eV 11])) (eV 8))) (sB [sRet (eC (.bl false))]) (sB []),
  sE (eM isLst (mt2 insertD) (eV 11) (eL [eA (F_q_take) (eL [eV 1, e2 (addD true) (eA (on1 lenD) (eL [eV 11])) (eC (.int 1))]), eV 7])),
  sSet 12 (eA (F_row_end) (eL [eV 5, eV 11])),
  sIf (tOr (tNot (tV (eA (F_q_is_record) (eL [eV 12, eV 4])))) (tB1 (e2 neD (eV 12) (eA (F_q_fold_v2) (eL [eV 2, eV 3, eV 11]))))) (sB [sRet (eC (.bl false))]) (sB []),
  sSet 13 (eA (F_q_kinds) (eL [eV 1, eV 2, eC (.bl false)])),
  sSet 14 (eA (mkI "Forest" true (F_Forest_init)) (eL [eA (on1 (listD true)) (eL [eV 2]), eA (on1 (listD true)) (eL [eV 13])])),
  sIf (tNot (tV (eA (F_q_tells) (eL [eV 14, eV 6, eA (F_q_fold_v2) (eL [eV 2, eV 13, eV 6])])))) (sB [sRet (eC (.bl false))]) (sB []),
  sIf (tAnd (tB1 (e2 leD (eA (on1 lenD) (eL [eV 6])) (eC (.int 6)))) (tB1 (e2 eqD (eA (F_q_take) (eL [eV 1, eC (.int 16)])) (eC (.int 15))))) (sB [sSet 15 (eA (F_q_long) (eL [eV 1, eV 6, eV 4])),
    sIf (tNot (tV (eA (F_q_tells) (eL [eV 5, eV 15, eA (F_q_fold_v2) (eL [eV 2, eV 3, eV 15])])))) (sB [sRet (eC (.bl false))]) (sB [])]) (sB []),
  sRet (eA (F_q_tells) (eL [eV 5, eV 6, eV 8]))]
def F_law_k39 : AF := fnT 1 16 b_law_k39
end Sm
end

section
set_option linter.all false
set_option maxRecDepth 10000
/-! Za: the end of a row, for forests of all kinds: the sieve. -/
namespace Sm
theorem ext_rv {a b : List Int} (hl : a.length = b.length) (h : ∀ f < a.length, rv a f = rv b f) : a = b := by
  refine List.ext_getElem hl fun f h1 h2 => ?_
  rw [← rv_get h1, ← rv_get h2]; exact h f h1
/-- what best_of leaves -/
def bog (k : Kd) (p : Nat) (L : List (List Int)) : List (List Int) := match k with
  | .first => L.take 1
  | .last => [L.getLastD []]
  | k => bo k p L
def sieG (ks : List Kd) (R : List (List Int)) (path : List Nat) : List (List Int) := path.foldl (fun L p => bog (kd ks p) p L) R
def sEg (ps : Par) (ks : List Kd) (R : List (List Int)) (f : Nat) : Int := hdV f (sieG ks R (path ps f))
def sEndG (ps : Par) (ks : List Kd) (R : List (List Int)) : List Int := (List.range ps.length).map (sEg ps ks R)
theorem bog_fair {k : Kd} (hk : k.end_ = false) (p : Nat) (L : List (List Int)) : bog k p L = bo k p L := by
  cases k <;> first | rfl | cases hk
theorem bog_ne {k : Kd} {p : Nat} {L : List (List Int)} (h : L ≠ []) : bog k p L ≠ [] := by
  cases k with
  | first => cases L with
    | nil => exact absurd rfl h
    | cons a b => simp [bog]
  | last => simp [bog]
  | up => exact bo_ne h
  | down => exact bo_ne h
theorem getLastD_mem : ∀ {L : List (List Int)}, L ≠ [] → L.getLastD [] ∈ L
  | [], h => absurd rfl h
  | a :: b, _ => by
    have : (a :: b).getLastD [] = (a :: b).getLast (by simp) := by simp [List.getLastD_eq_getLast?, List.getLast?_eq_getLast]
    rw [this]; exact List.getLast_mem _
theorem bog_sub {k : Kd} {p : Nat} {L : List (List Int)} (h : L ≠ []) : ∀ r ∈ bog k p L, r ∈ L := fun r hr => by
  cases k with
  | first => exact List.mem_of_mem_take hr
  | last =>
    simp only [bog, List.mem_singleton] at hr
    rw [hr]; exact getLastD_mem h
  | up => exact (List.mem_filter.mp hr).1
  | down => exact (List.mem_filter.mp hr).1
theorem bog_one (k : Kd) (p : Nat) (r : List Int) : bog k p [r] = [r] := by
  cases k <;> simp [bog, bo, bst, bestV, hdV]
/-- all that is left has one value in the field -/
theorem bog_eq {k : Kd} {p : Nat} {L : List (List Int)} (h : L ≠ []) : ∃ v, ∀ r ∈ bog k p L, rv r p = v := by
  cases k with
  | first => cases L with
    | nil => exact absurd rfl h
    | cons a b => exact ⟨rv a p, fun r hr => by simp [bog] at hr; rw [hr]⟩
  | last => exact ⟨_, fun r hr => by simp [bog] at hr; rw [hr]⟩
  | up => exact ⟨bst .up p L, fun r hr => by simpa using (List.mem_filter.mp hr).2⟩
  | down => exact ⟨bst .down p L, fun r hr => by simpa using (List.mem_filter.mp hr).2⟩
theorem sieG_ne (ks : List Kd) : ∀ (path : List Nat) (R : List (List Int)), R ≠ [] → sieG ks R path ≠ []
  | [], R, h => h
  | p :: path, R, h => sieG_ne ks path (bog (kd ks p) p R) (bog_ne h)
theorem sieG_sub (ks : List Kd) : ∀ (path : List Nat) (R : List (List Int)), R ≠ [] → ∀ r ∈ sieG ks R path, r ∈ R
  | [], R, _ => fun r hr => hr
  | p :: path, R, h => fun r hr => bog_sub h r (sieG_sub ks path (bog (kd ks p) p R) (bog_ne h) r hr)
theorem sieG_one (ks : List Kd) : ∀ (path : List Nat) (r : List Int), sieG ks [r] path = [r]
  | [], r => rfl
  | p :: path, r => by
    show sieG ks (bog (kd ks p) p [r]) path = [r]
    rw [bog_one]; exact sieG_one ks path r
theorem sieG_cons (ks : List Kd) (p : Nat) (t : List Nat) (R : List (List Int)) : sieG ks R (p :: t) = sieG ks (bog (kd ks p) p R) t := rfl
theorem sieG_snoc (ks : List Kd) (t : List Nat) (p : Nat) (R : List (List Int)) : sieG ks R (t ++ [p]) = bog (kd ks p) p (sieG ks R t) := by
  unfold sieG; rw [List.foldl_append]; rfl
theorem sieG_agree (ks : List Kd) : ∀ (path : List Nat) (R : List (List Int)), R ≠ [] → ∀ r ∈ sieG ks R path, ∀ s ∈ sieG ks R path, ∀ p ∈ path, rv r p = rv s p
  | [], R, _ => fun _ _ _ _ p hp => by cases hp
  | p :: path, R, h => fun r hr s hs q hq => by
    rcases List.mem_cons.mp hq with rfl | hq
    · obtain ⟨v, hv⟩ := bog_eq (k := kd ks q) (p := q) h
      rw [hv r (sieG_sub ks path _ (bog_ne h) r hr), hv s (sieG_sub ks path _ (bog_ne h) s hs)]
    · exact sieG_agree ks path (bog (kd ks p) p R) (bog_ne h) r hr s hs q hq
theorem hd_mem {L : List (List Int)} (h : L ≠ []) : L.headD [] ∈ L := by
  cases L with
  | nil => exact absurd rfl h
  | cons a b => exact List.mem_cons_self
/-- a best value behind one more record -/
theorem bst_snoc {k : Kd} (hk : k.end_ = false) {p : Nat} {R : List (List Int)} (h : R ≠ []) (r : List Int) : bst k p (R ++ [r]) = if bet k (rv r p) (bst k p R) then rv r p else bst k p R := by
  obtain ⟨a, b, rfl⟩ : ∃ a b, R = a :: b := by cases R with
    | nil => exact absurd rfl h
    | cons a b => exact ⟨a, b, rfl⟩
  have step : ∀ (L : List (List Int)) (x : Int), bestV k p x (L ++ [r]) = if bet k (rv r p) (bestV k p x L) then rv r p else bestV k p x L := by
    intro L
    induction L with
    | nil => intro x; rfl
    | cons y L ih => intro x; exact ih _
  exact step (a :: b) (rv a p)
/-- one more record behind the row -/
theorem sieG_add (ks : List Kd) : ∀ (L : List Nat), EndOk ks L → ∀ (R : List (List Int)), R ≠ [] → ∀ r : List Int,
    (sdL ks (rv ((sieG ks R L).headD [])) (rv r) L = 0 → ∀ q ∈ L, rv ((sieG ks (R ++ [r]) L).headD []) q = rv ((sieG ks R L).headD []) q) ∧
    (sdL ks (rv ((sieG ks R L).headD [])) (rv r) L = 1 → ∀ q ∈ L, rv ((sieG ks (R ++ [r]) L).headD []) q = rv r q)
  | [], _, R, _, r => And.intro (fun _ q hq => absurd hq (by simp)) (fun _ q hq => absurd hq (by simp))
  | p :: t, he, R, hR, r => by
    have hend : (kd ks p).end_ = true → t = [] := fun q => he [] p t rfl q
    rw [sieG_cons, sieG_cons]
    cases hk : (kd ks p).end_ with
    | true =>
      have ht := hend hk
      subst ht
      cases k : kd ks p with
      | up => rw [k] at hk; cases hk
      | down => rw [k] at hk; cases hk
      | first =>
        have e : (bog .first p (R ++ [r])).headD [] = (bog .first p R).headD [] := by
          cases R with
          | nil => exact absurd rfl hR
          | cons a b => rfl
        refine ⟨fun _ q _ => by rw [show sieG ks (bog .first p (R ++ [r])) [] = bog .first p (R ++ [r]) from rfl, e]; rfl, fun z => ?_⟩
        unfold sdL at z
        rw [k] at z
        split at z
        · cases z
        · cases z
      | last =>
        have e : (bog .last p (R ++ [r])).headD [] = r := by simp [bog, List.getLastD_eq_getLast?]
        have e2 : ∀ q, rv ((sieG ks (bog .last p (R ++ [r])) []).headD []) q = rv r q := fun q => by rw [show sieG ks (bog .last p (R ++ [r])) [] = bog .last p (R ++ [r]) from rfl, e]
        refine ⟨fun z q hq => ?_, fun _ q _ => e2 q⟩
        rw [e2]
        unfold sdL at z
        rw [k] at z
        split at z
        · rename_i c
          have : q = p := by simpa using hq
          rw [this]; exact c.symm
        · cases z
    | false =>
      rw [bog_fair hk, bog_fair hk]
      obtain ⟨m, hm⟩ : ∃ m, m = bst (kd ks p) p R := ⟨_, rfl⟩
      have nb := bo_ne (k := kd ks p) (p := p) hR
      have xm : (sieG ks (bo (kd ks p) p R) t).headD [] ∈ bo (kd ks p) p R := sieG_sub ks t _ nb _ (hd_mem (sieG_ne ks t _ nb))
      have xp : rv ((sieG ks (bo (kd ks p) p R) t).headD []) p = m := by rw [hm]; simpa using (List.mem_filter.mp xm).2
      have bs := bst_snoc hk (p := p) hR r
      rw [← hm] at bs
      by_cases c : rv r p = m
      · have nbet : bet (kd ks p) (rv r p) m = false := by rw [c, bet_adj hk]; simp
        rw [nbet] at bs
        have eb : bo (kd ks p) p (R ++ [r]) = bo (kd ks p) p R ++ [r] := by
          unfold bo
          rw [bs, ← hm, List.filter_append]
          simp [c]
        have ih := sieG_add ks t he.tail (bo (kd ks p) p R) nb r
        have yp : rv ((sieG ks (bo (kd ks p) p R ++ [r]) t).headD []) p = m := by
          have ym : (sieG ks (bo (kd ks p) p R ++ [r]) t).headD [] ∈ bo (kd ks p) p R ++ [r] := sieG_sub ks t _ (by simp) _ (hd_mem (sieG_ne ks t _ (by simp)))
          rcases List.mem_append.mp ym with h | h
          · rw [hm]; simpa using (List.mem_filter.mp h).2
          · rw [List.mem_singleton.mp h]; exact c
        unfold sdL
        rw [if_pos (xp.trans c.symm), eb]
        refine ⟨fun z q hq => ?_, fun z q hq => ?_⟩
        · rcases List.mem_cons.mp hq with rfl | hq
          · rw [yp, xp]
          · exact ih.1 z q hq
        · rcases List.mem_cons.mp hq with rfl | hq
          · rw [yp, c]
          · exact ih.2 z q hq
      · have c2 : ¬ rv ((sieG ks (bo (kd ks p) p R) t).headD []) p = rv r p := by rw [xp]; exact fun z => c z.symm
        unfold sdL
        rw [if_neg c2, xp]
        cases b : bet (kd ks p) (rv r p) m with
        | true =>
          rw [b] at bs
          have eb : bo (kd ks p) p (R ++ [r]) = [r] := by
            unfold bo
            rw [bs, List.filter_append]
            have : R.filter (fun x => decide (rv x p = rv r p)) = [] := by
              rw [List.filter_eq_nil_iff]
              intro x hx hxe
              have hxe : rv x p = rv r p := by simpa using hxe
              have := bst_ge hk (p := p) x hx
              rw [← hm, hxe] at this
              rw [bet_adj hk] at b
              have b := of_decide_eq_true b
              omega
            simp [this]
          rw [eb, sieG_one]
          refine ⟨fun z => ?_, fun _ q _ => rfl⟩
          exfalso
          rw [bet_adj hk] at b
          have b := of_decide_eq_true b
          unfold sdI at z
          cases k : kd ks p with
          | first => rw [k] at hk; cases hk
          | last => rw [k] at hk; cases hk
          | up => rw [k] at z b; simp [adj] at z b; omega
          | down => rw [k] at z b; simp [adj] at z b; omega
        | false =>
          rw [b] at bs
          have eb : bo (kd ks p) p (R ++ [r]) = bo (kd ks p) p R := by
            unfold bo
            rw [bs, ← hm, List.filter_append]
            simp [c]
          rw [eb]
          refine ⟨fun _ q _ => rfl, fun z => ?_⟩
          exfalso
          rw [bet_adj hk] at b
          have b := of_decide_eq_false b
          unfold sdI at z
          cases k : kd ks p with
          | first => rw [k] at hk; cases hk
          | last => rw [k] at hk; cases hk
          | up => rw [k] at z b; simp [adj] at z b; omega
          | down => rw [k] at z b; simp [adj] at z b; omega
section
variable {ps : Par} {ks : List Kd} (g : Good ps ks)
include g
/-- what is left of a path has the end's values along it -/
theorem sieG_val {R : List (List Int)} (hR : R ≠ []) : ∀ f < ps.length, ∀ r ∈ sieG ks R (path ps f), ∀ p ∈ path ps f, rv r p = sEg ps ks R p := by
  refine path_ind g.acy fun f hf ih r hr p hp => ?_
  by_cases c : p = f
  · subst c
    exact sieG_agree ks _ R hR r hr _ (hd_mem (sieG_ne ks _ R hR)) p hp
  · rcases path_cases g.acy hf with ⟨_, e⟩ | ⟨q, hq, e1, e2⟩
    · rw [e] at hp; exact absurd (List.mem_singleton.mp hp) c
    · rw [e2, sieG_snoc] at hr
      exact ih q e1 r (bog_sub (sieG_ne ks _ R hR) r hr) p ((above g.acy hf e1).mpr ⟨hp, c⟩)
theorem rv_sEndG {R : List (List Int)} {f : Nat} (hf : f < ps.length) : rv (sEndG ps ks R) f = sEg ps ks R f := rv_range _ hf
theorem fold_sEndG : ∀ (R : List (List Int)), R ≠ [] → (∀ r ∈ R, r.length = ps.length) → foldE ps ks R = sEndG ps ks R := by
  have key : ∀ (n : Nat) (R : List (List Int)), R.length = n → R ≠ [] → (∀ r ∈ R, r.length = ps.length) → foldE ps ks R = sEndG ps ks R := by
    intro n
    induction n with
    | zero => intro R h hR; exact absurd (List.length_eq_zero_iff.mp h) hR
    | succ n ih =>
      intro R hn hR hl
      obtain ⟨S, r, rfl⟩ := snoc hR
      by_cases hS : S = []
      · subst hS
        have lr : r.length = ps.length := hl r (by simp)
        show r = _
        refine ext_rv (by simp [sEndG, lr]) fun f hf => ?_
        rw [rv_sEndG g (by omega)]
        unfold sEg
        rw [List.nil_append, sieG_one ks _ r]; rfl
      · have lS : ∀ r ∈ S, r.length = ps.length := fun x hx => hl x (by simp [hx])
        have lr : r.length = ps.length := hl r (by simp)
        have e1 := ih S (by simp at hn; exact hn) hS lS
        have e2 : foldE ps ks (S ++ [r]) = mrg ps ks (foldE ps ks S) r := by
          cases S with
          | nil => exact absurd rfl hS
          | cons a b => show (b ++ [r]).foldl _ a = _; rw [List.foldl_append]; rfl
        rw [e2, e1]
        refine ext_rv (by simp [sEndG, mrg]) fun f hf => ?_
        have hf : f < ps.length := by simpa [mrg] using hf
        rw [rv_sEndG g hf]
        have pm := path_mem g.acy hf
        have self := path_self g.acy hf
        have lE : (sEndG ps ks S).length = ps.length := by simp [sEndG]
        have hv : rv (mrg ps ks (sEndG ps ks S) r) f = if sideV ps ks f (rec (sEndG ps ks S)) (rec r) = 0 then rv (sEndG ps ks S) f else rv r f := rv_range _ hf
        rw [hv, sd_side (fun p hp => by rw [lE]; exact pm p hp) (fun p hp => by rw [lr]; exact pm p hp)]
        have xa : ∀ p ∈ path ps f, rv ((sieG ks S (path ps f)).headD []) p = rv (sEndG ps ks S) p := fun p hp => by
          rw [rv_sEndG g (pm p hp)]
          exact sieG_val g hS f hf _ (hd_mem (sieG_ne ks _ S hS)) p hp
        have ad := sieG_add ks (path ps f) (endOk g hf) S hS r
        rw [sdL_congr (ks := ks) (x := rv ((sieG ks S (path ps f)).headD [])) (x2 := rv (sEndG ps ks S)) (path ps f) xa (fun _ _ => rfl)] at ad
        rcases sdL_01 (ks := ks) (rv (sEndG ps ks S)) (rv r) (path ps f) with z | z
        · rw [if_pos z, ← xa f self, ← ad.1 z f self]; rfl
        · rw [if_neg (by rw [z]; decide), ← ad.2 z f self]; rfl
  exact fun R => key _ R rfl
/-- some record of the row bears the end along a path -/
theorem borne {R : List (List Int)} (hR : R ≠ []) (hl : ∀ r ∈ R, r.length = ps.length) {f : Nat} (hf : f < ps.length) : ∃ r ∈ R, ∀ p ∈ path ps f, rv r p = rv (foldE ps ks R) p := by
  have ne := sieG_ne ks (path ps f) R hR
  refine ⟨_, sieG_sub ks _ R hR _ (hd_mem ne), fun p hp => ?_⟩
  rw [fold_sEndG g R hR hl, rv_sEndG g (path_mem g.acy hf p hp)]
  exact sieG_val g hR f hf _ (hd_mem ne) p hp
end
end Sm
end

section
set_option linter.all false
set_option maxRecDepth 10000
/-! Zb: the program's end_of_row and row_end, for all kinds. -/
namespace Sm
def svG (ks : List Kd) (R : List (List Int)) (path : List Nat) (i : Nat) : List D := encL (sieG ks R (path.take i))
section
variable {ps : Par} {ks : List Kd} (g : Good ps ks)
include g
end
end Sm
end

section
set_option linter.all false
set_option maxRecDepth 10000
/-! Zc: rows: draws and merges of neighbours. -/
namespace Sm
/-! ### merges of neighbours -/
section
variable {ps : Par} {ks : List Kd} (g : Good ps ks)
include g
end
end Sm
end

section
set_option linter.all false
set_option maxRecDepth 10000
/-! Zd: rows merged two neighbours at a time (printed by mkzd.py). -/
namespace Sm
section
variable {ps : Par} {ks : List Kd} (g : Good ps ks)
include g
end
end Sm
end

section
set_option linter.all false
/-! k30: plain computations (printed by gen2.py) -/
namespace Sm
/- _law_bent: _law_tape_here, _law_word_here, _law_steps, _law_place, _law_kinds_here -/
def b_q_bent : AS := sB [sSet 2 (eA (on1 (listD false)) (eL [eV 1])),
  sSet 3 (eA (F_q_take) (eL [eV 0, eA (on1 lenD) (eL [eV 2])])),
  sSet 4 (eLst true (eL [eC (.str [117, 112]), eC (.str [100, 111, 119, 110])])),
  sIf (tB1 (e2 eqD (eV 3) (e2 subD (eA (on1 lenD) (eL [eV 2])) (eC (.int 1))))) (sB [sSet 4 (eLst true (eL [eC (.str [117, 112]), eC (.str [100, 111, 119, 110]), eC (.str [102, 105, 114, 115, 116]), eC (.str [108, 97, 115, 116])]))]) (sB []),
  sSub setIxD (eV 2) (eV 3) (eTup (eL [e2 ixD (e2 ixD (eV 2) (eV 3)) (eC (.int 0)), e2 ixD (eV 4) (eA (F_q_take) (eL [eV 0, eA (on1 lenD) (eL [eV 4])]))])),
  sRet (eA (on1 tupD) (eL [eV 2]))]
def F_q_bent : AF := fnT 2 5 b_q_bent
/- _law_described: _law_n, _law_words, _law_parents_here, _law_f, _law_kinds_here, _law_word_here, _law_k -/
def b_q_described : AS := sB [sSet 2 (eLC false [3] (iR1 (eV 0)) (gV 3) (tYes) (eC .non)),
  sSet 4 (eLC false [3] (iR1 (eV 0)) (gV 3) (tYes) (eC (.str [117, 112]))),
  sFor (iS (eV 1)) (gV 5) (sB [sIf (tB1 (e1 notNonD (eV 5))) (sB [sFor (iR1 (eA (on1 lenD) (eL [eV 5]))) (gV 6) (sB [sSub setIxD (eV 4) (e2 ixD (e2 ixD (eV 5) (eV 6)) (eC (.int 0))) (e2 ixD (e2 ixD (eV 5) (eV 6)) (eC (.int 1))),
        sIf (tB1 (e2 gtD (eV 6) (eC (.int 0)))) (sB [sSub setIxD (eV 2) (e2 ixD (e2 ixD (eV 5) (eV 6)) (eC (.int 0))) (e2 ixD (e2 ixD (eV 5) (e2 subD (eV 6) (eC (.int 1)))) (eC (.int 0)))]) (sB [])])]) (sB [])]),
  sRet (eLst true (eL [eV 2, eV 4]))]
def F_q_described : AF := fnT 2 7 b_q_described
/- stand_together: first, second, place, other -/
def b_stand_together : AS := sB [sFor (iR1 (eA (on1 lenD) (eL [eV 0]))) (gV 2) (sB [sFor (iR1 (eA (on1 lenD) (eL [eV 1]))) (gV 3) (sB [sIf (tAnd (tB1 (e2 eqD (e2 ixD (e2 ixD (eV 0) (eV 2)) (eC (.int 0))) (e2 ixD (e2 ixD (eV 1) (eV 3)) (eC (.int 0))))) (tB1 (e2 neD (eSl true (eV 0) (oN) (oS (e2 (addD true) (eV 2) (eC (.int 1))))) (eSl true (eV 1) (oN) (oS (e2 (addD true) (eV 3) (eC (.int 1)))))))) (sB [sRet (eC (.bl false))]) (sB [])])]),
  sRet (eC (.bl true))]
def F_stand_together : AF := fnT 2 4 b_stand_together
/- first_clash: words, first, second -/
def b_first_clash : AS := sB [sFor (iR1 (eA (on1 lenD) (eL [eV 0]))) (gV 1) (sB [sFor (iR2 (e2 (addD true) (eV 1) (eC (.int 1))) (eA (on1 lenD) (eL [eV 0]))) (gV 2) (sB [sIf (tAnd (tB1 (e1 notNonD (e2 ixD (eV 0) (eV 1)))) (tB1 (e1 notNonD (e2 ixD (eV 0) (eV 2))))) (sB [sIf (tNot (tV (eA (F_stand_together) (eL [e2 ixD (eV 0) (eV 1), e2 ixD (eV 0) (eV 2)])))) (sB [sRet (eTup (eL [eV 1, eV 2]))]) (sB [])]) (sB [])])]),
  sRet (eC .non)]
def F_first_clash : AF := fnT 1 3 b_first_clash
/- forest_of_words: fields, words, clash, parents, kinds, word, above, field, kind -/
def b_forest_of_words : AS := sB [sSet 2 (eA (F_first_clash) (eL [eV 1])),
  sIf (tB1 (e1 notNonD (eV 2))) (sB [sRaise "WordsClash" ["first", "second"] (eL [e2 ixD (eV 2) (eC (.int 0)), e2 ixD (eV 2) (eC (.int 1))])]) (sB []),
  sSet 3 (e2 (mulD false) (eLst true (eL [eC .non])) (eV 0)),
  sSet 4 (e2 (mulD false) (eLst true (eL [eC (.str [117, 112])])) (eV 0)),
  sFor (iS (eV 1)) (gV 5) (sB [sIf (tB1 (e1 notNonD (eV 5))) (sB [sSet 6 (eC .non),
      sFor (iS (eV 5)) (gT [gV 7, gV 8]) (sB [sSub setIxD (eV 3) (eV 7) (eV 6),
        sSub setIxD (eV 4) (eV 7) (eV 8),
        sSet 6 (eV 7)])]) (sB [])]),
  sRet (eA (mkI "Forest" true (F_Forest_init)) (eL [eV 3, eV 4]))]
def F_forest_of_words : AF := fnT 2 9 b_forest_of_words
/- _law_made: _law_n, _law_given, _law_forest, e, _law_kin -/
def b_q_made : AS := sB [sTryAs [("BadRecord", false), ("BadForest", false), ("Overlap", false), ("FieldsDiffer", false), ("WordsClash", true), ("HangsOn", false)] 3 (sB [sSet 2 (eA (F_forest_of_words) (eL [eV 0, eV 1]))]) (fun x => sB [sSet 4 (eAnd (eXis x [("WordsClash", true)]) (eXis x [("WordsClash", true)])),
    sRet (eLst true (eL [eC .non, eTup (eL [eXf ["FieldsDiffer", "WordsClash"] x "first", eXf ["FieldsDiffer", "WordsClash"] x "second"]), eAnd (eV 4) (e1 notD (eXis x [("WordsClash", false)]))]))]),
  sRet (eLst true (eL [eV 2, eC .non, eC (.bl true)]))]
def F_q_made : AF := fnT 2 5 b_q_made
/- _law_begin: _law_word_here, _law_field, _law_begin_here, _law_step -/
def b_q_begin : AS := sB [sSet 2 (eLst false (eL [])),
  sFor (iS (eV 0)) (gV 3) (sB [sE (eM isLst (mt1 appendD) (eV 2) (eL [eV 3])),
    sIf (tB1 (e2 eqD (e2 ixD (eV 3) (eC (.int 0))) (eV 1))) (sB [sRet (eV 2)]) (sB [])]),
  sRet (eLst true (eL []))]
def F_q_begin : AF := fnT 2 4 b_q_begin
/- _law_stand: _law_first, _law_second, _law_step, _law_begin_here -/
def b_q_stand : AS := sB [sFor (iS (eV 0)) (gV 2) (sB [sSet 3 (eA (F_q_begin) (eL [eV 1, e2 ixD (eV 2) (eC (.int 0))])),
    sIf (tAnd (tB1 (e2 gtD (eA (on1 lenD) (eL [eV 3])) (eC (.int 0)))) (tB1 (e2 neD (eV 3) (eA (F_q_begin) (eL [eV 0, e2 ixD (eV 2) (eC (.int 0))]))))) (sB [sRet (eC (.bl false))]) (sB [])]),
  sRet (eC (.bl true))]
def F_q_stand : AF := fnT 2 4 b_q_stand
/- _law_pair: _law_words, _law_first, _law_second -/
def b_q_pair_v2 : AS := sB [sFor (iR1 (eA (on1 lenD) (eL [eV 0]))) (gV 1) (sB [sFor (iR2 (e2 (addD true) (eV 1) (eC (.int 1))) (eA (on1 lenD) (eL [eV 0]))) (gV 2) (sB [sIf (tAnd (tB1 (e1 notNonD (e2 ixD (eV 0) (eV 1)))) (tB1 (e1 notNonD (e2 ixD (eV 0) (eV 2))))) (sB [sIf (tNot (tV (eA (F_q_stand) (eL [e2 ixD (eV 0) (eV 1), e2 ixD (eV 0) (eV 2)])))) (sB [sRet (eLst true (eL [eV 1, eV 2]))]) (sB [])]) (sB [])])]),
  sRet (eC .non)]
def F_q_pair_v2 : AF := fnT 1 3 b_q_pair_v2
/- _law_fits: _law_n, _law_words, _law_pair_here, _law_given, _law_turn, _law_told, _law_due, _law_f -/
def b_q_fits_v2 : AS := sB [sSet 2 (eA (F_q_pair_v2) (eL [eV 1])),
  sSet 3 (eA (on1 (listD false)) (eL [eV 1])),
  sFor (iR1 (eC (.int 2))) (gV 4) (sB [sSet 5 (eA (F_q_made) (eL [eV 0, eV 3])),
    sIf (tOr (tB1 (e2 neD (eA (on1 reprD) (eL [eV 3])) (eA (on1 reprD) (eL [eV 1])))) (tNot (tV (e2 ixD (eV 5) (eC (.int 2)))))) (sB [sRet (eC (.bl false))]) (sB []),
    sIf (tB1 (e1 notNonD (eV 2))) (sB [sIf (tOr (tB1 (e1 notNonD (e2 ixD (eV 5) (eC (.int 0))))) (tNot (tV (eA (F_q_same) (eL [e2 ixD (eV 5) (eC (.int 1)), eV 2]))))) (sB [sRet (eC (.bl false))]) (sB [])]) (sB [sIf (tNot (tV (e1 (isClsD "Forest") (e2 ixD (eV 5) (eC (.int 0)))))) (sB [sRet (eC (.bl false))]) (sB []),
      sSet 6 (eA (F_q_described) (eL [eV 0, eV 1])),
      sIf (tNot (tV (eA (F_q_shown) (eL [e2 ixD (eV 5) (eC (.int 0)), e2 ixD (eV 6) (eC (.int 0)), e2 ixD (eV 6) (eC (.int 1))])))) (sB [sRet (eC (.bl false))]) (sB []),
      sFor (iR1 (eV 0)) (gV 7) (sB [sSub setIxD (eV 3) (eV 7) (eC .non)]),
      sFor (iR1 (eV 0)) (gV 7) (sB [sIf (tAnd (tB1 (e1 notNonD (e2 ixD (eV 1) (eV 7)))) (tNot (tV (eA (F_q_same_word) (eL [eMth [("Forest", F_Forest_word)] "word" (e2 ixD (eV 5) (eC (.int 0))) (eL [eV 7]), e2 ixD (eV 1) (eV 7)]))))) (sB [sRet (eC (.bl false))]) (sB [])]),
      sIf (tNot (tV (eA (F_q_shown) (eL [e2 ixD (eV 5) (eC (.int 0)), e2 ixD (eV 6) (eC (.int 0)), e2 ixD (eV 6) (eC (.int 1))])))) (sB [sRet (eC (.bl false))]) (sB []),
      sSet 3 (eA (on1 (listD false)) (eL [eV 1]))])]),
  sRet (eC (.bl true))]
def F_q_fits_v2 : AF := fnT 2 8 b_q_fits_v2
/- tree_of_word: word -/
def b_tree_of_word : AS := sB [sRet (eA (F_tree_of_steps) (eL [eV 0]))]
def F_tree_of_word : AF := fnT 1 1 b_tree_of_word
/- law: _law_script, _law_sizes, _law_n, _law_parents_here, _law_kinds_here, _law_others, _law_foreign, _law_tape_here, _law_words, _law_f, _law_word_here, _law_plain, _law_k, _law_told, _law_first, _law_second, _law_actual -/
def b_law_k30 : AS := sB [sSet 1 (eA (F_q_tape) (eL [eV 0, eC (.int 0)])),
  sSet 2 (e2 (addD true) (eC (.int 1)) (eA (F_q_take) (eL [eV 1, eC (.int 6)]))),
  sIf (tB1 (e2 eqD (eA (F_q_take) (eL [eV 1, eC (.int 8)])) (eC (.int 0)))) (sB [sSet 2 (e2 (addD true) (eC (.int 7)) (eA (F_q_take) (eL [eV 1, eC (.int 2)])))]) (sB []),
  sSet 3 (eA (F_q_parents) (eL [eV 1, eV 2])),
  sSet 4 (eA (F_q_kinds) (eL [eA (F_q_tape) (eL [eV 0, eC (.int 1)]), eV 3, eC (.bl false)])),
  sSet 5 (eA (F_q_parents) (eL [eA (F_q_tape) (eL [eV 0, eC (.int 2)]), eV 2])),
  sSet 6 (eA (F_q_kinds) (eL [eA (F_q_tape) (eL [eV 0, eC (.int 3)]), eV 5, eC (.bl false)])),
  sSet 7 (eA (F_q_tape) (eL [eV 0, eC (.int 4)])),
  sSet 8 (eLst false (eL [])),
  sFor (iR1 (eV 2)) (gV 9) (sB [sSet 10 (eA (F_q_word) (eL [eV 3, eV 4, eV 9])),
    sE (eM isLst (mt1 appendD) (eV 8) (eL [e2 ixD (eLst true (eL [eV 10, eV 10, eV 10, eC .non])) (eA (F_q_take) (eL [eV 7, eC (.int 4)]))]))]),
  sSet 11 (eA (on1 (listD true)) (eL [eV 8])),
  sIf (tB1 (e2 eqD (eA (F_q_take) (eL [eV 7, eC (.int 2)])) (eC (.int 0)))) (sB [sFor (iR1 (e2 (addD true) (eC (.int 1)) (eA (F_q_take) (eL [eV 7, eC (.int 3)])))) (gV 12) (sB [sSet 9 (eA (F_q_take) (eL [eV 7, eV 2])),
      sIf (tB1 (e2 eqD (eA (F_q_take) (eL [eV 7, eC (.int 2)])) (eC (.int 0)))) (sB [sSub setIxD (eV 8) (eV 9) (eA (F_q_word) (eL [eV 5, eV 6, eV 9]))]) (sB [sSub setIxD (eV 8) (eV 9) (eA (F_q_bent) (eL [eV 7, eA (F_q_word) (eL [eV 3, eV 4, eV 9])]))])])]) (sB []),
  sIf (tOr (tNot (tV (eA (F_q_fits_v2) (eL [eV 2, eV 8])))) (tNot (tV (eA (F_q_fits_v2) (eL [eV 2, eV 11]))))) (sB [sRet (eC (.bl false))]) (sB []),
  sSet 13 (eLC true [10] (iS (eV 8)) (gV 10) (tB1 (e1 notNonD (eV 10))) (eV 10)),
  sFor (iS (eV 13)) (gV 14) (sB [sIf (tNot (tV (eA (F_q_same_tree 12) (eL [eA (F_tree_of_word) (eL [eV 14]), eA (F_q_word_tree) (eL [eV 14])])))) (sB [sRet (eC (.bl false))]) (sB []),
    sFor (iS (eV 13)) (gV 15) (sB [sSet 16 (eA (F_stand_together) (eL [eV 14, eV 15])),
      sIf (tOr (tNot (tV (e1 (isTy "bool") (eV 16)))) (tB1 (e2 neD (eV 16) (eA (F_q_stand) (eL [eV 14, eV 15]))))) (sB [sRet (eC (.bl false))]) (sB [])])]),
  sRet (eC (.bl true))]
def F_law_k30 : AF := fnT 1 17 b_law_k30
end Sm
end

section
set_option linter.all false
set_option maxRecDepth 10000
/-! Wa: words that stand together: the forest they make. -/
namespace Sm
abbrev Wd := List (Nat × Kd)
structure WOk (n f : Nat) (w : Wd) : Prop where
  last : (w.map Prod.fst).getLast? = some f
  nd : (w.map Prod.fst).Nodup
  lt : ∀ p ∈ w, p.1 < n
  en : ∀ i p, w[i]? = some p → p.2.end_ = true → i + 1 = w.length
theorem WOk.len {n f : Nat} {w : Wd} (o : WOk n f w) : w.length ≤ n := by
  have := pig n (w.map Prod.fst) o.nd fun x hx => by
    obtain ⟨p, hp, rfl⟩ := List.mem_map.mp hx
    exact o.lt p hp
  simpa using this
theorem WOk.pos {n f : Nat} {w : Wd} (o : WOk n f w) : 0 < w.length := by
  have := o.last
  cases w with
  | nil => cases this
  | cons _ _ => simp
theorem WOk.inj {n f : Nat} {w : Wd} (o : WOk n f w) {i j : Nat} {p q : Nat × Kd} (hi : w[i]? = some p) (hj : w[j]? = some q) (e : p.1 = q.1) : i = j := by
  have h1 : (w.map Prod.fst)[i]? = some p.1 := by rw [List.getElem?_map, hi]; rfl
  have h2 : (w.map Prod.fst)[j]? = some q.1 := by rw [List.getElem?_map, hj]; rfl
  obtain ⟨a1, a2⟩ := List.getElem?_eq_some_iff.mp h1
  obtain ⟨b1, b2⟩ := List.getElem?_eq_some_iff.mp h2
  exact (List.getElem_inj o.nd (h₀ := a1) (h₁ := b1)).mp (by rw [a2, b2, e])
/-- the word's beginning, up to a field -/
def pfx (w : Wd) (x : Nat) : Wd := match w.findIdx? fun p => decide (p.1 = x) with
  | some i => w.take (i + 1)
  | none => []
def std (a b : Wd) : Bool := a.all fun p => decide (pfx b p.1 = [] ∨ pfx b p.1 = pfx a p.1)
/-- what the program looks at -/
def okA (a b : Wd) (i : Nat) : Bool := (List.range b.length).all fun j => !(decide ((a.getD i (0, .up)).1 = (b.getD j (0, .up)).1) && !decide (a.take (i + 1) = b.take (j + 1)))
def stT2 (a b : Wd) : Bool := (List.range a.length).all (okA a b)
/-! ### what the words say -/
abbrev Tri := Nat × Option Nat × Kd
def trip (w : Wd) : List Tri := (List.range w.length).map fun i => ((w.getD i (0, .up)).1, (if i = 0 then none else some (w.getD (i - 1) (0, .up)).1), (w.getD i (0, .up)).2)
def tripO : Option Wd → List Tri
  | none => []
  | some w => trip w
def trips (W : List (Option Wd)) : List Tri := W.flatMap tripO
def FnT (T : List Tri) : Prop := ∀ x p k p2 k2, (x, p, k) ∈ T → (x, p2, k2) ∈ T → p = p2 ∧ k = k2
structure Desc (n : Nat) (T : List Tri) (ps : Par) (ks : List Kd) : Prop where
  lp : ps.length = n
  lk : ks.length = n
  has : ∀ x p k, (x, p, k) ∈ T → x < n → par ps x = p ∧ kd ks x = k
  non : ∀ x, (∀ p k, (x, p, k) ∉ T) → x < n → par ps x = none ∧ kd ks x = .up
theorem Desc.nil (n : Nat) : Desc n [] (List.replicate n none) (List.replicate n .up) := by
  refine ⟨by simp, by simp, fun x p k h => by simp at h, fun x _ hx => ?_⟩
  unfold par kd
  rw [List.getD_eq_getElem?_getD, List.getElem?_replicate, List.getElem?_replicate, if_pos hx, if_pos hx]
  exact ⟨rfl, rfl⟩
/-- one more thing said -/
theorem Desc.put {n : Nat} {T : List Tri} {ps : Par} {ks : List Kd} (d : Desc n T ps ks) {x : Nat} {p : Option Nat} {k : Kd} (fn : FnT (T ++ [(x, p, k)])) (hx : x < n) : Desc n (T ++ [(x, p, k)]) (ps.set x p) (ks.set x k) := by
  refine ⟨by simp [d.lp], by simp [d.lk], fun y q j h hy => ?_, fun y h hy => ?_⟩
  · by_cases c : y = x
    · subst c
      have := fn y q j p k h (by simp)
      rw [par_set_self _ (by rw [d.lp]; exact hx), kd_setS _ (by rw [d.lk]; exact hx), this.1, this.2]
      exact ⟨rfl, rfl⟩
    · rw [par_set _ c, kd_setN _ c]
      rcases List.mem_append.mp h with h | h
      · exact d.has y q j h hy
      · simp at h; exact absurd h.1 c
  · have c : y ≠ x := fun z => h p k (by rw [z]; simp)
    rw [par_set _ c, kd_setN _ c]
    exact d.non y (fun q j z => h q j (List.mem_append_left _ z)) hy
end Sm
end

section
set_option linter.all false
set_option maxRecDepth 10000
/-! Wb: words that stand together: their forest is one, and has these words. -/
namespace Sm
structure WsOk (n : Nat) (W : List (Option Wd)) : Prop where
  len : W.length = n
  ok : ∀ f w, W[f]? = some (some w) → WOk n f w
def Ags (W : List (Option Wd)) : Prop := ∀ (i j : Nat) (a b : Wd), W[i]? = some (some a) → W[j]? = some (some b) → std a b = true
theorem FnT.sub {T U : List Tri} (h : FnT T) (s : ∀ t ∈ U, t ∈ T) : FnT U := fun x p k p2 k2 a b => h x p k p2 k2 (s _ a) (s _ b)
section
variable {n : Nat} {W : List (Option Wd)} (o : WsOk n W) {ps : Par} {ks : List Kd} (d : Desc n (trips W) ps ks)
include o d
end
end Sm
end

section
set_option linter.all false
set_option maxRecDepth 10000
/-! Wc: k30: words as data; which stand together, by the program and by the law. -/
namespace Sm
def eS (p : Nat × Kd) : D := .tup [.int p.1, eK p.2]
def eW (w : Wd) : D := .tup (w.map eS)
def eOW : Option Wd → D
  | none => .non
  | some w => eW w
def encWs (W : List (Option Wd)) : List D := W.map eOW
@[simp] theorem encWs_len (W : List (Option Wd)) : (encWs W).length = W.length := by simp [encWs]
@[simp] theorem clo_eS (n : Nat) (p : Nat × Kd) : clo n (eS p) = true := by simp [eS]
@[simp] theorem clos_eS (n : Nat) (w : Wd) : clos n (w.map eS) = true := by
  rw [clos_all, List.all_eq_true]
  intro y hy
  obtain ⟨p, _, rfl⟩ := List.mem_map.mp hy
  simp
@[simp] theorem clo_eW (n : Nat) (w : Wd) : clo n (eW w) = true := by simp [eW]
@[simp] theorem nloc_eW (w : Wd) : nloc (eW w) = true := rfl
@[simp] theorem clo_eOW (n : Nat) (o : Option Wd) : clo n (eOW o) = true := by cases o <;> simp [eOW]
@[simp] theorem clos_encWs (n : Nat) (W : List (Option Wd)) : clos n (encWs W) = true := by
  rw [clos_all, List.all_eq_true]
  intro y hy
  obtain ⟨o, _, rfl⟩ := List.mem_map.mp hy
  simp
end Sm
end

section
set_option linter.all false
set_option maxRecDepth 10000
/-! We: k30: which words stand together, by the program; the first that do not. -/
namespace Sm
/-! ### the first two that do not stand together -/
def badP (W : List (Option Wd)) (i j : Nat) : Bool := match W.getD i none, W.getD j none with
  | some a, some b => !std a b
  | _, _ => false
def badI (W : List (Option Wd)) (i : Nat) : Bool := (List.range (W.length - (i + 1))).any fun k => badP W i (i + 1 + k)
def clash (W : List (Option Wd)) : Option (Nat × Nat) := ((List.range W.length).find? (badI W)).bind fun i => ((List.range (W.length - (i + 1))).find? fun k => badP W i (i + 1 + k)).map fun k => (i, i + 1 + k)
def gb (S : AF) (mk : AA → AE) : AS := sB [sFor (iR1 (eA (on1 lenD) (eL [eV 0]))) (gV 1) (sB [sFor (iR2 (Sm.e2 (addD true) (eV 1) (eC (.int 1))) (eA (on1 lenD) (eL [eV 0]))) (gV 2) (sB [sIf (tAnd (tB1 (Sm.e1 notNonD (Sm.e2 ixD (eV 0) (eV 1)))) (tB1 (Sm.e1 notNonD (Sm.e2 ixD (eV 0) (eV 2))))) (sB [sIf (tNot (tV (eA (S) (eL [Sm.e2 ixD (eV 0) (eV 1), Sm.e2 ixD (eV 0) (eV 2)])))) (sB [sRet (mk (eL [eV 1, eV 2]))]) (sB [])]) (sB [])])]),
  sRet (eC .non)]
end Sm
end

section
set_option linter.all false
set_option maxRecDepth 10000
/-! Wf: k30: the forest of words, by the program and by the law. -/
namespace Sm
def clT : Option (Nat × Nat) → D
  | none => .non
  | some (i, j) => .tup [.int i, .int j]
def clL : Option (Nat × Nat) → D
  | none => .non
  | some (i, j) => .lst [.int i, .int j]
section
variable {W : List (Option Wd)} {n : Nat} {P : D} {h : AH} (o : WsOk n W) (hn : n ≤ 16)
include o hn
end
def abv (w : Wd) (m : Nat) : Option Nat := if m = 0 then none else some (w.getD (m - 1) (0, .up)).1
section
variable {W : List (Option Wd)} {n : Nat} {P : D} {h : AH} (o : WsOk n W) (h0 : 0 < n) (hn : n ≤ 16)
include o h0 hn
end
end Sm
end

section
set_option linter.all false
set_option maxRecDepth 10000
/-! Ze: rows: tells, refused, borne. -/
namespace Sm
section
variable {ps : Par} {ks : List Kd} (g : Good ps ks)
include g
end
end Sm
end

section
set_option linter.all false
set_option maxRecDepth 10000
/-! Zf: rows: borne, spoilt, long. -/
namespace Sm
section
variable {ps : Par} {ks : List Kd} (g : Good ps ks)
include g
end
end Sm
end

section
set_option linter.all false
set_option maxRecDepth 10000
/-! Zg: rows: long rows, drawn rows, a record twice. -/
namespace Sm
end Sm
end

section
set_option linter.all false
/-! k42: plain computations (printed by gen2.py) -/
namespace Sm
/- _law_due: _law_parents_here, _law_kinds_here, _law_records, _law_index, _law_rest -/
def b_q_due_v6 : AS := sB [sSet 4 (e2 (addD true) (eSl true (eV 2) (oN) (oS (eV 3))) (eSl true (eV 2) (oS (e2 (addD true) (eV 3) (eC (.int 1)))) (oN))),
  sIf (tB1 (e2 eqD (eV 4) (eLst true (eL [])))) (sB [sRet (eC (.bl false))]) (sB []),
  sRet (e2 eqD (eA (F_q_fold_v2) (eL [eV 0, eV 1, eV 4])) (eA (F_q_fold_v2) (eL [eV 0, eV 1, eV 2])))]
def F_q_due_v6 : AF := fnT 4 5 b_q_due_v6
/- _law_long: _law_tape_here, _law_records, _law_n, _law_many, _law_k -/
def b_q_long_v2 : AS := sB [sSet 3 (eA (on2 min2D) (eL [eC (.int 190), e2 fdivD (eC (.int 12000)) (e2 (mulD true) (eV 2) (e2 (addD true) (e2 (mulD true) (eC (.int 2)) (eV 2)) (eC (.int 8))))])),
  sRet (eLC false [4] (iR1 (eV 3)) (gV 4) (tYes) (e2 ixD (eV 1) (eA (F_q_take) (eL [eV 0, eA (on1 lenD) (eL [eV 1])]))))]
def F_q_long_v2 : AF := fnK 3 5 b_q_long_v2
/- can_strike: forest, records, index, rest, place -/
def b_can_strike : AS := sB [sE (eA (F_check_records) (eL [e1 (fldD ["Forest"] "fields") (eV 0), eV 1])),
  sE (eA (F_check_place) (eL [eA (on1 lenD) (eL [eV 1]), eV 2])),
  sSet 3 (eLC true [4] (iR1 (eA (on1 lenD) (eL [eV 1]))) (gV 4) (tB1 (e2 neD (eV 4) (eV 2))) (e2 ixD (eV 1) (eV 4))),
  sRet (eAnd (e2 gtD (eA (on1 lenD) (eL [eV 3])) (eC (.int 0))) (e2 eqD (eA (F_row_end) (eL [eV 0, eV 3])) (eA (F_row_end) (eL [eV 0, eV 1]))))]
def F_can_strike : AF := fnT 3 5 b_can_strike
/- _law_refused: _law_forest, _law_n, _law_records, _law_index, _law_rows, _law_wrong, e -/
def b_q_refused_v4 : AS := sB [sSet 4 (eA (on1 (listD true)) (eL [eV 2])),
  sSet 5 (eA (F_q_first_wrong) (eL [eV 2, eV 1])),
  sTryAs [("BadRecord", true), ("NoRecord", true), ("BadForest", true), ("BadPlace", true), ("Marked", true)] 6 (sB [sE (eA (F_can_strike) (eL [eV 0, eV 4, eV 3]))]) (fun x => sB [sIf (tOr (tNot (tV (eXis x [("BadRecord", true), ("NoRecord", true), ("BadForest", true), ("BadPlace", true), ("Marked", true)]))) (tB1 (e2 neD (eV 4) (eV 2)))) (sB [sRet (eC (.bl false))]) (sB []),
    sIf (tB1 (e2 eqD (eV 2) (eLst true (eL [])))) (sB [sRet (eAnd (eXis x [("BadRecord", false), ("NoRecord", true), ("BadForest", false), ("BadPlace", false), ("Marked", false)]) (e1 notD (eXis x [("BadRecord", true), ("NoRecord", false), ("BadForest", false), ("BadPlace", true), ("Marked", true)])))]) (sB []),
    sIf (tB1 (e1 notNonD (eV 5))) (sB [sIf (tOr (tV (eXis x [("BadRecord", false), ("NoRecord", true), ("BadForest", false), ("BadPlace", true), ("Marked", true)])) (tNot (tV (eXis x [("BadRecord", true), ("NoRecord", false), ("BadForest", false), ("BadPlace", false), ("Marked", false)])))) (sB [sRet (eC (.bl false))]) (sB []),
      sRet (eAnd (eA (F_q_is_record) (eL [eXf ["BadRecord"] x "record", eA (on1 lenD) (eL [eV 5])])) (e2 eqD (eXf ["BadRecord"] x "record") (eV 5)))]) (sB []),
    sIf (tOr (tV (eXis x [("BadRecord", true), ("NoRecord", true), ("BadForest", false), ("BadPlace", false), ("Marked", true)])) (tNot (tV (eXis x [("BadRecord", false), ("NoRecord", false), ("BadForest", false), ("BadPlace", true), ("Marked", true)])))) (sB [sRet (eC (.bl false))]) (sB []),
    sRet (eAnd (eA (F_q_is_integer) (eL [eXf ["BadPlace", "Marked"] x "place"])) (e2 eqD (eXf ["BadPlace", "Marked"] x "place") (eV 3)))]),
  sRet (eC (.bl false))]
def F_q_refused_v4 : AF := fnT 4 7 b_q_refused_v4
/- _law_same_around: _law_forest, _law_parents_here, _law_kinds_here, _law_before, _law_row_here, _law_index, _law_after, _law_whole, _law_less, _law_end, _law_actual -/
def b_q_same_around : AS := sB [sSet 7 (e2 (addD true) (e2 (addD true) (eV 3) (eV 4)) (eV 6)),
  sSet 8 (e2 (addD true) (e2 (addD true) (e2 (addD true) (eV 3) (eSl true (eV 4) (oN) (oS (eV 5)))) (eSl true (eV 4) (oS (e2 (addD true) (eV 5) (eC (.int 1)))) (oN))) (eV 6)),
  sSet 9 (eA (F_q_fold_v2) (eL [eV 1, eV 2, eV 7])),
  sSet 10 (eA (F_row_end) (eL [eV 0, eA (on1 (listD true)) (eL [eV 8])])),
  sIf (tOr (tNot (tV (eA (F_q_is_record) (eL [eV 10, eA (on1 lenD) (eL [eV 1])])))) (tB1 (e2 neD (eV 10) (eV 9)))) (sB [sRet (eC (.bl false))]) (sB []),
  sRet (eAnd (e2 eqD (eA (F_q_fold_v2) (eL [eV 1, eV 2, eV 8])) (eV 9)) (e2 eqD (eA (F_row_end) (eL [eV 0, eA (on1 (listD true)) (eL [eV 7])])) (eV 9)))]
def F_q_same_around : AF := fnT 7 11 b_q_same_around
/- _law_tells: _law_forest, _law_parents_here, _law_kinds_here, _law_records, _law_index, _law_rows, _law_actual -/
def b_q_tells_v2 : AS := sB [sSet 5 (eA (on1 (listD true)) (eL [eV 3])),
  sSet 6 (eA (F_can_strike) (eL [eV 0, eV 5, eV 4])),
  sIf (tOr (tNot (tV (e1 (isTy "bool") (eV 6)))) (tB1 (e2 neD (eV 5) (eV 3)))) (sB [sRet (eC (.bl false))]) (sB []),
  sRet (e2 eqD (eV 6) (eA (F_q_due_v6) (eL [eV 1, eV 2, eV 3, eV 4])))]
def F_q_tells_v2 : AF := fnT 5 7 b_q_tells_v2
/- law: _law_script, _law_tape_here, _law_parents_here, _law_other, _law_kinds_here, _law_n, _law_forest, _law_span, _law_many, _law_records, _law_extra, _law_index, _law_asked, _law_before, _law_k, _law_after, _law_wrong, _law_spoilt_here, _law_rows, _law_actual, _law_place -/
def b_law_k42 : AS := sB [sSet 1 (eA (F_q_tape) (eL [eV 0, eC (.int 0)])),
  sSet 2 (eA (F_q_parents) (eL [eV 1, eA (F_q_fields_v2) (eL [eV 1])])),
  sSet 3 (eA (F_q_tape) (eL [eV 0, eC (.int 1)])),
  sSet 4 (eA (F_q_kinds) (eL [eV 3, eV 2, eC (.bl false)])),
  sSet 5 (eA (on1 lenD) (eL [eV 2])),
  sSet 6 (eA (mkI "Forest" true (F_Forest_init)) (eL [eA (on1 (listD true)) (eL [eV 2]), eA (on1 (listD true)) (eL [eV 4])])),
  sSet 7 (e2 (addD true) (eC (.int 2)) (eA (on1 intD) (eL [e2 eqD (eA (F_q_take) (eL [eV 1, eC (.int 3)])) (eC (.int 0))]))),
  sSet 8 (eA (F_q_take) (eL [eV 1, eC (.int 6)])),
  sIf (tB1 (e2 eqD (eA (F_q_take) (eL [eV 1, eC (.int 8)])) (eC (.int 7)))) (sB [sSet 8 (e2 (addD true) (eC (.int 6)) (eA (F_q_take) (eL [eV 1, eC (.int 15)])))]) (sB []),
  sSet 9 (eA (F_q_twice) (eL [eV 1, eA (F_q_row) (eL [eV 0, eV 2, eV 8, eV 7])])),
  sSet 10 (eA (F_q_record_v2) (eL [eV 1, eV 5, eV 7])),
  sIf (tB1 (e2 eqD (eV 9) (eLst true (eL [])))) (sB [sSet 11 (e2 subD (eA (F_q_take) (eL [eV 1, eC (.int 3)])) (eC (.int 1))),
    sRet (eAnd (eA (F_q_refused_v4) (eL [eV 6, eV 5, eLst true (eL []), eV 11])) (eA (F_q_tells_v2) (eL [eV 6, eV 2, eV 4, eLst true (eL [eV 10]), eC (.int 0)])))]) (sB []),
  sSet 12 (eLst true (eL [eA (F_q_take) (eL [eV 1, eV 8])])),
  sIf (tB1 (e2 leD (eV 8) (eC (.int 6)))) (sB [sSet 12 (e2 (addD true) (eV 12) (eLR false true (eC (.int 0)) (eV 8)))]) (sB []),
  sFor (iS (eV 12)) (gV 11) (sB [sIf (tNot (tV (eA (F_q_tells_v2) (eL [eV 6, eV 2, eV 4, eV 9, eV 11])))) (sB [sRet (eC (.bl false))]) (sB [])]),
  sSet 11 (e2 ixD (eV 12) (eC (.int 0))),
  sSet 13 (eLC true [14] (iR1 (eA (F_q_take) (eL [eV 3, eC (.int 4)]))) (gV 14) (tYes) (eA (F_q_record_v2) (eL [eV 3, eV 5, eV 7]))),
  sSet 15 (eLC true [14] (iR1 (eA (F_q_take) (eL [eV 3, eC (.int 4)]))) (gV 14) (tYes) (eA (F_q_record_v2) (eL [eV 3, eV 5, eV 7]))),
  sIf (tV (eA (F_q_due_v6) (eL [eV 2, eV 4, eV 9, eV 11]))) (sB [sIf (tNot (tV (eA (F_q_same_around) (eL [eV 6, eV 2, eV 4, eV 13, eV 9, eV 11, eV 15])))) (sB [sRet (eC (.bl false))]) (sB [])]) (sB []),
  sSet 16 (e2 ixD (eLst true (eL [e2 subD (e2 subD (eC (.int 0)) (eC (.int 1))) (eA (F_q_take) (eL [eV 1, eV 8])), e2 (addD true) (eV 8) (eA (F_q_take) (eL [eV 1, eC (.int 3)]))])) (eA (F_q_take) (eL [eV 1, eC (.int 2)]))),
  sSet 17 (eA (F_q_spoilt) (eL [eV 1, eV 9, eV 5])),
  sIf (tOr (tNot (tV (eA (F_q_refused_v4) (eL [eV 6, eV 5, eV 9, eV 16])))) (tNot (tV (eA (F_q_refused_v4) (eL [eV 6, eV 5, eV 17, eV 11]))))) (sB [sRet (eC (.bl false))]) (sB []),
  sSet 18 (eA (on1 (listD false)) (eL [eV 9])),
  sE (eA (F_can_strike) (eL [eV 6, eV 18, eV 11])),
  sE (eM isLst (mt1 appendD) (eV 18) (eL [eV 10])),
  sSet 19 (eA (F_can_strike) (eL [eV 6, eV 18, eV 11])),
  sIf (tOr (tNot (tV (e1 (isTy "bool") (eV 19)))) (tB1 (e2 neD (eV 19) (eA (F_q_due_v6) (eL [eV 2, eV 4, eV 18, eV 11]))))) (sB [sRet (eC (.bl false))]) (sB []),
  sIf (tAnd (tB1 (e2 leD (eV 8) (eC (.int 6)))) (tB1 (e2 eqD (eA (F_q_take) (eL [eV 1, eC (.int 16)])) (eC (.int 15))))) (sB [sSet 18 (eA (F_q_long_v2) (eL [eV 1, eV 9, eV 5])),
    sSet 20 (eA (F_q_take) (eL [eV 1, e2 (addD true) (eA (on1 lenD) (eL [eV 18])) (eC (.int 1))])),
    sE (eM isLst (mt2 insertD) (eV 18) (eL [eV 20, eV 10])),
    sIf (tNot (tV (eA (F_q_tells_v2) (eL [eV 6, eV 2, eV 4, eV 18, eV 20])))) (sB [sRet (eC (.bl false))]) (sB [])]) (sB []),
  sRet (eAnd (eA (F_q_refused_v4) (eL [eV 6, eV 5, eV 17, e2 subD (eC (.int 0)) (eC (.int 1))])) (eA (F_q_tells_v2) (eL [eV 6, eV 2, eV 4, eV 9, eV 11])))]
def F_law_k42 : AF := fnT 1 21 b_law_k42
end Sm
end

section
set_option linter.all false
set_option maxRecDepth 10000
/-! Zi: rows drawn with any span (printed from Zh). -/
namespace Sm
section
variable {ps : Par} (hac : Acy ps) (hn : ps.length ≤ 16) (hn0 : 0 < ps.length)
include hac hn hn0
end
end Sm
end

section
set_option linter.all false
set_option maxRecDepth 10000
/-! Om: a book's side and call. -/
namespace Sm
def sSame : D := .str [115, 97, 109, 101]
def sdD (ks : List Kd) (x y : Nat → Int) (f : Nat) (L : List Nat) : D := if x f = y f then sSame else if sdL ks x y L = 1 then sNew else sOld
section
variable {ps : Par} {ks : List Kd} (g : Good ps ks)
include g
end
end Sm
end

section
set_option linter.all false
set_option maxRecDepth 10000
/-! On: records as asked; three records; rows of signs. -/
namespace Sm
section
variable {ps : Par} {ks : List Kd} (g : Good ps ks)
include g
end
section
variable {ps : Par} {ks : List Kd} (g : Good ps ks)
include g
end
end Sm
end

section
set_option linter.all false
set_option maxRecDepth 10000
/-! Zj: k42: strikes. -/
namespace Sm
/-- the row without a record -/
def lessR (R : List (List Int)) (i : Nat) : List (List Int) := R.take i ++ R.drop (i + 1)
def strk (ps : Par) (ks : List Kd) (R : List (List Int)) (i : Nat) : Bool := decide (lessR R i ≠ []) && decide (foldE ps ks (lessR R i) = foldE ps ks R)
section
variable {ps : Par} {ks : List Kd} (g : Good ps ks)
include g
end
end Sm
end

section
set_option linter.all false
set_option maxRecDepth 10000
/-! Xb: books of any trees. -/
namespace Sm
def bkT (ts : List Tr) : D := .ins "Book" ["trees", "fields"] [.tup (ts.map Tr.enc), .int ts.length]
def badT (n : Nat) (t : Tr) : Bool := t.fields.any fun x => decide ((n : Int) ≤ x)
def trA (ts : List Tr) (i : Nat) : Tr := ts.getD i (.leaf old)
def fstBad (ts : List Tr) : Option Nat := (List.range ts.length).find? fun i => badT ts.length (trA ts i)
def fbT (ts : List Tr) (i : Nat) : Option Nat := (List.range i).find? fun i => badT ts.length (trA ts i)
def xTree (d : D) : Ex := ⟨"BadTree", ["field"], [d]⟩
end Sm
end

section
set_option linter.all false
set_option maxRecDepth 10000
/-! Xc: merges by a book of any trees. -/
namespace Sm
/-- which record a field is taken from: true for the newer one -/
def sideT (ts : List Tr) (rs : List Int) (f : Nat) : Bool := !decide (rv rs f = 0) && decide (foll rs (trA ts f) = new)
def bkM (ts : List Tr) (a b : List Int) : List Int := (List.range ts.length).map fun f => if sideT ts (sgR a b) f then rv b f else rv a f
def sideD (ts : List Tr) (rs : List Int) (f : Nat) : D := if rv rs f = 0 then sSame else .str (foll rs (trA ts f))
structure TsOk (ts : List Tr) : Prop where
  ok : ∀ t ∈ ts, t.ok ts.length
  w : ∀ t ∈ ts, t.W
  dep : ∀ t ∈ ts, t.dep < 60
  ln : ts.length ≤ 40
section
variable {ts : List Tr} (o : TsOk ts)
include o
end
end Sm
end

section
set_option linter.all false
set_option maxRecDepth 10000
/-! Xd: k03: the law's merges, refusals of records. -/
namespace Sm
section
variable {ts : List Tr}
end
end Sm
end

section
set_option linter.all false
set_option maxRecDepth 10000
/-! Xe: k03: trees alike, a book is right. -/
namespace Sm
end Sm
end

section
set_option linter.all false
set_option maxRecDepth 10000
/-! Xf: k03: wrong trees. -/
namespace Sm
theorem Tr.ok_mono {n m : Int} (hm : n ≤ m) : ∀ t : Tr, t.ok n → t.ok m
  | .leaf _, _ => trivial
  | .node f a b c, ⟨f0, f1, ka, kb, kc⟩ => ⟨f0, by omega, a.ok_mono hm ka, b.ok_mono hm kb, c.ok_mono hm kc⟩
end Sm
end

section
set_option linter.all false
set_option maxRecDepth 10000
/-! Xg: k03: books of wrong trees are refused. -/
namespace Sm
/-- a tree that any book takes, right or wrong -/
def Fit (t : Tr) : Prop := t.ok 50 ∧ t.size ≤ 1200 ∧ t.dep < 30
end Sm
end

section
set_option linter.all false
set_option maxRecDepth 10000
/-! Zk: k42: refusals, rows around, long rows. -/
namespace Sm
section
variable {ps : Par} {ks : List Kd} (g : Good ps ks)
include g
end
end Sm
end

section
set_option linter.all false
set_option maxRecDepth 10000
/-! Zl: rows: several records of one tape. -/
namespace Sm
end Sm
end

section
set_option linter.all false
set_option maxRecDepth 10000
/-! Xh: k03: lists of trees drawn from tapes of their own. -/
namespace Sm
theorem S_le {i j : Nat} (h : i ≤ j) : S i ≤ S j := by
  induction h with
  | refl => exact Nat.le_refl _
  | step h ih => exact Nat.le_trans ih (by simp only [S]; omega)
theorem Tr.ok.mono {n m : Int} {t : Tr} (h : t.ok n) (hm : n ≤ m) : t.ok m := Tr.ok_mono hm t h
end Sm
end

section
set_option linter.all false
set_option maxRecDepth 10000
/-! Va: turned to Sm by port.py from Bd -/
namespace Sm
def Tr.beq : Tr → Tr → Bool
  | .leaf s, .leaf t => s == t
  | .node f a b c, .node g x y z => f == g && (a.beq x && (b.beq y && c.beq z))
  | _, _ => false
theorem Tr.beq_iff : ∀ a b : Tr, a.beq b = true ↔ a = b
  | .leaf s, .leaf t => by simp [Tr.beq]
  | .leaf s, .node g x y z => by simp [Tr.beq]
  | .node f a b c, .leaf t => by simp [Tr.beq]
  | .node f a b c, .node g x y z => by simp [Tr.beq, a.beq_iff x, b.beq_iff y, c.beq_iff z]
instance : DecidableEq Tr := fun a b => decidable_of_iff _ (Tr.beq_iff a b)
theorem pd_enc (h : AH) : ∀ (t : Tr) (n : Nat), t.W → t.dep ≤ n → pd h n t.enc = some t.enc
  | .leaf s, n, w, _ => by
    have hw : pd0 (.str s) = some (.str s) := by
      show (if s.all (fun c => decide (c < 1114112)) then some (D.str s) else none) = _
      rw [if_pos (Word.flat w)]
    cases n with
    | zero => exact hw
    | succ n => exact hw
  | .node f a b c, 0, w, hd => by simp [Tr.dep] at hd
  | .node f a b c, n + 1, w, hd => by
    simp only [Tr.dep] at hd
    have ea := pd_enc h a n w.1 (by omega)
    have eb := pd_enc h b n w.2.1 (by omega)
    have ec := pd_enc h c n w.2.2 (by omega)
    have ef : pd h n (.int f) = some (.int f) := by cases n <;> rfl
    show (mapO (pd h n) [.int f, a.enc, b.enc, c.enc]).map D.tup = _
    simp [mapO, ef, ea, eb, ec, Tr.enc]
theorem ev_enc : ∀ a b : Tr, ev a.enc b.enc = decide (a = b)
  | .leaf s, .leaf t => by rw [Bool.eq_iff_iff]; simp [Tr.enc, ev]
  | .leaf s, .node g x y z => by simp [Tr.enc, ev]
  | .node f a b c, .leaf t => by simp [Tr.enc, ev]
  | .node f a b c, .node g x y z => by
    rw [Bool.eq_iff_iff]
    simp only [Tr.enc, ev, evs, ev_enc a x, ev_enc b y, ev_enc c z]
    simp
theorem eq_enc {a b : Tr} (wa : a.W) (wb : b.W) (da : a.dep ≤ 64) (db : b.dep ≤ 64) (h : AH) : eqH h a.enc b.enc = some (decide (a = b)) := by
  unfold eqH
  rw [pd_enc h a 64 wa da, pd_enc h b 64 wb db]
  show (if scal a.enc b.enc = true then some (decide (a.enc = b.enc)) else some (ev a.enc b.enc)) = _
  rw [ev_enc]
  have : ∀ x y : Tr, scal x.enc y.enc = true → decide (x.enc = y.enc) = decide (x = y) := fun x y hs => by
    cases x <;> cases y <;> simp [Tr.enc, scal] at hs ⊢
  by_cases hs : scal a.enc b.enc = true
  · rw [if_pos hs, this a b hs]
  · rw [if_neg hs]
theorem eqD_enc {a b : Tr} (wa : a.W) (wb : b.W) (da : a.dep ≤ 64) (db : b.dep ≤ 64) (h : AH) : eqD a.enc b.enc h = .ok (.bl (decide (a = b))) h := by
  unfold eqD; rw [eq_enc wa wb da db]; rfl
theorem foll_congr {r1 r2 : List Int} : ∀ t : Tr, (∀ x ∈ t.fields, r1[x.toNat]? = r2[x.toNat]?) → foll r1 t = foll r2 t
  | .leaf s, _ => rfl
  | .node f a b c, h => by
    simp only [Tr.fields, List.mem_cons, List.mem_append] at h
    simp only [foll]
    rw [h f (.inl rfl), foll_congr a fun x hx => h x (.inr (.inl hx)), foll_congr b fun x hx => h x (.inr (.inr (.inl hx))), foll_congr c fun x hx => h x (.inr (.inr (.inr hx)))]
def least (t : Tr) (fld : Int) : List Int → List Int → Tr
  | row, [] => .leaf (foll row t)
  | row, g :: l =>
    let a := least t fld (row.set g.toNat (-1)) l
    let c := least t fld (row.set g.toNat 1) l
    if g = fld then (if a = c then a else .node g a (.leaf old) c)
    else
      let b := least t fld (row.set g.toNat 0) l
      if a = b ∧ b = c then a else .node g a b c
inductive IsL (fld : Int) : List Int → Tr → Prop
  | leaf {l : List Int} {s : List Nat} (h : Word s) : IsL fld l (.leaf s)
  | skip {x : Int} {l : List Int} {t : Tr} (h : IsL fld l t) : IsL fld (x :: l) t
  | node {x : Int} {l : List Int} {a b c : Tr} (ha : IsL fld l a) (hb : IsL fld l b) (hc : IsL fld l c) (h1 : x = fld → b = .leaf old ∧ a ≠ c) (h2 : x ≠ fld → ¬ (a = b ∧ b = c)) : IsL fld (x :: l) (.node x a b c)
theorem least_isL {t : Tr} (w : t.W) (fld : Int) : ∀ (l row : List Int), IsL fld l (least t fld row l)
  | [], row => .leaf (t.W_foll row w)
  | g :: l, row => by
    simp only [least]
    split
    · split
      · exact .skip (least_isL w fld l _)
      · rename_i h1 h2
        exact .node (least_isL w fld l _) (.leaf (.inl rfl)) (least_isL w fld l _) (fun _ => ⟨rfl, h2⟩) fun h => absurd h1 h
    · split
      · exact .skip (least_isL w fld l _)
      · rename_i h1 h2
        exact .node (least_isL w fld l _) (least_isL w fld l _) (least_isL w fld l _) (fun h => absurd h h1) fun _ => h2
theorem IsL.sub {fld : Int} {l1 l2 : List Int} (s : l1.Sublist l2) : ∀ {t : Tr}, IsL fld l1 t → IsL fld l2 t := by
  induction s with
  | slnil => exact fun h => h
  | cons a s ih => exact fun h => .skip (ih h)
  | cons_cons a s ih =>
    intro t h
    cases h with
    | leaf h => exact .leaf h
    | skip h => exact .skip (ih h)
    | node ha hb hc h1 h2 => exact .node (ih ha) (ih hb) (ih hc) h1 h2
theorem IsL.W {fld : Int} {l : List Int} {t : Tr} (h : IsL fld l t) : t.W := by
  induction h with
  | leaf h => exact h
  | skip h ih => exact ih
  | node _ _ _ _ _ ia ib ic => exact ⟨ia, ib, ic⟩
theorem IsL.dep {fld : Int} {l : List Int} {t : Tr} (h : IsL fld l t) : t.dep ≤ l.length := by
  induction h with
  | leaf h => exact Nat.zero_le _
  | skip h ih => simp; omega
  | node _ _ _ _ _ ia ib ic => simp only [Tr.dep, List.length_cons]; omega
theorem IsL.mem {fld : Int} {l : List Int} {t : Tr} (h : IsL fld l t) : ∀ x ∈ t.fields, x ∈ l := by
  induction h with
  | leaf h => simp [Tr.fields]
  | skip h ih => exact fun x hx => List.mem_cons_of_mem _ (ih x hx)
  | node _ _ _ _ _ ia ib ic =>
    intro x hx
    simp only [Tr.fields, List.mem_cons, List.mem_append] at hx ⊢
    rcases hx with h | h | h | h
    · exact .inl h
    · exact .inr (ia x h)
    · exact .inr (ib x h)
    · exact .inr (ic x h)
/-- a row of the law's: the field's own sign is not 0 -/
structure RowF (n fld : Int) (rs : List Int) : Prop where
  row : RowS n rs
  ne : rs[fld.toNat]? ≠ some 0
theorem RowS.set {n : Int} {rs : List Int} (h : RowS n rs) {x v : Int} (hv : -1 ≤ v ∧ v ≤ 1) : RowS n (rs.set x.toNat v) :=
  ⟨by rw [List.length_set]; exact h.1, fun r hr => by
    rcases List.mem_or_eq_of_mem_set hr with h' | h'
    · exact h.2 r h'
    · subst h'; exact hv⟩
theorem RowF.set {n fld : Int} {rs : List Int} (h : RowF n fld rs) {x v : Int} (h0 : 0 ≤ x) (hf0 : 0 ≤ fld) (hx : x < n) (hv : -1 ≤ v ∧ v ≤ 1) (hne : x = fld → v ≠ 0) : RowF n fld (rs.set x.toNat v) := by
  refine ⟨h.row.set hv, ?_⟩
  by_cases e : x = fld
  · subst e
    rw [List.getElem?_set_self (by have := h.row.1; omega)]
    intro z; exact hne rfl (Option.some.inj z)
  · rw [List.getElem?_set_ne (by omega)]; exact h.ne
theorem get_set_self {n : Int} {rs : List Int} (h : RowS n rs) {x v : Int} (h0 : 0 ≤ x) (hx : x < n) : (rs.set x.toNat v)[x.toNat]? = some v := List.getElem?_set_self (by have := h.1; omega)
/-- the field is not asked: its sign says nothing -/
theorem foll_set {rs : List Int} {t : Tr} {l : List Int} {x v : Int} (hl : ∀ y ∈ l, 0 ≤ y) (h0 : 0 ≤ x) (hm : ∀ y ∈ t.fields, y ∈ l) (hx : x ∉ l) : foll (rs.set x.toNat v) t = foll rs t :=
  foll_congr t fun y hy => List.getElem?_set_ne (by
    have := hl y (hm y hy)
    have : y ≠ x := fun e => hx (e ▸ hm y hy)
    omega)
theorem foll_less {n : Int} {rs : List Int} (h : RowS n rs) {x : Int} (h0 : 0 ≤ x) (hx : x < n) (a b c : Tr) : foll (rs.set x.toNat (-1)) (.node x a b c) = foll (rs.set x.toNat (-1)) a := by
  simp only [foll]; rw [get_set_self h h0 hx]; simp
theorem foll_same {n : Int} {rs : List Int} (h : RowS n rs) {x : Int} (h0 : 0 ≤ x) (hx : x < n) (a b c : Tr) : foll (rs.set x.toNat 0) (.node x a b c) = foll (rs.set x.toNat 0) b := by
  simp only [foll]; rw [get_set_self h h0 hx]; simp
theorem foll_more {n : Int} {rs : List Int} (h : RowS n rs) {x : Int} (h0 : 0 ≤ x) (hx : x < n) (a b c : Tr) : foll (rs.set x.toNat 1) (.node x a b c) = foll (rs.set x.toNat 1) c := by
  simp only [foll]; rw [get_set_self h h0 hx]; simp
theorem canon {n fld : Int} (hn : 0 < n) (hf0 : 0 ≤ fld) (hf : fld < n) : ∀ {l : List Int}, l.Nodup → (∀ x ∈ l, 0 ≤ x ∧ x < n) → ∀ {s t : Tr}, IsL fld l s → IsL fld l t → (∀ rs, RowF n fld rs → foll rs s = foll rs t) → s = t
  | [], _, _, s, t, hs, ht, h => by
    cases hs; cases ht
    have := h (List.replicate n.toNat 1) ⟨⟨by simp; omega, fun r hr => by rw [List.mem_replicate] at hr; omega⟩, by rw [List.getElem?_replicate]; split <;> simp⟩
    simp only [foll] at this
    rw [this]
  | x :: l, nd, hl, s, t, hs, ht, h => by
    have nd' := List.nodup_cons.mp nd
    obtain ⟨x0, x1⟩ := hl x List.mem_cons_self
    have hl' : ∀ y ∈ l, 0 ≤ y ∧ y < n := fun y hy => hl y (List.mem_cons_of_mem _ hy)
    have ih := fun {s t : Tr} => canon hn hf0 hf nd'.2 hl' (s := s) (t := t)
    have drop : ∀ {u : Tr} {rs : List Int} {v : Int}, IsL fld l u → foll (rs.set x.toNat v) u = foll rs u := fun hu => foll_set (fun y hy => (hl' y hy).1) x0 hu.mem nd'.1
    have lift : ∀ {u : Tr}, IsL fld (x :: l) u → (IsL fld l u) ∨ ∃ a b c, u = .node x a b c ∧ IsL fld l a ∧ IsL fld l b ∧ IsL fld l c ∧ (x = fld → b = .leaf old ∧ a ≠ c) ∧ (x ≠ fld → ¬ (a = b ∧ b = c)) := fun hu => by
      cases hu with
      | leaf h => exact .inl (.leaf h)
      | skip h => exact .inl h
      | node ha hb hc h1 h2 => exact .inr ⟨_, _, _, rfl, ha, hb, hc, h1, h2⟩
    have clash : ∀ {a b c u : Tr}, IsL fld l a → IsL fld l b → IsL fld l c → (x = fld → b = .leaf old ∧ a ≠ c) → (x ≠ fld → ¬ (a = b ∧ b = c)) → IsL fld l u → (∀ rs, RowF n fld rs → foll rs (.node x a b c) = foll rs u) → False := by
      intro a b c u ha hb hc h1 h2 hu hh
      have ea : ∀ rs, RowF n fld rs → foll rs a = foll rs u := fun rs hr => by
        have := hh _ (hr.set (x := x) (v := -1) x0 hf0 x1 (by omega) (by omega))
        rw [foll_less hr.row x0 x1, drop ha, drop hu] at this; exact this
      have ec : ∀ rs, RowF n fld rs → foll rs c = foll rs u := fun rs hr => by
        have := hh _ (hr.set (x := x) (v := 1) x0 hf0 x1 (by omega) (by omega))
        rw [foll_more hr.row x0 x1, drop hc, drop hu] at this; exact this
      have eac := ih ha hc fun rs hr => (ea rs hr).trans (ec rs hr).symm
      by_cases e : x = fld
      · exact (h1 e).2 eac
      · have eb : ∀ rs, RowF n fld rs → foll rs b = foll rs u := fun rs hr => by
          have := hh _ (hr.set (x := x) (v := 0) x0 hf0 x1 (by omega) (fun z => absurd z e))
          rw [foll_same hr.row x0 x1, drop hb, drop hu] at this; exact this
        have eab := ih ha hb fun rs hr => (ea rs hr).trans (eb rs hr).symm
        exact h2 e ⟨eab, eab ▸ eac⟩
    rcases lift hs with hs | ⟨a, b, c, rfl, ha, hb, hc, h1, h2⟩
    · rcases lift ht with ht | ⟨a, b, c, rfl, ha, hb, hc, h1, h2⟩
      · exact ih hs ht h
      · exact (clash ha hb hc h1 h2 hs fun rs hr => (h rs hr).symm).elim
    · rcases lift ht with ht | ⟨a', b', c', rfl, ha', hb', hc', h1', h2'⟩
      · exact (clash ha hb hc h1 h2 ht h).elim
      · have ea := ih ha ha' fun rs hr => by
          have := h _ (hr.set (x := x) (v := -1) x0 hf0 x1 (by omega) (by omega))
          rw [foll_less hr.row x0 x1, foll_less hr.row x0 x1, drop ha, drop ha'] at this; exact this
        have ec := ih hc hc' fun rs hr => by
          have := h _ (hr.set (x := x) (v := 1) x0 hf0 x1 (by omega) (by omega))
          rw [foll_more hr.row x0 x1, foll_more hr.row x0 x1, drop hc, drop hc'] at this; exact this
        have eb : b = b' := by
          by_cases e : x = fld
          · rw [(h1 e).1, (h1' e).1]
          · exact ih hb hb' fun rs hr => by
              have := h _ (hr.set (x := x) (v := 0) x0 hf0 x1 (by omega) (fun z => absurd z e))
              rw [foll_same hr.row x0 x1, foll_same hr.row x0 x1, drop hb, drop hb'] at this; exact this
        rw [ea, eb, ec]
def updR (rs : List Int) : List Int → List Int → List Int
  | row, [] => row
  | row, g :: l => updR rs (row.set g.toNat (rs[g.toNat]?.getD 0)) l
theorem updR_get {n : Int} {rs : List Int} (hr : RowS n rs) {x : Int} (x0 : 0 ≤ x) (hxn : x < n) : ∀ {l row : List Int}, row.length = rs.length → ((∃ g ∈ l, g = x) ∨ row[x.toNat]? = rs[x.toNat]?) → (∀ g ∈ l, 0 ≤ g) → (updR rs row l)[x.toNat]? = rs[x.toNat]?
  | [], row, _, h, _ => by
    rcases h with ⟨g, hg, _⟩ | h
    · cases hg
    · exact h
  | g :: l, row, hl, h, hp => by
    rw [updR]
    have hlen : x.toNat < rs.length := by have := hr.1; omega
    refine updR_get hr x0 hxn (by simpa using hl) ?_ fun y hy => hp y (List.mem_cons_of_mem _ hy)
    by_cases e : g = x
    · subst e
      refine .inr ?_
      rw [List.getElem?_set_self (by omega), List.getElem?_eq_getElem hlen]; simp
    · rcases h with ⟨y, hy, rfl⟩ | h
      · rcases List.mem_cons.mp hy with z | z
        · exact absurd z.symm e
        · exact .inl ⟨y, z, rfl⟩
      · refine .inr ?_
        have := hp g List.mem_cons_self
        rw [List.getElem?_set_ne (by omega)]; exact h
theorem foll_least {n fld : Int} (t : Tr) {rs : List Int} (hr : RowF n fld rs) : ∀ {l row : List Int}, (∀ x ∈ l, 0 ≤ x ∧ x < n) → foll rs (least t fld row l) = foll (updR rs row l) t
  | [], row, _ => rfl
  | g :: l, row, hl => by
    obtain ⟨g0, g1⟩ := hl g List.mem_cons_self
    have ih := fun row => foll_least t hr (l := l) (row := row) fun y hy => hl y (List.mem_cons_of_mem _ hy)
    have hlen : g.toNat < rs.length := by have := hr.row.1; omega
    have hv := hr.row.2 _ (List.getElem_mem hlen)
    have hg : rs[g.toNat]? = some rs[g.toNat] := List.getElem?_eq_getElem hlen
    have cases3 : rs[g.toNat] = -1 ∨ rs[g.toNat] = 0 ∨ rs[g.toNat] = 1 := by omega
    rw [updR, hg]
    simp only [Option.getD_some, least]
    by_cases e : g = fld
    · subst e
      rw [if_pos rfl]
      have hz : rs[g.toNat] ≠ 0 := fun z => hr.ne (by rw [hg, z])
      split
      · rename_i hac
        rcases cases3 with z | z | z
        · rw [z, ih]
        · exact absurd z hz
        · rw [z, hac, ih]
      · simp only [foll, hg]
        rcases cases3 with z | z | z
        · rw [z, if_pos rfl, ih]
        · exact absurd z hz
        · rw [z, if_neg (by simp), if_neg (by simp), ih]
    · rw [if_neg e]
      split
      · rename_i hac
        rcases cases3 with z | z | z
        · rw [z, ih]
        · rw [z, hac.1, ih]
        · rw [z, hac.1, hac.2, ih]
      · simp only [foll, hg]
        rcases cases3 with z | z | z
        · rw [z, if_pos rfl, ih]
        · rw [z, if_neg (by simp), if_pos rfl, ih]
        · rw [z, if_neg (by simp), if_neg (by simp), ih]
theorem least_foll {n fld : Int} {t : Tr} (ht : t.ok n) {rs : List Int} (hr : RowF n fld rs) {l row : List Int} (hl : ∀ x ∈ l, 0 ≤ x ∧ x < n) (hrow : row.length = rs.length) (hm : ∀ x ∈ t.fields, x ∈ l) : foll rs (least t fld row l) = foll rs t := by
  rw [foll_least t hr hl]
  exact foll_congr t fun x hx => updR_get hr.row (hl x (hm x hx)).1 (hl x (hm x hx)).2 hrow (.inl ⟨x, hm x hx, rfl⟩) fun g hg => (hl g hg).1
end Sm
end

section
set_option linter.all false
set_option maxRecDepth 10000
/-! Vb: turned to Sm by port.py from Q1 Q2 -/
namespace Sm
theorem big1 : 1 ≤ big := by decide
theorem cut_pre {α : Type} (xs : List α) (i : Nat) (h : i ≤ xs.length) : cut xs none (some (i : Int)) = xs.take i := by
  have : ¬ ((i : Int) < 0) := by omega
  simp [cut, sIx, this, h]
theorem cut_suf {α : Type} (xs : List α) (i : Nat) (h : i ≤ xs.length) : cut xs (some (i : Int)) none = xs.drop i := by
  have h1 : ¬ ((i : Int) < 0) := by omega
  have h2 : min i xs.length = i := by omega
  simp [cut, sIx, h1, h2]
  exact List.take_of_length_le (by simp)
theorem set_cut {α : Type} (xs : List α) (i : Nat) (v : α) (h : i < xs.length) : xs.take i ++ ([v] ++ xs.drop (i + 1)) = xs.set i v := by
  rw [List.set_eq_take_append_cons_drop, if_pos h]; rfl
theorem with_sign_ok {n : Int} {rs : List Int} (hr : (rs.length : Int) = n) (hn : n < 100) {f v : Int} (f0 : 0 ≤ f) (f1 : f < n) {h : AH} : F_with_sign [.tup (rs.map .int), .int f, .int v] h = .ok (.tup ((rs.set f.toNat v).map .int)) h := by
  refine fnT_sameT (L := []) rfl ?_ (by simp) (by rw [clo_tup, clos_ints])
  obtain ⟨k, rfl⟩ := Int.eq_ofNat_of_zero_le f0
  have hk : k < rs.length := by omega
  have c1 := cut_pre (rs.map D.int) k (by simp; omega)
  have c2 := cut_suf (rs.map D.int) (k + 1) (by simp; omega)
  have c3 := set_cut (rs.map D.int) k (.int v) (by simpa using hk)
  have b1 : min k rs.length + 1 ≤ big := by rw [bigv]; omega
  have b2 : min k rs.length + 1 + (rs.length - (k + 1)) ≤ big := by rw [bigv]; omega
  simp only [Int.natCast_add, Int.natCast_one] at c2
  simp [b_with_sign, envOf, c1, c2, big1, b1, b2, List.map_set]
  simpa using c3
def others (fld n : Int) : List Int := ((List.range n.toNat).map fun (k : Nat) => (k : Int)).filter fun g => decide (g ≠ fld)
theorem others_mem {fld n x : Int} : x ∈ others fld n ↔ 0 ≤ x ∧ x < n ∧ x ≠ fld := by
  unfold others
  rw [List.mem_filter, List.mem_map]
  constructor
  · rintro ⟨⟨k, hk, rfl⟩, h2⟩
    rw [List.mem_range] at hk
    exact ⟨by omega, by omega, of_decide_eq_true h2⟩
  · rintro ⟨h0, h1, h2⟩
    refine ⟨⟨x.toNat, List.mem_range.mpr (by omega), ?_⟩, decide_eq_true h2⟩
    show ((x.toNat : Nat) : Int) = x
    omega
theorem others_nodup (fld n : Int) : (others fld n).Nodup := by
  unfold others
  refine List.Pairwise.filter _ ?_
  exact List.Pairwise.map _ (fun a b h z => h (Int.ofNat.inj z)) List.nodup_range
theorem inI_of {m : Int} (h0 : 0 ≤ m) (h1 : m < 1000000) : inI m = true := (inI_iff _).mpr ⟨by omega, by omega⟩
/-- [g for g in range(n) if g != field] -/
theorem others_lc {fld n : Int} (h0 : 0 ≤ n) (h1 : n < 100) (s fs : Nat) (hne : s ≠ fs) (e0 : Env) (hf : e0[fs]? = some (some (.int fld))) (hl : s < e0.length) (h : AH) :
    lcN (gV s) (tB1 (e2 neD (eV s) (eV fs))) (eV s) e0 (.lst (rng 0 n.toNat)) (Src.lst (rng 0 n.toNat)).fuel 0 [] h = .ok ((others fld n).map .int) h := by
  refine lc_inv (P := fun i acc h' => acc = (((List.range i).map fun (k : Nat) => (k : Int)).filter fun g => decide (g ≠ fld)).map .int ∧ h' = h) (Z := fun r => r = .ok ((others fld n).map .int) h) ?_ ?_ ⟨rfl, rfl⟩
  · rintro i x acc h' k hx ⟨rfl, rfl⟩ ih
    obtain ⟨hin, rfl⟩ := rng_get hx
    have g0 : (e0.set s (some (.int i)))[fs]? = some (some (.int fld)) := by rw [List.getElem?_set_ne hne]; exact hf
    have g1 : (e0.set s (some (.int i)))[s]? = some (some (.int i)) := List.getElem?_set_self hl
    have hb : ((((List.range i).map fun (k : Nat) => (k : Int)).filter fun g => decide (g ≠ fld)).map D.int).length < big := by
      rw [List.length_map]
      have := List.length_filter_le (fun g => decide (g ≠ fld)) ((List.range i).map fun (k : Nat) => (k : Int))
      rw [List.length_map, List.length_range] at this
      rw [bigv]; omega
    have hz := ih ((((List.range (i + 1)).map fun (k : Nat) => (k : Int)).filter fun g => decide (g ≠ fld)).map .int) h' ⟨rfl, rfl⟩
    rw [List.range_succ, List.map_append, List.filter_append, List.map_append] at hz
    by_cases e : (i : Int) = fld
    · have hf0 : (([i].map fun (k : Nat) => (k : Int)).filter fun g => decide (g ≠ fld)) = [] := by simp [e]
      rw [hf0] at hz
      simp [g0, g1, eq_true e] at hz ⊢
      exact hz
    · have hf0 : (([i].map fun (k : Nat) => (k : Int)).filter fun g => decide (g ≠ fld)) = [(i : Int)] := by simp [e]
      rw [hf0] at hz
      generalize ((((List.range i).map fun (k : Nat) => (k : Int)).filter fun g => decide (g ≠ fld)).map D.int) = acc at hz hb
      simp [g0, g1, e, hb] at hz ⊢
      exact hz
  · rintro acc h' ⟨rfl, rfl⟩
    rw [rng_len]; rfl
theorem field_order_ok {fld n : Int} (h0 : 0 ≤ n) (h1 : n < 100) {h : AH} : F_field_order [.int fld, .int n] h = .ok (.tup ((fld :: others fld n).map .int)) h := by
  refine fnT_sameT (L := []) rfl ?_ (by simp) (by rw [clo_tup, clos_ints])
  have e := others_lc (fld := fld) h0 h1 2 0 (by decide) [some (.int fld), some (.int n), none] rfl (by simp) h
  have hl : (others fld n).length ≤ 100 := by
    unfold others
    have := List.length_filter_le (fun g => decide (g ≠ fld)) ((List.range n.toNat).map fun (k : Nat) => (k : Int))
    rw [List.length_map, List.length_range] at this
    omega
  have hb : 1 + (others fld n).length ≤ big := by rw [bigv]; omega
  simp [b_field_order, envOf, inI_of h0 (show n < 1000000 by omega), wipeE, e, big1, hb]
theorem eqT {a b : Tr} (wa : a.W) (wb : b.W) (da : a.dep ≤ 64) (db : b.dep ≤ 64) (h : AH) : eqD a.enc b.enc h = .ok (.bl (decide (a = b))) h := eqD_enc wa wb da db h
theorem follow_any {n : Int} {rs : List Int} (hr : RowS n rs) {t : Tr} (ht : t.ok n) (hd : t.dep < 60) (h : AH) : F_follow [t.enc, .tup (rs.map .int)] h = .ok (.str (foll rs t)) h := by
  exact followT_ok hr ht (by omega)
theorem truthT (xs : List D) (h : AH) : truth h (.tup xs) = some (!xs.isEmpty) := rfl
theorem least_from_ok {n : Int} (hn : n < 60) {t : Tr} (ht : t.ok n) (w : t.W) (hd : t.dep < 60) (fld : Int) {h : AH} : ∀ (l rs : List Int) (fuel : Nat), l.length < fuel → l.length < 60 → RowS n rs → (∀ x ∈ l, 0 ≤ x ∧ x < n) →
    F_least_from fuel [t.enc, .int fld, .tup (rs.map .int), .tup (l.map .int)] h = .ok (least t fld rs l).enc h := by
  intro l
  induction l with
  | nil =>
    intro rs fuel hf _ hr _
    obtain ⟨fuel, rfl⟩ : ∃ m, fuel = m + 1 := ⟨fuel - 1, by omega⟩
    refine fnT_sameT (L := []) rfl ?_ (Tr.enc_loc _) (Tr.clo_enc _ _)
    simp [b_least_from, envOf, truthT, follow_any hr ht hd, least, Tr.enc]
  | cons g l ih =>
    intro rs fuel hf h60 hr hl
    obtain ⟨fuel, rfl⟩ : ∃ m, fuel = m + 1 := ⟨fuel - 1, by omega⟩
    obtain ⟨g0, g1⟩ := hl g List.mem_cons_self
    have hl' : ∀ x ∈ l, 0 ≤ x ∧ x < n := fun x hx => hl x (List.mem_cons_of_mem _ hx)
    simp only [List.length_cons] at hf h60
    have ws := fun v => with_sign_ok (v := v) hr.1 (by omega) g0 g1 (h := h)
    have ia := ih (rs.set g.toNat (-1)) fuel (by omega) (by omega) (hr.set (by omega)) hl'
    have ib := ih (rs.set g.toNat 0) fuel (by omega) (by omega) (hr.set (by omega)) hl'
    have ic := ih (rs.set g.toNat 1) fuel (by omega) (by omega) (hr.set (by omega)) hl'
    have wa := (least_isL w fld l (rs.set g.toNat (-1)))
    have wb := (least_isL w fld l (rs.set g.toNat 0))
    have wc := (least_isL w fld l (rs.set g.toNat 1))
    have hc : cut (D.int g :: l.map .int) (some 1) none = l.map .int := by
      have := cut_suf (D.int g :: l.map .int) 1 (by simp)
      simpa using this
    have eac := eqT wa.W wc.W (by have := wa.dep; omega) (by have := wc.dep; omega) h
    have eab := eqT wa.W wb.W (by have := wa.dep; omega) (by have := wb.dep; omega) h
    have ebc := eqT wb.W wc.W (by have := wb.dep; omega) (by have := wc.dep; omega) h
    refine fnT_sameT (L := []) rfl ?_ (Tr.enc_loc _) (Tr.clo_enc _ _)
    have wm1 := ws (-1)
    have w0 := ws 0
    have w1 := ws 1
    have lw : ∀ d : D, d = (least t fld rs (g :: l)).enc → R.ok (Fl.rt d) h = R.ok (Fl.rt (least t fld rs (g :: l)).enc) (h ++ []) := fun d e => by rw [e, List.append_nil]
    generalize hA : least t fld (rs.set g.toNat (-1)) l = A at *
    generalize hB : least t fld (rs.set g.toNat 0) l = B at *
    generalize hC : least t fld (rs.set g.toNat 1) l = C at *
    have eL0 : least t fld rs (g :: l) = if g = fld then (if A = C then A else .node g A (.leaf old) C) else (if A = B ∧ B = C then A else .node g A B C) := by
      simp only [least, hA, hB, hC]
    simp only [List.map_set] at ia ib ic wm1 w0 w1
    by_cases e : g = fld
    · subst e
      rw [if_pos rfl] at eL0
      by_cases hac : A = C
      · rw [if_pos hac] at eL0
        simp [b_least_from, envOf, truthT, hc, wm1, w1, ia, ic, eac, eq_true hac, eL0]
      · rw [if_neg hac] at eL0
        simp [b_least_from, envOf, truthT, hc, wm1, w1, ia, ic, eac, hac, eL0, big4T, Tr.enc, old]
    · rw [if_neg e] at eL0
      by_cases hab : A = B
      · by_cases hbc : B = C
        · rw [if_pos ⟨hab, hbc⟩] at eL0
          simp [b_least_from, envOf, truthT, hc, wm1, w0, w1, ia, ib, ic, eab, ebc, eq_true hab, eq_true hbc, e, eL0]
        · rw [if_neg (fun z => hbc z.2)] at eL0
          simp [b_least_from, envOf, truthT, hc, wm1, w0, w1, ia, ib, ic, eab, ebc, eq_true hab, hbc, e, eL0, big4T, Tr.enc]
      · rw [if_neg (fun z => hab z.1)] at eL0
        simp [b_least_from, envOf, truthT, hc, wm1, w0, w1, ia, ib, ic, eab, hab, e, eL0, big4T, Tr.enc]
end Sm
end

section
set_option linter.all false
set_option maxRecDepth 10000
/-! Vc: turned to Sm by port.py from Q3 -/
namespace Sm
theorem inD_ints (x : Int) (ys : List Int) (h : AH) : inD (.int x) (.tup (ys.map .int)) h = .ok (.bl (decide (x ∈ ys))) h := by
  unfold inD inH
  rw [show seqH h (.tup (ys.map .int)) = some (ys.map .int) from rfl]
  dsimp only
  rw [all_flat_ints, inL_ints]
  simp [flat]
theorem filter_lc {xs ys : List Int} (hx : xs.length < 1000) (s fs : Nat) (hne : s ≠ fs) (e0 : Env) (hf : e0[fs]? = some (some (.tup (ys.map .int)))) (hl : s < e0.length) (h : AH) :
    lcN (gV s) (tB1 (e2 inD (eV s) (eV fs))) (eV s) e0 (.lst (xs.map .int)) (Src.lst (xs.map D.int)).fuel 0 [] h = .ok ((xs.filter fun g => decide (g ∈ ys)).map .int) h := by
  refine lc_inv (P := fun i acc h' => acc = ((xs.take i).filter fun g => decide (g ∈ ys)).map .int ∧ h' = h) (Z := fun r => r = .ok ((xs.filter fun g => decide (g ∈ ys)).map .int) h) ?_ ?_ ⟨rfl, rfl⟩
  · rintro i x acc h' k hx2 ⟨rfl, rfl⟩ ih
    rw [List.getElem?_map] at hx2
    cases hg : xs[i]? with
    | none => rw [hg] at hx2; cases hx2
    | some y =>
      rw [hg] at hx2
      simp at hx2
      subst hx2
      have g0 : (e0.set s (some (.int y)))[fs]? = some (some (.tup (ys.map .int))) := by rw [List.getElem?_set_ne hne]; exact hf
      have g1 : (e0.set s (some (.int y)))[s]? = some (some (.int y)) := List.getElem?_set_self hl
      have hb : (((xs.take i).filter fun g => decide (g ∈ ys)).map D.int).length < big := by
        rw [List.length_map]
        have := List.length_filter_le (fun g => decide (g ∈ ys)) (xs.take i)
        rw [List.length_take] at this
        rw [bigv]; omega
      have hz := ih (((xs.take (i + 1)).filter fun g => decide (g ∈ ys)).map .int) h' ⟨rfl, rfl⟩
      rw [List.take_add_one, hg, List.filter_append, List.map_append] at hz
      generalize (((xs.take i).filter fun g => decide (g ∈ ys)).map D.int) = acc at hz hb
      by_cases e : y ∈ ys
      · simp [g0, g1, inD_ints, e, hb] at hz ⊢
        exact hz
      · simp [g0, g1, inD_ints, e] at hz ⊢
        exact hz
  · rintro acc h' ⟨rfl, rfl⟩
    rw [List.take_of_length_le (by simp)]
def leftOf (t : Tr) (fld n : Int) : List Int := (fld :: others fld n).filter fun g => decide (g ∈ t.fields)
def leastT (t : Tr) (fld n : Int) : Tr := least t fld (List.replicate n.toNat 0) (leftOf t fld n)
theorem order_nodup (fld n : Int) : (fld :: others fld n).Nodup := List.nodup_cons.mpr ⟨fun h => (others_mem.mp h).2.2 rfl, others_nodup fld n⟩
theorem order_mem {fld n x : Int} (f0 : 0 ≤ fld) (f1 : fld < n) : x ∈ fld :: others fld n ↔ 0 ≤ x ∧ x < n := by
  rw [List.mem_cons, others_mem]
  constructor
  · rintro (rfl | h)
    · exact ⟨f0, f1⟩
    · exact ⟨h.1, h.2.1⟩
  · rintro ⟨h0, h1⟩
    by_cases e : x = fld
    · exact .inl e
    · exact .inr ⟨h0, h1, e⟩
theorem others_len (fld n : Int) : (others fld n).length ≤ n.toNat := by
  unfold others
  have := List.length_filter_le (fun g => decide (g ≠ fld)) ((List.range n.toNat).map fun (k : Nat) => (k : Int))
  rw [List.length_map, List.length_range] at this
  exact this
theorem leftOf_len (t : Tr) (fld n : Int) : (leftOf t fld n).length ≤ n.toNat + 1 := by
  have h1 := List.length_filter_le (fun g => decide (g ∈ t.fields)) (fld :: others fld n)
  have h2 := others_len fld n
  rw [List.length_cons] at h1
  unfold leftOf
  omega
theorem least_tree_ok {n fld : Int} (h0 : 0 < n) (h1 : n < 7) (f0 : 0 ≤ fld) (f1 : fld < n) {t : Tr} (ht : t.ok n) (w : t.W) (hd : t.dep ≤ 6) {h : AH} : F_least_tree [t.enc, .int fld, .int n] h = .ok (leastT t fld n).enc h := by
  have hs : t.size ≤ 1200 := by
    have := size_le t
    have mono : ∀ j, j ≤ 6 → S j ≤ 1093 := by decide
    have := mono t.dep hd
    omega
  obtain ⟨gs, hg, ea⟩ := asked_ok (h := h) h0 (by omega) ht hs
  have fo := field_order_ok (fld := fld) (n := n) (by omega) (by omega) (h := h)
  have lc := filter_lc (xs := fld :: others fld n) (ys := sortU gs) (by have := others_len fld n; simp; omega) 5 3 (by decide) [some t.enc, some (.int fld), some (.int n), some (.tup ((sortU gs).map .int)), none, none] rfl (by simp) h
  have hfil : (fld :: others fld n).filter (fun g => decide (g ∈ sortU gs)) = leftOf t fld n := by
    unfold leftOf
    congr 1
    funext g
    rw [decide_eq_decide, sortU_mm, hg]
  rw [hfil] at lc
  have lf := least_from_ok (n := n) (by omega) ht w (by omega) fld (leftOf t fld n) (List.replicate n.toNat 0) 12 (by have := leftOf_len t fld n; omega) (by have := leftOf_len t fld n; omega) ⟨by simp; omega, fun r hr => by rw [List.mem_replicate] at hr; omega⟩ (fun x hx => (order_mem f0 f1).mp (List.mem_filter.mp hx).1) (h := h)
  refine fnT_sameT (L := []) rfl ?_ (Tr.enc_loc _) (Tr.clo_enc _ _)
  have hm : mulD true (.tup [.int 0]) (.int n) h = .ok (.tup ((List.replicate n.toNat 0).map .int)) h := by
    show R.chk _ _ = _
    rw [decide_eq_true (by simp; omega)]
    show R.ok (D.tup (List.replicate n.toNat [D.int 0]).flatten) h = _
    simp
  simp at lc hm lf
  simp [b_least_tree, envOf, ea, fo, wipeE, lc, hm, lf, leastT, big1]
end Sm
end

section
set_option linter.all false
set_option maxRecDepth 10000
/-! Ve: turned to Sm by port.py from Q5 -/
namespace Sm
theorem big3 : 3 ≤ big := by decide
/-- every row of signs of k fields -/
def AllR (k : Nat) (rows : List (List Int)) : Prop := (∀ r, r ∈ rows ↔ r.length = k ∧ ∀ x ∈ r, -1 ≤ x ∧ x ≤ 1) ∧ rows.length ≤ 3 ^ k
def grow (rows : List (List Int)) : List (List Int) := rows.flatMap fun r => [r ++ [-1], r ++ [0], r ++ [1]]
theorem grow_len : ∀ rows : List (List Int), (grow rows).length = 3 * rows.length
  | [] => rfl
  | r :: rows => by
    have := grow_len rows
    unfold grow at this ⊢
    rw [List.flatMap_cons, List.length_append, this]; simp; omega
theorem grow_all {k : Nat} {rows : List (List Int)} (h : AllR k rows) : AllR (k + 1) (grow rows) := by
  refine ⟨fun r => ?_, by rw [grow_len, Nat.pow_succ]; have := h.2; omega⟩
  unfold grow
  rw [List.mem_flatMap]
  constructor
  · rintro ⟨s, hs, hr⟩
    obtain ⟨h1, h2⟩ := (h.1 s).mp hs
    simp only [List.mem_cons, List.not_mem_nil, or_false] at hr
    rcases hr with rfl | rfl | rfl
    all_goals
      refine ⟨by simp [h1], fun x hx => ?_⟩
      rcases List.mem_append.mp hx with z | z
      · exact h2 x z
      · simp at z; omega
  · rintro ⟨h1, h2⟩
    have hne : r ≠ [] := fun z => by subst z; simp at h1
    obtain ⟨s, y, rfl⟩ := snoc hne
    refine ⟨s, (h.1 s).mpr ⟨by simpa using h1, fun x hx => h2 x (List.mem_append_left _ hx)⟩, ?_⟩
    have := h2 y (by simp)
    have : y = -1 ∨ y = 0 ∨ y = 1 := by omega
    rcases this with rfl | rfl | rfl <;> simp
def encR (rows : List (List Int)) : List D := rows.map fun r => .tup (r.map .int)
theorem encR_len (rows : List (List Int)) : (encR rows).length = rows.length := by simp [encR]
end Sm
end

section
set_option linter.all false
set_option maxRecDepth 10000
/-! Vf: turned to Sm by port.py from Q6 -/
namespace Sm
def Kn (n : Int) (ks : List D) : Prop := (ks.length : Int) = n ∧ ∀ d ∈ ks, d = .non ∨ ∃ r : Int, d = .int r ∧ -1 ≤ r ∧ r ≤ 1
theorem Kn.get {n : Int} {ks : List D} (hk : Kn n ks) {f : Int} (f0 : 0 ≤ f) (f1 : f < n) : (at? ks f = some .non) ∨ ∃ r : Int, at? ks f = some (.int r) ∧ -1 ≤ r ∧ r ≤ 1 := by
  obtain ⟨k, rfl⟩ := Int.eq_ofNat_of_zero_le f0
  have hl : k < ks.length := by have := hk.1; omega
  rw [at_nat, List.getElem?_eq_getElem hl]
  rcases hk.2 _ (List.getElem_mem hl) with e | ⟨r, e, hr⟩
  · exact .inl (by rw [e])
  · exact .inr ⟨r, by rw [e], hr⟩
theorem Kn.set {n : Int} {ks : List D} (hk : Kn n ks) (i : Nat) {v : Int} (hv : -1 ≤ v ∧ v ≤ 1) : Kn n (ks.set i (.int v)) :=
  ⟨by rw [List.length_set]; exact hk.1, fun d hd => by
    rcases List.mem_or_eq_of_mem_set hd with h | h
    · exact hk.2 d h
    · exact .inr ⟨v, h, hv⟩⟩
theorem child {f : Int} {a b c : Tr} {r : Int} {n : Int} {d : Nat} (hr : -1 ≤ r ∧ r ≤ 1) (ka : a.ok n ∧ b.ok n ∧ c.ok n) (wa : a.W ∧ b.W ∧ c.W) (da : a.dep ≤ d ∧ b.dep ≤ d ∧ c.dep ≤ d) : ∃ t : Tr, at? [.int f, a.enc, b.enc, c.enc] (2 + r) = some t.enc ∧ t.ok n ∧ t.W ∧ t.dep ≤ d := by
  have : r = -1 ∨ r = 0 ∨ r = 1 := by omega
  rcases this with rfl | rfl | rfl
  · exact ⟨a, by simp, ka.1, wa.1, da.1⟩
  · exact ⟨b, by simp, ka.2.1, wa.2.1, da.2.1⟩
  · exact ⟨c, by simp, ka.2.2, wa.2.2, da.2.2⟩
end Sm
end

section
set_option linter.all false
set_option maxRecDepth 10000
/-! Vg: reduced trees are right (from Q9); trees mirrored. -/
namespace Sm
theorem ok_of_fields {n : Int} : ∀ t : Tr, (∀ x ∈ t.fields, 0 ≤ x ∧ x < n) → t.ok n
  | .leaf _, _ => trivial
  | .node f a b c, h => by
    simp only [Tr.fields, List.mem_cons, List.mem_append] at h
    exact ⟨(h f (.inl rfl)).1, (h f (.inl rfl)).2, ok_of_fields a fun x hx => h x (.inr (.inl hx)), ok_of_fields b fun x hx => h x (.inr (.inr (.inl hx))), ok_of_fields c fun x hx => h x (.inr (.inr (.inr hx)))⟩
theorem others_len1 {fld n : Int} (f0 : 0 ≤ fld) (f1 : fld < n) : (others fld n).length + 1 ≤ n.toNat := by
  have : (others fld n).length < ((List.range n.toNat).map fun (k : Nat) => (k : Int)).length := by
    unfold others
    rw [List.length_filter_lt_length_iff_exists]
    exact ⟨fld, List.mem_map.mpr ⟨fld.toNat, List.mem_range.mpr (by omega), by show ((fld.toNat : Nat) : Int) = fld; omega⟩, by simp⟩
  rw [List.length_map, List.length_range] at this
  omega
section
variable {n fld : Int} {t : Tr}
theorem leastT_isL (w : t.W) : IsL fld (fld :: others fld n) (leastT t fld n) := IsL.sub (List.filter_sublist) (least_isL w fld _ _)
theorem leastT_ok (f0 : 0 ≤ fld) (f1 : fld < n) (w : t.W) : (leastT t fld n).ok n := ok_of_fields _ fun x hx => (order_mem f0 f1).mp ((leastT_isL (n := n) w).mem x hx)
theorem leastT_dep (h1 : n < 7) (f0 : 0 ≤ fld) (f1 : fld < n) (w : t.W) : (leastT t fld n).dep ≤ 6 := by
  have a := (leastT_isL (fld := fld) (n := n) w).dep
  have b := others_len1 f0 f1
  rw [List.length_cons] at a
  omega
theorem leastT_foll (f0 : 0 ≤ fld) (f1 : fld < n) (ht : t.ok n) {rs : List Int} (hr : RowF n fld rs) : foll rs (leastT t fld n) = foll rs t :=
  least_foll ht hr (fun x hx => (order_mem f0 f1).mp (List.mem_filter.mp hx).1) (by have := hr.row.1; simp; omega) fun x hx => List.mem_filter.mpr ⟨(order_mem f0 f1).mpr (t.fields_ok ht x hx), decide_eq_true hx⟩
end
def swp (s : List Nat) : List Nat := if s = old then new else if s = new then old else s
def Tr.mir : Tr → Tr
  | .leaf s => .leaf (swp s)
  | .node f a b c => .node f c.mir b.mir a.mir
def negR (rs : List Int) : List Int := rs.map fun v => 0 - v
/-- the same words wherever the field's own sign is not 0 -/
def AlikeT (n f : Int) (t u : Tr) : Prop := ∀ rs, RowF n f rs → foll rs t = foll rs u
def AlikeTs (ts us : List Tr) : Prop := ∀ f < ts.length, AlikeT ts.length f (trA ts f) (trA us f)
end Sm
end

section
set_option linter.all false
set_option maxRecDepth 10000
/-! Vh: two reduced trees: a row on which they differ. -/
namespace Sm
def nxB (t : Tr) (p v : Int) : Tr := match t with
  | .leaf s => .leaf s
  | .node f a b c => if f = p then (if v = -1 then a else if v = 0 then b else c) else .node f a b c
def chs (fld x : Int) : List Int := if x = fld then [-1, 1] else [0, -1, 1]
def posR (rs : List Int) : List Int := rs.map fun v => max v 0
end Sm
end

section
set_option linter.all false
set_option maxRecDepth 10000
/-! Vi: unlike_signs, differing_pair. -/
namespace Sm
end Sm
end

section
set_option linter.all false
set_option maxRecDepth 10000
/-! Vj: differing_pair, unfair_pair; merges on the pair found. -/
namespace Sm
structure G6 (ts : List Tr) : Prop where
  t : TsOk ts
  d : ∀ t ∈ ts, t.dep ≤ 6
  l0 : 0 < ts.length
  l7 : ts.length < 7
theorem size6 {t : Tr} (h : t.dep ≤ 6) : t.size ≤ 1200 := by
  have := size_le t
  have m := S_le h
  have : S 6 ≤ 1200 := by decide
  omega
/-- what differing_pair says of two books -/
def DifOf (ts us : List Tr) (d : D) : Prop := (d = .non ∧ AlikeTs ts us) ∨ ∃ (row : List Int) (f : Nat), f < ts.length ∧ RowF ts.length f row ∧ foll row (trA ts f) ≠ foll row (trA us f) ∧ d = .tup [eR (posR row), eR (posR (negR row))]
end Sm
end

section
set_option linter.all false
set_option maxRecDepth 10000
/-! Vk: fair books, mirrored books. -/
namespace Sm
def mirs (ts : List Tr) : List Tr := ts.map Tr.mir
/-- a fair book -/
def FairT (ts : List Tr) : Prop := AlikeTs ts (mirs ts)
/-- what the law asks of one row and one field -/
def okR (ts : List Tr) (row : List Int) (f : Nat) : Prop := rv row f = 1 → foll row (trA ts f) ≠ foll (negR row) (trA ts f)
end Sm
end

section
set_option linter.all false
set_option maxRecDepth 10000
/-! Vl: what k28 asks of a book. -/
namespace Sm
theorem G6.ne {ts : List Tr} (g : G6 ts) : ts ≠ [] := fun z => by have := g.l0; rw [z] at this; simp at this
end Sm
end

section
set_option linter.all false
set_option maxRecDepth 10000
/-! Vm: trees dressed. -/
namespace Sm
end Sm
end

section
set_option linter.all false
set_option maxRecDepth 10000
/-! Vn: k28: the law's trees. -/
namespace Sm
/-- a tree of n fields, not deep -/
def Gd6 (n : Nat) (t : Tr) : Prop := t.ok n ∧ t.W ∧ t.dep ≤ 6
theorem tree_tape {ns : List Int} {c n lv : Nat} (h0 : 0 < n) (hn : n ≤ 100) (hv : lv ≤ 6) (K : AH) : ∃ (t : Tr) (p o : AO), (t.ok n ∧ t.W ∧ t.dep ≤ lv) ∧ F_q_tape [.scr (ns.map .int), .int c] K = .ok (.loc K.length) (K ++ [p]) ∧ F_q_tree 8 [.loc K.length, .int n, .int lv] (K ++ [p]) = .ok t.enc (K ++ [o]) := by
  obtain ⟨p, hp, e1⟩ := tape_ok (xs := ns) (k := c) (h := K)
  obtain ⟨t, o, ho, kt, wt, dt, e2⟩ := tree_ok (n := n) (by omega) (by omega) lv 8 (K ++ [p]) (by omega) (tpn (h := K) (L := []) hp)
  rw [set_new (Nat.le_refl _)] at e2
  exact ⟨t, p, o, ⟨kt, wt, dt⟩, e1, by simpa using e2⟩
end Sm
end

section
set_option linter.all false
set_option maxRecDepth 10000
/-! Ga: turned to Sm by port.py from Q3 -/
namespace Sm
end Sm
end

section
set_option linter.all false
set_option maxRecDepth 10000
/-! Gb: rows, the same list wherever they are asked for. -/
namespace Sm
def gr : Nat → List (List Int)
  | 0 => [[]]
  | k + 1 => grow (gr k)
theorem gr_all : ∀ k, AllR k (gr k)
  | 0 => ⟨fun r => by simp [gr]; intro z; simp [z], by simp [gr]⟩
  | k + 1 => grow_all (gr_all k)
theorem rowsG_ok {n : Int} (h0 : 0 < n) (h1 : n < 7) (h : AH) : F_q_rows [.int n] h = .ok (.lst (encR (gr n.toNat))) h := by
  have p6 : ∀ k, k ≤ 6 → 3 ^ k ≤ 729 := by decide
  have key : ∀ Z : R Fl → Prop, (∀ (rows : List (List Int)) (L : AH), rows = gr n.toNat → Z (.ok (.rt (.lst (encR rows))) (h ++ L))) → Z (b_q_rows (envOf 6 [.int n]) h) := by
    intro Z hZ
    simp [b_q_rows, envOf, big1, inI_of (show (0 : Int) ≤ n by omega) (show n < 1000000 by omega)]
    refine for_inv (Z := fun r => Z (r.bind (kB2 [sRet (eV 1)]))) (P := fun i e h' => ∃ (rows : List (List Int)) (L : AH) (x2 x3 x4 x5 : Option D), e = [some (.int n), some (.lst (encR rows)), x2, x3, x4, x5] ∧ h' = h ++ L ∧ rows = gr i) ?_ ?_ ⟨[[]], [], none, none, none, none, rfl, by simp, rfl⟩
    · rintro i x e h' k hx ⟨rows, L, x2, x3, x4, x5, rfl, rfl, hg0⟩ ih
      have ha : AllR i rows := by rw [hg0]; exact gr_all i
      obtain ⟨hin, rfl⟩ := rng_get hx
      have hlen : rows.length ≤ 243 := Nat.le_trans ha.2 (by
        have : ∀ j, j ≤ 5 → 3 ^ j ≤ 243 := by decide
        exact this i (by omega))
      generalize hH : h ++ L = H
      simp
      refine for_inv (Z := fun r => Z (((r.bind (kB2 _)).bind _).bind (kB2 [sRet (eV 1)]))) (P := fun j e h' => ∃ (x4 x5 : Option D), e = [some (.int n), some (.lst (encR rows)), some (.int i), some (.loc H.length), x4, x5] ∧ h' = H ++ [.lst (encR (grow (rows.take j)))]) ?_ ?_ ⟨x4, x5, rfl, rfl⟩
      · rintro j x e h' k2 hx2 ⟨x4, x5, rfl, rfl⟩ ih2
        have hx2 : (rows.map fun r => D.tup (r.map .int))[j]? = some x := hx2
        rw [List.getElem?_map] at hx2
        cases hg : rows[j]? with
        | none => rw [hg] at hx2; cases hx2
        | some r =>
          rw [hg] at hx2
          simp at hx2
          subst hx2
          have hrl : r.length = i := ((ha.1 r).mp (List.mem_of_getElem? hg)).1
          have hGl : (encR (grow (rows.take j))).length ≤ 729 := by
            rw [encR_len, grow_len, List.length_take]; omega
          have hb : r.length + 1 ≤ big := by rw [bigv]; omega
          have step : ∀ (xs : List D) (v : D), xs.length ≤ 800 → appendD (.loc H.length) v (H ++ [.lst xs]) = .ok .non (H ++ [.lst (xs ++ [v])]) := fun xs v hxs => by
            have := append_ok (l := H.length) (h := H ++ [.lst xs]) (xs := xs) v (by rw [getL_new (Nat.le_refl _)]; simp) (by rw [bigv]; omega)
            rw [set_new (Nat.le_refl _)] at this
            simpa using this
          have isl : ∀ xs : List D, isLst (H ++ [.lst xs]) (.loc H.length) = true := fun xs => isL (xs := xs) (by rw [getL_new (Nat.le_refl _)]; simp)
          have hnext : encR (grow (rows.take (j + 1))) = encR (grow (rows.take j)) ++ [.tup ((r ++ [-1]).map .int), .tup ((r ++ [0]).map .int), .tup ((r ++ [1]).map .int)] := by
            rw [List.take_add_one, hg]
            simp [encR, grow]
          have s1 := step (encR (grow (rows.take j))) (.tup ((r ++ [-1]).map .int)) (by omega)
          have s2 := step (encR (grow (rows.take j)) ++ [.tup ((r ++ [-1]).map .int)]) (.tup ((r ++ [0]).map .int)) (by simp; omega)
          have s3 := step (encR (grow (rows.take j)) ++ [.tup ((r ++ [-1]).map .int)] ++ [.tup ((r ++ [0]).map .int)]) (.tup ((r ++ [1]).map .int)) (by simp; omega)
          generalize hG : encR (grow (rows.take j)) = G at *
          simp [big3]
          refine for_inv (Z := fun r => Z (((((r.bind (kB2 _)).bind _).bind (kB2 _)).bind _).bind (kB2 [sRet (eV 1)]))) (P := fun m e h' => ∃ x5 : Option D, e = [some (.int n), some (.lst (encR rows)), some (.int i), some (.loc H.length), some (.tup (r.map .int)), x5] ∧ h' = H ++ [.lst (G ++ [D.tup ((r ++ [-1]).map .int), .tup ((r ++ [0]).map .int), .tup ((r ++ [1]).map .int)].take m)]) ?_ ?_ ⟨x5, rfl, by simp⟩
          · rintro m x e h' k3 hx3 ⟨x5, rfl, rfl⟩ ih3
            match m, hx3 with
            | 0, hx3 =>
              simp at hx3; subst hx3
              have := ih3 [some (.int n), some (.lst (encR rows)), some (.int i), some (.loc H.length), some (.tup (r.map .int)), some (.int 0)] _ ⟨_, rfl, rfl⟩
              simp at s1 this
              simpa [isl, hb, big1, s1] using this
            | 1, hx3 =>
              simp at hx3; subst hx3
              have := ih3 [some (.int n), some (.lst (encR rows)), some (.int i), some (.loc H.length), some (.tup (r.map .int)), some (.int 1)] _ ⟨_, rfl, rfl⟩
              simp at s2 this
              simpa [isl, hb, big1, s2] using this
            | 2, hx3 =>
              simp at hx3; subst hx3
              have := ih3 [some (.int n), some (.lst (encR rows)), some (.int i), some (.loc H.length), some (.tup (r.map .int)), some (.int 2)] _ ⟨_, rfl, rfl⟩
              simp at s3 this
              simpa [isl, hb, big1, s3] using this
            | m + 3, hx3 => simp at hx3
          · rintro e h' ⟨x5, rfl, rfl⟩
            have := ih2 [some (.int n), some (.lst (encR rows)), some (.int i), some (.loc H.length), some (.tup (r.map .int)), x5] _ ⟨_, _, rfl, rfl⟩
            rw [hnext] at this
            simpa using this
      · rintro e h' ⟨x4, x5, rfl, rfl⟩
        rw [show (encR rows).length = rows.length from encR_len rows, List.take_length]
        have ll : listD true (.loc H.length) (H ++ [.lst (encR (grow rows))]) = .ok (.lst (encR (grow rows))) (H ++ [.lst (encR (grow rows))]) := by
          unfold listD
          have : seqH (H ++ [.lst (encR (grow rows))]) (.loc H.length) = some (encR (grow rows)) := (lstH_loc _ _).trans (by rw [getL_new (Nat.le_refl _)]; simp)
          rw [this]; rfl
        have := ih [some (.int n), some (.lst (encR (grow rows))), some (.int i), some (.loc H.length), x4, x5] (H ++ [.lst (encR (grow rows))]) ⟨grow rows, L ++ [.lst (encR (grow rows))], _, _, _, _, rfl, by rw [← hH, List.append_assoc], by rw [hg0]; rfl⟩
        simpa [ll] using this
    · rintro e h' ⟨rows, L, x2, x3, x4, x5, rfl, rfl, ha⟩
      rw [rng_len] at ha
      simpa using hZ rows L ha
  refine key (fun r => trim h (fnR r) = .ok (.lst (encR (gr n.toNat))) h) fun rows L ha => ?_
  rw [← ha]
  exact trim_val rfl (pre_refl h) (by simp) (by rw [clo_lst, clos_all]; simp [encR])
end Sm
end

section
set_option linter.all false
set_option maxRecDepth 10000
/-! Gc: turned to Sm by port.py from Q7 Q8 -/
namespace Sm
def restP (F : AF) : List AS := [
  sIf (tV (e1 (isTy "str") (eV 1))) (sB [sRet (eV 1)]) (sB []),
  sSet 6 (e2 ixD (eV 1) (eC (.int 0))),
  sIf (tAnd (tB1 (e1 notNonD (e2 ixD (eV 3) (eV 6)))) (tB1 (e2 eqD (eA (F_q_take) (eL [eV 0, eC (.int 2)])) (eC (.int 0))))) (sB [sRet (eA (F) (eL [eV 0, e2 ixD (eV 1) (e2 (addD true) (eC (.int 2)) (e2 ixD (eV 3) (eV 6))), eV 2, eV 3, eV 4]))]) (sB []),
  sSet 7 (eLst false (eL [])),
  sFor (iS (eLst true (eL [e2 subD (eC (.int 0)) (eC (.int 1)), eC (.int 0), eC (.int 1)]))) (gV 8) (sB [sIf (tOr (tAnd (tB1 (e2 eqD (eV 6) (eV 2))) (tB1 (e2 eqD (eV 8) (eC (.int 0))))) (tAnd (tB1 (e1 notNonD (e2 ixD (eV 3) (eV 6)))) (tB1 (e2 neD (e2 ixD (eV 3) (eV 6)) (eV 8))))) (sB [sE (eM isLst (mt1 appendD) (eV 7) (eL [eA (F_q_tree 8) (eL [eV 0, eA (on1 lenD) (eL [eV 3]), eC (.int 1)])]))]) (sB [sSet 9 (e2 (addD true) (e2 (addD true) (eSl true (eV 3) (oN) (oS (eV 6))) (eLst true (eL [eV 8]))) (eSl true (eV 3) (oS (e2 (addD true) (eV 6) (eC (.int 1)))) (oN))),
      sE (eM isLst (mt1 appendD) (eV 7) (eL [eA (F) (eL [eV 0, e2 ixD (eV 1) (e2 (addD true) (eC (.int 2)) (eV 8)), eV 2, eV 9, eV 4])]))])]),
  sRet (eTup (eL [eV 6, e2 ixD (eV 7) (eC (.int 0)), e2 ixD (eV 7) (eC (.int 1)), e2 ixD (eV 7) (eC (.int 2))]))]
theorem sl_lstT (xs : List D) (lo hi : Option Int) (h : AH) : slD true (.lst xs) lo hi h = .ok (.lst (cut xs lo hi)) h := rfl
theorem add_lstT (xs ys : List D) (h : AH) : addD true (.lst xs) (.lst ys) h = R.chk (decide (xs.length + ys.length ≤ big)) (.ok (.lst (xs ++ ys)) h) := rfl
def PadIH (n fld : Int) (l : Nat) (fuel : Nat) : Prop := ∀ (t : Tr) (lv : Nat) (h : AH) (ks : List D), t.dep + lv < fuel → t.dep + lv ≤ 20 → t.ok n → t.W → Kn n ks → Tp h l → ∃ (t' : Tr) (o : AO), IsTp o ∧ t'.ok n ∧ t'.W ∧ t'.dep ≤ t.dep + lv + 1 ∧ F_q_padded fuel [.loc l, t.enc, .int fld, .lst ks, .int lv] h = .ok t'.enc (h.set l o)
theorem pad_rest {n fld : Int} (h0 : 0 < n) (h1 : n < 100) {l fuel : Nat} (ih : PadIH n fld l fuel) {h : AH} (hl : l < h.length) {o1 : AO} (ho1 : IsTp o1) (t1 : Tr) (k1 : t1.ok n) (w1 : t1.W) (lv B : Nat) (hB : 2 ≤ B)
    (hch : ∀ g a b c, t1 = .node g a b c → ∃ d, a.dep ≤ d ∧ b.dep ≤ d ∧ c.dep ≤ d ∧ d + lv < fuel ∧ d + lv ≤ 20 ∧ d + lv + 2 ≤ B) (ks : List D) (hk : Kn n ks) (x5 : Option D)
    (Z : R Fl → Prop) (hZ : ∀ (t' : Tr) (o : AO) (L : AH), IsTp o → t'.ok n → t'.W → t'.dep ≤ B → Z (.ok (.rt t'.enc) (h.set l o ++ L))) :
    Z (sB (restP (F_q_padded fuel)) [some (.loc l), some t1.enc, some (.int fld), some (.lst ks), some (.int lv), x5, none, none, none, none] (h.set l o1)) := by
  cases t1 with
  | leaf s =>
    have := hZ (.leaf s) o1 [] ho1 trivial w1 (Nat.zero_le _)
    simpa [restP, Tr.enc] using this
  | node g a b c =>
    obtain ⟨g0, g1, ka, kb, kc⟩ := k1
    obtain ⟨wa, wb, wc⟩ := w1
    obtain ⟨d, da, db, dc, df, d20, dB⟩ := hch g a b c rfl
    have kg := hk.get g0 g1
    -- the loop's part
    have loop : ∀ (o2 : AO), IsTp o2 → Z (sB ((restP (F_q_padded fuel)).drop 3) [some (.loc l), some (Tr.node g a b c).enc, some (.int fld), some (.lst ks), some (.int lv), x5, some (.int g), none, none, none] (h.set l o2)) := by
      intro o2 ho2
      simp only [restP, List.drop_succ_cons, List.drop_zero]
      simp [Tr.enc, big3]
      refine for_inv (Z := fun r => Z (r.bind (kB2 _))) (P := fun i e h' => ∃ (bs : List Tr) (o : AO) (x8 x9 : Option D), e = [some (.loc l), some (.tup [.int g, a.enc, b.enc, c.enc]), some (.int fld), some (.lst ks), some (.int lv), x5, some (.int g), some (.loc h.length), x8, x9] ∧ bs.length = i ∧ (∀ t ∈ bs, t.ok n ∧ t.W ∧ t.dep + 1 ≤ B) ∧ IsTp o ∧ h' = h.set l o ++ [.lst (bs.map Tr.enc)]) ?_ ?_ ⟨[], o2, none, none, rfl, rfl, by simp, ho2, rfl⟩
      · rintro i x e h' k hx ⟨bs, o, x8, x9, rfl, hi, hbs, ho, rfl⟩ ihk
        obtain ⟨s, hs, rfl⟩ : ∃ s : Int, (-1 ≤ s ∧ s ≤ 1) ∧ x = .int s := by
          match i, hx with
          | 0, hx => exact ⟨-1, by omega, by simpa using hx.symm⟩
          | 1, hx => exact ⟨0, by omega, by simpa using hx.symm⟩
          | 2, hx => exact ⟨1, by omega, by simpa using hx.symm⟩
          | i + 3, hx => simp at hx
        have hi3 : i < 3 := by
          have := (List.getElem?_eq_some_iff.mp hx).1
          simpa using this
        have tH : Tp (h.set l o ++ [.lst (bs.map Tr.enc)]) l := (Tp.set ho hl).app
        have cl : ∀ o', (h.set l o ++ [AO.lst (bs.map Tr.enc)]).set l o' = h.set l o' ++ [.lst (bs.map Tr.enc)] := fun o' => by rw [set_old (by simpa using hl), List.set_set]
        have isl : ∀ o', isLst (h.set l o' ++ [.lst (bs.map Tr.enc)]) (.loc h.length) = true := fun o' => isL (xs := bs.map Tr.enc) (by rw [getL_new (by simp)]; simp)
        have app : ∀ o' (t : Tr), appendD (.loc h.length) t.enc (h.set l o' ++ [.lst (bs.map Tr.enc)]) = .ok .non (h.set l o' ++ [.lst (bs.map Tr.enc ++ [t.enc])]) := fun o' t => by
          have := append_ok (l := h.length) (h := h.set l o' ++ [.lst (bs.map Tr.enc)]) (xs := bs.map Tr.enc) t.enc (by rw [getL_new (by simp)]; simp) (by rw [bigv]; simp; omega)
          rw [set_new (by simp)] at this
          simpa using this
        -- a free tree
        obtain ⟨tf, of, hof, kf, wf, dtf, ef⟩ := tree_ok (l := l) h0 (by omega) 1 8 _ (by omega) tH
        rw [cl] at ef
        -- or this one, written otherwise
        obtain ⟨tc, etc, kc2, wc2, dc2⟩ := child (f := g) (n := n) hs ⟨ka, kb, kc⟩ ⟨wa, wb, wc⟩ ⟨da, db, dc⟩
        obtain ⟨q, rfl⟩ := Int.eq_ofNat_of_zero_le g0
        have hq : q < ks.length := by have := hk.1; omega
        have c1 := cut_pre ks q (by omega)
        have c2 := cut_suf ks (q + 1) (by omega)
        have c3 := set_cut ks q (.int s) hq
        obtain ⟨tr, orr, hor, kr, wr, dr, er⟩ := ih tc lv _ (ks.set q (.int s)) (by omega) (by omega) kc2 wc2 (hk.set q hs) tH
        rw [cl] at er
        have b1 : min q ks.length + 1 ≤ big := by rw [bigv]; omega
        have b2 : min q ks.length + 1 + (ks.length - (q + 1)) ≤ big := by have := hk.1; rw [bigv]; omega
        simp only [Int.natCast_add, Int.natCast_one] at c2
        have c3' : ks.take q ++ D.int s :: ks.drop (q + 1) = ks.set q (.int s) := c3
        have goF := ihk [some (.loc l), some (.tup [.int q, a.enc, b.enc, c.enc]), some (.int fld), some (.lst ks), some (.int lv), x5, some (.int q), some (.loc h.length), some (.int s), x9] (h.set l of ++ [.lst ((bs ++ [tf]).map Tr.enc)]) ⟨bs ++ [tf], of, _, _, rfl, by simp [hi], by
          intro t ht
          rcases List.mem_append.mp ht with z | z
          · exact hbs t z
          · simp at z; subst z; exact ⟨kf, wf, by omega⟩, hof, rfl⟩
        have goR := ihk [some (.loc l), some (.tup [.int q, a.enc, b.enc, c.enc]), some (.int fld), some (.lst ks), some (.int lv), x5, some (.int q), some (.loc h.length), some (.int s), some (.lst (ks.set q (.int s)))] (h.set l orr ++ [.lst ((bs ++ [tr]).map Tr.enc)]) ⟨bs ++ [tr], orr, _, _, rfl, by simp [hi], by
          intro t ht
          rcases List.mem_append.mp ht with z | z
          · exact hbs t z
          · simp at z; subst z; exact ⟨kr, wr, by omega⟩, hor, rfl⟩
        simp at goF goR kg ef
        have lk : (ks.length : Int) = n := hk.1
        have lenK : ∀ h : AH, lenD (.lst ks) h = .ok (.int n) h := fun h => by rw [len_lst, lk]
        by_cases hc : (q : Int) = fld ∧ s = 0
        · simpa [-len_lst, eq_true hc.1, eq_true hc.2, isl, lenK, ef, app] using goF
        · have hc2 : ∀ r : R Bool, True := fun _ => trivial
          have first : ∀ (u : AB) (e : Env) (H : AH), (if (decide ((q : Int) = fld)) then (if decide (s = 0) then true else false) else false) = false := fun _ _ _ => by
            by_cases z : (q : Int) = fld
            · have : ¬ s = 0 := fun y => hc ⟨z, y⟩
              simp [z, this]
            · simp [z]
          rcases kg with kg | ⟨r, kg, hr⟩
          · by_cases z : (q : Int) = fld
            · have z2 : ¬ s = 0 := fun y => hc ⟨z, y⟩
              simpa [-len_lst, eq_true z, z2, kg, notNonD, sl_lstT, add_lstT, c1, c2, b1, b2, big1, c3', etc, er, isl, app] using goR
            · simpa [-len_lst, z, kg, notNonD, sl_lstT, add_lstT, c1, c2, b1, b2, big1, c3', etc, er, isl, app] using goR
          · by_cases y : r = s
            · by_cases z : (q : Int) = fld
              · have z2 : ¬ s = 0 := fun y => hc ⟨z, y⟩
                simpa [-len_lst, eq_true z, z2, kg, eq_true y, notNonD, sl_lstT, add_lstT, c1, c2, b1, b2, big1, c3', etc, er, isl, app] using goR
              · simpa [-len_lst, z, kg, eq_true y, notNonD, sl_lstT, add_lstT, c1, c2, b1, b2, big1, c3', etc, er, isl, app] using goR
            · by_cases z : (q : Int) = fld
              · have z2 : ¬ s = 0 := fun y => hc ⟨z, y⟩
                simpa [-len_lst, eq_true z, z2, kg, y, notNonD, isl, lenK, ef, app] using goF
              · simpa [-len_lst, z, kg, y, notNonD, isl, lenK, ef, app] using goF
      · rintro e h' ⟨bs, o, x8, x9, rfl, hi, hbs, ho, rfl⟩
        match bs, hi with
        | [p, q, r], _ =>
          have gl : getL (h.set l o ++ [.lst ([p, q, r].map Tr.enc)]) h.length = some [p.enc, q.enc, r.enc] := by rw [getL_new (by simp)]; simp
          have hp := hbs p (by simp)
          have hq := hbs q (by simp)
          have hr := hbs r (by simp)
          have := hZ (.node g p q r) o [.lst ([p, q, r].map Tr.enc)] ho ⟨g0, g1, hp.1, hq.1, hr.1⟩ ⟨hp.2.1, hq.2.1, hr.2.1⟩ (by simp only [Tr.dep]; omega)
          simp [Tr.enc] at this gl
          simpa [ixL _ gl, big4T] using this
    -- the known sign
    simp only [restP, List.drop_succ_cons, List.drop_zero] at loop
    rcases kg with kg | ⟨r, kg, hr⟩
    · have := loop o1 ho1
      simp [Tr.enc] at this
      simpa [restP, Tr.enc, kg, notNonD] using this
    · obtain ⟨v, o2, v0, v1, ho2, ev⟩ := takeI (n := 2) (Tp.set ho1 hl) (by omega) (by omega)
      simp only [List.set_set] at ev
      by_cases hv : v = 0
      · subst hv
        obtain ⟨tc, etc, kc2, wc2, dc2⟩ := child (f := g) (n := n) hr ⟨ka, kb, kc⟩ ⟨wa, wb, wc⟩ ⟨da, db, dc⟩
        obtain ⟨t', o3, ho3, kt, wt, dt, et⟩ := ih tc lv _ ks (by omega) (by omega) kc2 wc2 hk (Tp.set ho2 hl)
        simp only [List.set_set] at et
        have := hZ t' o3 [] ho3 kt wt (by omega)
        simpa [restP, Tr.enc, kg, notNonD, ev, etc, et] using this
      · have := loop o2 ho2
        simp [Tr.enc] at this
        simpa [restP, Tr.enc, kg, notNonD, ev, hv] using this
theorem padded_ok {n fld : Int} (h0 : 0 < n) (h1 : n < 100) {l : Nat} : ∀ fuel, PadIH n fld l fuel := by
  intro fuel
  induction fuel with
  | zero => intro t lv h ks hf; omega
  | succ fuel ih =>
    intro t lv h ks hf h20 ht w hk tp
    have hl := tp.lt
    have key : ∀ Z : R Fl → Prop, (∀ (t' : Tr) (o : AO) (L : AH), IsTp o → t'.ok n → t'.W → t'.dep ≤ t.dep + lv + 1 → Z (.ok (.rt t'.enc) (h.set l o ++ L))) → Z (b_q_padded (F_q_padded fuel) (envOf 10 [.loc l, t.enc, .int fld, .lst ks, .int lv]) h) := by
      intro Z hZ
      have plain : ∀ (o : AO), IsTp o → Z (sB (restP (F_q_padded fuel)) [some (.loc l), some t.enc, some (.int fld), some (.lst ks), some (.int lv), none, none, none, none, none] (h.set l o)) := fun o ho => by
        cases t with
        | leaf s =>
          have := hZ (.leaf s) o [] ho trivial w (Nat.zero_le _)
          simpa [restP, Tr.enc] using this
        | node g a b c =>
          refine pad_rest h0 h1 ih hl ho _ ht w lv (Tr.dep (.node g a b c) + lv + 1) (by simp only [Tr.dep]; omega) (fun g' a' b' c' e => ?_) ks hk none Z hZ
          cases e
          simp only [Tr.dep] at hf h20 ⊢
          exact ⟨max a.dep (max b.dep c.dep), by omega, by omega, by omega, by omega, by omega, by omega⟩
      cases lv with
      | zero =>
        obtain ⟨o0, ho0, hs0⟩ := tp_self tp
        have := plain o0 ho0
        rw [hs0] at this
        simp [restP] at this
        simp [b_q_padded, envOf]
        exact this
      | succ lv =>
        have hg : (0 : Int) < (lv : Int) + 1 := by omega
        obtain ⟨q, o1, q0, q1, ho1, e1⟩ := takeI (n := 3) tp (by omega) (by omega)
        by_cases hq : q = 0
        · subst hq
          obtain ⟨x, o2, x0, x1, ho2, e2⟩ := takeI (n := n) (Tp.set ho1 hl) h0 (by omega)
          simp only [List.set_set] at e2
          have := pad_rest h0 h1 ih hl ho2 (.node x t t t) ⟨x0, x1, ht, ht, ht⟩ ⟨w, w, w⟩ lv (t.dep + (lv + 1) + 1) (by omega) (fun g' a' b' c' e => by
            cases e
            exact ⟨t.dep, by omega, by omega, by omega, by omega, by omega, by omega⟩) ks hk (some (.int x)) Z hZ
          have lk : ∀ h : AH, lenD (.lst ks) h = .ok (.int n) h := fun h => by rw [len_lst, hk.1]
          have hv : (lv : Int) + 1 - 1 = lv := by omega
          simp [restP, Tr.enc] at this
          simp [-len_lst, b_q_padded, envOf, hg, e1, lk, e2, hv, big4T]
          exact this
        · have := plain o1 ho1
          simp [restP] at this
          simp [b_q_padded, envOf, hg, e1, hq]
          exact this
    refine key (fun r => ∃ (t' : Tr) (o : AO), IsTp o ∧ t'.ok n ∧ t'.W ∧ t'.dep ≤ t.dep + lv + 1 ∧ trim h (fnR r) = .ok t'.enc (h.set l o)) fun t' o L ho k w d => ⟨t', o, ho, k, w, d, ?_⟩
    exact trim_val (by simp) (pre_set (ho.clo _)) (Tr.enc_loc _) (Tr.clo_enc _ _)
end Sm
end

section
set_option linter.all false
set_option maxRecDepth 10000
/-! Gd: turned to Sm by port.py from Q4 -/
namespace Sm
end Sm
end

section
set_option linter.all false
set_option maxRecDepth 10000
/-! Ge: k27: the law's two lists of trees. -/
namespace Sm
end Sm
end

section
set_option linter.all false
set_option maxRecDepth 10000
/-! Gf: k27: sides, least books. -/
namespace Sm
def rowsN (n f : Nat) : List (List Int) := (gr n).filter fun r => !decide (rv r f = 0)
def sideW (ts : List Tr) (f : Nat) : D := .lst ((rowsN ts.length f).map fun r => D.str (foll r (trA ts f)))
def sidesL (ts : List Tr) (m : Nat) : List D := (List.range m).map (sideW ts)
theorem gr_row {n : Nat} {r : List Int} (h : r ∈ gr n) : RowS n r := by
  obtain ⟨a, b⟩ := ((gr_all n).1 r).mp h
  exact ⟨by omega, b⟩
theorem rowsN_mem {n f : Nat} (hf : f < n) (r : List Int) : r ∈ rowsN n f ↔ RowF n f r := by
  unfold rowsN
  rw [List.mem_filter]
  constructor
  · rintro ⟨a, b⟩
    have hr := gr_row a
    refine ⟨hr, ?_⟩
    have hl : f < r.length := by have := hr.1; omega
    rw [rv_get hl] at b
    rw [show ((f : Int)).toNat = f by omega, List.getElem?_eq_getElem hl]
    intro z
    rw [Option.some.inj z] at b
    simp at b
  · intro hr
    have hl : f < r.length := by have := hr.row.1; omega
    refine ⟨((gr_all n).1 r).mpr ⟨by have := hr.row.1; omega, hr.row.2⟩, ?_⟩
    rw [rv_get hl]
    have := hr.ne
    rw [show ((f : Int)).toNat = f by omega, List.getElem?_eq_getElem hl] at this
    simp
    exact fun z => this (by rw [z])
end Sm
end

section
set_option linter.all false
set_option maxRecDepth 10000
/-! Ha: what a reduced tree asks is needed. -/
namespace Sm
section
variable {n fld : Int} (hn : 0 < n) (f0 : 0 ≤ fld) (f1 : fld < n)
include hn f0 f1
theorem part_ex {l : List Int} (nd : l.Nodup) (hl : ∀ x ∈ l, 0 ≤ x ∧ x < n) {s t : Tr} (i : IsL fld l s) (j : IsL fld l t) (ne : s ≠ t) : ∃ rs, RowF n fld rs ∧ foll rs s ≠ foll rs t := by
  by_cases q : ∃ rs, RowF n fld rs ∧ foll rs s ≠ foll rs t
  · exact q
  · refine absurd (canon hn f0 f1 nd hl i j fun rs hr => ?_) ne
    by_cases z : foll rs s = foll rs t
    · exact z
    · exact absurd ⟨rs, hr, z⟩ q
theorem need_ex {l : List Int} {t : Tr} (i : IsL fld l t) : l.Nodup → (∀ x ∈ l, 0 ≤ x ∧ x < n) → ∀ g ∈ t.fields, ∃ R, RowF n fld R ∧ foll R t ≠ foll (R.set g.toNat (-1)) t := by
  induction i with
  | leaf h => intro _ _ g hg; simp [Tr.fields] at hg
  | skip h ih =>
    intro nd hl g hg
    exact ih (List.nodup_cons.mp nd).2 (fun x hx => hl x (List.mem_cons_of_mem _ hx)) g hg
  | @node x l a b c ha hb hc h1 h2 iha ihb ihc =>
    intro nd hl g hg
    obtain ⟨hx, nd2⟩ := List.nodup_cons.mp nd
    obtain ⟨x0, x1⟩ := hl x (by simp)
    have hl2 : ∀ y ∈ l, 0 ≤ y ∧ y < n := fun y hy => hl y (List.mem_cons_of_mem _ hy)
    have h0l : ∀ y ∈ l, 0 ≤ y := fun y hy => (hl2 y hy).1
    simp only [Tr.fields, List.mem_cons, List.mem_append] at hg
    -- the choice of a branch
    have lift : ∀ (v : Int) (d : Tr), IsL fld l d → (v = -1 ∧ d = a ∨ v = 0 ∧ d = b ∨ v = 1 ∧ d = c) → ∀ R : List Int, RowS n R → foll (R.set x.toNat v) (.node x a b c) = foll R d := fun v d hd hv R hR => by
      have e : foll (R.set x.toNat v) d = foll R d := foll_set h0l x0 hd.mem hx
      rcases hv with ⟨rfl, rfl⟩ | ⟨rfl, rfl⟩ | ⟨rfl, rfl⟩
      · rw [foll_less hR x0 x1, e]
      · rw [foll_same hR x0 x1, e]
      · rw [foll_more hR x0 x1, e]
    have below : ∀ (v : Int) (d : Tr), IsL fld l d → (v = -1 ∧ d = a ∨ v = 0 ∧ d = b ∨ v = 1 ∧ d = c) → (x = fld → v ≠ 0) → g ∈ d.fields → (∃ R, RowF n fld R ∧ foll R d ≠ foll (R.set g.toNat (-1)) d) → ∃ R, RowF n fld R ∧ foll R (.node x a b c) ≠ foll (R.set g.toNat (-1)) (.node x a b c) := fun v d hd hv hvf hgd ⟨R, hR, ne⟩ => by
      have hgl := hd.mem g hgd
      have g0 := h0l g hgl
      have gx : g.toNat ≠ x.toNat := fun z => hx (by rw [show x = g by omega]; exact hgl)
      refine ⟨R.set x.toNat v, hR.set x0 f0 x1 (by omega) hvf, ?_⟩
      rw [lift v d hd hv R hR.row, List.set_comm _ _ (Ne.symm gx), lift v d hd hv _ (hR.row.set (by omega))]
      exact ne
    rcases hg with rfl | hg | hg | hg
    · -- the root itself
      have two : ∃ (v : Int) (d : Tr), IsL fld l d ∧ (v = -1 ∧ d = a ∨ v = 0 ∧ d = b ∨ v = 1 ∧ d = c) ∧ (g = fld → v ≠ 0) ∧ d ≠ a := by
        by_cases q : g = fld
        · exact ⟨1, c, hc, .inr (.inr ⟨rfl, rfl⟩), fun _ => by omega, fun z => (h1 q).2 z.symm⟩
        · by_cases z : b = a
          · refine ⟨1, c, hc, .inr (.inr ⟨rfl, rfl⟩), fun _ => by omega, fun y => h2 q ⟨z.symm, ?_⟩⟩
            rw [z, y]
          · exact ⟨0, b, hb, .inr (.inl ⟨rfl, rfl⟩), fun y => absurd y q, z⟩
      obtain ⟨v, d, hd, hv, hvf, hda⟩ := two
      obtain ⟨rs, hr, ne⟩ := part_ex (l := l) hn f0 f1 nd2 hl2 hd ha hda
      refine ⟨rs.set g.toNat v, hr.set x0 f0 x1 (by omega) hvf, ?_⟩
      rw [lift v d hd hv rs hr.row, List.set_set, lift (-1) a ha (.inl ⟨rfl, rfl⟩) rs hr.row]
      exact ne
    · exact below (-1) a ha (.inl ⟨rfl, rfl⟩) (fun _ => by omega) hg (iha nd2 hl2 g hg)
    · refine below 0 b hb (.inr (.inl ⟨rfl, rfl⟩)) (fun z => ?_) hg (ihb nd2 hl2 g hg)
      rw [(h1 z).1] at hg
      simp [Tr.fields] at hg
    · exact below 1 c hc (.inr (.inr ⟨rfl, rfl⟩)) (fun _ => by omega) hg (ihc nd2 hl2 g hg)
/-- the least tree asks just what some row needs -/
theorem need_iff {t : Tr} (w : t.W) (k : t.ok n) {g : Int} (g0 : 0 ≤ g) (g1 : g < n) : g ∈ (leastT t fld n).fields ↔ ∃ R, RowF n fld R ∧ foll R t ≠ foll (R.set g.toNat (-1)) t := by
  have il := leastT_isL (fld := fld) (n := n) w
  have fe : ∀ R, RowF n fld R → foll R (leastT t fld n) = foll R t := fun R hR => leastT_foll f0 f1 k hR
  have rs : ∀ R, RowF n fld R → RowF n fld (R.set g.toNat (-1)) := fun R hR => hR.set g0 f0 g1 (by omega) (fun _ => by omega)
  constructor
  · intro hg
    obtain ⟨R, hR, ne⟩ := need_ex hn f0 f1 il (order_nodup _ _) (fun x hx => (order_mem f0 f1).mp hx) g hg
    rw [fe R hR, fe _ (rs R hR)] at ne
    exact ⟨R, hR, ne⟩
  · rintro ⟨R, hR, ne⟩
    by_cases q : g ∈ (leastT t fld n).fields
    · exact q
    · exfalso
      rw [← fe R hR, ← fe _ (rs R hR)] at ne
      refine ne (foll_congr _ fun x hx => ?_)
      have hx0 := ((order_mem f0 f1).mp (il.mem x hx)).1
      rw [List.getElem?_set_ne (fun z => q (by rw [show g = x by omega]; exact hx))]
end
theorem asc_eqI : ∀ {xs ys : List Int}, xs.Pairwise (· < ·) → ys.Pairwise (· < ·) → (∀ x, x ∈ xs ↔ x ∈ ys) → xs = ys
  | [], [], _, _, _ => rfl
  | [], y :: ys, _, _, h => by have := (h y).mpr (by simp); simp at this
  | x :: xs, [], _, _, h => by have := (h x).mp (by simp); simp at this
  | x :: xs, y :: ys, hx, hy, h => by
    obtain ⟨x1, x2⟩ := List.pairwise_cons.mp hx
    obtain ⟨y1, y2⟩ := List.pairwise_cons.mp hy
    have e : x = y := by
      have a := (h x).mp (by simp)
      have b := (h y).mpr (by simp)
      rcases List.mem_cons.mp a with a | a
      · exact a
      · rcases List.mem_cons.mp b with b | b
        · exact b.symm
        · have := y1 x a
          have := x1 y b
          omega
    subst e
    congr 1
    refine asc_eqI x2 y2 fun z => ?_
    constructor
    · intro hz
      have := (h z).mp (List.mem_cons_of_mem _ hz)
      rcases List.mem_cons.mp this with q | q
      · rw [q] at hz
        have := x1 x hz
        omega
      · exact q
    · intro hz
      have := (h z).mpr (List.mem_cons_of_mem _ hz)
      rcases List.mem_cons.mp this with q | q
      · rw [q] at hz
        have := y1 x hz
        omega
      · exact q
def nedB (t : Tr) (fld n g : Nat) : Bool := (rowsN n fld).any fun R => !decide (foll R t = foll (R.set g (-1)) t)
def nedL (t : Tr) (fld n : Nat) : List D := ((List.range n).filter (nedB t fld n)).map eN
theorem nedB_iff {t : Tr} {fld n g : Nat} (f1 : fld < n) : nedB t fld n g = true ↔ ∃ R, RowF n fld R ∧ foll R t ≠ foll (R.set g (-1)) t := by
  unfold nedB
  rw [List.any_eq_true]
  constructor
  · rintro ⟨R, hR, h⟩
    exact ⟨R, (rowsN_mem f1 R).mp hR, by simpa using h⟩
  · rintro ⟨R, hR, h⟩
    exact ⟨R, (rowsN_mem f1 R).mpr hR, by simpa using h⟩
theorem needed_fields_ok {n fld : Nat} (h7 : n < 7) (f1 : fld < n) {t : Tr} (k : t.ok n) (w : t.W) (d : t.dep ≤ 6) (h : AH) : F_needed_fields [t.enc, .int fld, .int n] h = .ok (.tup (nedL t fld n)) h := by
  have lt := least_tree_ok (fld := fld) (n := n) (by omega) (by omega) (by omega) (by omega) k w d (h := h)
  have lo := leastT_ok (fld := fld) (n := n) (by omega) (by omega) w
  have ld := leastT_dep (fld := fld) (n := n) (by omega) (by omega) (by omega) w
  obtain ⟨fs, f2, f3⟩ := asked_ok (n := n) (h := h) (by omega) (by omega) lo (size6 ld)
  have e : (sortU fs).map D.int = nedL t fld n := by
    have e2 : nedL t fld n = (((List.range n).filter (nedB t fld n)).map fun (g : Nat) => (g : Int)).map D.int := by
      unfold nedL
      rw [List.map_map]; rfl
    rw [e2]
    congr 1
    refine asc_eqI (sortU_asc fs) ?_ fun x => ?_
    · rw [List.pairwise_map]
      refine ((List.pairwise_lt_range).filter _).imp fun hab => by omega
    · rw [sortU_mm, f2]
      constructor
      · intro hx
        have hb := Tr.fields_ok _ lo x hx
        refine List.mem_map.mpr ⟨x.toNat, List.mem_filter.mpr ⟨List.mem_range.mpr (by omega), ?_⟩, by omega⟩
        rw [nedB_iff f1]
        exact (need_iff (n := n) (fld := fld) (by omega) (by omega) (by omega) w k hb.1 hb.2).mp hx
      · intro hx
        obtain ⟨g, hg, rfl⟩ := List.mem_map.mp hx
        obtain ⟨hg, hb⟩ := List.mem_filter.mp hg
        have hg := List.mem_range.mp hg
        rw [nedB_iff f1] at hb
        exact (need_iff (n := n) (fld := fld) (g := g) (by omega) (by omega) (by omega) w k (by omega) (by omega)).mpr hb
  rw [e] at f3
  have ht := trim_same (h := h) (d := .tup (nedL t fld n)) rfl (by unfold nedL; rw [clo_tup, clos_all, List.all_eq_true]; intro x hx; obtain ⟨g, _, rfl⟩ := List.mem_map.mp hx; rfl)
  refine fnT_x rfl ?_
  generalize (leastT t fld n).enc = LE at *
  generalize t.enc = TE at *
  generalize nedL t fld n = NL at *
  simp [b_needed_fields, envOf, lt, f3, ht]
end Sm
end

section
set_option linter.all false
set_option maxRecDepth 10000
/-! Hb: k26: what the law says is needed. -/
namespace Sm
def enk (r : List Int) : List K1 := r.map K1.i
theorem enk_inj {r s : List Int} (h : enk r = enk s) : r = s := by
  unfold enk at h
  exact (List.map_inj_right (fun a b e => K1.i.inj e)).mp h
theorem kT_row (r : List Int) : kT (.tup (r.map .int)) = some (enk r) := by
  show kDs (r.map .int) = some (enk r)
  induction r with
  | nil => rfl
  | cons x r ih =>
    show (match kD (.int x) with
      | some k => (kDs (r.map .int)).map (k :: ·)
      | none => none) = _
    rw [ih]; rfl
def ekv (t : Tr) (es : List (List Int)) : List (List K1 × D) := es.map fun r => (enk r, D.str (foll r t))
def dicO (t : Tr) (es : List (List Int)) : AO := .dicT (es.map enk) (es.map fun r => D.str (foll r t))
theorem dicTH_row {h L : AH} (t : Tr) (es : List (List Int)) : dicTH (h ++ dicO t es :: L) (.loc h.length) = some (h.length, ekv t es) := by
  unfold dicTH
  dsimp only
  rw [List.getElem?_append_right (Nat.le_refl _), Nat.sub_self]
  show some (h.length, (es.map enk).zip (es.map fun r => D.str (foll r t))) = _
  rw [List.zip_map']; rfl
def addR (es : List (List Int)) (r : List Int) : List (List Int) := if r ∈ es then es else es ++ [r]
theorem putA_row (t : Tr) (es : List (List Int)) (r : List Int) : putA (ekv t es) (enk r) (D.str (foll r t)) = ekv t (addR es r) := by
  unfold putA addR
  by_cases c : r ∈ es
  · rw [if_pos c, if_pos (by
      rw [List.any_eq_true]
      exact ⟨(enk r, D.str (foll r t)), List.mem_map.mpr ⟨r, c, rfl⟩, by simp⟩)]
    unfold ekv
    rw [List.map_map]
    apply List.map_congr_left
    intro s hs
    show (if enk s = enk r then (enk s, D.str (foll r t)) else (enk s, D.str (foll s t))) = _
    by_cases e : enk s = enk r
    · rw [if_pos e, enk_inj e]
    · rw [if_neg e]
  · rw [if_neg c, if_neg (by
      intro z
      rw [List.any_eq_true] at z
      obtain ⟨kv, hkv, e⟩ := z
      obtain ⟨s, hs, rfl⟩ := List.mem_map.mp hkv
      have : enk s = enk r := by simpa using e
      exact c (enk_inj this ▸ hs))]
    unfold ekv
    rw [List.map_append]; rfl
theorem getA_row (t : Tr) (es : List (List Int)) {r : List Int} (h : r ∈ es) : getA (ekv t es) (enk r) = some (D.str (foll r t)) := by
  unfold getA
  cases q : (ekv t es).find? fun kv => decide (kv.1 = enk r) with
  | none =>
    rw [List.find?_eq_none] at q
    have := q (enk r, D.str (foll r t)) (List.mem_map.mpr ⟨r, h, rfl⟩)
    simp at this
  | some kv =>
    have hm := List.mem_of_find?_eq_some q
    have hp := List.find?_some q
    obtain ⟨s, hs, rfl⟩ := List.mem_map.mp hm
    have : enk s = enk r := by simpa using hp
    rw [enk_inj this]; rfl
theorem setT_row {h : AH} (t : Tr) {es : List (List Int)} (hl : es.length < 1000) (r : List Int) : setTD (.loc h.length) (.tup (r.map .int)) (.str (foll r t)) (h ++ [dicO t es]) = .ok .non (h ++ [dicO t (addR es r)]) := by
  unfold setTD
  rw [dicTH_row]
  dsimp only
  rw [kT_row]
  dsimp only
  rw [putA_row, decide_eq_true (by unfold ekv; rw [List.length_map, bigv]; omega), chk_true, set_new (Nat.le_refl _), Nat.sub_self, List.set_cons_zero]
  unfold ekv dicO
  rw [List.map_map, List.map_map]; rfl
theorem ixT_row {h L : AH} (t : Tr) {es : List (List Int)} {r : List Int} (hr : r ∈ es) : ixTD (.loc h.length) (.tup (r.map .int)) (h ++ dicO t es :: L) = .ok (.str (foll r t)) (h ++ dicO t es :: L) := by
  unfold ixTD
  rw [dicTH_row]
  dsimp only
  rw [kT_row]
  dsimp only
  rw [getA_row t es hr]; rfl
theorem keys_row {h : AH} (t : Tr) {es : List (List Int)} (hl : es.length < 1000) : keysTD (.loc h.length) (h ++ [dicO t es]) = .ok (.lst (encR es)) (h ++ [dicO t es]) := by
  unfold keysTD
  rw [dicTH_row]
  dsimp only
  rw [decide_eq_true (by unfold ekv; rw [List.length_map, bigv]; omega), chk_true]
  have : (ekv t es).map (fun kv => D.tup (kv.1.map keyD)) = encR es := by
    unfold ekv encR
    rw [List.map_map]
    apply List.map_congr_left
    intro r _
    show D.tup ((r.map K1.i).map keyD) = _
    rw [List.map_map]; rfl
  rw [this]
theorem needed_ok {n fld : Nat} (h0 : 0 < n) (h7 : n < 7) (f1 : fld < n) {t : Tr} (k : t.ok n) (w : t.W) (d : t.dep ≤ 6) (h : AH) : F_q_needed [t.enc, .int fld, .int n] h = .ok (.lst (nedL t fld n)) h := by
  have hi : inI (n : Int) = true := inI_nat
  have gl : (gr n).length ≤ 729 := by
    have := (gr_all n).2
    have p6 : ∀ k, k ≤ 6 → 3 ^ k ≤ 729 := by decide
    have := p6 n (by omega)
    omega
  have key : wp (F_q_needed [t.enc, .int fld, .int n] h) fun d k => d = .lst (nedL t fld n) ∧ k = h := by
    refine fnT_w rfl ?_
    rw [b_q_needed]
    have ft := fun (r : List Int) (hr : RowS n r) (K : AH) => lfollowT_ok hr k (by omega) (h := K)
    generalize t.enc = TE at *
    simp only [envOf, List.map_cons, List.map_nil, List.length_cons, List.length_nil, List.cons_append, List.nil_append, Nat.reduceAdd, Nat.reduceSub, List.replicate_succ, List.replicate_zero]
    refine q_set (d := (.loc h.length)) (h2 := (h ++ [dicO t []])) (by
      show _ = R.ok _ _
      rfl) ?_
    simp only [List.set_cons_succ, List.set_cons_zero]
    have rows := rowsG_ok (n := n) (by omega) (by omega) (h ++ [dicO t []])
    rw [show ((n : Int)).toNat = n by omega] at rows
    refine q_any (P := fun fl k => ∃ (es : List (List Int)) (y4 : Option D), (∀ r, r ∈ es ↔ r ∈ rowsN n fld) ∧ es.length ≤ 729 ∧ fl = .nx [some TE, some (.int fld), some (.int n), some (.loc h.length), y4, none, none, none] ∧ k = h ++ [dicO t es]) ?_ ?_
    · refine for_it (xs := encR (gr n)) (h1 := h ++ [dicO t []]) (by
        generalize h ++ [dicO t []] = K at *
        generalize encR (gr n) = ER at *
        simp [rows]) ?_
      refine for_w (I := fun i e k => ∃ (es : List (List Int)) (y4 : Option D), (∀ r, r ∈ es ↔ r ∈ (gr n).take i ∧ rv r fld ≠ 0) ∧ es.length ≤ i ∧ e = [some TE, some (.int fld), some (.int n), some (.loc h.length), y4, none, none, none] ∧ k = h ++ [dicO t es]) ⟨[], none, by simp, by simp, rfl, rfl⟩ ?_ ?_
      · rintro i z e k2 hz ⟨es, y4, hes, hel, rfl, rfl⟩
        unfold encR at hz
        rw [List.getElem?_map] at hz
        cases hq : (gr n)[i]? with
        | none => rw [hq] at hz; cases hz
        | some r =>
          rw [hq] at hz
          cases hz
          have hil : i < (gr n).length := (List.getElem?_eq_some_iff.mp hq).1
          have rr := gr_row (List.mem_of_getElem? hq)
          have ir := ix_eR (r := r) (p := fld) (by have := rr.1; omega) (h ++ [dicO t es])
          have fr := ft r rr (h ++ [dicO t es])
          have st := setT_row (h := h) t (es := es) (by omega) r
          unfold eR at ir
          have mem : ∀ (es2 : List (List Int)), (∀ s, s ∈ es2 ↔ s ∈ es ∨ (s = r ∧ rv r fld ≠ 0)) → ∀ s, s ∈ es2 ↔ s ∈ (gr n).take (i + 1) ∧ rv s fld ≠ 0 := fun es2 h2 s => by
            rw [h2, hes, List.take_add_one, hq, List.mem_append]
            simp only [Option.toList_some, List.mem_singleton]
            constructor
            · rintro (⟨a, b⟩ | ⟨rfl, b⟩)
              · exact ⟨.inl a, b⟩
              · exact ⟨.inr rfl, b⟩
            · rintro ⟨a | rfl, b⟩
              · exact .inl ⟨a, b⟩
              · exact .inr ⟨rfl, b⟩
          rw [gV_def, bind_ok]
          simp only [List.set_cons_succ, List.set_cons_zero]
          by_cases c : rv r fld = 0
          · rw [c] at ir
            refine wp_mono (P := fun fl k3 => fl = .nx [some TE, some (.int fld), some (.int n), some (.loc h.length), some (.tup (r.map .int)), none, none, none] ∧ k3 = h ++ [dicO t es]) ?_ (by
              rintro fl k3 ⟨rfl, rfl⟩
              exact ⟨es, _, mem es (fun s => ⟨.inl, fun q => q.resolve_right fun z => z.2 c⟩), by omega, rfl, rfl⟩)
            generalize h ++ [dicO t es] = K at *
            generalize r.map D.int = R at *
            simp [ir]
          · refine wp_mono (P := fun fl k3 => fl = .nx [some TE, some (.int fld), some (.int n), some (.loc h.length), some (.tup (r.map .int)), none, none, none] ∧ k3 = h ++ [dicO t (addR es r)]) ?_ (by
              rintro fl k3 ⟨rfl, rfl⟩
              refine ⟨addR es r, _, mem _ (fun s => ?_), ?_, rfl, rfl⟩
              · unfold addR
                by_cases q : r ∈ es
                · rw [if_pos q]
                  exact ⟨.inl, fun z => z.elim id fun y => by rw [y.1]; exact q⟩
                · rw [if_neg q, List.mem_append, List.mem_singleton]
                  exact ⟨fun z => z.imp id fun y => ⟨y, c⟩, fun z => z.imp id fun y => y.1⟩
              · unfold addR
                split
                · omega
                · rw [List.length_append, List.length_singleton]; omega)
            generalize h ++ [dicO t (addR es r)] = K2 at *
            generalize h ++ [dicO t es] = K at *
            generalize rv r fld = v at *
            generalize foll r t = FW at *
            generalize r.map D.int = R at *
            simp [ir, c, fr, st]
      · rintro e k2 ⟨es, y4, hes, hel, rfl, rfl⟩
        rw [encR_len] at hes hel
        rw [List.take_length] at hes
        refine ⟨es, y4, fun r => ?_, by omega, rfl, rfl⟩
        rw [hes]
        unfold rowsN
        rw [List.mem_filter]
        simp
    rintro fl k2 ⟨es, y4, hes, hel, rfl, rfl⟩
    rw [kB2_nx]
    have ky := keys_row (h := h) t (es := es) (by omega)
    refine q_set (d := (.lst (encR es))) (h2 := (h ++ [dicO t es])) (by
      generalize h ++ [dicO t es] = K at *
      generalize encR es = ER at *
      simp [eKeysT, ky]) ?_
    simp only [List.set_cons_succ, List.set_cons_zero]
    refine q_set (d := (.loc (h.length + 1))) (h2 := (h ++ [dicO t es, .lst []])) (by
      generalize encR es = ER at *
      simp) ?_
    simp only [List.set_cons_succ, List.set_cons_zero]
    refine q_any (P := fun fl k3 => ∃ (w4 w7 : Option D), fl = .nx [some TE, some (.int fld), some (.int n), some (.loc h.length), w4, some (.lst (encR es)), some (.loc (h.length + 1)), w7] ∧ k3 = h ++ [dicO t es, .lst (nedL t fld n)]) ?_ ?_
    · refine for_it (xs := rng 0 n) (h1 := h ++ [dicO t es, .lst []]) (by
        generalize encR es = ER at *
        simp [hi]) ?_
      refine for_w (I := fun i e k3 => ∃ (w4 w7 : Option D), e = [some TE, some (.int fld), some (.int n), some (.loc h.length), w4, some (.lst (encR es)), some (.loc (h.length + 1)), w7] ∧ k3 = h ++ [dicO t es, .lst (((List.range i).filter (nedB t fld n)).map eN)]) ⟨_, _, rfl, rfl⟩ ?_ ?_
      · rintro g z e k3 hz ⟨w4, w7, rfl, rfl⟩
        obtain ⟨hgl, rfl⟩ := rng_get0 hz
        obtain ⟨NL, hNL⟩ : ∃ NL, NL = ((List.range g).filter (nedB t fld n)).map eN := ⟨_, rfl⟩
        have nll : NL.length ≤ n := by
          rw [hNL, List.length_map]
          have := List.length_filter_le (nedB t fld n) (List.range g)
          rw [List.length_range] at this
          omega
        have nxt_ : ((List.range (g + 1)).filter (nedB t fld n)).map eN = NL ++ (if nedB t fld n g then [eN g] else []) := by
          rw [hNL, List.range_succ, List.filter_append, List.map_append]
          cases q : nedB t fld n g <;> simp [q]
        rw [← hNL]
        rw [gV_def, bind_ok]
        simp only [List.set_cons_succ, List.set_cons_zero]
        have gN : getL (h ++ [dicO t es, .lst NL]) (h.length + 1) = some NL := by rw [getL_new (by omega)]; simp [getL]
        have il := isL gN
        have ap := append_ok (.int g) gN (by rw [bigv]; omega)
        rw [set_new (by omega)] at ap
        have ap : appendD (.loc (h.length + 1)) (.int g) (h ++ [dicO t es, .lst NL]) = .ok .non (h ++ [dicO t es, .lst (NL ++ [.int g])]) := by
          rw [ap]; simp
        refine q_any (P := fun fl k4 => ∃ (w4 : Option D), fl = .nx [some TE, some (.int fld), some (.int n), some (.loc h.length), w4, some (.lst (encR es)), some (.loc (h.length + 1)), some (.int g)] ∧ k4 = h ++ [dicO t es, .lst (NL ++ (if nedB t fld n g then [eN g] else []))]) ?_ (by
          rintro fl k4 ⟨w4, rfl, rfl⟩
          rw [kB2_nx]
          exact ⟨_, _, rfl, by rw [nxt_]⟩)
        refine for_it (xs := encR es) (h1 := h ++ [dicO t es, .lst NL]) (by
          generalize encR es = ER at *
          simp) ?_
        refine for_w (I := fun j e k4 => ∃ (w4 : Option D), e = [some TE, some (.int fld), some (.int n), some (.loc h.length), w4, some (.lst (encR es)), some (.loc (h.length + 1)), some (.int g)] ∧ k4 = h ++ [dicO t es, .lst NL] ∧ ∀ r ∈ es.take j, foll r t = foll (r.set g (-1)) t) ⟨_, rfl, rfl, fun r hr => by simp at hr⟩ ?_ ?_
        · rintro j z e k4 hz ⟨w4, rfl, rfl, hj⟩
          unfold encR at hz
          rw [List.getElem?_map] at hz
          cases hq : es[j]? with
          | none => rw [hq] at hz; cases hz
          | some r =>
            rw [hq] at hz
            cases hz
            have rm := List.mem_of_getElem? hq
            have rF := (rowsN_mem f1 r).mp ((hes r).mp rm)
            have hrl : r.length = n := by have := rF.row.1; omega
            have rF2 : RowF n fld (r.set g (-1)) := by
              have := rF.set (x := (g : Int)) (v := -1) (by omega) (by omega) (by omega) (by omega) (fun _ => by omega)
              rwa [show ((g : Int)).toNat = g by omega] at this
            have rm2 : r.set g (-1) ∈ es := (hes _).mpr ((rowsN_mem f1 _).mpr rF2)
            have x1 := ixT_row (h := h) (L := [.lst NL]) t rm
            have x2 := ixT_row (h := h) (L := [.lst NL]) t rm2
            have c1 := cut_pre (r.map D.int) g (by simp; omega)
            have c2 := cut_suf (r.map D.int) (g + 1) (by simp; omega)
            have c3 := set_cut (r.map D.int) g (.int (-1)) (by simp; omega)
            rw [Int.natCast_add, Int.natCast_one] at c2
            have b1 : min g r.length + 1 ≤ big := by rw [bigv]; omega
            have b2 : min g r.length + 1 + (r.length - (g + 1)) ≤ big := by rw [bigv]; omega
            have tk_ : (Sm.e2 (addD true) (Sm.e2 (addD true) (eSl true (eV 4) (oN) (oS (eV 7))) (eTup (eL [Sm.e2 subD (eC (.int 0)) (eC (.int 1))]))) (eSl true (eV 4) (oS (Sm.e2 (addD true) (eV 7) (eC (.int 1)))) (oN))) [some TE, some (.int fld), some (.int n), some (.loc h.length), some (.tup (r.map .int)), some (.lst (encR es)), some (.loc (h.length + 1)), some (.int g)] (h ++ [dicO t es, .lst NL]) = .ok (.tup ((r.set g (-1)).map .int)) (h ++ [dicO t es, .lst NL]) := by
              generalize encR es = ER at *
              generalize h ++ [dicO t es, AO.lst NL] = K at *
              simp [c1, c2, big1, b1, b2, List.map_set]
              simpa using c3
            rw [gV_def, bind_ok]
            simp only [List.set_cons_succ, List.set_cons_zero]
            have q2 : neD (.str (foll r t)) (.str (foll (r.set g (-1)) t)) (h ++ [dicO t es, .lst NL]) = .ok (.bl (!decide (foll r t = foll (r.set g (-1)) t))) (h ++ [dicO t es, .lst NL]) := by simp
            have ev : (tB1 (Sm.e2 neD (Sm.e2 ixTD (eV 3) (eV 4)) (Sm.e2 ixTD (eV 3) (Sm.e2 (addD true) (Sm.e2 (addD true) (eSl true (eV 4) (oN) (oS (eV 7))) (eTup (eL [Sm.e2 subD (eC (.int 0)) (eC (.int 1))]))) (eSl true (eV 4) (oS (Sm.e2 (addD true) (eV 7) (eC (.int 1)))) (oN)))))) [some TE, some (.int fld), some (.int n), some (.loc h.length), some (.tup (r.map .int)), some (.lst (encR es)), some (.loc (h.length + 1)), some (.int g)] (h ++ [dicO t es, .lst NL]) = .ok (!decide (foll r t = foll (r.set g (-1)) t)) (h ++ [dicO t es, .lst NL]) := by
              clear c1 c2 c3 b1 b2 ap il gN
              generalize (Sm.e2 (addD true) (Sm.e2 (addD true) (eSl true (eV 4) (oN) (oS (eV 7))) (eTup (eL [Sm.e2 subD (eC (.int 0)) (eC (.int 1))]))) (eSl true (eV 4) (oS (Sm.e2 (addD true) (eV 7) (eC (.int 1)))) (oN))) = SE at *
              generalize encR es = ER at *
              generalize h ++ [dicO t es, AO.lst NL] = K at *
              generalize (r.set g (-1)).map D.int = R2 at *
              generalize r.map D.int = R1 at *
              generalize foll (r.set g (-1)) t = F2 at *
              generalize foll r t = F1 at *
              simp [x1, x2, tk_, q2]
            clear tk_ q2 x1 x2 c1 c2 c3
            by_cases c : foll r t = foll (r.set g (-1)) t
            · rw [decide_eq_true c] at ev
              refine wp_mono (P := fun fl k5 => fl = .nx [some TE, some (.int fld), some (.int n), some (.loc h.length), some (.tup (r.map .int)), some (.lst (encR es)), some (.loc (h.length + 1)), some (.int g)] ∧ k5 = h ++ [dicO t es, .lst NL]) ?_ (by
                rintro fl k5 ⟨rfl, rfl⟩
                refine ⟨_, rfl, rfl, fun s hs => ?_⟩
                rw [List.take_add_one, hq, List.mem_append] at hs
                rcases hs with hs | hs
                · exact hj s hs
                · simp at hs
                  rw [hs]; exact c)
              refine q_any (if_no ev ⟨rfl, rfl⟩) (P := fun fl k5 => fl = .nx [some TE, some (.int fld), some (.int n), some (.loc h.length), some (.tup (r.map .int)), some (.lst (encR es)), some (.loc (h.length + 1)), some (.int g)] ∧ k5 = h ++ [dicO t es, .lst NL]) (by
                rintro fl k5 ⟨rfl, rfl⟩
                rw [kB2_nx]
                exact ⟨rfl, rfl⟩)
            · rw [decide_eq_false c] at ev
              have nb : nedB t fld n g = true := (nedB_iff f1).mpr ⟨r, rF, c⟩
              refine wp_mono (P := fun fl k5 => fl = .bk [some TE, some (.int fld), some (.int n), some (.loc h.length), some (.tup (r.map .int)), some (.lst (encR es)), some (.loc (h.length + 1)), some (.int g)] ∧ k5 = h ++ [dicO t es, .lst (NL ++ [.int g])]) ?_ (by
                rintro fl k5 ⟨rfl, rfl⟩
                rw [nb]
                exact ⟨_, rfl, rfl⟩)
              refine q_any (if_yes ev ?_) (P := fun fl k5 => fl = .bk [some TE, some (.int fld), some (.int n), some (.loc h.length), some (.tup (r.map .int)), some (.lst (encR es)), some (.loc (h.length + 1)), some (.int g)] ∧ k5 = h ++ [dicO t es, .lst (NL ++ [.int g])]) (by
                rintro fl k5 ⟨rfl, rfl⟩
                rw [kB2_bk]
                exact ⟨rfl, rfl⟩)
              clear ev
              generalize encR es = ER at *
              generalize h ++ [dicO t es, AO.lst (NL ++ [D.int g])] = K2 at *
              generalize h ++ [dicO t es, AO.lst NL] = K at *
              simp [il, ap]
        · rintro e k4 ⟨w4, rfl, rfl, hj⟩
          rw [encR_len, List.take_length] at hj
          have nb : nedB t fld n g = false := by
            cases q : nedB t fld n g with
            | false => rfl
            | true =>
              obtain ⟨R, hR, ne⟩ := (nedB_iff f1).mp q
              exact absurd (hj R ((hes R).mpr ((rowsN_mem f1 R).mpr hR))) ne
          refine ⟨_, rfl, ?_⟩
          rw [nb]; simp
      · rintro e k3 ⟨w4, w7, rfl, rfl⟩
        rw [rng_len]
        exact ⟨_, _, rfl, rfl⟩
    · rintro fl k3 ⟨w4, w7, rfl, rfl⟩
      rw [kB2_nx]
      have cn : clos h.length (nedL t fld n) = true := by
        unfold nedL
        rw [clos_all, List.all_eq_true]
        intro x hx
        obtain ⟨g, _, rfl⟩ := List.mem_map.mp hx
        rfl
      have ht := trim_lst (h := h) (h1 := h) (L := [dicO t es, .lst (nedL t fld n)]) (l := h.length + 1) (xs := nedL t fld n) rfl (pre_refl h) (by omega) (by simp) cn
      generalize encR es = ER at *
      generalize nedL t fld n = NL at *
      simp [ht]
  obtain ⟨d, k2, e, rfl, rfl⟩ := wp_iff.mp key
  exact e
end Sm
end

section
set_option Elab.async false
set_option linter.all false
set_option maxRecDepth 100000
set_option maxHeartbeats 2000000
namespace Sm.K26
open PySem PySem.Spec PyProof.Rows L2 L2H Sm
def topS (i : Nat) : Stmt := PySem.Challenge.pw_fieldrides_k26_whole_needed_fields.main.body.getD i (.Pass ⟨0, 0, 0, 0⟩)
abbrev s_q_is_integer : Stmt := topS 15
theorem S_q_is_integer : FnScope ["_law_actual"] ["_law_actual"] (defScope s_q_is_integer) := ⟨rfl, rfl, rfl, by decide +kernel, rfl, by decide +kernel, by decide +kernel⟩
abbrev s_q_is_ascending : Stmt := topS 16
theorem S_q_is_ascending : FnScope ["_law_actual", "_law_n", "_law_last", "_law_value"] ["_law_actual", "_law_n"] (defScope s_q_is_ascending) := ⟨rfl, rfl, rfl, by decide +kernel, rfl, by decide +kernel, by decide +kernel⟩
abbrev s_q_follow : Stmt := topS 13
theorem S_q_follow : FnScope ["_law_tree_here", "_law_row", "_law_k"] ["_law_tree_here", "_law_row"] (defScope s_q_follow) := ⟨rfl, rfl, rfl, by decide +kernel, rfl, by decide +kernel, by decide +kernel⟩
abbrev s_q_rows : Stmt := topS 14
theorem S_q_rows : FnScope ["_law_n", "_law_rows_here", "_law_k", "_law_longer", "_law_row", "_law_s"] ["_law_n"] (defScope s_q_rows) := ⟨rfl, rfl, rfl, by decide +kernel, rfl, by decide +kernel, by decide +kernel⟩
abbrev s_q_needed : Stmt := topS 17
theorem S_q_needed : FnScope ["_law_tree_here", "_law_field", "_law_n", "_law_sides", "_law_row", "_law_rows_here", "_law_needed_here", "_law_g"] ["_law_tree_here", "_law_field", "_law_n"] (defScope s_q_needed) := ⟨rfl, rfl, rfl, by decide +kernel, rfl, by decide +kernel, by decide +kernel⟩
abbrev s_q_take : Stmt := topS 10
theorem S_q_take : FnScope ["_law_tape_here", "_law_size", "_law_cell", "_law_k", "_law_mixed"] ["_law_tape_here", "_law_size"] (defScope s_q_take) := ⟨rfl, rfl, rfl, by decide +kernel, rfl, by decide +kernel, by decide +kernel⟩
abbrev s_q_tree : Stmt := topS 11
theorem S_q_tree : FnScope ["_law_tape_here", "_law_n", "_law_levels", "_law_field", "_law_less", "_law_same", "_law_more"] ["_law_tape_here", "_law_n", "_law_levels"] (defScope s_q_tree) := ⟨rfl, rfl, rfl, by decide +kernel, rfl, by decide +kernel, by decide +kernel⟩
abbrev s_q_padded : Stmt := topS 12
theorem S_q_padded : FnScope ["_law_tape_here", "_law_tree_here", "_law_field", "_law_known", "_law_levels", "_law_extra", "_law_place", "_law_branches", "_law_s", "_law_fixed"] ["_law_tape_here", "_law_tree_here", "_law_field", "_law_known", "_law_levels"] (defScope s_q_padded) := ⟨rfl, rfl, rfl, by decide +kernel, rfl, by decide +kernel, by decide +kernel⟩
abbrev s_q_tape : Stmt := topS 9
theorem S_q_tape : FnScope ["_law_script", "_law_k"] ["_law_script", "_law_k"] (defScope s_q_tape) := ⟨rfl, rfl, rfl, by decide +kernel, rfl, by decide +kernel, by decide +kernel⟩
abbrev s_asked : Stmt := topS 2
theorem S_asked : FnScope ["tree", "fields", "left", "part"] ["tree"] (defScope s_asked) := ⟨rfl, rfl, rfl, by decide +kernel, rfl, by decide +kernel, by decide +kernel⟩
abbrev s_field_order : Stmt := topS 3
theorem S_field_order : FnScope ["field", "fields", "other"] ["field", "fields"] (defScope s_field_order) := ⟨rfl, rfl, rfl, by decide +kernel, rfl, by decide +kernel, by decide +kernel⟩
abbrev s_follow : Stmt := topS 1
theorem S_follow : FnScope ["tree", "row"] ["tree", "row"] (defScope s_follow) := ⟨rfl, rfl, rfl, by decide +kernel, rfl, by decide +kernel, by decide +kernel⟩
abbrev s_with_sign : Stmt := topS 4
theorem S_with_sign : FnScope ["row", "field", "value"] ["row", "field", "value"] (defScope s_with_sign) := ⟨rfl, rfl, rfl, by decide +kernel, rfl, by decide +kernel, by decide +kernel⟩
abbrev s_least_from : Stmt := topS 5
theorem S_least_from : FnScope ["tree", "field", "row", "left", "less", "more", "same", "alike"] ["tree", "field", "row", "left"] (defScope s_least_from) := ⟨rfl, rfl, rfl, by decide +kernel, rfl, by decide +kernel, by decide +kernel⟩
abbrev s_least_tree : Stmt := topS 6
theorem S_least_tree : FnScope ["tree", "field", "fields", "known", "left", "other"] ["tree", "field", "fields"] (defScope s_least_tree) := ⟨rfl, rfl, rfl, by decide +kernel, rfl, by decide +kernel, by decide +kernel⟩
abbrev s_needed_fields : Stmt := topS 7
theorem S_needed_fields : FnScope ["tree", "field", "fields"] ["tree", "field", "fields"] (defScope s_needed_fields) := ⟨rfl, rfl, rfl, by decide +kernel, rfl, by decide +kernel, by decide +kernel⟩
abbrev s_law : Stmt := topS 18
theorem S_law : FnScope ["_law_script", "_law_tape_here", "_law_n", "_law_field", "_law_tree_here", "_law_g", "_law_place", "_law_actual"] ["_law_script"] (defScope s_law) := ⟨rfl, rfl, rfl, by decide +kernel, rfl, by decide +kernel, by decide +kernel⟩
/-- what the top has written -/
structure Gd (K : PySem.W.Frag) (mg : Str → Option Value) where
  a_q_is_integer : Addr
  d_q_is_integer : FuncData
  F_q_is_integer : Fun K "_law_is_integer" "_law_is_integer" s_q_is_integer a_q_is_integer d_q_is_integer
  b_q_is_integer : Binds K d_q_is_integer ["_law_actual"] []
  m_q_is_integer : mg "_law_is_integer" = some (.ref a_q_is_integer)
  a_q_is_ascending : Addr
  d_q_is_ascending : FuncData
  F_q_is_ascending : Fun K "_law_is_ascending" "_law_is_ascending" s_q_is_ascending a_q_is_ascending d_q_is_ascending
  b_q_is_ascending : Binds K d_q_is_ascending ["_law_actual", "_law_n"] []
  m_q_is_ascending : mg "_law_is_ascending" = some (.ref a_q_is_ascending)
  a_q_follow : Addr
  d_q_follow : FuncData
  F_q_follow : Fun K "_law_follow" "_law_follow" s_q_follow a_q_follow d_q_follow
  b_q_follow : Binds K d_q_follow ["_law_tree_here", "_law_row"] []
  m_q_follow : mg "_law_follow" = some (.ref a_q_follow)
  a_q_rows : Addr
  d_q_rows : FuncData
  F_q_rows : Fun K "_law_rows" "_law_rows" s_q_rows a_q_rows d_q_rows
  b_q_rows : Binds K d_q_rows ["_law_n"] []
  m_q_rows : mg "_law_rows" = some (.ref a_q_rows)
  a_q_needed : Addr
  d_q_needed : FuncData
  F_q_needed : Fun K "_law_needed" "_law_needed" s_q_needed a_q_needed d_q_needed
  b_q_needed : Binds K d_q_needed ["_law_tree_here", "_law_field", "_law_n"] []
  m_q_needed : mg "_law_needed" = some (.ref a_q_needed)
  a_q_take : Addr
  d_q_take : FuncData
  F_q_take : Fun K "_law_take" "_law_take" s_q_take a_q_take d_q_take
  b_q_take : Binds K d_q_take ["_law_tape_here", "_law_size"] []
  m_q_take : mg "_law_take" = some (.ref a_q_take)
  a_q_tree : Addr
  d_q_tree : FuncData
  F_q_tree : Fun K "_law_tree" "_law_tree" s_q_tree a_q_tree d_q_tree
  b_q_tree : Binds K d_q_tree ["_law_tape_here", "_law_n", "_law_levels"] []
  m_q_tree : mg "_law_tree" = some (.ref a_q_tree)
  a_q_padded : Addr
  d_q_padded : FuncData
  F_q_padded : Fun K "_law_padded" "_law_padded" s_q_padded a_q_padded d_q_padded
  b_q_padded : Binds K d_q_padded ["_law_tape_here", "_law_tree_here", "_law_field", "_law_known", "_law_levels"] []
  m_q_padded : mg "_law_padded" = some (.ref a_q_padded)
  a_q_tape : Addr
  d_q_tape : FuncData
  F_q_tape : Fun K "_law_tape" "_law_tape" s_q_tape a_q_tape d_q_tape
  b_q_tape : Binds K d_q_tape ["_law_script", "_law_k"] []
  m_q_tape : mg "_law_tape" = some (.ref a_q_tape)
  a_asked : Addr
  d_asked : FuncData
  F_asked : Fun K "asked" "asked" s_asked a_asked d_asked
  b_asked : Binds K d_asked ["tree"] []
  m_asked : mg "asked" = some (.ref a_asked)
  a_field_order : Addr
  d_field_order : FuncData
  F_field_order : Fun K "field_order" "field_order" s_field_order a_field_order d_field_order
  b_field_order : Binds K d_field_order ["field", "fields"] []
  m_field_order : mg "field_order" = some (.ref a_field_order)
  a_follow : Addr
  d_follow : FuncData
  F_follow : Fun K "follow" "follow" s_follow a_follow d_follow
  b_follow : Binds K d_follow ["tree", "row"] []
  m_follow : mg "follow" = some (.ref a_follow)
  a_with_sign : Addr
  d_with_sign : FuncData
  F_with_sign : Fun K "with_sign" "with_sign" s_with_sign a_with_sign d_with_sign
  b_with_sign : Binds K d_with_sign ["row", "field", "value"] []
  m_with_sign : mg "with_sign" = some (.ref a_with_sign)
  a_least_from : Addr
  d_least_from : FuncData
  F_least_from : Fun K "least_from" "least_from" s_least_from a_least_from d_least_from
  b_least_from : Binds K d_least_from ["tree", "field", "row", "left"] []
  m_least_from : mg "least_from" = some (.ref a_least_from)
  a_least_tree : Addr
  d_least_tree : FuncData
  F_least_tree : Fun K "least_tree" "least_tree" s_least_tree a_least_tree d_least_tree
  b_least_tree : Binds K d_least_tree ["tree", "field", "fields"] []
  m_least_tree : mg "least_tree" = some (.ref a_least_tree)
  a_needed_fields : Addr
  d_needed_fields : FuncData
  F_needed_fields : Fun K "needed_fields" "needed_fields" s_needed_fields a_needed_fields d_needed_fields
  b_needed_fields : Binds K d_needed_fields ["tree", "field", "fields"] []
  m_needed_fields : mg "needed_fields" = some (.ref a_needed_fields)
  a_law : Addr
  d_law : FuncData
  F_law : Fun K "law" "law" s_law a_law d_law
  b_law : Binds K d_law ["_law_script"] []
  m_law : mg "law" = some (.ref a_law)
  z_abs : mg "abs" = none
  z_bool : mg "bool" = none
  z_int : mg "int" = none
  z_isinstance : mg "isinstance" = none
  z_len : mg "len" = none
  z_list : mg "list" = none
  z_range : mg "range" = none
  z_set : mg "set" = none
  z_sorted : mg "sorted" = none
  z_str : mg "str" = none
  z_tuple : mg "tuple" = none
section
variable {w : World} {K : PySem.W.Frag} {mg : Str → Option Value} {base : Heap}
theorem len_q_is_integer : ∀ ds h, ds.length ≠ 1 → F_q_is_integer ds h = .no := fun ds h e => fnT_len (n := 1) (b := b_q_is_integer) ds h e
theorem ok_q_is_integer (G : Gd K mg) : FnG PySem.Challenge.rw_fieldrides_k26_whole_needed_fields.prog w K mg base (L2N.CX PySem.Challenge.rw_fieldrides_k26_whole_needed_fields.prog w) 1 G.a_q_is_integer G.d_q_is_integer ["_law_actual"] (spF ⟨K, mg, none, w⟩ 1 F_q_is_integer) :=
  fn_okT (k := 0) (N := ["_law_actual"]) (ps := ["_law_actual"]) (b := b_q_is_integer) G.F_q_is_integer S_q_is_integer fun cdv A outer s H E hr => by
    have S := S_q_is_integer
    unfold b_q_is_integer
    exact (z_cons (z_ret (s_and (s_isTy (by decide) rfl (by decide +kernel) (by decide) (by decide) (by rfl) G.z_isinstance (by rfl) G.z_int (sv 0)) (s_one (s_not (s_isTy (by decide) rfl (by decide +kernel) (by decide) (by decide) (by rfl) G.z_isinstance (by rfl) G.z_bool (sv 0))))))
  (z_nil))
theorem len_q_is_ascending : ∀ ds h, ds.length ≠ 2 → F_q_is_ascending ds h = .no := fun ds h e => fnT_len (n := 4) (b := b_q_is_ascending) ds h e
theorem ok_q_is_ascending (G : Gd K mg) : FnG PySem.Challenge.rw_fieldrides_k26_whole_needed_fields.prog w K mg base (L2N.CX PySem.Challenge.rw_fieldrides_k26_whole_needed_fields.prog w) 2 G.a_q_is_ascending G.d_q_is_ascending ["_law_actual", "_law_n"] (spF ⟨K, mg, none, w⟩ 2 F_q_is_ascending) :=
  fn_okT (k := 1) (N := ["_law_actual", "_law_n", "_law_last", "_law_value"]) (ps := ["_law_actual", "_law_n"]) (b := b_q_is_ascending) G.F_q_is_ascending S_q_is_ascending fun cdv A outer s H E hr => by
    have S := S_q_is_ascending
    unfold b_q_is_ascending
    exact (z_cons (z_if (t_not (t_val (s_isTy (by decide) rfl (by decide +kernel) (by decide) (by decide) (by rfl) G.z_isinstance (by rfl) G.z_tuple (sv 0))))
    (z_cons (z_ret (s_bl))
    (z_nil))
    (z_nil))
  (z_cons (zs 2 S.nd (s_sub (s_int) (s_int)))
  (z_cons (z_for (vs := [3]) passB rfl (i_seq (sv 0)) (gn 3 S.nd)
    (z_cons (z_if (t_of (w_or (t_not (t_val (s_call (ok_q_is_integer G) len_q_is_integer (hr.mono (by omega)) (by rfl) G.m_q_is_integer G.F_q_is_integer.kp G.b_q_is_integer takesB (a_cons (sv 3) (a_nil))))) (w_or1 (t_not (t_chain (op_lt.or (op_ltT hr.units0)) o2_lt (op_lt.or (op_ltT hr.units0)) o2_lt (sv 2) (sv 3) (sv 1))))))
      (z_cons (z_ret (s_bl))
      (z_nil))
      (z_nil))
    (z_cons (zs 2 S.nd (sv 3))
    (z_nil))))
  (z_cons (z_ret (s_bl))
  (z_nil)))))
theorem len_q_follow : ∀ ds h, ds.length ≠ 2 → F_q_follow ds h = .no := fun ds h e => fnT_len (n := 3) (b := b_q_follow) ds h e
theorem ok_q_follow (G : Gd K mg) : FnG PySem.Challenge.rw_fieldrides_k26_whole_needed_fields.prog w K mg base (L2N.CX PySem.Challenge.rw_fieldrides_k26_whole_needed_fields.prog w) 1 G.a_q_follow G.d_q_follow ["_law_tree_here", "_law_row"] (spF ⟨K, mg, none, w⟩ 2 F_q_follow) :=
  fn_okT (k := 0) (N := ["_law_tree_here", "_law_row", "_law_k"]) (ps := ["_law_tree_here", "_law_row"]) (b := b_q_follow) G.F_q_follow S_q_follow fun cdv A outer s H E hr => by
    have S := S_q_follow
    unfold b_q_follow
    exact (z_cons (z_for (vs := [2]) passB rfl (i_rng1 rfl (by rfl) G.z_range (s_int)) (gn 2 S.nd)
    (z_cons (z_if (t_val (s_isTy (by decide) rfl (by decide +kernel) (by decide) (by decide) (by rfl) G.z_isinstance (by rfl) G.z_str (sv 0)))
      (z_cons (z_ret (sv 0))
      (z_nil))
      (z_nil))
    (z_cons (zs 0 S.nd (s_ix (sv 0) (s_add (s_int) (s_ix (sv 1) (s_ix (sv 0) (s_int) (fun _ _ => rfl)) (fun _ _ => rfl))) (fun _ _ => rfl)))
    (z_nil))))
  (z_cons (z_ret (sv 0))
  (z_nil)))
theorem len_q_rows : ∀ ds h, ds.length ≠ 1 → F_q_rows ds h = .no := fun ds h e => fnT_len (n := 6) (b := b_q_rows) ds h e
theorem ok_q_rows (G : Gd K mg) : FnG PySem.Challenge.rw_fieldrides_k26_whole_needed_fields.prog w K mg base (L2N.CX PySem.Challenge.rw_fieldrides_k26_whole_needed_fields.prog w) 1 G.a_q_rows G.d_q_rows ["_law_n"] (spF ⟨K, mg, none, w⟩ 1 F_q_rows) :=
  fn_okT (k := 0) (N := ["_law_n", "_law_rows_here", "_law_k", "_law_longer", "_law_row", "_law_s"]) (ps := ["_law_n"]) (b := b_q_rows) G.F_q_rows S_q_rows fun cdv A outer s H E hr => by
    have S := S_q_rows
    unfold b_q_rows
    exact (z_cons (zs 1 S.nd (s_lst (a_cons (s_tup (a_nil)) (a_nil))))
  (z_cons (z_for (vs := [2]) passB rfl (i_rng1 rfl (by rfl) G.z_range (sv 0)) (gn 2 S.nd)
    (z_cons (zs 3 S.nd (s_lst (a_nil)))
    (z_cons (z_for (vs := [4]) passB rfl (i_seq (sv 1)) (gn 4 S.nd)
      (z_cons (z_for (vs := [5]) passB rfl (i_seq (s_lst (a_cons (s_int) (a_cons (s_int) (a_cons (s_int) (a_nil)))))) (gn 5 S.nd)
        (z_cons (z_expr (mm_append (sv 3) (a_cons (s_add (sv 4) (s_tup (a_cons (s_sub (sv 5) (s_int)) (a_nil)))) (a_nil))))
        (z_nil)))
      (z_nil)))
    (z_cons (zs 1 S.nd (c_list G.z_list (a_cons (sv 3) (a_nil))))
    (z_nil)))))
  (z_cons (z_ret (sv 1))
  (z_nil))))
theorem len_q_needed : ∀ ds h, ds.length ≠ 3 → F_q_needed ds h = .no := fun ds h e => fnT_len (n := 8) (b := b_q_needed) ds h e
theorem ok_q_needed (G : Gd K mg) : FnG PySem.Challenge.rw_fieldrides_k26_whole_needed_fields.prog w K mg base (L2N.CX PySem.Challenge.rw_fieldrides_k26_whole_needed_fields.prog w) 2 G.a_q_needed G.d_q_needed ["_law_tree_here", "_law_field", "_law_n"] (spF ⟨K, mg, none, w⟩ 3 F_q_needed) :=
  fn_okT (k := 1) (N := ["_law_tree_here", "_law_field", "_law_n", "_law_sides", "_law_row", "_law_rows_here", "_law_needed_here", "_law_g"]) (ps := ["_law_tree_here", "_law_field", "_law_n"]) (b := b_q_needed) G.F_q_needed S_q_needed fun cdv A outer s H E hr => by
    have S := S_q_needed
    unfold b_q_needed
    exact (z_cons (zs 3 S.nd (s_newT))
  (z_cons (z_for (vs := [4]) passB rfl (i_seq (s_call (ok_q_rows G) len_q_rows (hr.mono (by omega)) (by rfl) G.m_q_rows G.F_q_rows.kp G.b_q_rows takesB (a_cons (sv 2) (a_nil)))) (gn 4 S.nd)
    (z_cons (z_if (t_cmp (op_ne.or (op_neD hr.units)) o2_ne (s_ix (sv 4) (sv 1) (fun _ _ => rfl)) (s_int) (nomark _))
      (z_cons (z_sub (set_dict (hu_of hr.room)) set3_dT (sv 3) (sv 4) (s_call (ok_q_follow G) len_q_follow (hr.mono (by omega)) (by rfl) G.m_q_follow G.F_q_follow.kp G.b_q_follow takesB (a_cons (sv 0) (a_cons (sv 4) (a_nil)))) (ha := fun _ => rfl))
      (z_nil))
      (z_nil))
    (z_nil)))
  (z_cons (z_keysT (i := 5) (kd := 3) (iv := 4) rfl S.nd (by rfl) (by rfl) (by rfl) (by rfl) (by rfl) (by rfl) (by first | exact Or.inl rfl | exact Or.inr (Or.inl rfl) | exact Or.inr (Or.inr rfl)) (by rfl) (fun _ _ _ _ _ => pg_name S.nd (by rfl) (by first | exact Or.inl rfl | exact Or.inr rfl)) (fun _ _ _ _ _ => pe_var (by rfl) (by first | exact Or.inl rfl | exact Or.inr (Or.inl rfl) | exact Or.inr (Or.inr rfl))))
  (z_cons (zs 6 S.nd (s_lst (a_nil)))
  (z_cons (z_for (vs := [7]) passB rfl (i_rng1 rfl (by rfl) G.z_range (sv 2)) (gn 7 S.nd)
    (z_cons (z_for (vs := [4]) passB rfl (i_seq (sv 5)) (gn 4 S.nd)
      (z_cons (z_if (t_cmp (op_ne.or (op_neD hr.units)) o2_ne (s_ixT (hu_of hr.room) (sv 3) (sv 4) (fun _ _ => rfl)) (s_ixT (hu_of hr.room) (sv 3) (s_add (s_add (s_sl (sv 4) (o_none) (o_some (sv 7))) (s_tup (a_cons (s_sub (s_int) (s_int)) (a_nil)))) (s_sl (sv 4) (o_some (s_add (sv 7) (s_int))) (o_none))) (fun _ _ => rfl)) (nomark _))
        (z_cons (z_expr (mm_append (sv 6) (a_cons (sv 7) (a_nil))))
        (z_cons (z_break)
        (z_nil)))
        (z_nil))
      (z_nil)))
    (z_nil)))
  (z_cons (z_ret (sv 6))
  (z_nil)))))))
theorem len_q_take : ∀ ds h, ds.length ≠ 2 → F_q_take ds h = .no := fun ds h e => fnT_len (n := 5) (b := b_q_take) ds h e
theorem ok_q_take (G : Gd K mg) : FnG PySem.Challenge.rw_fieldrides_k26_whole_needed_fields.prog w K mg base (L2N.CX PySem.Challenge.rw_fieldrides_k26_whole_needed_fields.prog w) 1 G.a_q_take G.d_q_take ["_law_tape_here", "_law_size"] (spF ⟨K, mg, none, w⟩ 2 F_q_take) :=
  fn_okT (k := 0) (N := ["_law_tape_here", "_law_size", "_law_cell", "_law_k", "_law_mixed"]) (ps := ["_law_tape_here", "_law_size"]) (b := b_q_take) G.F_q_take S_q_take fun cdv A outer s H E hr => by
    have S := S_q_take
    unfold b_q_take
    exact (z_cons (zs 2 S.nd (s_ix (sv 0) (s_int) (fun _ _ => rfl)))
  (z_cons (z_sub set_list set3_list (sv 0) (s_int) (s_add (s_ix (sv 0) (s_int) (fun _ _ => rfl)) (s_int)) (ha := fun _ => rfl))
  (z_cons (zs 3 S.nd (s_ix (sv 0) (s_int) (fun _ _ => rfl)))
  (z_cons (z_if (t_cmp op_ge o2_cmpI (sv 2) (s_pow (s_int) (s_int)) (nomark _))
    (z_cons (z_sub set_list set3_list (sv 0) (s_int) (s_fdiv (sv 2) (sv 1)) (ha := fun _ => rfl))
    (z_cons (z_ret (s_mod (c_int G.z_int (a_cons (sv 2) (a_nil))) (sv 1)))
    (z_nil)))
    (z_nil))
  (z_cons (zs 4 S.nd (s_mod (c_int G.z_int (a_cons (s_add (s_add (sv 2) (s_mul (s_int) (sv 3))) (s_int)) (a_nil))) (s_int)))
  (z_cons (zs 4 S.nd (s_mod (c_int G.z_int (a_cons (s_mul (sv 4) (s_add (sv 4) (s_int))) (a_nil))) (s_int)))
  (z_cons (zs 4 S.nd (s_mod (c_int G.z_int (a_cons (s_add (s_mul (sv 4) (s_add (sv 4) (s_int))) (s_mul (s_int) (sv 3))) (a_nil))) (s_int)))
  (z_cons (z_ret (s_mod (c_int G.z_int (a_cons (s_fdiv (sv 4) (s_int)) (a_nil))) (sv 1)))
  (z_nil)))))))))
theorem len_q_tree : ∀ n ds h, ds.length ≠ 3 → F_q_tree n ds h = .no
  | 0, _, _, _ => rfl
  | n + 1, ds, h, e => fnT_len (n := 7) (b := b_q_tree (F_q_tree n)) ds h e
theorem ok_q_tree (G : Gd K mg) : ∀ n : Nat, FnG PySem.Challenge.rw_fieldrides_k26_whole_needed_fields.prog w K mg base (L2N.CX PySem.Challenge.rw_fieldrides_k26_whole_needed_fields.prog w) (2 + n) G.a_q_tree G.d_q_tree ["_law_tape_here", "_law_n", "_law_levels"] (spF ⟨K, mg, none, w⟩ 3 (F_q_tree n))
  | 0 => fn_no fun _ _ => rfl
  | n + 1 => fn_okT (k := 2 + n) (N := ["_law_tape_here", "_law_n", "_law_levels", "_law_field", "_law_less", "_law_same", "_law_more"]) (ps := ["_law_tape_here", "_law_n", "_law_levels"]) (b := b_q_tree (F_q_tree n)) G.F_q_tree S_q_tree fun cdv A outer s H E hr => by
    have hF := ok_q_tree G n
    have hG := len_q_tree n
    have S := S_q_tree
    generalize F_q_tree n = F at hF hG ⊢
    unfold b_q_tree
    exact (z_cons (z_if (t_of (w_or (t_cmp (op_eq.or (op_eqD hr.units)) o2_eq (sv 2) (s_int) (nomark _)) (w_or1 (t_cmp (op_eq.or (op_eqD hr.units)) o2_eq (s_call (ok_q_take G) len_q_take (hr.mono (by omega)) (by rfl) G.m_q_take G.F_q_take.kp G.b_q_take takesB (a_cons (sv 0) (a_cons (s_int) (a_nil)))) (s_int) (nomark _)))))
    (z_cons (z_ret (s_ix (s_lst (a_cons (s_str (by rfl)) (a_cons (s_str (by rfl)) (a_nil)))) (s_call (ok_q_take G) len_q_take (hr.mono (by omega)) (by rfl) G.m_q_take G.F_q_take.kp G.b_q_take takesB (a_cons (sv 0) (a_cons (s_int) (a_nil)))) (fun _ _ => rfl)))
    (z_nil))
    (z_nil))
  (z_cons (zs 3 S.nd (s_call (ok_q_take G) len_q_take (hr.mono (by omega)) (by rfl) G.m_q_take G.F_q_take.kp G.b_q_take takesB (a_cons (sv 0) (a_cons (sv 1) (a_nil)))))
  (z_cons (zs 4 S.nd (s_call hF hG hr (by rfl) G.m_q_tree G.F_q_tree.kp G.b_q_tree takesB (a_cons (sv 0) (a_cons (sv 1) (a_cons (s_sub (sv 2) (s_int)) (a_nil))))))
  (z_cons (zs 5 S.nd (s_call hF hG hr (by rfl) G.m_q_tree G.F_q_tree.kp G.b_q_tree takesB (a_cons (sv 0) (a_cons (sv 1) (a_cons (s_sub (sv 2) (s_int)) (a_nil))))))
  (z_cons (zs 6 S.nd (s_call hF hG hr (by rfl) G.m_q_tree G.F_q_tree.kp G.b_q_tree takesB (a_cons (sv 0) (a_cons (sv 1) (a_cons (s_sub (sv 2) (s_int)) (a_nil))))))
  (z_cons (z_ret (s_tup (a_cons (sv 3) (a_cons (sv 4) (a_cons (sv 5) (a_cons (sv 6) (a_nil)))))))
  (z_nil)))))))
theorem len_q_padded : ∀ n ds h, ds.length ≠ 5 → F_q_padded n ds h = .no
  | 0, _, _, _ => rfl
  | n + 1, ds, h, e => fnT_len (n := 10) (b := b_q_padded (F_q_padded n)) ds h e
theorem ok_q_padded (G : Gd K mg) : ∀ n : Nat, FnG PySem.Challenge.rw_fieldrides_k26_whole_needed_fields.prog w K mg base (L2N.CX PySem.Challenge.rw_fieldrides_k26_whole_needed_fields.prog w) (11 + n) G.a_q_padded G.d_q_padded ["_law_tape_here", "_law_tree_here", "_law_field", "_law_known", "_law_levels"] (spF ⟨K, mg, none, w⟩ 5 (F_q_padded n))
  | 0 => fn_no fun _ _ => rfl
  | n + 1 => fn_okT (k := 11 + n) (N := ["_law_tape_here", "_law_tree_here", "_law_field", "_law_known", "_law_levels", "_law_extra", "_law_place", "_law_branches", "_law_s", "_law_fixed"]) (ps := ["_law_tape_here", "_law_tree_here", "_law_field", "_law_known", "_law_levels"]) (b := b_q_padded (F_q_padded n)) G.F_q_padded S_q_padded fun cdv A outer s H E hr => by
    have hF := ok_q_padded G n
    have hG := len_q_padded n
    have S := S_q_padded
    generalize F_q_padded n = F at hF hG ⊢
    unfold b_q_padded
    exact (z_cons (z_if (t_of (w_and (t_cmp op_gt o2_cmpI (sv 4) (s_int) (nomark _)) (w_and1 (t_cmp (op_eq.or (op_eqD hr.units)) o2_eq (s_call (ok_q_take G) len_q_take (hr.mono (by omega)) (by rfl) G.m_q_take G.F_q_take.kp G.b_q_take takesB (a_cons (sv 0) (a_cons (s_int) (a_nil)))) (s_int) (nomark _)))))
    (z_cons (zs 5 S.nd (s_call (ok_q_take G) len_q_take (hr.mono (by omega)) (by rfl) G.m_q_take G.F_q_take.kp G.b_q_take takesB (a_cons (sv 0) (a_cons (c_len G.z_len (a_cons (sv 3) (a_nil))) (a_nil)))))
    (z_cons (zs 1 S.nd (s_tup (a_cons (sv 5) (a_cons (sv 1) (a_cons (sv 1) (a_cons (sv 1) (a_nil)))))))
    (z_cons (zs 4 S.nd (s_sub (sv 4) (s_int)))
    (z_nil))))
    (z_nil))
  (z_cons (z_if (t_val (s_isTy (by decide) rfl (by decide +kernel) (by decide) (by decide) (by rfl) G.z_isinstance (by rfl) G.z_str (sv 1)))
    (z_cons (z_ret (sv 1))
    (z_nil))
    (z_nil))
  (z_cons (zs 6 S.nd (s_ix (sv 1) (s_int) (fun _ _ => rfl)))
  (z_cons (z_if (t_of (w_and (t_notN (s_ix (sv 3) (sv 6) (fun _ _ => rfl))) (w_and1 (t_cmp (op_eq.or (op_eqD hr.units)) o2_eq (s_call (ok_q_take G) len_q_take (hr.mono (by omega)) (by rfl) G.m_q_take G.F_q_take.kp G.b_q_take takesB (a_cons (sv 0) (a_cons (s_int) (a_nil)))) (s_int) (nomark _)))))
    (z_cons (z_ret (s_call hF hG hr (by rfl) G.m_q_padded G.F_q_padded.kp G.b_q_padded takesB (a_cons (sv 0) (a_cons (s_ix (sv 1) (s_add (s_int) (s_ix (sv 3) (sv 6) (fun _ _ => rfl))) (fun _ _ => rfl)) (a_cons (sv 2) (a_cons (sv 3) (a_cons (sv 4) (a_nil))))))))
    (z_nil))
    (z_nil))
  (z_cons (zs 7 S.nd (s_lst (a_nil)))
  (z_cons (z_for (vs := [8]) passB rfl (i_seq (s_lst (a_cons (s_sub (s_int) (s_int)) (a_cons (s_int) (a_cons (s_int) (a_nil)))))) (gn 8 S.nd)
    (z_cons (z_if (t_of (w_or (t_of (w_and (t_cmp (op_eq.or (op_eqD hr.units)) o2_eq (sv 6) (sv 2) (nomark _)) (w_and1 (t_cmp (op_eq.or (op_eqD hr.units)) o2_eq (sv 8) (s_int) (nomark _))))) (w_or1 (t_of (w_and (t_notN (s_ix (sv 3) (sv 6) (fun _ _ => rfl))) (w_and1 (t_cmp (op_ne.or (op_neD hr.units)) o2_ne (s_ix (sv 3) (sv 6) (fun _ _ => rfl)) (sv 8) (nomark _))))))))
      (z_cons (z_expr (mm_append (sv 7) (a_cons (s_call (ok_q_tree G 8) (len_q_tree 8) (hr.mono (by omega)) (by rfl) G.m_q_tree G.F_q_tree.kp G.b_q_tree takesB (a_cons (sv 0) (a_cons (c_len G.z_len (a_cons (sv 3) (a_nil))) (a_cons (s_int) (a_nil))))) (a_nil))))
      (z_nil))
      (z_cons (zs 9 S.nd (s_add (s_add (s_sl (sv 3) (o_none) (o_some (sv 6))) (s_lst (a_cons (sv 8) (a_nil)))) (s_sl (sv 3) (o_some (s_add (sv 6) (s_int))) (o_none))))
      (z_cons (z_expr (mm_append (sv 7) (a_cons (s_call hF hG hr (by rfl) G.m_q_padded G.F_q_padded.kp G.b_q_padded takesB (a_cons (sv 0) (a_cons (s_ix (sv 1) (s_add (s_int) (sv 8)) (fun _ _ => rfl)) (a_cons (sv 2) (a_cons (sv 9) (a_cons (sv 4) (a_nil))))))) (a_nil))))
      (z_nil))))
    (z_nil)))
  (z_cons (z_ret (s_tup (a_cons (sv 6) (a_cons (s_ix (sv 7) (s_int) (fun _ _ => rfl)) (a_cons (s_ix (sv 7) (s_int) (fun _ _ => rfl)) (a_cons (s_ix (sv 7) (s_int) (fun _ _ => rfl)) (a_nil)))))))
  (z_nil))))))))
theorem len_q_tape : ∀ ds h, ds.length ≠ 2 → F_q_tape ds h = .no := fun ds h e => fnK_len (n := 2) (b := b_q_tape) ds h e
theorem ok_q_tape (G : Gd K mg) : FnG PySem.Challenge.rw_fieldrides_k26_whole_needed_fields.prog w K mg base (L2N.CX PySem.Challenge.rw_fieldrides_k26_whole_needed_fields.prog w) 1 G.a_q_tape G.d_q_tape ["_law_script", "_law_k"] (spF ⟨K, mg, none, w⟩ 2 F_q_tape) :=
  fn_okK (k := 0) (N := ["_law_script", "_law_k"]) (ps := ["_law_script", "_law_k"]) (b := b_q_tape) G.F_q_tape S_q_tape fun cdv A outer s H E hr => by
    have S := S_q_tape
    unfold b_q_tape
    exact (z_cons (z_if (t_cmp (op_lt.or (op_ltT hr.units0)) o2_lt (sv 1) (c_len G.z_len (a_cons (sv 0) (a_nil))) (nomark _))
    (z_cons (z_ret (s_lst (a_cons (c_abs G.z_abs (a_cons (s_ix (sv 0) (sv 1) (fun _ _ => rfl)) (a_nil))) (a_cons (s_int) (a_nil)))))
    (z_nil))
    (z_nil))
  (z_cons (z_ret (s_lst (a_cons (sv 1) (a_cons (s_int) (a_nil)))))
  (z_nil)))
theorem len_asked : ∀ ds h, ds.length ≠ 1 → F_asked ds h = .no := fun ds h e => fnT_len (n := 4) (b := b_asked) ds h e
theorem ok_asked (G : Gd K mg) : FnG PySem.Challenge.rw_fieldrides_k26_whole_needed_fields.prog w K mg base (L2N.CX PySem.Challenge.rw_fieldrides_k26_whole_needed_fields.prog w) 1 G.a_asked G.d_asked ["tree"] (spF ⟨K, mg, none, w⟩ 1 F_asked) :=
  fn_okT (k := 0) (N := ["tree", "fields", "left", "part"]) (ps := ["tree"]) (b := b_asked) G.F_asked S_asked fun cdv A outer s H E hr => by
    have S := S_asked
    unfold b_asked
    exact (z_cons (zs 1 S.nd (s_lst (a_nil)))
  (z_cons (zs 2 S.nd (s_lst (a_cons (sv 0) (a_nil))))
  (z_cons (z_while passB (t_val (sv 2))
    (z_cons (zs 3 S.nd (mm_pop (sv 2)))
    (z_cons (z_if (t_not (t_val (s_isTy (by decide) rfl (by decide +kernel) (by decide) (by decide) (by rfl) G.z_isinstance (by rfl) G.z_str (sv 3))))
      (z_cons (z_expr (mm_append (sv 1) (a_cons (s_ix (sv 3) (s_int) (fun _ _ => rfl)) (a_nil))))
      (z_cons (z_expr (mm_extend (sv 2) (a_cons (s_sl (sv 3) (o_some (s_int)) (o_none)) (a_nil))))
      (z_nil)))
      (z_nil))
    (z_nil))))
  (z_cons (z_ret (c_tuple G.z_tuple (a_cons (s_sortedSet rfl rfl rfl (by rfl) G.z_sorted (by rfl) G.z_set (sv 1)) (a_nil))))
  (z_nil)))))
theorem len_field_order : ∀ ds h, ds.length ≠ 2 → F_field_order ds h = .no := fun ds h e => fnT_len (n := 3) (b := b_field_order) ds h e
theorem ok_field_order (G : Gd K mg) : FnG PySem.Challenge.rw_fieldrides_k26_whole_needed_fields.prog w K mg base (L2N.CX PySem.Challenge.rw_fieldrides_k26_whole_needed_fields.prog w) 1 G.a_field_order G.d_field_order ["field", "fields"] (spF ⟨K, mg, none, w⟩ 2 F_field_order) :=
  fn_okT (k := 0) (N := ["field", "fields", "other"]) (ps := ["field", "fields"]) (b := b_field_order) G.F_field_order S_field_order fun cdv A outer s H E hr => by
    have S := S_field_order
    unfold b_field_order
    exact (z_cons (z_ret (s_add (s_tup (a_cons (sv 0) (a_nil))) (c_tuple G.z_tuple (a_cons (s_lc (own := [("other", 2)]) rfl S.nd (i_rng1 rfl (by rfl) G.z_range (sv 1)) (by rfl) (fun _ _ _ _ _ => gn 2 S.nd) (fun _ _ _ _ _ => ts_one (t_cmp (op_ne.or (op_neD hr.units)) o2_ne (sv 2) (sv 0) (nomark _))) (fun _ _ _ _ _ => sv 2)) (a_nil)))))
  (z_nil))
theorem len_follow : ∀ ds h, ds.length ≠ 2 → F_follow ds h = .no := fun ds h e => fnT_len (n := 2) (b := b_follow) ds h e
theorem ok_follow (G : Gd K mg) : FnG PySem.Challenge.rw_fieldrides_k26_whole_needed_fields.prog w K mg base (L2N.CX PySem.Challenge.rw_fieldrides_k26_whole_needed_fields.prog w) 1 G.a_follow G.d_follow ["tree", "row"] (spF ⟨K, mg, none, w⟩ 2 F_follow) :=
  fn_okT (k := 0) (N := ["tree", "row"]) (ps := ["tree", "row"]) (b := b_follow) G.F_follow S_follow fun cdv A outer s H E hr => by
    have S := S_follow
    unfold b_follow
    exact (z_cons (z_while passB (t_not (t_val (s_isTy (by decide) rfl (by decide +kernel) (by decide) (by decide) (by rfl) G.z_isinstance (by rfl) G.z_str (sv 0))))
    (z_cons (zs 0 S.nd (s_ix (sv 0) (s_add (s_int) (s_ix (sv 1) (s_ix (sv 0) (s_int) (fun _ _ => rfl)) (fun _ _ => rfl))) (fun _ _ => rfl)))
    (z_nil)))
  (z_cons (z_ret (sv 0))
  (z_nil)))
theorem len_with_sign : ∀ ds h, ds.length ≠ 3 → F_with_sign ds h = .no := fun ds h e => fnT_len (n := 3) (b := b_with_sign) ds h e
theorem ok_with_sign (G : Gd K mg) : FnG PySem.Challenge.rw_fieldrides_k26_whole_needed_fields.prog w K mg base (L2N.CX PySem.Challenge.rw_fieldrides_k26_whole_needed_fields.prog w) 1 G.a_with_sign G.d_with_sign ["row", "field", "value"] (spF ⟨K, mg, none, w⟩ 3 F_with_sign) :=
  fn_okT (k := 0) (N := ["row", "field", "value"]) (ps := ["row", "field", "value"]) (b := b_with_sign) G.F_with_sign S_with_sign fun cdv A outer s H E hr => by
    have S := S_with_sign
    unfold b_with_sign
    exact (z_cons (z_ret (s_add (s_add (s_sl (sv 0) (o_none) (o_some (sv 1))) (s_tup (a_cons (sv 2) (a_nil)))) (s_sl (sv 0) (o_some (s_add (sv 1) (s_int))) (o_none))))
  (z_nil))
theorem len_least_from : ∀ n ds h, ds.length ≠ 4 → F_least_from n ds h = .no
  | 0, _, _, _ => rfl
  | n + 1, ds, h, e => fnT_len (n := 8) (b := b_least_from (F_least_from n)) ds h e
theorem ok_least_from (G : Gd K mg) : ∀ n : Nat, FnG PySem.Challenge.rw_fieldrides_k26_whole_needed_fields.prog w K mg base (L2N.CX PySem.Challenge.rw_fieldrides_k26_whole_needed_fields.prog w) (2 + n) G.a_least_from G.d_least_from ["tree", "field", "row", "left"] (spF ⟨K, mg, none, w⟩ 4 (F_least_from n))
  | 0 => fn_no fun _ _ => rfl
  | n + 1 => fn_okT (k := 2 + n) (N := ["tree", "field", "row", "left", "less", "more", "same", "alike"]) (ps := ["tree", "field", "row", "left"]) (b := b_least_from (F_least_from n)) G.F_least_from S_least_from fun cdv A outer s H E hr => by
    have hF := ok_least_from G n
    have hG := len_least_from n
    have S := S_least_from
    generalize F_least_from n = F at hF hG ⊢
    unfold b_least_from
    exact (z_cons (z_if (t_not (t_val (sv 3)))
    (z_cons (z_ret (s_call (ok_follow G) len_follow (hr.mono (by omega)) (by rfl) G.m_follow G.F_follow.kp G.b_follow takesB (a_cons (sv 0) (a_cons (sv 2) (a_nil)))))
    (z_nil))
    (z_nil))
  (z_cons (zs 4 S.nd (s_call hF hG hr (by rfl) G.m_least_from G.F_least_from.kp G.b_least_from takesB (a_cons (sv 0) (a_cons (sv 1) (a_cons (s_call (ok_with_sign G) len_with_sign (hr.mono (by omega)) (by rfl) G.m_with_sign G.F_with_sign.kp G.b_with_sign takesB (a_cons (sv 2) (a_cons (s_ix (sv 3) (s_int) (fun _ _ => rfl)) (a_cons (s_neg (s_int)) (a_nil))))) (a_cons (s_sl (sv 3) (o_some (s_int)) (o_none)) (a_nil)))))))
  (z_cons (zs 5 S.nd (s_call hF hG hr (by rfl) G.m_least_from G.F_least_from.kp G.b_least_from takesB (a_cons (sv 0) (a_cons (sv 1) (a_cons (s_call (ok_with_sign G) len_with_sign (hr.mono (by omega)) (by rfl) G.m_with_sign G.F_with_sign.kp G.b_with_sign takesB (a_cons (sv 2) (a_cons (s_ix (sv 3) (s_int) (fun _ _ => rfl)) (a_cons (s_int) (a_nil))))) (a_cons (s_sl (sv 3) (o_some (s_int)) (o_none)) (a_nil)))))))
  (z_cons (z_if (t_cmp (op_eq.or (op_eqD hr.units)) o2_eq (s_ix (sv 3) (s_int) (fun _ _ => rfl)) (sv 1) (nomark _))
    (z_cons (zs 6 S.nd (s_str (by rfl)))
    (z_cons (zs 7 S.nd (s_cmp (op_eq.or (op_eqD hr.units)) o2_eq (sv 4) (sv 5) (nomark _)))
    (z_nil)))
    (z_cons (zs 6 S.nd (s_call hF hG hr (by rfl) G.m_least_from G.F_least_from.kp G.b_least_from takesB (a_cons (sv 0) (a_cons (sv 1) (a_cons (s_call (ok_with_sign G) len_with_sign (hr.mono (by omega)) (by rfl) G.m_with_sign G.F_with_sign.kp G.b_with_sign takesB (a_cons (sv 2) (a_cons (s_ix (sv 3) (s_int) (fun _ _ => rfl)) (a_cons (s_int) (a_nil))))) (a_cons (s_sl (sv 3) (o_some (s_int)) (o_none)) (a_nil)))))))
    (z_cons (zs 7 S.nd (s_chain (op_eq.or (op_eqD hr.units)) o2_eq (op_eq.or (op_eqD hr.units)) o2_eq (sv 4) (sv 6) (sv 5)))
    (z_nil))))
  (z_cons (z_if (t_val (sv 7))
    (z_cons (z_ret (sv 4))
    (z_nil))
    (z_nil))
  (z_cons (z_ret (s_tup (a_cons (s_ix (sv 3) (s_int) (fun _ _ => rfl)) (a_cons (sv 4) (a_cons (sv 6) (a_cons (sv 5) (a_nil)))))))
  (z_nil)))))))
theorem len_least_tree : ∀ ds h, ds.length ≠ 3 → F_least_tree ds h = .no := fun ds h e => fnT_len (n := 6) (b := b_least_tree) ds h e
theorem ok_least_tree (G : Gd K mg) : FnG PySem.Challenge.rw_fieldrides_k26_whole_needed_fields.prog w K mg base (L2N.CX PySem.Challenge.rw_fieldrides_k26_whole_needed_fields.prog w) 15 G.a_least_tree G.d_least_tree ["tree", "field", "fields"] (spF ⟨K, mg, none, w⟩ 3 F_least_tree) :=
  fn_okT (k := 14) (N := ["tree", "field", "fields", "known", "left", "other"]) (ps := ["tree", "field", "fields"]) (b := b_least_tree) G.F_least_tree S_least_tree fun cdv A outer s H E hr => by
    have S := S_least_tree
    unfold b_least_tree
    exact (z_cons (zs 3 S.nd (s_call (ok_asked G) len_asked (hr.mono (by omega)) (by rfl) G.m_asked G.F_asked.kp G.b_asked takesB (a_cons (sv 0) (a_nil))))
  (z_cons (z_setLc (i := 4) (own := [("other", 5)]) rfl S.nd (by rfl) (by rfl) (by rfl) (by rfl) (by rfl) (i_seq (s_call (ok_field_order G) len_field_order (hr.mono (by omega)) (by rfl) G.m_field_order G.F_field_order.kp G.b_field_order takesB (a_cons (sv 1) (a_cons (sv 2) (a_nil))))) (by rfl) (fun _ _ _ _ _ => gn 5 S.nd) (fun _ _ _ _ _ => ts_one (t_cmp op_in_seq o2_in (sv 5) (sv 3) (by rfl))) (fun _ _ _ _ _ => sv 5))
  (z_cons (z_ret (s_call (ok_least_from G 12) (len_least_from 12) (hr.mono (by omega)) (by rfl) G.m_least_from G.F_least_from.kp G.b_least_from takesB (a_cons (sv 0) (a_cons (sv 1) (a_cons (s_mul (s_tup (a_cons (s_int) (a_nil))) (sv 2)) (a_cons (c_tuple G.z_tuple (a_cons (sv 4) (a_nil))) (a_nil)))))))
  (z_nil))))
theorem len_needed_fields : ∀ ds h, ds.length ≠ 3 → F_needed_fields ds h = .no := fun ds h e => fnT_len (n := 3) (b := b_needed_fields) ds h e
theorem ok_needed_fields (G : Gd K mg) : FnG PySem.Challenge.rw_fieldrides_k26_whole_needed_fields.prog w K mg base (L2N.CX PySem.Challenge.rw_fieldrides_k26_whole_needed_fields.prog w) 16 G.a_needed_fields G.d_needed_fields ["tree", "field", "fields"] (spF ⟨K, mg, none, w⟩ 3 F_needed_fields) :=
  fn_okT (k := 15) (N := ["tree", "field", "fields"]) (ps := ["tree", "field", "fields"]) (b := b_needed_fields) G.F_needed_fields S_needed_fields fun cdv A outer s H E hr => by
    have S := S_needed_fields
    unfold b_needed_fields
    exact (z_cons (z_ret (s_call (ok_asked G) len_asked (hr.mono (by omega)) (by rfl) G.m_asked G.F_asked.kp G.b_asked takesB (a_cons (s_call (ok_least_tree G) len_least_tree (hr.mono (by omega)) (by rfl) G.m_least_tree G.F_least_tree.kp G.b_least_tree takesB (a_cons (sv 0) (a_cons (sv 1) (a_cons (sv 2) (a_nil))))) (a_nil))))
  (z_nil))
theorem len_law : ∀ ds h, ds.length ≠ 1 → F_law_k26 ds h = .no := fun ds h e => fnT_len (n := 8) (b := b_law_k26) ds h e
theorem ok_law (G : Gd K mg) : FnG PySem.Challenge.rw_fieldrides_k26_whole_needed_fields.prog w K mg base (L2N.CX PySem.Challenge.rw_fieldrides_k26_whole_needed_fields.prog w) 24 G.a_law G.d_law ["_law_script"] (spF ⟨K, mg, none, w⟩ 1 F_law_k26) :=
  fn_okT (k := 23) (N := ["_law_script", "_law_tape_here", "_law_n", "_law_field", "_law_tree_here", "_law_g", "_law_place", "_law_actual"]) (ps := ["_law_script"]) (b := b_law_k26) G.F_law S_law fun cdv A outer s H E hr => by
    have S := S_law
    unfold b_law_k26
    exact (z_cons (zs 1 S.nd (s_call (ok_q_tape G) len_q_tape (hr.mono (by omega)) (by rfl) G.m_q_tape G.F_q_tape.kp G.b_q_tape takesB (a_cons (sv 0) (a_cons (s_int) (a_nil)))))
  (z_cons (zs 2 S.nd (s_add (s_int) (s_call (ok_q_take G) len_q_take (hr.mono (by omega)) (by rfl) G.m_q_take G.F_q_take.kp G.b_q_take takesB (a_cons (sv 1) (a_cons (s_int) (a_nil))))))
  (z_cons (z_if (t_cmp (op_eq.or (op_eqD hr.units)) o2_eq (s_call (ok_q_take G) len_q_take (hr.mono (by omega)) (by rfl) G.m_q_take G.F_q_take.kp G.b_q_take takesB (a_cons (sv 1) (a_cons (s_int) (a_nil)))) (s_int) (nomark _))
    (z_cons (zs 2 S.nd (s_add (s_int) (s_fdiv (s_call (ok_q_take G) len_q_take (hr.mono (by omega)) (by rfl) G.m_q_take G.F_q_take.kp G.b_q_take takesB (a_cons (sv 1) (a_cons (s_int) (a_nil)))) (s_int))))
    (z_nil))
    (z_nil))
  (z_cons (zs 3 S.nd (s_call (ok_q_take G) len_q_take (hr.mono (by omega)) (by rfl) G.m_q_take G.F_q_take.kp G.b_q_take takesB (a_cons (sv 1) (a_cons (sv 2) (a_nil)))))
  (z_cons (zs 4 S.nd (s_call (ok_q_tree G 8) (len_q_tree 8) (hr.mono (by omega)) (by rfl) G.m_q_tree G.F_q_tree.kp G.b_q_tree takesB (a_cons (s_call (ok_q_tape G) len_q_tape (hr.mono (by omega)) (by rfl) G.m_q_tape G.F_q_tape.kp G.b_q_tape takesB (a_cons (sv 0) (a_cons (s_int) (a_nil)))) (a_cons (sv 2) (a_cons (s_int) (a_nil))))))
  (z_cons (z_if (t_cmp (op_eq.or (op_eqD hr.units)) o2_eq (s_call (ok_q_take G) len_q_take (hr.mono (by omega)) (by rfl) G.m_q_take G.F_q_take.kp G.b_q_take takesB (a_cons (sv 1) (a_cons (s_int) (a_nil)))) (s_int) (nomark _))
    (z_cons (zs 4 S.nd (s_call (ok_q_padded G 12) (len_q_padded 12) (hr.mono (by omega)) (by rfl) G.m_q_padded G.F_q_padded.kp G.b_q_padded takesB (a_cons (s_call (ok_q_tape G) len_q_tape (hr.mono (by omega)) (by rfl) G.m_q_tape G.F_q_tape.kp G.b_q_tape takesB (a_cons (sv 0) (a_cons (s_int) (a_nil)))) (a_cons (sv 4) (a_cons (sv 3) (a_cons (s_lc (own := [("_law_g", 5)]) rfl S.nd (i_rng1 rfl (by rfl) G.z_range (sv 2)) (by rfl) (fun _ _ _ _ _ => gn 5 S.nd) (fun _ _ _ _ _ => ts_nil) (fun _ _ _ _ _ => s_non)) (a_cons (s_int) (a_nil))))))))
    (z_nil))
    (z_nil))
  (z_cons (z_for (vs := [6]) passB rfl (i_seq (s_lst (a_cons (sv 3) (a_cons (s_mod (c_int G.z_int (a_cons (s_add (sv 3) (s_int)) (a_nil))) (sv 2)) (a_cons (sv 3) (a_nil)))))) (gn 6 S.nd)
    (z_cons (zs 7 S.nd (s_call (ok_needed_fields G) len_needed_fields (hr.mono (by omega)) (by rfl) G.m_needed_fields G.F_needed_fields.kp G.b_needed_fields takesB (a_cons (sv 4) (a_cons (sv 6) (a_cons (sv 2) (a_nil))))))
    (z_cons (z_if (t_of (w_or (t_not (t_val (s_call (ok_q_is_ascending G) len_q_is_ascending (hr.mono (by omega)) (by rfl) G.m_q_is_ascending G.F_q_is_ascending.kp G.b_q_is_ascending takesB (a_cons (sv 7) (a_cons (sv 2) (a_nil)))))) (w_or1 (t_cmp (op_ne.or (op_neD hr.units)) o2_ne (c_list G.z_list (a_cons (sv 7) (a_nil))) (s_call (ok_q_needed G) len_q_needed (hr.mono (by omega)) (by rfl) G.m_q_needed G.F_q_needed.kp G.b_q_needed takesB (a_cons (sv 4) (a_cons (sv 6) (a_cons (sv 2) (a_nil))))) (nomark _)))))
      (z_cons (z_ret (s_bl))
      (z_nil))
      (z_nil))
    (z_nil))))
  (z_cons (z_ret (s_bl))
  (z_nil)))))))))
end
end Sm.K26
namespace Sm.K26
open PySem PySem.Spec PyProof.Rows L2 L2H Sm
theorem mk_Gd {K : PySem.W.Frag} {h : Heap} {mg : Str → Option Value} (X : K.In h) (G : h.Ns mainGlobals mg)
    {f_q_is_integer f_q_is_ascending f_q_follow f_q_rows f_q_needed f_q_take f_q_tree f_q_padded f_q_tape f_asked f_field_order f_follow f_with_sign f_least_from f_least_tree f_needed_fields f_law : Addr}
    {od_q_is_integer an_q_is_integer od_q_is_ascending an_q_is_ascending od_q_follow an_q_follow od_q_rows an_q_rows od_q_needed an_q_needed od_q_take an_q_take od_q_tree an_q_tree od_q_padded an_q_padded od_q_tape an_q_tape od_asked an_asked od_field_order an_field_order od_follow an_follow od_with_sign an_with_sign od_least_from an_least_from od_least_tree an_least_tree od_needed_fields an_needed_fields od_law an_law : Option Addr}
    {sl_q_is_integer sl_q_is_ascending sl_q_follow sl_q_rows sl_q_needed sl_q_take sl_q_tree sl_q_padded sl_q_tape sl_asked sl_field_order sl_follow sl_with_sign sl_least_from sl_least_tree sl_needed_fields sl_law : Array (Option Value)}
    {oc_q_is_integer kV_q_is_integer dc_q_is_integer pm_q_is_integer cd_q_is_integer ct_q_is_integer oc_q_is_ascending kV_q_is_ascending dc_q_is_ascending pm_q_is_ascending cd_q_is_ascending ct_q_is_ascending oc_q_follow kV_q_follow dc_q_follow pm_q_follow cd_q_follow ct_q_follow oc_q_rows kV_q_rows dc_q_rows pm_q_rows cd_q_rows ct_q_rows oc_q_needed kV_q_needed dc_q_needed pm_q_needed cd_q_needed ct_q_needed oc_q_take kV_q_take dc_q_take pm_q_take cd_q_take ct_q_take oc_q_tree kV_q_tree dc_q_tree pm_q_tree cd_q_tree ct_q_tree oc_q_padded kV_q_padded dc_q_padded pm_q_padded cd_q_padded ct_q_padded oc_q_tape kV_q_tape dc_q_tape pm_q_tape cd_q_tape ct_q_tape oc_asked kV_asked dc_asked pm_asked cd_asked ct_asked oc_field_order kV_field_order dc_field_order pm_field_order cd_field_order ct_field_order oc_follow kV_follow dc_follow pm_follow cd_follow ct_follow oc_with_sign kV_with_sign dc_with_sign pm_with_sign cd_with_sign ct_with_sign oc_least_from kV_least_from dc_least_from pm_least_from cd_least_from ct_least_from oc_least_tree kV_least_tree dc_least_tree pm_least_tree cd_least_tree ct_least_tree oc_needed_fields kV_needed_fields dc_needed_fields pm_needed_fields cd_needed_fields ct_needed_fields oc_law kV_law dc_law pm_law cd_law ct_law : Value}
    (p1 : PySem.W.nsIn K mainGlobals "_law_is_integer" = some (some (.ref f_q_is_integer)))
    (p2 : K.lookup f_q_is_integer = some ⟨oc_q_is_integer, od_q_is_integer, .func (PySem.W.fnOf "_law_is_integer" "_law_is_integer" (defArgs s_q_is_integer) (defBody s_q_is_integer) (defScope s_q_is_integer) .none kV_q_is_integer dc_q_is_integer pm_q_is_integer an_q_is_integer cd_q_is_integer ct_q_is_integer), sl_q_is_integer⟩)
    (p3 : PySem.W.codeIn K cd_q_is_integer "_law_is_integer" = true)
    (p4 : PySem.W.keepIn K (.ref f_q_is_integer) = true)
    (p5 : PySem.W.nsIn K mainGlobals "_law_is_ascending" = some (some (.ref f_q_is_ascending)))
    (p6 : K.lookup f_q_is_ascending = some ⟨oc_q_is_ascending, od_q_is_ascending, .func (PySem.W.fnOf "_law_is_ascending" "_law_is_ascending" (defArgs s_q_is_ascending) (defBody s_q_is_ascending) (defScope s_q_is_ascending) .none kV_q_is_ascending dc_q_is_ascending pm_q_is_ascending an_q_is_ascending cd_q_is_ascending ct_q_is_ascending), sl_q_is_ascending⟩)
    (p7 : PySem.W.codeIn K cd_q_is_ascending "_law_is_ascending" = true)
    (p8 : PySem.W.keepIn K (.ref f_q_is_ascending) = true)
    (p9 : PySem.W.nsIn K mainGlobals "_law_follow" = some (some (.ref f_q_follow)))
    (p10 : K.lookup f_q_follow = some ⟨oc_q_follow, od_q_follow, .func (PySem.W.fnOf "_law_follow" "_law_follow" (defArgs s_q_follow) (defBody s_q_follow) (defScope s_q_follow) .none kV_q_follow dc_q_follow pm_q_follow an_q_follow cd_q_follow ct_q_follow), sl_q_follow⟩)
    (p11 : PySem.W.codeIn K cd_q_follow "_law_follow" = true)
    (p12 : PySem.W.keepIn K (.ref f_q_follow) = true)
    (p13 : PySem.W.nsIn K mainGlobals "_law_rows" = some (some (.ref f_q_rows)))
    (p14 : K.lookup f_q_rows = some ⟨oc_q_rows, od_q_rows, .func (PySem.W.fnOf "_law_rows" "_law_rows" (defArgs s_q_rows) (defBody s_q_rows) (defScope s_q_rows) .none kV_q_rows dc_q_rows pm_q_rows an_q_rows cd_q_rows ct_q_rows), sl_q_rows⟩)
    (p15 : PySem.W.codeIn K cd_q_rows "_law_rows" = true)
    (p16 : PySem.W.keepIn K (.ref f_q_rows) = true)
    (p17 : PySem.W.nsIn K mainGlobals "_law_needed" = some (some (.ref f_q_needed)))
    (p18 : K.lookup f_q_needed = some ⟨oc_q_needed, od_q_needed, .func (PySem.W.fnOf "_law_needed" "_law_needed" (defArgs s_q_needed) (defBody s_q_needed) (defScope s_q_needed) .none kV_q_needed dc_q_needed pm_q_needed an_q_needed cd_q_needed ct_q_needed), sl_q_needed⟩)
    (p19 : PySem.W.codeIn K cd_q_needed "_law_needed" = true)
    (p20 : PySem.W.keepIn K (.ref f_q_needed) = true)
    (p21 : PySem.W.nsIn K mainGlobals "_law_take" = some (some (.ref f_q_take)))
    (p22 : K.lookup f_q_take = some ⟨oc_q_take, od_q_take, .func (PySem.W.fnOf "_law_take" "_law_take" (defArgs s_q_take) (defBody s_q_take) (defScope s_q_take) .none kV_q_take dc_q_take pm_q_take an_q_take cd_q_take ct_q_take), sl_q_take⟩)
    (p23 : PySem.W.codeIn K cd_q_take "_law_take" = true)
    (p24 : PySem.W.keepIn K (.ref f_q_take) = true)
    (p25 : PySem.W.nsIn K mainGlobals "_law_tree" = some (some (.ref f_q_tree)))
    (p26 : K.lookup f_q_tree = some ⟨oc_q_tree, od_q_tree, .func (PySem.W.fnOf "_law_tree" "_law_tree" (defArgs s_q_tree) (defBody s_q_tree) (defScope s_q_tree) .none kV_q_tree dc_q_tree pm_q_tree an_q_tree cd_q_tree ct_q_tree), sl_q_tree⟩)
    (p27 : PySem.W.codeIn K cd_q_tree "_law_tree" = true)
    (p28 : PySem.W.keepIn K (.ref f_q_tree) = true)
    (p29 : PySem.W.nsIn K mainGlobals "_law_padded" = some (some (.ref f_q_padded)))
    (p30 : K.lookup f_q_padded = some ⟨oc_q_padded, od_q_padded, .func (PySem.W.fnOf "_law_padded" "_law_padded" (defArgs s_q_padded) (defBody s_q_padded) (defScope s_q_padded) .none kV_q_padded dc_q_padded pm_q_padded an_q_padded cd_q_padded ct_q_padded), sl_q_padded⟩)
    (p31 : PySem.W.codeIn K cd_q_padded "_law_padded" = true)
    (p32 : PySem.W.keepIn K (.ref f_q_padded) = true)
    (p33 : PySem.W.nsIn K mainGlobals "_law_tape" = some (some (.ref f_q_tape)))
    (p34 : K.lookup f_q_tape = some ⟨oc_q_tape, od_q_tape, .func (PySem.W.fnOf "_law_tape" "_law_tape" (defArgs s_q_tape) (defBody s_q_tape) (defScope s_q_tape) .none kV_q_tape dc_q_tape pm_q_tape an_q_tape cd_q_tape ct_q_tape), sl_q_tape⟩)
    (p35 : PySem.W.codeIn K cd_q_tape "_law_tape" = true)
    (p36 : PySem.W.keepIn K (.ref f_q_tape) = true)
    (p37 : PySem.W.nsIn K mainGlobals "asked" = some (some (.ref f_asked)))
    (p38 : K.lookup f_asked = some ⟨oc_asked, od_asked, .func (PySem.W.fnOf "asked" "asked" (defArgs s_asked) (defBody s_asked) (defScope s_asked) .none kV_asked dc_asked pm_asked an_asked cd_asked ct_asked), sl_asked⟩)
    (p39 : PySem.W.codeIn K cd_asked "asked" = true)
    (p40 : PySem.W.keepIn K (.ref f_asked) = true)
    (p41 : PySem.W.nsIn K mainGlobals "field_order" = some (some (.ref f_field_order)))
    (p42 : K.lookup f_field_order = some ⟨oc_field_order, od_field_order, .func (PySem.W.fnOf "field_order" "field_order" (defArgs s_field_order) (defBody s_field_order) (defScope s_field_order) .none kV_field_order dc_field_order pm_field_order an_field_order cd_field_order ct_field_order), sl_field_order⟩)
    (p43 : PySem.W.codeIn K cd_field_order "field_order" = true)
    (p44 : PySem.W.keepIn K (.ref f_field_order) = true)
    (p45 : PySem.W.nsIn K mainGlobals "follow" = some (some (.ref f_follow)))
    (p46 : K.lookup f_follow = some ⟨oc_follow, od_follow, .func (PySem.W.fnOf "follow" "follow" (defArgs s_follow) (defBody s_follow) (defScope s_follow) .none kV_follow dc_follow pm_follow an_follow cd_follow ct_follow), sl_follow⟩)
    (p47 : PySem.W.codeIn K cd_follow "follow" = true)
    (p48 : PySem.W.keepIn K (.ref f_follow) = true)
    (p49 : PySem.W.nsIn K mainGlobals "with_sign" = some (some (.ref f_with_sign)))
    (p50 : K.lookup f_with_sign = some ⟨oc_with_sign, od_with_sign, .func (PySem.W.fnOf "with_sign" "with_sign" (defArgs s_with_sign) (defBody s_with_sign) (defScope s_with_sign) .none kV_with_sign dc_with_sign pm_with_sign an_with_sign cd_with_sign ct_with_sign), sl_with_sign⟩)
    (p51 : PySem.W.codeIn K cd_with_sign "with_sign" = true)
    (p52 : PySem.W.keepIn K (.ref f_with_sign) = true)
    (p53 : PySem.W.nsIn K mainGlobals "least_from" = some (some (.ref f_least_from)))
    (p54 : K.lookup f_least_from = some ⟨oc_least_from, od_least_from, .func (PySem.W.fnOf "least_from" "least_from" (defArgs s_least_from) (defBody s_least_from) (defScope s_least_from) .none kV_least_from dc_least_from pm_least_from an_least_from cd_least_from ct_least_from), sl_least_from⟩)
    (p55 : PySem.W.codeIn K cd_least_from "least_from" = true)
    (p56 : PySem.W.keepIn K (.ref f_least_from) = true)
    (p57 : PySem.W.nsIn K mainGlobals "least_tree" = some (some (.ref f_least_tree)))
    (p58 : K.lookup f_least_tree = some ⟨oc_least_tree, od_least_tree, .func (PySem.W.fnOf "least_tree" "least_tree" (defArgs s_least_tree) (defBody s_least_tree) (defScope s_least_tree) .none kV_least_tree dc_least_tree pm_least_tree an_least_tree cd_least_tree ct_least_tree), sl_least_tree⟩)
    (p59 : PySem.W.codeIn K cd_least_tree "least_tree" = true)
    (p60 : PySem.W.keepIn K (.ref f_least_tree) = true)
    (p61 : PySem.W.nsIn K mainGlobals "needed_fields" = some (some (.ref f_needed_fields)))
    (p62 : K.lookup f_needed_fields = some ⟨oc_needed_fields, od_needed_fields, .func (PySem.W.fnOf "needed_fields" "needed_fields" (defArgs s_needed_fields) (defBody s_needed_fields) (defScope s_needed_fields) .none kV_needed_fields dc_needed_fields pm_needed_fields an_needed_fields cd_needed_fields ct_needed_fields), sl_needed_fields⟩)
    (p63 : PySem.W.codeIn K cd_needed_fields "needed_fields" = true)
    (p64 : PySem.W.keepIn K (.ref f_needed_fields) = true)
    (p65 : PySem.W.nsIn K mainGlobals "law" = some (some (.ref f_law)))
    (p66 : K.lookup f_law = some ⟨oc_law, od_law, .func (PySem.W.fnOf "law" "law" (defArgs s_law) (defBody s_law) (defScope s_law) .none kV_law dc_law pm_law an_law cd_law ct_law), sl_law⟩)
    (p67 : PySem.W.codeIn K cd_law "law" = true)
    (p68 : PySem.W.keepIn K (.ref f_law) = true)
    (p69 : PySem.W.nsIn K mainGlobals "abs" = some none)
    (p70 : PySem.W.nsIn K mainGlobals "bool" = some none)
    (p71 : PySem.W.nsIn K mainGlobals "int" = some none)
    (p72 : PySem.W.nsIn K mainGlobals "isinstance" = some none)
    (p73 : PySem.W.nsIn K mainGlobals "len" = some none)
    (p74 : PySem.W.nsIn K mainGlobals "list" = some none)
    (p75 : PySem.W.nsIn K mainGlobals "range" = some none)
    (p76 : PySem.W.nsIn K mainGlobals "set" = some none)
    (p77 : PySem.W.nsIn K mainGlobals "sorted" = some none)
    (p78 : PySem.W.nsIn K mainGlobals "str" = some none)
    (p79 : PySem.W.nsIn K mainGlobals "tuple" = some none)
    : Nonempty (Gd K mg) := ⟨{
  a_q_is_integer := f_q_is_integer,
  d_q_is_integer := PySem.W.fnOf "_law_is_integer" "_law_is_integer" (defArgs s_q_is_integer) (defBody s_q_is_integer) (defScope s_q_is_integer) .none kV_q_is_integer dc_q_is_integer pm_q_is_integer an_q_is_integer cd_q_is_integer ct_q_is_integer,
  F_q_is_integer := fun_mk (st := s_q_is_integer) p2 p3 p4,
  b_q_is_integer := (fun_mk (st := s_q_is_integer) p2 p3 p4).binds (ps := ["_law_actual"]) fun _ _ _ _ _ _ us hl => match us, hl with | [_], _ => rfl,
  m_q_is_integer := PySem.W.mg_of X G p1,
  a_q_is_ascending := f_q_is_ascending,
  d_q_is_ascending := PySem.W.fnOf "_law_is_ascending" "_law_is_ascending" (defArgs s_q_is_ascending) (defBody s_q_is_ascending) (defScope s_q_is_ascending) .none kV_q_is_ascending dc_q_is_ascending pm_q_is_ascending an_q_is_ascending cd_q_is_ascending ct_q_is_ascending,
  F_q_is_ascending := fun_mk (st := s_q_is_ascending) p6 p7 p8,
  b_q_is_ascending := (fun_mk (st := s_q_is_ascending) p6 p7 p8).binds (ps := ["_law_actual", "_law_n"]) fun _ _ _ _ _ _ us hl => match us, hl with | [_, _], _ => rfl,
  m_q_is_ascending := PySem.W.mg_of X G p5,
  a_q_follow := f_q_follow,
  d_q_follow := PySem.W.fnOf "_law_follow" "_law_follow" (defArgs s_q_follow) (defBody s_q_follow) (defScope s_q_follow) .none kV_q_follow dc_q_follow pm_q_follow an_q_follow cd_q_follow ct_q_follow,
  F_q_follow := fun_mk (st := s_q_follow) p10 p11 p12,
  b_q_follow := (fun_mk (st := s_q_follow) p10 p11 p12).binds (ps := ["_law_tree_here", "_law_row"]) fun _ _ _ _ _ _ us hl => match us, hl with | [_, _], _ => rfl,
  m_q_follow := PySem.W.mg_of X G p9,
  a_q_rows := f_q_rows,
  d_q_rows := PySem.W.fnOf "_law_rows" "_law_rows" (defArgs s_q_rows) (defBody s_q_rows) (defScope s_q_rows) .none kV_q_rows dc_q_rows pm_q_rows an_q_rows cd_q_rows ct_q_rows,
  F_q_rows := fun_mk (st := s_q_rows) p14 p15 p16,
  b_q_rows := (fun_mk (st := s_q_rows) p14 p15 p16).binds (ps := ["_law_n"]) fun _ _ _ _ _ _ us hl => match us, hl with | [_], _ => rfl,
  m_q_rows := PySem.W.mg_of X G p13,
  a_q_needed := f_q_needed,
  d_q_needed := PySem.W.fnOf "_law_needed" "_law_needed" (defArgs s_q_needed) (defBody s_q_needed) (defScope s_q_needed) .none kV_q_needed dc_q_needed pm_q_needed an_q_needed cd_q_needed ct_q_needed,
  F_q_needed := fun_mk (st := s_q_needed) p18 p19 p20,
  b_q_needed := (fun_mk (st := s_q_needed) p18 p19 p20).binds (ps := ["_law_tree_here", "_law_field", "_law_n"]) fun _ _ _ _ _ _ us hl => match us, hl with | [_, _, _], _ => rfl,
  m_q_needed := PySem.W.mg_of X G p17,
  a_q_take := f_q_take,
  d_q_take := PySem.W.fnOf "_law_take" "_law_take" (defArgs s_q_take) (defBody s_q_take) (defScope s_q_take) .none kV_q_take dc_q_take pm_q_take an_q_take cd_q_take ct_q_take,
  F_q_take := fun_mk (st := s_q_take) p22 p23 p24,
  b_q_take := (fun_mk (st := s_q_take) p22 p23 p24).binds (ps := ["_law_tape_here", "_law_size"]) fun _ _ _ _ _ _ us hl => match us, hl with | [_, _], _ => rfl,
  m_q_take := PySem.W.mg_of X G p21,
  a_q_tree := f_q_tree,
  d_q_tree := PySem.W.fnOf "_law_tree" "_law_tree" (defArgs s_q_tree) (defBody s_q_tree) (defScope s_q_tree) .none kV_q_tree dc_q_tree pm_q_tree an_q_tree cd_q_tree ct_q_tree,
  F_q_tree := fun_mk (st := s_q_tree) p26 p27 p28,
  b_q_tree := (fun_mk (st := s_q_tree) p26 p27 p28).binds (ps := ["_law_tape_here", "_law_n", "_law_levels"]) fun _ _ _ _ _ _ us hl => match us, hl with | [_, _, _], _ => rfl,
  m_q_tree := PySem.W.mg_of X G p25,
  a_q_padded := f_q_padded,
  d_q_padded := PySem.W.fnOf "_law_padded" "_law_padded" (defArgs s_q_padded) (defBody s_q_padded) (defScope s_q_padded) .none kV_q_padded dc_q_padded pm_q_padded an_q_padded cd_q_padded ct_q_padded,
  F_q_padded := fun_mk (st := s_q_padded) p30 p31 p32,
  b_q_padded := (fun_mk (st := s_q_padded) p30 p31 p32).binds (ps := ["_law_tape_here", "_law_tree_here", "_law_field", "_law_known", "_law_levels"]) fun _ _ _ _ _ _ us hl => match us, hl with | [_, _, _, _, _], _ => rfl,
  m_q_padded := PySem.W.mg_of X G p29,
  a_q_tape := f_q_tape,
  d_q_tape := PySem.W.fnOf "_law_tape" "_law_tape" (defArgs s_q_tape) (defBody s_q_tape) (defScope s_q_tape) .none kV_q_tape dc_q_tape pm_q_tape an_q_tape cd_q_tape ct_q_tape,
  F_q_tape := fun_mk (st := s_q_tape) p34 p35 p36,
  b_q_tape := (fun_mk (st := s_q_tape) p34 p35 p36).binds (ps := ["_law_script", "_law_k"]) fun _ _ _ _ _ _ us hl => match us, hl with | [_, _], _ => rfl,
  m_q_tape := PySem.W.mg_of X G p33,
  a_asked := f_asked,
  d_asked := PySem.W.fnOf "asked" "asked" (defArgs s_asked) (defBody s_asked) (defScope s_asked) .none kV_asked dc_asked pm_asked an_asked cd_asked ct_asked,
  F_asked := fun_mk (st := s_asked) p38 p39 p40,
  b_asked := (fun_mk (st := s_asked) p38 p39 p40).binds (ps := ["tree"]) fun _ _ _ _ _ _ us hl => match us, hl with | [_], _ => rfl,
  m_asked := PySem.W.mg_of X G p37,
  a_field_order := f_field_order,
  d_field_order := PySem.W.fnOf "field_order" "field_order" (defArgs s_field_order) (defBody s_field_order) (defScope s_field_order) .none kV_field_order dc_field_order pm_field_order an_field_order cd_field_order ct_field_order,
  F_field_order := fun_mk (st := s_field_order) p42 p43 p44,
  b_field_order := (fun_mk (st := s_field_order) p42 p43 p44).binds (ps := ["field", "fields"]) fun _ _ _ _ _ _ us hl => match us, hl with | [_, _], _ => rfl,
  m_field_order := PySem.W.mg_of X G p41,
  a_follow := f_follow,
  d_follow := PySem.W.fnOf "follow" "follow" (defArgs s_follow) (defBody s_follow) (defScope s_follow) .none kV_follow dc_follow pm_follow an_follow cd_follow ct_follow,
  F_follow := fun_mk (st := s_follow) p46 p47 p48,
  b_follow := (fun_mk (st := s_follow) p46 p47 p48).binds (ps := ["tree", "row"]) fun _ _ _ _ _ _ us hl => match us, hl with | [_, _], _ => rfl,
  m_follow := PySem.W.mg_of X G p45,
  a_with_sign := f_with_sign,
  d_with_sign := PySem.W.fnOf "with_sign" "with_sign" (defArgs s_with_sign) (defBody s_with_sign) (defScope s_with_sign) .none kV_with_sign dc_with_sign pm_with_sign an_with_sign cd_with_sign ct_with_sign,
  F_with_sign := fun_mk (st := s_with_sign) p50 p51 p52,
  b_with_sign := (fun_mk (st := s_with_sign) p50 p51 p52).binds (ps := ["row", "field", "value"]) fun _ _ _ _ _ _ us hl => match us, hl with | [_, _, _], _ => rfl,
  m_with_sign := PySem.W.mg_of X G p49,
  a_least_from := f_least_from,
  d_least_from := PySem.W.fnOf "least_from" "least_from" (defArgs s_least_from) (defBody s_least_from) (defScope s_least_from) .none kV_least_from dc_least_from pm_least_from an_least_from cd_least_from ct_least_from,
  F_least_from := fun_mk (st := s_least_from) p54 p55 p56,
  b_least_from := (fun_mk (st := s_least_from) p54 p55 p56).binds (ps := ["tree", "field", "row", "left"]) fun _ _ _ _ _ _ us hl => match us, hl with | [_, _, _, _], _ => rfl,
  m_least_from := PySem.W.mg_of X G p53,
  a_least_tree := f_least_tree,
  d_least_tree := PySem.W.fnOf "least_tree" "least_tree" (defArgs s_least_tree) (defBody s_least_tree) (defScope s_least_tree) .none kV_least_tree dc_least_tree pm_least_tree an_least_tree cd_least_tree ct_least_tree,
  F_least_tree := fun_mk (st := s_least_tree) p58 p59 p60,
  b_least_tree := (fun_mk (st := s_least_tree) p58 p59 p60).binds (ps := ["tree", "field", "fields"]) fun _ _ _ _ _ _ us hl => match us, hl with | [_, _, _], _ => rfl,
  m_least_tree := PySem.W.mg_of X G p57,
  a_needed_fields := f_needed_fields,
  d_needed_fields := PySem.W.fnOf "needed_fields" "needed_fields" (defArgs s_needed_fields) (defBody s_needed_fields) (defScope s_needed_fields) .none kV_needed_fields dc_needed_fields pm_needed_fields an_needed_fields cd_needed_fields ct_needed_fields,
  F_needed_fields := fun_mk (st := s_needed_fields) p62 p63 p64,
  b_needed_fields := (fun_mk (st := s_needed_fields) p62 p63 p64).binds (ps := ["tree", "field", "fields"]) fun _ _ _ _ _ _ us hl => match us, hl with | [_, _, _], _ => rfl,
  m_needed_fields := PySem.W.mg_of X G p61,
  a_law := f_law,
  d_law := PySem.W.fnOf "law" "law" (defArgs s_law) (defBody s_law) (defScope s_law) .none kV_law dc_law pm_law an_law cd_law ct_law,
  F_law := fun_mk (st := s_law) p66 p67 p68,
  b_law := (fun_mk (st := s_law) p66 p67 p68).binds (ps := ["_law_script"]) fun _ _ _ _ _ _ us hl => match us, hl with | [_], _ => rfl,
  m_law := PySem.W.mg_of X G p65,
  z_abs := PySem.W.mg_none_of X G p69,
  z_bool := PySem.W.mg_none_of X G p70,
  z_int := PySem.W.mg_none_of X G p71,
  z_isinstance := PySem.W.mg_none_of X G p72,
  z_len := PySem.W.mg_none_of X G p73,
  z_list := PySem.W.mg_none_of X G p74,
  z_range := PySem.W.mg_none_of X G p75,
  z_set := PySem.W.mg_none_of X G p76,
  z_sorted := PySem.W.mg_none_of X G p77,
  z_str := PySem.W.mg_none_of X G p78,
  z_tuple := PySem.W.mg_none_of X G p79 }⟩
theorem all_mk {w : World} {K : PySem.W.Frag} {mg : Str → Option Value} {fa : Addr} (g : Nonempty (Gd K mg)) (hfa : mg "law" = some (.ref fa)) (hl : ∀ ns : List Int, ns.length ≤ 63 → ∃ h', F_law_k26 [.scr (ns.map .int)] [] = .ok (.bl true) h') :
    ∃ fd : FuncData, (∀ (s : Shared) (v : Value), BindsTo s fd ⟨[v], []⟩ [("_law_script", v)]) ∧ ∀ base : Heap, K.In base → base.Ns mainGlobals mg → FnG PySem.Challenge.rw_fieldrides_k26_whole_needed_fields.prog w K mg base (L2N.CX PySem.Challenge.rw_fieldrides_k26_whole_needed_fields.prog w) 24 fa fd ["_law_script"] (spLaw K) := by
  obtain ⟨g⟩ := g
  have e := hfa.symm.trans g.m_law
  cases e
  refine ⟨g.d_law, ?_, fun base _ _ => law_imp (ok_law g) hl⟩
  obtain ⟨oc, od, kV, doc, pm, an, cdv, ct, osl, e, _⟩ := g.F_law.ex
  rw [e]
  exact fun s v => .of_eq rfl
end Sm.K26
end

section
set_option linter.all false
set_option maxRecDepth 10000
/-! K26P: the law k26 is true. -/
namespace Sm.K26
open Sm
theorem law_ok (ns : List Int) (h : AH) : wp (Sm.F_law_k26 [.scr (ns.map .int)] h) fun d k => d = .bl true := by
  refine fnT_w rfl ?_
  obtain ⟨o1, ho1, e1⟩ := tape_ok (xs := ns) (k := 0) (h := h)
  simp at e1
  obtain ⟨r2, o2, hr2, ho2, e2⟩ := takeN (n := 4) (tpn (h := h) (L := []) ho1) (by omega) (by omega)
  rw [set_new (Nat.le_refl _)] at e2
  simp at e2
  obtain ⟨r3, o3, hr3, ho3, e3⟩ := takeN (n := 8) (tpn (h := h) (L := []) ho2) (by omega) (by omega)
  rw [set_new (Nat.le_refl _)] at e3
  simp at e3
  obtain ⟨r4, o4, hr4, ho4, e4⟩ := takeN (n := 8) (tpn (h := h) (L := []) ho3) (by omega) (by omega)
  rw [set_new (Nat.le_refl _)] at e4
  simp at e4
  rw [b_law_k26]
  simp only [envOf, List.map_cons, List.map_nil, List.length_cons, List.length_nil, List.cons_append, List.nil_append, Nat.reduceAdd, Nat.reduceSub, List.replicate_succ, List.replicate_zero]
  refine q_set (d := (.loc h.length)) (h2 := (h ++ [o1])) (by simp [e1]) ?_
  simp only [List.set_cons_succ, List.set_cons_zero]
  refine q_set (d := (.int (1 + (r2 : Int)))) (h2 := (h ++ [o2])) (by simp [e2]) ?_
  simp only [List.set_cons_succ, List.set_cons_zero]
  refine q_any (P := fun fl k => ∃ (n : Nat) (o : AO), 0 < n ∧ n ≤ 6 ∧ IsTp o ∧ fl = .nx [some (.scr (ns.map .int)), some (.loc h.length), some (.int n), none, none, none, none, none] ∧ k = h ++ [o]) ?_ ?_
  · by_cases c : r3 = 0
    · have c' : (r3 : Int) = 0 := by omega
      have w7 : wideJ 7 = true := by decide
      refine if_set (h1 := h ++ [o3]) (h2 := h ++ [o4]) (d := .int (5 + (r4 : Int) / 7)) (by simp [e3, c']) (by simp [e4, w7]) ⟨5 + r4 / 7, o4, by omega, by omega, ho4, by simp, rfl⟩
    · have c' : ¬ (r3 : Int) = 0 := by omega
      exact if_no (h1 := h ++ [o3]) (by simp [e3, c, c']) ⟨1 + r2, o3, by omega, by omega, ho3, by simp, rfl⟩
  rintro fl k ⟨n, o5, n0, n6, ho5, rfl, rfl⟩
  rw [kB2_nx]
  clear e1 e2 e3 e4
  have hi : inI (n : Int) = true := inI_nat
  obtain ⟨fld, o6, hf, ho6, e6⟩ := takeN (n := n) (tpn (h := h) (L := []) ho5) (by omega) (by omega)
  rw [set_new (Nat.le_refl _)] at e6
  simp at e6
  refine q_set (d := (.int fld)) (h2 := (h ++ [o6])) (by simp [e6]) ?_
  simp only [List.set_cons_succ, List.set_cons_zero]
  obtain ⟨t, p7, o7, ⟨kt, wt, dt⟩, f7, g7⟩ := tree_tape (ns := ns) (c := 1) (n := n) (lv := 3) n0 (by omega) (by omega) (h ++ [o6])
  change F_q_tree 8 [_, _, .int 3] _ = _ at g7
  refine q_set (d := t.enc) (h2 := (h ++ [o6] ++ [o7])) (by
    generalize h ++ [o6] = K at *
    generalize t.enc = TE at *
    simp at f7
    simp [f7, g7]) ?_
  simp only [List.set_cons_succ, List.set_cons_zero]
  clear f7 g7
  obtain ⟨r8, o8, hr8, ho8, e8⟩ := takeN (n := 2) (tpn (h := h) (L := [o7]) ho6) (by omega) (by omega)
  rw [set_new (Nat.le_refl _)] at e8
  simp at e8
  refine q_any (P := fun fl k => ∃ (u : Tr) (X : AH), u.ok n ∧ u.W ∧ u.dep ≤ 6 ∧ fl = .nx [some (.scr (ns.map .int)), some (.loc h.length), some (.int n), some (.int fld), some u.enc, none, none, none] ∧ k = h ++ X) ?_ ?_
  · by_cases c : r8 = 0
    · have c' : (r8 : Int) = 0 := by omega
      obtain ⟨o9, ho9, e9⟩ := tape_ok (xs := ns) (k := 2) (h := h ++ [o8, o7])
      obtain ⟨NS, hNS⟩ : ∃ NS, NS = (List.range n).map fun _ => D.non := ⟨_, rfl⟩
      have kn : Kn n NS := by
        refine ⟨by rw [hNS]; simp, fun d hd => ?_⟩
        rw [hNS] at hd
        obtain ⟨_, _, rfl⟩ := List.mem_map.mp hd
        exact .inl rfl
      have lcn := lc_rngm (v := 5) (a := eC .non) (e0 := [some (.scr (ns.map .int)), some (.loc h.length), some (.int n), some (.int fld), some t.enc, none, none, none]) (n := n) (h := h ++ [o8, o7] ++ [o9]) (f := fun _ => D.non) (by rw [bigv]; omega) (fun f hf => rfl)
      rw [← hNS] at lcn
      obtain ⟨u, o10, ho10, ku, wu, du, e10⟩ := padded_ok (n := n) (fld := fld) (by omega) (by omega) (l := (h ++ [o8, o7]).length) 12 t 2 (h ++ [o8, o7] ++ [o9]) NS (by omega) (by omega) kt wt kn (tpn (h := h ++ [o8, o7]) (L := []) ho9)
      rw [set_new (Nat.le_refl _), Nat.sub_self, List.set_cons_zero] at e10
      change F_q_padded 12 [_, _, _, _, .int 2] _ = _ at e10
      clear hNS
      have e8 : F_q_take [.loc h.length, .int 2] (h ++ [o6] ++ [o7]) = .ok (.int r8) (h ++ [o8, o7]) := by simpa using e8
      have ev : (eA (F_q_padded 12) (eL [eA (F_q_tape) (eL [eV 0, eC (.int 2)]), eV 4, eV 3, eLC true [5] (iR1 (eV 2)) (gV 5) (tYes) (eC .non), eC (.int 2)])) [some (.scr (ns.map .int)), some (.loc h.length), some (.int n), some (.int fld), some t.enc, none, none, none] (h ++ [o8, o7]) = .ok u.enc (h ++ [o8, o7] ++ [o10]) := by
        generalize h ++ [o8, o7] = K at *
        generalize t.enc = TE at *
        generalize F_q_padded 12 = FP at *
        try simp at lcn
        simp at e9
        simp [e9, wipeE, hi, lcn, e10]
      refine if_set (h1 := h ++ [o8, o7]) (h2 := h ++ [o8, o7] ++ [o10]) (d := u.enc) ?_ ev ⟨u, [o8, o7, o10], ku, wu, by omega, rfl, by simp⟩
      generalize h ++ [o8, o7] = K at *
      generalize h ++ [o6] ++ [o7] = K0 at *
      generalize t.enc = TE at *
      try simp at e8
      simp [e8, c']
    · have c' : ¬ (r8 : Int) = 0 := by omega
      have e8 : F_q_take [.loc h.length, .int 2] (h ++ [o6] ++ [o7]) = .ok (.int r8) (h ++ [o8, o7]) := by simpa using e8
      refine if_no (h1 := h ++ [o8, o7]) ?_ ⟨t, [o8, o7], kt, wt, by omega, rfl, rfl⟩
      generalize h ++ [o6] ++ [o7] = K0 at *
      generalize t.enc = TE at *
      try simp at e8
      simp [e8, c, c']
  rintro fl k ⟨u, X, ku, wu, du, rfl, rfl⟩
  rw [kB2_nx]
  clear e8
  have ht := trim_app (h := h) (L := X) (d := .bl true) rfl rfl
  generalize h ++ X = K at *
  refine q_any (P := fun fl k => ∃ (w6 w7 : Option D), fl = .nx [some (.scr (ns.map .int)), some (.loc h.length), some (.int n), some (.int fld), some u.enc, none, w6, w7] ∧ k = K) ?_ ?_
  · have md : modD (.int ((fld : Int) + 1)) (.int n) K = .ok (.int (((fld + 1) % n : Nat) : Int)) K := by
      rw [mod_int, decide_eq_true (by omega), chk_true]
      simp
    have it : intD (.int ((fld : Int) + 1)) K = .ok (.int ((fld : Int) + 1)) K := rfl
    refine for_it (xs := [.int fld, .int (((fld + 1) % n : Nat) : Int), .int fld]) (h1 := K) (by
      generalize u.enc = UE at *
      generalize (((fld + 1) % n : Nat) : Int) = m at *
      simp [it, md, big3]) ?_
    refine for_w (I := fun i e k => ∃ (w6 w7 : Option D), e = [some (.scr (ns.map .int)), some (.loc h.length), some (.int n), some (.int fld), some u.enc, none, w6, w7] ∧ k = K) ⟨none, none, rfl, rfl⟩ ?_ ?_
    · rintro i z e k hz ⟨w6, w7, rfl, rfl⟩
      obtain ⟨p, hp, rfl⟩ : ∃ p : Nat, p < n ∧ z = .int p := by
        have := List.mem_of_getElem? hz
        simp only [List.mem_cons, List.not_mem_nil, or_false] at this
        rcases this with rfl | rfl | rfl
        · exact ⟨fld, hf, rfl⟩
        · exact ⟨(fld + 1) % n, Nat.mod_lt _ n0, rfl⟩
        · exact ⟨fld, hf, rfl⟩
      have nf := needed_fields_ok (fld := p) (by omega) hp ku wu du k
      have nd := needed_ok (fld := p) n0 (by omega) hp ku wu du k
      have as_ := ascending_ok (p := nedB u p n) (n := n) (by omega) k
      change F_q_is_ascending [.tup (nedL u p n), .int n] k = _ at as_
      have nbb : nb (.lst (nedL u p n)) = true := by
        rw [nb_lst, nbs_all, List.all_eq_true]
        intro x hx
        obtain ⟨g, _, rfl⟩ := List.mem_map.mp hx
        exact nb_int _
      have dpp : dp (.lst (nedL u p n)) ≤ 64 := by
        rw [dp_lst]
        have : dps (nedL u p n) ≤ 1 := dps_le fun x hx => by
          obtain ⟨g, _, rfl⟩ := List.mem_map.mp hx
          rw [show dp (eN g) = 0 from dp_int _]; omega
        omega
      have ne := ne_nb (h := k) nbb nbb dpp dpp
      rw [decide_eq_true rfl] at ne
      have ls : listD true (.tup (nedL u p n)) k = .ok (.lst (nedL u p n)) k := rfl
      refine wp_mono (P := fun fl k2 => fl = .nx [some (.scr (ns.map .int)), some (.loc h.length), some (.int n), some (.int fld), some u.enc, none, some (.int p), some (.tup (nedL u p n))] ∧ k2 = k) ?_ (by
        rintro fl k2 ⟨rfl, rfl⟩
        exact ⟨_, _, rfl, rfl⟩)
      rw [gV_def, bind_ok]
      simp only [List.set_cons_succ, List.set_cons_zero]
      generalize D.lst (nedL u p n) = NL at *
      generalize D.tup (nedL u p n) = NT at *
      generalize u.enc = UE at *
      simp [nf, as_, ls, nd, ne]
    · rintro e k ⟨w6, w7, rfl, rfl⟩
      exact ⟨_, _, rfl, rfl⟩
  rintro fl k ⟨w6, w7, rfl, rfl⟩
  rw [kB2_nx]
  simp [ht]
theorem law_true : ∀ ns : List Int, ns.length ≤ 63 → ∃ h', Sm.F_law_k26 [.scr (ns.map .int)] [] = .ok (.bl true) h' := by
  intro ns _
  obtain ⟨d, k, e, rfl⟩ := wp_iff.mp (law_ok ns [])
  exact ⟨k, e⟩
end Sm.K26
end

section
set_option Elab.async false
set_option linter.all false
set_option maxRecDepth 100000

open PySem PySem.W PyProof.Rows
set_option maxHeartbeats 0 in
theorem PySem.Challenge.cw_fieldrides_k26_whole_needed_fields_holds : PySem.Challenge.rw_fieldrides_k26_whole_needed_fields.Holds := by
  w_on; o_law; k_head; (case hw => w_witness2)
  k_fill
  refine Sm.walkG (l := PySem.Challenge.rw_fieldrides_k26_whole_needed_fields) (n := 63) (k := 24) (x := "_law_script") (CX := fun w => L2N.CX PySem.Challenge.rw_fieldrides_k26_whole_needed_fields.prog w) (sp := fun w => Sm.spLaw _) rfl (by decide) rfl ⟨⟨rfl, by decide, by decide⟩, rfl⟩ (fun w h Y => PySem.W.kIn_of Y) ?F (fun _ _ a ns hl _ hS => ⟨a, ns, rfl, hS, hl, fun _ => rfl⟩) (fun _ _ _ _ _ h => Sm.cx_no h)
  case F =>
    intro w mg fa h KX G hmg
    refine' Sm.K26.all_mk (Sm.K26.mk_Gd KX G ?p1 ?p2 ?p3 ?p4 ?p5 ?p6 ?p7 ?p8 ?p9 ?p10 ?p11 ?p12 ?p13 ?p14 ?p15 ?p16 ?p17 ?p18 ?p19 ?p20 ?p21 ?p22 ?p23 ?p24 ?p25 ?p26 ?p27 ?p28 ?p29 ?p30 ?p31 ?p32 ?p33 ?p34 ?p35 ?p36 ?p37 ?p38 ?p39 ?p40 ?p41 ?p42 ?p43 ?p44 ?p45 ?p46 ?p47 ?p48 ?p49 ?p50 ?p51 ?p52 ?p53 ?p54 ?p55 ?p56 ?p57 ?p58 ?p59 ?p60 ?p61 ?p62 ?p63 ?p64 ?p65 ?p66 ?p67 ?p68 ?p69 ?p70 ?p71 ?p72 ?p73 ?p74 ?p75 ?p76 ?p77 ?p78 ?p79) hmg Sm.K26.law_true
    (case p1 => k_is)
    (case p2 => k_is)
    (case p3 => k_is)
    (case p4 => k_is)
    (case p5 => k_is)
    (case p6 => k_is)
    (case p7 => k_is)
    (case p8 => k_is)
    (case p9 => k_is)
    (case p10 => k_is)
    (case p11 => k_is)
    (case p12 => k_is)
    (case p13 => k_is)
    (case p14 => k_is)
    (case p15 => k_is)
    (case p16 => k_is)
    (case p17 => k_is)
    (case p18 => k_is)
    (case p19 => k_is)
    (case p20 => k_is)
    (case p21 => k_is)
    (case p22 => k_is)
    (case p23 => k_is)
    (case p24 => k_is)
    (case p25 => k_is)
    (case p26 => k_is)
    (case p27 => k_is)
    (case p28 => k_is)
    (case p29 => k_is)
    (case p30 => k_is)
    (case p31 => k_is)
    (case p32 => k_is)
    (case p33 => k_is)
    (case p34 => k_is)
    (case p35 => k_is)
    (case p36 => k_is)
    (case p37 => k_is)
    (case p38 => k_is)
    (case p39 => k_is)
    (case p40 => k_is)
    (case p41 => k_is)
    (case p42 => k_is)
    (case p43 => k_is)
    (case p44 => k_is)
    (case p45 => k_is)
    (case p46 => k_is)
    (case p47 => k_is)
    (case p48 => k_is)
    (case p49 => k_is)
    (case p50 => k_is)
    (case p51 => k_is)
    (case p52 => k_is)
    (case p53 => k_is)
    (case p54 => k_is)
    (case p55 => k_is)
    (case p56 => k_is)
    (case p57 => k_is)
    (case p58 => k_is)
    (case p59 => k_is)
    (case p60 => k_is)
    (case p61 => k_is)
    (case p62 => k_is)
    (case p63 => k_is)
    (case p64 => k_is)
    (case p65 => k_is)
    (case p66 => k_is)
    (case p67 => k_is)
    (case p68 => k_is)
    (case p69 => k_is)
    (case p70 => k_is)
    (case p71 => k_is)
    (case p72 => k_is)
    (case p73 => k_is)
    (case p74 => k_is)
    (case p75 => k_is)
    (case p76 => k_is)
    (case p77 => k_is)
    (case p78 => k_is)
    (case p79 => k_is)
end
