import PyProof.Rows.All
import Wide.All
import OpenK.AllK
import Wide.FinOn
import HandS.ForMost
import HandS.TupAny
import HandS.TupMul
import HandS.Wide
import PyProof.StrOps2
import HandS.Deep
import HandS.Conv
import HandS.WordsDict
import HandS.IsInst
import HandS.Walk
import HandS.DictComp
import HandS.Style
import HandS.Words
import HandS.Small
import HandS.Codes
import PySem.Challenge.RW_wholenuclei_k64_whole_kneadings_of_fract
/-! VCore: a small language with slots, values and ownership; core Lean alone. -/
set_option autoImplicit false
namespace VS

/-- values: None, boolL, intL, texts (code points), tuples, lists, a list that is only read (the script), dicts (k: keys are tuples) -/
inductive D where
  | non | bl (b : Bool) | int (i : Int) | str (s : List Nat)
  | tup (xs : List D) | lst (xs : List D) | rls (xs : List D)
  | dic (k : Bool) (ks vs : List D)
  | ptr (a : Nat)
  deriving Inhabited

namespace D
mutual
def beq : D → D → Bool
  | .non, .non => true
  | .bl a, .bl b => decide (a = b)
  | .int a, .int b => decide (a = b)
  | .str a, .str b => decide (a = b)
  | .tup a, .tup b => beqs a b
  | .lst a, .lst b => beqs a b
  | .rls a, .rls b => beqs a b
  | .dic k a b, .dic l c d => decide (k = l) && beqs a c && beqs b d
  | .ptr a, .ptr b => decide (a = b)
  | _, _ => false
def beqs : List D → List D → Bool
  | [], [] => true
  | a :: as, b :: bs => beq a b && beqs as bs
  | _, _ => false
end
mutual
theorem beq_self : ∀ a : D, beq a a = true
  | .non => by simp [beq]
  | .bl a => by simp [beq]
  | .int a => by simp [beq]
  | .str a => by simp [beq]
  | .tup a => by simp [beq, beqs_self a]
  | .lst a => by simp [beq, beqs_self a]
  | .rls a => by simp [beq, beqs_self a]
  | .dic k a b => by simp [beq, beqs_self a, beqs_self b]
  | .ptr a => by simp [beq]
theorem beqs_self : ∀ a : List D, beqs a a = true
  | [] => by simp [beqs]
  | a :: as => by simp [beqs, beq_self a, beqs_self as]
end
mutual
theorem eq_of_beq : ∀ a b : D, beq a b = true → a = b
  | .non, b, h => by cases b <;> simp_all [beq]
  | .bl a, b, h => by cases b <;> simp_all [beq]
  | .int a, b, h => by cases b <;> simp_all [beq]
  | .str a, b, h => by cases b <;> simp_all [beq]
  | .tup a, b, h => by
    cases b with
    | tup c => simp only [beq] at h; rw [eq_of_beqs a c h]
    | _ => simp [beq] at h
  | .lst a, b, h => by
    cases b with
    | lst c => simp only [beq] at h; rw [eq_of_beqs a c h]
    | _ => simp [beq] at h
  | .rls a, b, h => by
    cases b with
    | rls c => simp only [beq] at h; rw [eq_of_beqs a c h]
    | _ => simp [beq] at h
  | .dic k a c, b, h => by
    cases b with
    | dic l d e => simp only [beq, Bool.and_eq_true, decide_eq_true_eq] at h; rw [h.1.1, eq_of_beqs a d h.1.2, eq_of_beqs c e h.2]
    | _ => simp [beq] at h
  | .ptr a, b, h => by cases b <;> simp_all [beq]
theorem eq_of_beqs : ∀ a b : List D, beqs a b = true → a = b
  | [], [], _ => rfl
  | [], _ :: _, h => by simp [beqs] at h
  | _ :: _, [], h => by simp [beqs] at h
  | a :: as, b :: bs, h => by
    simp only [beqs, Bool.and_eq_true] at h
    rw [eq_of_beq a b h.1, eq_of_beqs as bs h.2]
end
instance : DecidableEq D := fun a b => if h : beq a b = true then isTrue (eq_of_beq a b h) else isFalse fun e => h (e ▸ beq_self a)

mutual
/-- no list and no dict within: free to be shared -/
def im : D → Bool
  | .tup xs => ims xs
  | .rls xs => ims xs
  | .lst _ => false
  | .dic _ _ _ => false
  | .ptr _ => false
  | _ => true
def ims : List D → Bool
  | [] => true
  | x :: xs => im x && ims xs
end
mutual
/-- plain data of a depth below n: intL, texts, None, tuples and lists of such -/
def okn : Nat → D → Bool
  | _, .non => true
  | _, .int _ => true
  | _, .str s => s.all fun c => decide (c < 1114112)
  | n + 1, .tup xs => okns n xs
  | n + 1, .lst xs => okns n xs
  | _, _ => false
def okns : Nat → List D → Bool
  | _, [] => true
  | n, x :: xs => okn n x && okns n xs
end
/-- a plain key; a key that is a tuple -/
def keyK : D → Bool
  | .int _ => true
  | .str _ => true
  | _ => false
def keyN : D → Bool
  | .tup xs => okns 7 xs && ims xs
  | _ => false
def key (k : Bool) (d : D) : Bool := if k then keyN d else keyK d
end D
open D

/-- the greatest length of a list, a tuple, a text -/
def LIM : Nat := 16777216
/-- the turns a while may take -/
def FUEL : Nat := 1000000

abbrev Rho := List (Option D)
abbrev M (α : Type) := Rho → Option (α × Rho)
def M.pur {α : Type} (a : α) : M α := fun ρ => some (a, ρ)
def M.bnd {α β : Type} (x : M α) (f : α → M β) : M β := fun ρ => match x ρ with
  | none => none
  | some (a, ρ') => f a ρ'
def M.lif {α : Type} (o : Option α) : M α := fun ρ => match o with
  | none => none
  | some a => some (a, ρ)
open M
theorem bnd_some {α β : Type} {x : M α} {f : α → M β} {ρ ρ' : Rho} {b : β} (h : bnd x f ρ = some (b, ρ')) : ∃ a ρ1, x ρ = some (a, ρ1) ∧ f a ρ1 = some (b, ρ') := by
  unfold bnd at h
  split at h
  · cases h
  · rename_i a ρ1 e
    exact ⟨a, ρ1, e, h⟩
theorem lif_some {α : Type} {o : Option α} {ρ ρ' : Rho} {a : α} (h : lif o ρ = some (a, ρ')) : o = some a ∧ ρ' = ρ := by
  unfold lif at h
  split at h
  · cases h
  · cases h; exact ⟨rfl, rfl⟩
theorem pur_some {α : Type} {a b : α} {ρ ρ' : Rho} (h : pur a ρ = some (b, ρ')) : b = a ∧ ρ' = ρ := by
  unfold pur at h
  cases h; exact ⟨rfl, rfl⟩

/-- a slot's value, borrowed -/
def look (i : Nat) : M D := fun ρ => match ρ[i]? with
  | some (some d) => some (d, ρ)
  | _ => none
/-- a slot's value for keeps: what may change is moved out -/
def take (i : Nat) : M D := fun ρ => match ρ[i]? with
  | some (some d) => if im d then some (d, ρ) else some (d, ρ.set i none)
  | _ => none
def setS (i : Nat) (d : D) : M Unit := fun ρ => if i < ρ.length then some ((), ρ.set i (some d)) else none

inductive Op where
  | add | sub | mul | fdv | mod | pow
  deriving DecidableEq
inductive Cm where
  | eq | ne | lt | le | gt | ge | inn | nin
  deriving DecidableEq

/-- an index that may count from the end -/
def ixN (n : Nat) (i : Int) : Option Nat := if 0 ≤ i then (if i < n then some i.toNat else none) else if -(n : Int) ≤ i then some (i + n).toNat else none
def atD (xs : List D) (i : Int) : Option D := match ixN xs.length i with
  | some j => xs[j]?
  | none => none
def dget : List D → List D → D → Option D
  | k :: ks, v :: vs, x => if k = x then some v else dget ks vs x
  | _, _, _ => none
def dput : List D → List D → D → D → List D × List D
  | k :: ks, v :: vs, x, y => if k = x then (k :: ks, y :: vs) else (k :: (dput ks vs x y).1, v :: (dput ks vs x y).2)
  | _, _, x, y => ([x], [y])
def dhas (ks : List D) (x : D) : Bool := ks.any fun k => decide (k = x)

def imO (o : Option D) : Option D := match o with
  | some d => if im d then some d else none
  | none => none
/-- d[k] -/
def index (d k : D) : Option D := match d, k with
  | .tup xs, .int i => imO (atD xs i)
  | .lst xs, .int i => imO (atD xs i)
  | .str s, .int i => match ixN s.length i with
    | some j => match s[j]? with
      | some c => some (.str [c])
      | none => none
    | none => none
  | .dic b ks vs, k => if key b k then imO (dget ks vs k) else none
  | _, _ => none
/-- where a slice begins (ends) -/
def sIx (n d : Nat) : Option Int → Nat
  | none => d
  | some v => if v < 0 then (v + (n : Int)).toNat else min v.toNat n
def cut {α : Type} (xs : List α) (lo hi : Option Int) : List α := (xs.drop (sIx xs.length 0 lo)).take (sIx xs.length xs.length hi - sIx xs.length 0 lo)
def slice (d : D) (lo hi : Option Int) : Option D := match d with
  | .str s => some (.str (cut s lo hi))
  | .tup xs => if ims xs then some (.tup (cut xs lo hi)) else none
  | .lst xs => if ims xs then some (.lst (cut xs lo hi)) else none
  | _ => none

def smallI (i : Int) : Bool := decide (i.natAbs < 2 ^ 64)
def addD (a b : D) : Option D := match a, b with
  | .int i, .int j => some (.int (i + j))
  | .str s, .str t => if s.length + t.length ≤ LIM then some (.str (s ++ t)) else none
  | .tup s, .tup t => if D.ims s && D.ims t && decide (s.length + t.length ≤ LIM) then some (.tup (s ++ t)) else none
  | .lst s, .lst t => if s.length + t.length ≤ LIM then some (.lst (s ++ t)) else none
  | _, _ => none
def subD (a b : D) : Option D := match a, b with
  | .int i, .int j => some (.int (i - j))
  | _, _ => none
def mulD (a b : D) : Option D := match a, b with
  | .int i, .int j => if smallI i || smallI j then some (.int (i * j)) else none
  | .str s, .int j => if 0 ≤ j ∧ j ≤ 1000 ∧ s.length ≤ 1000 then some (.str (List.replicate j.toNat s).flatten) else none
  | .tup s, .int j => if D.ims s && decide (0 ≤ j ∧ j ≤ 1000 ∧ s.length ≤ 1000) then some (.tup (List.replicate j.toNat s).flatten) else none
  | .lst s, .int j => if D.ims s && decide (0 ≤ j ∧ j ≤ 1000000 ∧ s.length * j.toNat ≤ LIM) then some (.lst (List.replicate j.toNat s).flatten) else none
  | _, _ => none
def fdvD (a b : D) : Option D := match a, b with
  | .int i, .int j => if 0 < j ∧ j < 1073741824 then some (.int (i / j)) else none
  | _, _ => none
def modD (a b : D) : Option D := match a, b with
  | .int i, .int j => if 0 < j then some (.int (i % j)) else none
  | _, _ => none
def powD (a b : D) : Option D := match a, b with
  | .int i, .int j => if 0 ≤ j ∧ j ≤ 1000 ∧ i.natAbs < 2 ^ 64 then some (.int (i ^ j.toNat)) else none
  | _, _ => none
def binop (op : Op) (a b : D) : Option D := match op with
  | .add => addD a b
  | .sub => subD a b
  | .mul => mulD a b
  | .fdv => fdvD a b
  | .mod => modD a b
  | .pow => powD a b

/-- == of plain data -/
def pyEq (a b : D) : Option Bool := match a, b with
  | .bl x, .bl y => some (decide (x = y))
  | .str x, .str y => some (decide (x = y))
  | a, b => if okn 20 a && okn 20 b then some (decide (a = b)) else none
/-- x in xs -/
def inD (x : D) (xs : List D) : Option Bool := if okn 20 x && okns 20 xs then some (xs.any fun y => decide (y = x)) else none
def isIn (x d : D) : Option Bool := match d with
  | .tup xs => inD x xs
  | .lst xs => inD x xs
  | .dic b ks _ => if key b x then some (dhas ks x) else none
  | _ => none
def ltD (f : Int → Int → Bool) (a b : D) : Option Bool := match a, b with
  | .int i, .int j => some (f i j)
  | _, _ => none
def cmpop (op : Cm) (a b : D) : Option Bool := match op with
  | .lt => ltD (fun i j => decide (i < j)) a b
  | .le => ltD (fun i j => decide (i ≤ j)) a b
  | .gt => ltD (fun i j => decide (j < i)) a b
  | .ge => ltD (fun i j => decide (j ≤ i)) a b
  | .eq => pyEq a b
  | .ne => (pyEq a b).map not
  | .inn => isIn a b
  | .nin => (isIn a b).map not

/-- the built-in classes of isinstance -/
inductive Ty where
  | int | bool | str | tuple | list | dict
  deriving DecidableEq
def isTy (t : Ty) (d : D) : Bool := match t, d with
  | .int, .int _ => true
  | .int, .bl _ => true
  | .bool, .bl _ => true
  | .str, .str _ => true
  | .tuple, .tup _ => true
  | .list, .lst _ => true
  | .list, .rls _ => true
  | .dict, .dic _ _ _ => true
  | _, _ => false

def isTyO (t : Ty) (d : D) : Option Bool := match d with
  | .ptr _ => none
  | d => some (isTy t d)
/-- built-ins of one argument that is read -/
inductive Bi where
  | len | int | tuple | list | all | any | sum | max | min | abs
  deriving DecidableEq
def intL : List D → Option (List Int)
  | [] => some []
  | .int i :: r => (intL r).map (i :: ·)
  | _ :: _ => none
def boolL : List D → Option (List Bool)
  | [] => some []
  | .bl i :: r => (boolL r).map (i :: ·)
  | _ :: _ => none
def maxI : List Int → Option Int
  | [] => none
  | [x] => some x
  | x :: y :: r => (maxI (y :: r)).map fun m => if x ≤ m then m else x
def minI : List Int → Option Int
  | [] => none
  | [x] => some x
  | x :: y :: r => (minI (y :: r)).map fun m => if m ≤ x then m else x
def items : D → Option (List D)
  | .lst xs => some xs
  | .tup xs => some xs
  | .rls xs => some xs
  | _ => none
def builtin (b : Bi) (d : D) : Option D := match b, d with
  | .len, .lst xs => some (.int xs.length)
  | .len, .tup xs => some (.int xs.length)
  | .len, .rls xs => some (.int xs.length)
  | .len, .str s => some (.int s.length)
  | .len, .dic _ ks _ => some (.int ks.length)
  | .int, .int i => some (.int i)
  | .int, .bl b => some (.int (if b then 1 else 0))
  | .tuple, .lst xs => if ims xs then some (.tup xs) else none
  | .tuple, .tup xs => if ims xs then some (.tup xs) else none
  | .list, .lst xs => if ims xs then some (.lst xs) else none
  | .list, .tup xs => if ims xs then some (.lst xs) else none
  | .list, .rls xs => if ims xs then some (.lst xs) else none
  | .all, .lst xs => (boolL xs).map fun bs => .bl (bs.all id)
  | .any, .lst xs => (boolL xs).map fun bs => .bl (bs.any id)
  | .sum, .lst xs => (intL xs).map fun ns => .int ns.sum
  | .max, .lst xs => ((intL xs).bind maxI).map .int
  | .min, .lst xs => ((intL xs).bind minI).map .int
  | .abs, .int i => some (.int (if i < 0 then -i else i))
  | _, _ => none

/-- methods of one argument on a slot -/
inductive Me where
  | append | pop0 | popAt | index | extend
  deriving DecidableEq
def idxOf (x : D) : List D → Nat → Option Nat
  | [], _ => none
  | y :: r, n => if y = x then some n else idxOf x r (n + 1)

/-- targets: one slot, several -/
inductive Tg where
  | one (i : Nat) | many (is : List Nat)
def setMany : List Nat → List D → M Unit
  | [], [] => pur ()
  | i :: is, d :: ds => bnd (setS i d) fun _ => setMany is ds
  | _, _ => fun _ => none
def setT (t : Tg) (d : D) : M Unit := match t with
  | .one i => setS i d
  | .many is => match d with
    | .tup xs => setMany is xs
    | _ => fun _ => none
def Tg.slots : Tg → List Nat
  | .one i => [i]
  | .many is => is
/-- the slots of a comprehension's names: forgotten within, and behind it what could be moved stays forgotten -/
def wipeS (ρ : Rho) : List Nat → Rho
  | [] => ρ
  | v :: vs => (wipeS ρ vs).set v none
def wipeB (ρ : Rho) : List Nat → Rho
  | [] => ρ
  | v :: vs => match ρ[v]? with
    | some (some d) => if im d then wipeB ρ vs else (wipeB ρ vs).set v none
    | _ => wipeB ρ vs
/-- behind a block the slots at vs hold what they held -/
def backS (ρ0 ρ : Rho) : List Nat → Rho
  | [] => ρ
  | v :: vs => match ρ0[v]? with
    | some o => (backS ρ0 ρ vs).set v o
    | none => backS ρ0 ρ vs

def rangeD (lo hi : Int) : List D := (List.range (hi - lo).toNat).map fun i => D.int (lo + (i : Nat))
def rngOk (lo hi : Int) : Bool := decide (-(2 ^ 62) ≤ lo ∧ lo < 2 ^ 62 ∧ -(2 ^ 62) ≤ hi ∧ hi < 2 ^ 62 ∧ (hi - lo).toNat ≤ LIM)

mutual
inductive E where
  | var (i : Nat)
  | cst (c : D)
  | glb (j : Nat) (c : D)
  | bin (op : Op) (a b : E)
  | neg (a : E)
  | cmp (op : Cm) (a b : E)
  | chn (op op' : Cm) (a b c : E)
  | isN (a : E) | notN (a : E) | isT (a : E) | notT (a : E)
  | one (a : E) | and (a b : E) | or (a b : E) | not (a : E)
  | ife (c a b : E)
  | tup (es : List E) | lst (es : List E)
  | dnew (k : Bool) | dic1 (k : Bool) (a b : E)
  | ix (a i : E)
  | sl (a : E) (lo hi : Option E)
  | bi (b : Bi) (a : E)
  | isi (a : E) (t : Ty)
  | rgl (tp : Bool) (as : List E)
  | join (a b : E)
  | app (j : Nat) (a : E)
  | ext (j : Nat) (a : E)
  | popA (j : Nat) (a : E)
  | pop (j : Nat)
  | idx (a b : E)
  | call (f : Nat) (as : List E)
  | callK (f : Nat) (as : List E) (perm : List Nat)
  | lc (t : Tg) (own : List Nat) (it : It) (c : Option E) (e : E)
  | lc2 (t : Tg) (it : It) (t' : Tg) (it' : It) (own own' : List Nat) (e : E)
  | dc (k : Bool) (t : Tg) (own : List Nat) (it : It) (a b : E)
  | mx (mn : Bool) (a b : E)
inductive It where
  | seq (a : E)
  | rng (as : List E)
  | enum (a : E)
  | zip (a b : E)
  | keys (j : Nat)
  | items (j : Nat)
  | txt (a : E)
end
inductive Out where
  | nx | brk | cnt | ret (d : D)
inductive S where
  | set (i : Nat) (e : E)
  | par (is : List Nat) (es : List E)
  | unp (is : List Nat) (e : E)
  | put (j : Nat) (k e : E)
  | aug (i : Nat) (op : Op) (e : E)
  | augx (j : Nat) (op : Op) (k e : E)
  | exp (e : E)
  | ret (e : E)
  | ife (c : E) (a b : List S)
  | whl (c : E) (b : List S)
  | for_ (t : Tg) (it : It) (b : List S)
  | brk
  | cnt
  | pass
  | nev
end VS

set_option autoImplicit false
namespace VS
open D M

abbrev Gam := Nat → List D → Option (D × List (Option D))

def toB (d : D) : Option Bool := match d with
  | .bl b => some b
  | _ => none
def tB (m : M D) : M Bool := bnd m fun d => lif (toB d)
/-- a receiver: a slot is read behind the second operand -/
def rcv {α β : Type} (a : E) (ma : M D) (mi : M α) (f : D → α → M β) : M β := match a with
  | .var j => bnd (look j) fun _ => bnd mi fun k => bnd (look j) fun d => f d k
  | _ => bnd ma fun d => bnd mi fun k => f d k
/-- what is read at once -/
def rd (a : E) (ma : M D) : M D := match a with
  | .var j => look j
  | _ => ma
/-- arguments: slots are read when all others are there; what may change is moved out -/
def argT (e : E) (me : M D) : M D := match e with
  | .var j => bnd (look j) fun _ => pur .non
  | _ => me
def argF : List E → List D → M (List D)
  | [], [] => pur []
  | e :: es, d :: ds => bnd (match e with
      | .var j => take j
      | _ => pur d) fun x => bnd (argF es ds) fun r => pur (x :: r)
  | _, _ => fun _ => none
/-- what comes back into the slots -/
def backA : List E → List D → List (Option D) → Rho → Rho
  | e :: es, d :: ds, o :: os, ρ => match e with
    | .var j => if im d then backA es ds os ρ else (backA es ds os ρ).set j o
    | _ => backA es ds os ρ
  | _, _, _, ρ => ρ
def callM (Γ : Gam) (f : Nat) (es : List E) (mt : M (List D)) : M D := bnd mt fun ts => bnd (argF es ts) fun ds => fun ρ => match Γ f ds with
  | none => none
  | some (d, os) => some (d, backA es ds os ρ)
/-- a slot with a list -/
def lookL (j : Nat) : M Unit := fun ρ => match ρ[j]? with
  | some (some (.lst _)) => some ((), ρ)
  | _ => none
/-- a list's method: the slot holds a list ahead of the argument, too -/
def rcvL {α β : Type} (a : E) (ma : M D) (mi : M α) (f : D → α → M β) : M β := match a with
  | .var j => bnd (lookL j) fun _ => bnd mi fun k => bnd (look j) fun d => f d k
  | _ => bnd ma fun d => bnd mi fun k => f d k
def appD (d x : D) : Option D := match d with
  | .lst xs => if xs.length < LIM then some (.lst (xs ++ [x])) else none
  | _ => none
def extD (d x : D) : Option D := match d, x with
  | .lst xs, .lst ys => if xs.length + ys.length ≤ LIM then some (.lst (xs ++ ys)) else none
  | _, _ => none
def popD (d : D) (i : Int) : Option (D × D) := match d with
  | .lst xs => if xs.length ≤ LIM then match ixN xs.length i with
      | some j => match xs[j]? with
        | some x => some (x, .lst (xs.eraseIdx j))
        | none => none
      | none => none
    else none
  | _ => none
theorem appD_inv {d x l : D} (h : appD d x = some l) : ∃ xs, d = .lst xs ∧ xs.length < LIM ∧ l = .lst (xs ++ [x]) := by
  unfold appD at h
  split at h
  · split at h
    · cases h; exact ⟨_, rfl, by assumption, rfl⟩
    · cases h
  · cases h
theorem extD_inv {d x l : D} (h : extD d x = some l) : ∃ xs ys, d = .lst xs ∧ x = .lst ys ∧ xs.length + ys.length ≤ LIM ∧ l = .lst (xs ++ ys) := by
  unfold extD at h
  split at h
  · split at h
    · cases h; exact ⟨_, _, rfl, rfl, by assumption, rfl⟩
    · cases h
  · cases h
theorem popD_inv {d : D} {i : Int} {p : D × D} (h : popD d i = some p) : ∃ xs j x, d = .lst xs ∧ xs.length ≤ LIM ∧ ixN xs.length i = some j ∧ xs[j]? = some x ∧ p = (x, .lst (xs.eraseIdx j)) := by
  unfold popD at h
  split at h
  · split at h
    · split at h
      · split at h
        · cases h; exact ⟨_, _, _, rfl, by assumption, by assumption, by assumption, rfl⟩
        · cases h
      · cases h
    · cases h
  · cases h
def idxD (d x : D) : Option D := match d with
  | .lst xs => if okn 20 x && okns 20 xs then (idxOf x xs 0).map fun (n : Nat) => D.int (Int.ofNat n) else none
  | _ => none
def strL : List D → Option (List (List Nat))
  | [] => some []
  | .str s :: r => (strL r).map (s :: ·)
  | _ :: _ => none
def joinL (sep : List Nat) : List (List Nat) → List Nat
  | [] => []
  | [x] => x
  | x :: y :: r => x ++ sep ++ joinL sep (y :: r)
def joinD (a b : D) : Option D := match a with
  | .str sep => match items b with
    | some xs => match strL xs with
      | some ss => if (ss.map (·.length)).sum + ss.length * sep.length ≤ LIM then some (.str (joinL sep ss)) else none
      | none => none
    | none => none
  | _ => none
def putD (d k x : D) : Option D := match d with
  | .lst xs => match k with
    | .int i => match ixN xs.length i with
      | some j => some (.lst (xs.set j x))
      | none => none
    | _ => none
  | .dic b ks vs => if key b k && decide (ks.length < LIM) && decide (ks.length = vs.length) then some (.dic b (dput ks vs k x).1 (dput ks vs k x).2) else none
  | _ => none
def dic1D (b : Bool) (k x : D) : Option D := if key b k then some (.dic b [k] [x]) else none
def mxD (mn : Bool) (a b : D) : Option D := match a, b with
  | .int i, .int j => some (.int (if mn then (if j < i then j else i) else (if j > i then j else i)))
  | _, _ => none
def negD (d : D) : Option D := match d with
  | .int i => some (.int (-i))
  | _ => none
def rgI : List D → Option (Int × Int)
  | [.int j] => some (0, j)
  | [.int i, .int j] => some (i, j)
  | _ => none
def rgD (ds : List D) : Option (List D) := match rgI ds with
  | some (lo, hi) => if rngOk lo hi then some (rangeD lo hi) else none
  | none => none
/-- a loop over items: chk looks behind each turn -/
def lcL (b : D → M (Option D)) (chk : M Unit) : List D → List D → M (List D)
  | [], acc => pur acc
  | x :: xs, acc => bnd (b x) fun o => bnd chk fun _ => match o with
    | none => lcL b chk xs acc
    | some d => if acc.length < LIM then lcL b chk xs (acc ++ [d]) else fun _ => none
def dcL (k : Bool) (b : D → M (D × D)) (chk : M Unit) : List D → List D → List D → M D
  | [], ks, vs => pur (.dic k ks vs)
  | x :: xs, ks, vs => bnd (b x) fun p => bnd chk fun _ => if key k p.1 && decide (ks.length < LIM) then dcL k b chk xs (dput ks vs p.1 p.2).1 (dput ks vs p.1 p.2).2 else fun _ => none
/-- a turn of a block begins: its names are forgotten -/
def wip (own : List Nat) : M Unit := fun ρ => some ((), wipeS ρ own)
/-- a block with names of its own -/
def blk {α : Type} (own : List Nat) (m : M α) : M α := fun ρ => match m (wipeS ρ own) with
  | none => none
  | some (a, ρ') => some (a, backS (wipeB ρ own) ρ' own)
/-- a turn of a comprehension -/
def lcB (own : List Nat) (t : Tg) (c : M Bool) (e : M D) (x : D) : M (Option D) := bnd (wip own) fun _ => bnd (setT t x) fun _ => bnd c fun b => if b then bnd e fun d => pur (some d) else pur none
def dcB (own : List Nat) (t : Tg) (a b : M D) (x : D) : M (D × D) := bnd (wip own) fun _ => bnd (setT t x) fun _ => bnd a fun y => bnd b fun z => pur (y, z)
/-- the source still is what is walked -/
def still (a : E) (d : D) : M Unit := match a with
  | .var j => fun ρ => if ρ[j]? = some (some d) then some ((), ρ) else none
  | _ => pur ()
def itemsIm (d : D) : Option (D × List D) := match items d with
  | some xs => if ims xs then some (d, xs) else none
  | none => none
def itChk (it : It) (d : D) : M Unit := match it with
  | .seq a => still a d
  | _ => pur ()
def optI (o : Option D) : Option (Option Int) := match o with
  | none => some none
  | some (.int i) => some (some i)
  | _ => none

mutual
def ev (Γ : Gam) : E → M D
  | .var i => take i
  | .cst c => pur c
  | .glb _ c => pur c
  | .bin op a b => bnd (ev Γ a) fun x => bnd (ev Γ b) fun y => lif (binop op x y)
  | .neg a => bnd (ev Γ a) fun x => lif (negD x)
  | .cmp op a b => rcv a (ev Γ a) (rd b (ev Γ b)) fun x y => lif ((cmpop op x y).map .bl)
  | .chn op op' a b c => bnd (ev Γ a) fun x => bnd (ev Γ b) fun y => bnd (lif (cmpop op x y)) fun t => if t then bnd (ev Γ c) fun z => lif ((cmpop op' y z).map .bl) else pur (.bl false)
  | .isN a => bnd (ev Γ a) fun x => pur (.bl (decide (x = .non)))
  | .notN a => bnd (ev Γ a) fun x => pur (.bl (!decide (x = .non)))
  | .isT a => bnd (ev Γ a) fun x => lif ((toB x).map .bl)
  | .notT a => bnd (ev Γ a) fun x => lif ((toB x).map fun b => .bl (!b))
  | .one a => ev Γ a
  | .and a b => bnd (tB (ev Γ a)) fun c => if c then ev Γ b else pur (.bl false)
  | .or a b => bnd (tB (ev Γ a)) fun c => if c then pur (.bl true) else ev Γ b
  | .not a => bnd (tB (ev Γ a)) fun c => pur (.bl (!c))
  | .ife c a b => bnd (tB (ev Γ c)) fun t => if t then ev Γ a else ev Γ b
  | .tup es => bnd (evs Γ es) fun ds => if ds.length ≤ LIM then pur (.tup ds) else fun _ => none
  | .lst es => bnd (evs Γ es) fun ds => if ds.length ≤ LIM then pur (.lst ds) else fun _ => none
  | .dnew k => pur (.dic k [] [])
  | .dic1 k a b => bnd (ev Γ a) fun x => bnd (ev Γ b) fun y => lif (dic1D k x y)
  | .ix a i => rcv a (ev Γ a) (ev Γ i) fun d k => lif (index d k)
  | .sl a lo hi => rcv a (ev Γ a) (bnd (evo Γ lo) fun l => bnd (evo Γ hi) fun h => pur (l, h)) fun d p => lif (match optI p.1, optI p.2 with
      | some l, some h => slice d l h
      | _, _ => none)
  | .bi b a => bnd (rd a (ev Γ a)) fun d => lif (builtin b d)
  | .isi a t => bnd (rd a (ev Γ a)) fun d => lif ((isTyO t d).map .bl)
  | .rgl tp as => bnd (evs Γ as) fun ds => lif ((rgD ds).map fun xs => if tp then .tup xs else .lst xs)
  | .join a b => bnd (ev Γ a) fun x => bnd (rd b (ev Γ b)) fun y => lif (joinD x y)
  | .app j a => bnd (lookL j) fun _ => bnd (ev Γ a) fun d => bnd (look j) fun l => bnd (lif (appD l d)) fun l' => bnd (setS j l') fun _ => pur .non
  | .ext j a => bnd (lookL j) fun _ => bnd (ev Γ a) fun d => bnd (look j) fun l => bnd (lif (extD l d)) fun l' => bnd (setS j l') fun _ => pur .non
  | .popA j a => bnd (lookL j) fun _ => bnd (ev Γ a) fun i => bnd (look j) fun l => bnd (lif (match i with
      | .int n => popD l n
      | _ => none)) fun p => bnd (setS j p.2) fun _ => pur p.1
  | .pop j => bnd (look j) fun l => bnd (lif (popD l (-1))) fun p => bnd (setS j p.2) fun _ => pur p.1
  | .idx a b => rcvL a (ev Γ a) (ev Γ b) fun d x => lif (idxD d x)
  | .call f as => callM Γ f as (evT Γ as)
  | .callK _ _ _ => fun _ => none
  | .lc t own it c e => bnd (evI Γ it) fun p => blk own (bnd (lcL (lcB own t (tB (evc Γ c)) (ev Γ e)) (itChk it p.1) p.2 []) fun ds => pur (.lst ds))
  | .lc2 _ _ _ _ _ _ _ => fun _ => none
  | .dc k t own it a b => bnd (evI Γ it) fun p => blk own (dcL k (dcB own t (ev Γ a) (ev Γ b)) (itChk it p.1) p.2 [] [])
  | .mx mn a b => bnd (ev Γ a) fun x => bnd (ev Γ b) fun y => lif (mxD mn x y)
def evs (Γ : Gam) : List E → M (List D)
  | [] => pur []
  | e :: es => bnd (ev Γ e) fun d => bnd (evs Γ es) fun ds => pur (d :: ds)
def evT (Γ : Gam) : List E → M (List D)
  | [] => pur []
  | e :: es => bnd (argT e (ev Γ e)) fun d => bnd (evT Γ es) fun ds => pur (d :: ds)
def evo (Γ : Gam) : Option E → M (Option D)
  | none => pur none
  | some e => bnd (ev Γ e) fun d => pur (some d)
def evc (Γ : Gam) : Option E → M D
  | none => pur (.bl true)
  | some e => ev Γ e
/-- what is walked: the source, its items -/
def evI (Γ : Gam) : It → M (D × List D)
  | .seq a => bnd (rd a (ev Γ a)) fun d => lif (itemsIm d)
  | .rng as => bnd (evs Γ as) fun ds => lif ((rgD ds).map fun xs => (.non, xs))
  | .enum _ => fun _ => none
  | .zip _ _ => fun _ => none
  | .keys _ => fun _ => none
  | .items _ => fun _ => none
  | .txt a => bnd (ev Γ a) fun d => lif (match d with
      | .str s => some (.non, s.map fun c => .str [c])
      | _ => none)
end
/-- while -/
def whL (c : M Bool) (b : M Out) : Nat → M Out
  | 0 => fun _ => none
  | n + 1 => bnd c fun t => if t then bnd b fun o => match o with
      | .nx => whL c b n
      | .cnt => whL c b n
      | .brk => pur .nx
      | .ret d => pur (.ret d)
    else pur .nx
/-- for -/
def frL (b : D → M Out) (chk : M Unit) : List D → M Out
  | [] => pur .nx
  | x :: xs => bnd (b x) fun o => match o with
    | .nx => bnd chk fun _ => frL b chk xs
    | .cnt => bnd chk fun _ => frL b chk xs
    | .brk => pur .nx
    | .ret d => pur (.ret d)
def parS : List Nat → List D → M Unit
  | [], [] => pur ()
  | i :: is, d :: ds => bnd (parS is ds) fun _ => setS i d
  | _, _ => fun _ => none
mutual
def ex (Γ : Gam) : S → M Out
  | .set i e => bnd (ev Γ e) fun d => bnd (setS i d) fun _ => pur .nx
  | .par is es => bnd (evs Γ es) fun ds => bnd (parS is ds) fun _ => pur .nx
  | .unp is e => bnd (ev Γ e) fun d => bnd (setT (.many is) d) fun _ => pur .nx
  | .put j k e => bnd (ev Γ e) fun d => bnd (look j) fun _ => bnd (ev Γ k) fun i => bnd (look j) fun c => bnd (lif (putD c i d)) fun c' => bnd (setS j c') fun _ => pur .nx
  | .aug i op e => bnd (take i) fun x => bnd (ev Γ e) fun y => bnd (lif (binop op x y)) fun z => bnd (setS i z) fun _ => pur .nx
  | .augx j op k e => bnd (look j) fun _ => bnd (ev Γ k) fun i => bnd (look j) fun c => bnd (lif (index c i)) fun x => bnd (ev Γ e) fun y => bnd (lif (binop op x y)) fun z => bnd (look j) fun c => bnd (lif (putD c i z)) fun c' => bnd (setS j c') fun _ => pur .nx
  | .exp e => bnd (ev Γ e) fun _ => pur .nx
  | .ret e => bnd (ev Γ e) fun d => pur (.ret d)
  | .ife c a b => bnd (tB (ev Γ c)) fun t => if t then exs Γ a else exs Γ b
  | .whl c b => whL (tB (ev Γ c)) (exs Γ b) FUEL
  | .for_ t it b => bnd (evI Γ it) fun p => frL (fun x => bnd (setT t x) fun _ => exs Γ b) (itChk it p.1) p.2
  | .brk => pur .brk
  | .cnt => pur .cnt
  | .pass => pur .nx
  | .nev => fun _ => none
def exs (Γ : Gam) : List S → M Out
  | [] => pur .nx
  | s :: ss => bnd (ex Γ s) fun o => match o with
    | .nx => exs Γ ss
    | o => pur o
end
mutual
/-- the slots that a statement stores -/
def asg : S → List Nat
  | .set i _ => [i]
  | .par is _ => is
  | .unp is _ => is
  | .aug i _ _ => [i]
  | .ife _ a b => asgs a ++ asgs b
  | .whl _ b => asgs b
  | .for_ t _ b => t.slots ++ asgs b
  | _ => []
def asgs : List S → List Nat
  | [] => []
  | s :: ss => asg s ++ asgs ss
end
structure Fd where
  np : Nat
  ns : Nat
  body : List S
/-- what a call leaves of its arguments: those that the body stores anew are lost -/
def outs (as : List Nat) : Nat → List (Option D) → List (Option D)
  | _, [] => []
  | i, o :: os => (if as.contains i then none else o) :: outs as (i + 1) os
def runF (Γ : Gam) (d : Fd) (ds : List D) : Option (D × List (Option D)) :=
  if ds.length = d.np then match exs Γ d.body (ds.map some ++ List.replicate (d.ns - d.np) none) with
    | some (.ret v, ρ) => some (v, outs (asgs d.body) 0 (ρ.take d.np))
    | some (.nx, ρ) => some (.non, outs (asgs d.body) 0 (ρ.take d.np))
    | _ => none
  else none
/-- a def of the table: its body, or what it is known to do -/
inductive Fn where
  | code (d : Fd)
  | nat (g : List D → Option (D × List (Option D)))
/-- the meaning of the defs of a table, calls n deep -/
def sem (T : List Fn) : Nat → Gam
  | 0, _, _ => none
  | n + 1, f, ds => match T[f]? with
    | some (.code d) => runF (sem T n) d ds
    | some (.nat g) => g ds
    | none => none
end VS

set_option Elab.async false
set_option linter.all false
set_option autoImplicit false
set_option maxRecDepth 100000
set_option maxHeartbeats 1000000
namespace VS
open D M
/-- the draw: what stands behind «cells = purse[0]» -/
def tkRest : List S := [
  .put 0 (.cst (.int 2)) (.bin .add (.ix (.var 0) (.cst (.int 2))) (.cst (.int 1))),
  .ife (.or (.cmp .eq (.bi .len (.var 2)) (.cst (.int 0))) (.one (.cmp .lt (.var 1) (.cst (.int 2))))) [.ret (.cst (.int 0))] [],
  .set 3 (.bin .mod (.bi .int (.ix (.var 0) (.cst (.int 1)))) (.bi .len (.var 2))),
  .put 0 (.cst (.int 1)) (.bin .add (.var 3) (.cst (.int 1))),
  .set 4 (.bi .int (.ix (.var 2) (.var 3))),
  .ife (.cmp .ge (.var 4) (.bin .pow (.cst (.int 10)) (.cst (.int 18)))) [.put 2 (.var 3) (.bin .fdv (.var 4) (.var 1)),
     .ret (.bin .mod (.bi .int (.var 4)) (.var 1))] [],
  .set 5 (.bin .mod (.bi .int (.bin .add (.bin .add (.bin .mul (.var 4) (.cst (.int 69621))) (.bin .mul (.ix (.var 0) (.cst (.int 2))) (.cst (.int 40014)))) (.cst (.int 30269)))) (.cst (.int 2147483647))),
  .set 5 (.bin .mod (.bi .int (.bin .add (.bin .mul (.var 5) (.var 5)) (.bin .mul (.ix (.var 0) (.cst (.int 2))) (.cst (.int 7211))))) (.cst (.int 2147483629))),
  .set 5 (.bin .mod (.bi .int (.bin .mul (.var 5) (.var 5))) (.cst (.int 2147483587))),
  .ret (.bin .mod (.bi .int (.bin .fdv (.var 5) (.cst (.int 64)))) (.var 1))]
def takeI (ns : List Int) (a n m : Int) : Option (Int × List Int × Int) :=
  if ns.length = 0 ∨ m < 2 then some (0, ns, a)
  else if m < 1073741824 then
    if 1000000000000000000 ≤ ns.getD (a % ns.length).toNat 0 then some (ns.getD (a % ns.length).toNat 0 % m, ns.set (a % ns.length).toNat (ns.getD (a % ns.length).toNat 0 / m), a % ns.length + 1)
    else some ((((ns.getD (a % ns.length).toNat 0 * 69621 + (n + 1) * 40014 + 30269) % 2147483647 * ((ns.getD (a % ns.length).toNat 0 * 69621 + (n + 1) * 40014 + 30269) % 2147483647) + (n + 1) * 7211) % 2147483629 *
      (((ns.getD (a % ns.length).toNat 0 * 69621 + (n + 1) * 40014 + 30269) % 2147483647 * ((ns.getD (a % ns.length).toNat 0 * 69621 + (n + 1) * 40014 + 30269) % 2147483647) + (n + 1) * 7211) % 2147483629) % 2147483587) / 64 % m, ns, a % ns.length + 1)
  else none
theorem bnd_eq {α β : Type} {x : M α} {f : α → M β} {ρ ρ' : Rho} {a : α} (h : x ρ = some (a, ρ')) : bnd x f ρ = f a ρ' := by
  unfold bnd
  rw [h]
theorem exs_cons (Γ : Gam) (s : S) (ss : List S) (ρ : Rho) : exs Γ (s :: ss) ρ = match ex Γ s ρ with
    | none => none
    | some (.nx, ρ') => exs Γ ss ρ'
    | some (.brk, ρ') => some (.brk, ρ')
    | some (.cnt, ρ') => some (.cnt, ρ')
    | some (.ret d, ρ') => some (.ret d, ρ') := by
  show bnd (ex Γ s) _ ρ = _
  unfold bnd
  cases h : ex Γ s ρ with
  | none => rfl
  | some p =>
    obtain ⟨o, ρ'⟩ := p
    cases o <;> rfl
theorem exs_nx {Γ : Gam} {s : S} {ss : List S} {ρ ρ' : Rho} (h : ex Γ s ρ = some (.nx, ρ')) : exs Γ (s :: ss) ρ = exs Γ ss ρ' := by
  rw [exs_cons, h]
theorem exs_ret {Γ : Gam} {s : S} {ss : List S} {ρ ρ' : Rho} {d : D} (h : ex Γ s ρ = some (.ret d, ρ')) : exs Γ (s :: ss) ρ = some (.ret d, ρ') := by
  rw [exs_cons, h]
section
variable {Γ : Gam} {q : Nat} {ns : List Int} {a n m : Int} {x y z : Option D}
def R0 (q : Nat) (ns : List Int) (a n m : Int) (x y z : Option D) : Rho := [some (.lst [.ptr q, .int a, .int n]), some (.int m), some (.lst (ns.map .int)), x, y, z]
theorem tk1 : ex Γ (.put 0 (.cst (.int 2)) (.bin .add (.ix (.var 0) (.cst (.int 2))) (.cst (.int 1)))) (R0 q ns a n m x y z) = some (.nx, R0 q ns a (n + 1) m x y z) := by
  rfl
theorem tk2 (h : ns.length = 0 ∨ m < 2) : ex Γ (.ife (.or (.cmp .eq (.bi .len (.var 2)) (.cst (.int 0))) (.one (.cmp .lt (.var 1) (.cst (.int 2))))) [.ret (.cst (.int 0))] []) (R0 q ns a n m x y z) = some (.ret (.int 0), R0 q ns a n m x y z) := by
  by_cases h0 : ns.length = 0
  · simp [ex, exs, ev, tB, bnd, rcv, rd, look, lif, pur, R0, builtin, cmpop, pyEq, okn, toB, h0]
  · have h1 : m < 2 := h.resolve_left h0
    have h0' : ¬ ns = [] := fun z => h0 (by rw [z]; rfl)
    have h2 : ¬ ((ns.length : Int) = 0) := by omega
    simp [ex, exs, ev, tB, bnd, rcv, rd, look, lif, pur, R0, builtin, cmpop, pyEq, okn, toB, h0, h0', h1, h2, ltD]
theorem tk2n (h : ¬ (ns.length = 0 ∨ m < 2)) : ex Γ (.ife (.or (.cmp .eq (.bi .len (.var 2)) (.cst (.int 0))) (.one (.cmp .lt (.var 1) (.cst (.int 2))))) [.ret (.cst (.int 0))] []) (R0 q ns a n m x y z) = some (.nx, R0 q ns a n m x y z) := by
  have h0 : ¬ ns.length = 0 := fun z => h (.inl z)
  have h1 : ¬ m < 2 := fun z => h (.inr z)
  have h0' : ¬ ns = [] := fun z => h0 (by rw [z]; rfl)
  have h2 : ¬ ((ns.length : Int) = 0) := by omega
  simp [ex, exs, ev, tB, bnd, rcv, rd, look, lif, pur, R0, builtin, cmpop, pyEq, okn, toB, h0, h0', h1, h2, ltD]
theorem tk3 (h : 0 < ns.length) : ex Γ (.set 3 (.bin .mod (.bi .int (.ix (.var 0) (.cst (.int 1)))) (.bi .len (.var 2)))) (R0 q ns a n m x y z) = some (.nx, R0 q ns a n m (some (.int (a % ns.length))) y z) := by
  have h1 : (0 : Int) < ns.length := by omega
  simp [ex, ev, bnd, rcv, rd, look, lif, pur, R0, builtin, index, imO, atD, ixN, binop, modD, setS, im, h1, h]
theorem tk4 {t : Int} : ex Γ (.put 0 (.cst (.int 1)) (.bin .add (.var 3) (.cst (.int 1)))) (R0 q ns a n m (some (.int t)) y z) = some (.nx, R0 q ns (t + 1) n m (some (.int t)) y z) := rfl
theorem tk5 {t : Int} (h0 : 0 ≤ t) (h1 : t < ns.length) : ex Γ (.set 4 (.bi .int (.ix (.var 2) (.var 3)))) (R0 q ns a n m (some (.int t)) y z) = some (.nx, R0 q ns a n m (some (.int t)) (some (.int (ns.getD t.toNat 0))) z) := by
  have h2 : t.toNat < ns.length := by omega
  have e : (ns.map D.int)[t.toNat]? = some (.int (ns.getD t.toNat 0)) := by
    rw [List.getElem?_map, List.getElem?_eq_getElem h2, List.getD_eq_getElem?_getD, List.getElem?_eq_getElem h2]
    rfl
  simp [ex, ev, bnd, rcv, rd, look, take, lif, pur, R0, builtin, index, imO, atD, ixN, setS, im, h0, h1, e]
theorem tk6 {t c : Int} (h : ¬ 1000000000000000000 ≤ c) : ex Γ (.ife (.cmp .ge (.var 4) (.bin .pow (.cst (.int 10)) (.cst (.int 18)))) [.put 2 (.var 3) (.bin .fdv (.var 4) (.var 1)),
     .ret (.bin .mod (.bi .int (.var 4)) (.var 1))] []) (R0 q ns a n m (some (.int t)) (some (.int c)) z) = some (.nx, R0 q ns a n m (some (.int t)) (some (.int c)) z) := by
  simp [ex, exs, ev, tB, bnd, rcv, rd, look, take, lif, pur, R0, builtin, cmpop, binop, powD, im, ltD, toB, h]
theorem tk6y {t c : Int} (h0 : 0 ≤ t) (h1 : t < ns.length) (hm : 0 < m) (hm2 : m < 1073741824) (h : 1000000000000000000 ≤ c) : ex Γ (.ife (.cmp .ge (.var 4) (.bin .pow (.cst (.int 10)) (.cst (.int 18)))) [.put 2 (.var 3) (.bin .fdv (.var 4) (.var 1)),
     .ret (.bin .mod (.bi .int (.var 4)) (.var 1))] []) (R0 q ns a n m (some (.int t)) (some (.int c)) z) = some (.ret (.int (c % m)), R0 q (ns.set t.toNat (c / m)) a n m (some (.int t)) (some (.int c)) z) := by
  simp [ex, exs, ev, tB, bnd, rcv, rd, look, take, lif, pur, R0, builtin, cmpop, binop, powD, fdvD, modD, im, ltD, toB, putD, setS, ixN, h, h0, h1, hm, hm2, List.map_set]
theorem tk7 {t c : Int} : ex Γ (.set 5 (.bin .mod (.bi .int (.bin .add (.bin .add (.bin .mul (.var 4) (.cst (.int 69621))) (.bin .mul (.ix (.var 0) (.cst (.int 2))) (.cst (.int 40014)))) (.cst (.int 30269)))) (.cst (.int 2147483647)))) (R0 q ns a n m (some (.int t)) (some (.int c)) z) =
    some (.nx, R0 q ns a n m (some (.int t)) (some (.int c)) (some (.int ((c * 69621 + n * 40014 + 30269) % 2147483647)))) := by
  simp [ex, ev, bnd, rcv, rd, look, take, lif, pur, R0, builtin, index, imO, atD, ixN, binop, modD, mulD, addD, smallI, setS, im]
theorem tk8 {t c k : Int} (h0 : 0 ≤ k) (h1 : k < 2147483648) : ex Γ (.set 5 (.bin .mod (.bi .int (.bin .add (.bin .mul (.var 5) (.var 5)) (.bin .mul (.ix (.var 0) (.cst (.int 2))) (.cst (.int 7211))))) (.cst (.int 2147483629)))) (R0 q ns a n m (some (.int t)) (some (.int c)) (some (.int k))) =
    some (.nx, R0 q ns a n m (some (.int t)) (some (.int c)) (some (.int ((k * k + n * 7211) % 2147483629)))) := by
  have e : smallI k = true := decide_eq_true (by have : k.natAbs < 2147483648 := by omega
                                                 exact Nat.lt_of_lt_of_le this (by decide))
  simp [ex, ev, bnd, rcv, rd, look, take, lif, pur, R0, builtin, index, imO, atD, ixN, binop, modD, mulD, addD, e, setS, im]
  simp [smallI]
theorem tk9 {t c k : Int} (h0 : 0 ≤ k) (h1 : k < 2147483648) : ex Γ (.set 5 (.bin .mod (.bi .int (.bin .mul (.var 5) (.var 5))) (.cst (.int 2147483587)))) (R0 q ns a n m (some (.int t)) (some (.int c)) (some (.int k))) =
    some (.nx, R0 q ns a n m (some (.int t)) (some (.int c)) (some (.int ((k * k) % 2147483587)))) := by
  have e : smallI k = true := decide_eq_true (by have : k.natAbs < 2147483648 := by omega
                                                 exact Nat.lt_of_lt_of_le this (by decide))
  simp [ex, ev, bnd, rcv, rd, look, take, lif, pur, R0, builtin, index, imO, atD, ixN, binop, modD, mulD, addD, e, setS, im]
theorem tk10 {t c k : Int} (hm : 0 < m) : ex Γ (.ret (.bin .mod (.bi .int (.bin .fdv (.var 5) (.cst (.int 64)))) (.var 1))) (R0 q ns a n m (some (.int t)) (some (.int c)) (some (.int k))) =
    some (.ret (.int (k / 64 % m)), R0 q ns a n m (some (.int t)) (some (.int c)) (some (.int k))) := by
  simp [ex, ev, bnd, rcv, rd, look, take, lif, pur, R0, builtin, binop, modD, fdvD, setS, im, hm]
theorem tk_run {r : Int} {ns' : List Int} {a' : Int} (h : takeI ns a n m = some (r, ns', a')) : ∃ x y z, exs Γ tkRest (R0 q ns a n m none none none) = some (.ret (.int r), R0 q ns' a' (n + 1) m x y z) := by
  unfold takeI at h
  unfold tkRest
  rw [exs_nx tk1]
  split at h
  · rename_i hc
    cases h
    exact ⟨_, _, _, exs_ret (tk2 hc)⟩
  · rename_i hc
    rw [exs_nx (tk2n hc)]
    have hl : 0 < ns.length := by omega
    have hm : 2 ≤ m := by omega
    split at h
    · rename_i hm2
      have hb : (0 : Int) < ns.length := by omega
      have b0 := Int.emod_nonneg a (b := ns.length) (by omega)
      have b1 := Int.emod_lt_of_pos a hb
      rw [exs_nx (tk3 hl), exs_nx tk4, exs_nx (tk5 b0 b1)]
      split at h
      · rename_i hbig
        cases h
        exact ⟨_, _, _, exs_ret (tk6y b0 b1 (by omega) hm2 hbig)⟩
      · rename_i hbig
        cases h
        rw [exs_nx (tk6 hbig), exs_nx tk7, exs_nx (tk8 (Int.emod_nonneg _ (by decide)) (Int.lt_of_lt_of_le (Int.emod_lt_of_pos _ (by decide)) (by decide))), exs_nx (tk9 (Int.emod_nonneg _ (by decide)) (Int.lt_of_lt_of_le (Int.emod_lt_of_pos _ (by decide)) (by decide)))]
        exact ⟨_, _, _, exs_ret (tk10 (by omega))⟩
    · cases h
theorem takeI_r {r : Int} {ns' : List Int} {a' : Int} (h : takeI ns a n m = some (r, ns', a')) (hm : 1 ≤ m) : 0 ≤ r ∧ r < m ∧ ns'.length = ns.length := by
  unfold takeI at h
  split at h
  · cases h
    exact ⟨by omega, by omega, rfl⟩
  · split at h
    · split at h
      · cases h
        exact ⟨Int.emod_nonneg _ (by omega), Int.emod_lt_of_pos _ (by omega), by simp⟩
      · cases h
        exact ⟨Int.emod_nonneg _ (by omega), Int.emod_lt_of_pos _ (by omega), rfl⟩
    · cases h
theorem takeI_some (hm : m < 1073741824) : ∃ r ns' a', takeI ns a n m = some (r, ns', a') := by
  unfold takeI
  split
  · exact ⟨_, _, _, rfl⟩
  · split
    · exact ⟨_, _, _, rfl⟩
    · exact ⟨_, _, _, rfl⟩
/-- what _law_take does -/
def takeD : List D → Option (D × List (Option D))
  | [.lst [.lst cells, .int a, .int n], .int m] => match intL cells with
    | some ns => match takeI ns a n m with
      | some (r, ns', a') => some (.int r, [some (.lst [.lst (ns'.map .int), .int a', .int (n + 1)]), none])
      | none => none
    | none => none
  | _ => none
end
def mkTab (fds : List (Option Fd)) : List Fn := fds.map fun o => match o with
  | some d => .code d
  | none => .nat takeD
end VS

set_option Elab.async false
set_option linter.all false
set_option autoImplicit false
set_option maxRecDepth 100000
set_option maxHeartbeats 1000000
namespace VS
open D M
/-! ### running: lemmas -/
theorem tB_eq {f : M D} {ρ ρ' : Rho} {b : Bool} (h : f ρ = some (.bl b, ρ')) : tB f ρ = some (b, ρ') := by
  unfold tB bnd
  rw [h]
  rfl
theorem backA_im : ∀ (es : List E) (ds : List D) (os : List (Option D)) (ρ : Rho), ims ds = true → backA es ds os ρ = ρ
  | [], _, _, _, _ => by simp [backA]
  | _ :: _, [], _, _, _ => by simp [backA]
  | _ :: _, _ :: _, [], _, _ => by simp [backA]
  | e :: es, d :: ds, o :: os, ρ, h => by
    simp only [ims, Bool.and_eq_true] at h
    have ih := backA_im es ds os ρ h.2
    cases e <;> simp [backA, h.1, ih]
theorem call_im {Γ : Gam} {f : Nat} {es : List E} {ts ds : List D} {ρ ρ1 ρ2 : Rho} {v : D} (h1 : evT Γ es ρ = some (ts, ρ1)) (h2 : argF es ts ρ1 = some (ds, ρ2)) (him : ims ds = true) (hg : ∃ os, Γ f ds = some (v, os)) : callM Γ f es (evT Γ es) ρ = some (v, ρ2) := by
  obtain ⟨os, hg⟩ := hg
  unfold callM
  rw [bnd_eq h1, bnd_eq h2]
  simp only [hg, backA_im _ _ _ _ him]
theorem sem_code {T : List Fn} {n f : Nat} {d : Fd} (h : T[f]? = some (.code d)) (ds : List D) : sem T (n + 1) f ds = runF (sem T n) d ds := by simp only [sem, h]
theorem sem_nat {T : List Fn} {n f : Nat} {g : List D → Option (D × List (Option D))} (h : T[f]? = some (.nat g)) (ds : List D) : sem T (n + 1) f ds = g ds := by simp only [sem, h]
theorem runF_ret {Γ : Gam} {d : Fd} {ds : List D} {v : D} {ρ' : Rho} (hl : ds.length = d.np) (h : exs Γ d.body (ds.map some ++ List.replicate (d.ns - d.np) none) = some (.ret v, ρ')) : ∃ os, runF Γ d ds = some (v, os) := by
  unfold runF
  rw [if_pos hl, h]
  exact ⟨_, rfl⟩
theorem runF_nx {Γ : Gam} {d : Fd} {ds : List D} {ρ' : Rho} (hl : ds.length = d.np) (h : exs Γ d.body (ds.map some ++ List.replicate (d.ns - d.np) none) = some (.nx, ρ')) : ∃ os, runF Γ d ds = some (.non, os) := by
  unfold runF
  rw [if_pos hl, h]
  exact ⟨_, rfl⟩
theorem exs_nil {Γ : Gam} {ρ : Rho} : exs Γ [] ρ = some (.nx, ρ) := rfl
theorem ife_t {Γ : Gam} {c : E} {a b : List S} {ρ ρ' : Rho} (h : ev Γ c ρ = some (.bl true, ρ')) : ex Γ (.ife c a b) ρ = exs Γ a ρ' := by
  show bnd (tB (ev Γ c)) _ ρ = _
  rw [bnd_eq (tB_eq h)]
  rfl
theorem ife_f {Γ : Gam} {c : E} {a b : List S} {ρ ρ' : Rho} (h : ev Γ c ρ = some (.bl false, ρ')) : ex Γ (.ife c a b) ρ = exs Γ b ρ' := by
  show bnd (tB (ev Γ c)) _ ρ = _
  rw [bnd_eq (tB_eq h)]
  rfl
theorem set_eq {Γ : Gam} {i : Nat} {e : E} {ρ ρ' : Rho} {d : D} (h : ev Γ e ρ = some (d, ρ')) (hi : i < ρ'.length) : ex Γ (.set i e) ρ = some (.nx, ρ'.set i (some d)) := by
  show bnd (ev Γ e) _ ρ = _
  rw [bnd_eq h]
  show bnd (setS i d) _ ρ' = _
  unfold bnd setS
  rw [if_pos hi]
  rfl
theorem ret_eq {Γ : Gam} {e : E} {ρ ρ' : Rho} {d : D} (h : ev Γ e ρ = some (d, ρ')) : ex Γ (.ret e) ρ = some (.ret d, ρ') := by
  show bnd (ev Γ e) _ ρ = _
  rw [bnd_eq h]
  rfl
theorem exp_eq {Γ : Gam} {e : E} {ρ ρ' : Rho} {d : D} (h : ev Γ e ρ = some (d, ρ')) : ex Γ (.exp e) ρ = some (.nx, ρ') := by
  show bnd (ev Γ e) _ ρ = _
  rw [bnd_eq h]
  rfl
theorem and_t {Γ : Gam} {a b : E} {ρ ρ' : Rho} (h : ev Γ a ρ = some (.bl true, ρ')) : ev Γ (.and a b) ρ = ev Γ b ρ' := by
  show bnd (tB (ev Γ a)) _ ρ = _
  rw [bnd_eq (tB_eq h)]
  rfl
theorem and_f {Γ : Gam} {a b : E} {ρ ρ' : Rho} (h : ev Γ a ρ = some (.bl false, ρ')) : ev Γ (.and a b) ρ = some (.bl false, ρ') := by
  show bnd (tB (ev Γ a)) _ ρ = _
  rw [bnd_eq (tB_eq h)]
  rfl
theorem or_t {Γ : Gam} {a b : E} {ρ ρ' : Rho} (h : ev Γ a ρ = some (.bl true, ρ')) : ev Γ (.or a b) ρ = some (.bl true, ρ') := by
  show bnd (tB (ev Γ a)) _ ρ = _
  rw [bnd_eq (tB_eq h)]
  rfl
theorem or_f {Γ : Gam} {a b : E} {ρ ρ' : Rho} (h : ev Γ a ρ = some (.bl false, ρ')) : ev Γ (.or a b) ρ = ev Γ b ρ' := by
  show bnd (tB (ev Γ a)) _ ρ = _
  rw [bnd_eq (tB_eq h)]
  rfl
theorem one_eq {Γ : Gam} {a : E} {ρ : Rho} : ev Γ (.one a) ρ = ev Γ a ρ := rfl
theorem not_eq {Γ : Gam} {a : E} {ρ ρ' : Rho} {b : Bool} (h : ev Γ a ρ = some (.bl b, ρ')) : ev Γ (.not a) ρ = some (.bl (!b), ρ') := by
  show bnd (tB (ev Γ a)) _ ρ = _
  rw [bnd_eq (tB_eq h)]
  rfl
theorem frL_nil {b : D → M Out} {chk : M Unit} {ρ : Rho} : frL b chk [] ρ = some (.nx, ρ) := rfl
theorem frL_nx {b : D → M Out} {chk : M Unit} {x : D} {xs : List D} {ρ ρ1 ρ2 : Rho} (h : b x ρ = some (.nx, ρ1)) (h2 : chk ρ1 = some ((), ρ2)) : frL b chk (x :: xs) ρ = frL b chk xs ρ2 := by
  show bnd (b x) _ ρ = _
  rw [bnd_eq h]
  show bnd chk _ ρ1 = _
  rw [bnd_eq h2]
theorem frL_ret {b : D → M Out} {chk : M Unit} {x d : D} {xs : List D} {ρ ρ1 : Rho} (h : b x ρ = some (.ret d, ρ1)) : frL b chk (x :: xs) ρ = some (.ret d, ρ1) := by
  show bnd (b x) _ ρ = _
  rw [bnd_eq h]
  rfl
theorem whL_f {c : M Bool} {b : M Out} {n : Nat} {ρ ρ1 : Rho} (h : c ρ = some (false, ρ1)) : whL c b (n + 1) ρ = some (.nx, ρ1) := by
  show bnd c _ ρ = _
  rw [bnd_eq h]
  rfl
theorem whL_t {c : M Bool} {b : M Out} {n : Nat} {ρ ρ1 ρ2 : Rho} (h : c ρ = some (true, ρ1)) (h2 : b ρ1 = some (.nx, ρ2)) : whL c b (n + 1) ρ = whL c b n ρ2 := by
  show bnd c _ ρ = _
  rw [bnd_eq h]
  show bnd b _ ρ1 = _
  rw [bnd_eq h2]
/-! ### expressions, rule by rule -/
section
variable {Γ : Gam} {ρ ρ1 ρ2 ρ3 : Rho} {a b i e : E} {j : Nat} {x y z d v : D}
theorem e_var (h : ρ[j]? = some (some d)) (hi : im d = true) : ev Γ (.var j) ρ = some (d, ρ) := by
  show take j ρ = _
  unfold take
  rw [h]
  simp only [hi, if_true]
theorem e_cst : ev Γ (.cst d) ρ = some (d, ρ) := rfl
theorem e_glb : ev Γ (.glb j d) ρ = some (d, ρ) := rfl
theorem lif_eq {α : Type} {o : Option α} {a : α} (h : o = some a) (ρ : Rho) : lif o ρ = some (a, ρ) := by rw [h]; rfl
theorem look_eq (h : ρ[j]? = some (some d)) : look j ρ = some (d, ρ) := by
  unfold look
  rw [h]
theorem e_bin {op : Op} (h1 : ev Γ a ρ = some (x, ρ1)) (h2 : ev Γ b ρ1 = some (y, ρ2)) (h3 : binop op x y = some z) : ev Γ (.bin op a b) ρ = some (z, ρ2) := by
  show bnd (ev Γ a) _ ρ = _
  rw [bnd_eq h1, bnd_eq h2]
  exact lif_eq h3 _
theorem rd_v (h : ρ[j]? = some (some d)) (m : M D) : rd (.var j) m ρ = some (d, ρ) := look_eq h
theorem rd_e (hn : ∀ j, e ≠ .var j) (h : ev Γ e ρ = some (d, ρ1)) : rd e (ev Γ e) ρ = some (d, ρ1) := by
  unfold rd
  split
  · exact absurd rfl (hn _)
  · exact h
theorem rcv_v {α β : Type} {ma : M D} {mi : M α} {f : D → α → M β} {k : α} (h0 : ρ[j]? = some (some x)) (h1 : mi ρ = some (k, ρ1)) (h2 : ρ1[j]? = some (some d)) : rcv (.var j) ma mi f ρ = f d k ρ1 := by
  show bnd (look j) _ ρ = _
  rw [bnd_eq (look_eq h0), bnd_eq h1, bnd_eq (look_eq h2)]
theorem rcv_e {α β : Type} {ma : M D} {mi : M α} {f : D → α → M β} {k : α} (hn : ∀ j, a ≠ .var j) (h0 : ma ρ = some (d, ρ1)) (h1 : mi ρ1 = some (k, ρ2)) : rcv a ma mi f ρ = f d k ρ2 := by
  have : rcv a ma mi f = bnd ma fun d => bnd mi fun k => f d k := by
    unfold rcv
    split
    · exact absurd rfl (hn _)
    · rfl
  rw [this, bnd_eq h0, bnd_eq h1]
theorem e_cmpV {op : Cm} {t : Bool} (h0 : ρ[j]? = some (some x)) (h1 : rd b (ev Γ b) ρ = some (y, ρ1)) (h2 : ρ1[j]? = some (some d)) (h3 : cmpop op d y = some t) : ev Γ (.cmp op (.var j) b) ρ = some (.bl t, ρ1) := by
  show rcv (.var j) _ _ _ ρ = _
  rw [rcv_v h0 h1 h2]
  exact lif_eq (by rw [h3]; rfl) _
theorem e_cmp {op : Cm} {t : Bool} (hn : ∀ j, a ≠ .var j) (h0 : ev Γ a ρ = some (x, ρ1)) (h1 : rd b (ev Γ b) ρ1 = some (y, ρ2)) (h3 : cmpop op x y = some t) : ev Γ (.cmp op a b) ρ = some (.bl t, ρ2) := by
  show rcv a _ _ _ ρ = _
  rw [rcv_e hn h0 h1]
  exact lif_eq (by rw [h3]; rfl) _
theorem e_bi {bi : Bi} (h : rd a (ev Γ a) ρ = some (d, ρ1)) (h2 : builtin bi d = some v) : ev Γ (.bi bi a) ρ = some (v, ρ1) := by
  show bnd (rd a (ev Γ a)) _ ρ = _
  rw [bnd_eq h]
  exact lif_eq h2 _
theorem e_isi {t : Ty} {k : Bool} (h : rd a (ev Γ a) ρ = some (d, ρ1)) (h2 : isTyO t d = some k) : ev Γ (.isi a t) ρ = some (.bl k, ρ1) := by
  show bnd (rd a (ev Γ a)) _ ρ = _
  rw [bnd_eq h]
  exact lif_eq (by rw [h2]; rfl) _
theorem e_ixV (h0 : ρ[j]? = some (some x)) (h1 : ev Γ i ρ = some (y, ρ1)) (h2 : ρ1[j]? = some (some d)) (h3 : index d y = some v) : ev Γ (.ix (.var j) i) ρ = some (v, ρ1) := by
  show rcv (.var j) _ _ _ ρ = _
  rw [rcv_v h0 h1 h2]
  exact lif_eq h3 _
theorem e_ix (hn : ∀ j, a ≠ .var j) (h0 : ev Γ a ρ = some (d, ρ1)) (h1 : ev Γ i ρ1 = some (y, ρ2)) (h3 : index d y = some v) : ev Γ (.ix a i) ρ = some (v, ρ2) := by
  show rcv a _ _ _ ρ = _
  rw [rcv_e hn h0 h1]
  exact lif_eq h3 _
theorem evo_none : evo Γ none ρ = some (none, ρ) := rfl
theorem evo_some (h : ev Γ e ρ = some (d, ρ1)) : evo Γ (some e) ρ = some (some d, ρ1) := by
  show bnd (ev Γ e) _ ρ = _
  rw [bnd_eq h]
  rfl
theorem e_slV {lo hi : Option E} {l h : Option D} {l' h' : Option Int} (h0 : ρ[j]? = some (some x)) (h1 : evo Γ lo ρ = some (l, ρ1)) (h2 : evo Γ hi ρ1 = some (h, ρ2)) (h3 : ρ2[j]? = some (some d)) (e1 : optI l = some l') (e2 : optI h = some h') (h4 : slice d l' h' = some v) :
    ev Γ (.sl (.var j) lo hi) ρ = some (v, ρ2) := by
  show rcv (.var j) _ _ _ ρ = _
  rw [rcv_v (k := (l, h)) h0 (by rw [bnd_eq h1, bnd_eq h2]; rfl) h3]
  exact lif_eq (by rw [e1, e2]; exact h4) _
theorem e_not {k : Bool} (h : ev Γ a ρ = some (.bl k, ρ1)) : ev Γ (.not a) ρ = some (.bl (!k), ρ1) := not_eq h
theorem e_neg {n : Int} (h : ev Γ a ρ = some (.int n, ρ1)) : ev Γ (.neg a) ρ = some (.int (-n), ρ1) := by
  show bnd (ev Γ a) _ ρ = _
  rw [bnd_eq h]
  rfl
theorem e_and {k l : Bool} (h1 : ev Γ a ρ = some (.bl k, ρ1)) (h2 : k = true → ev Γ b ρ1 = some (.bl l, ρ1)) : ev Γ (.and a b) ρ = some (.bl (k && l), ρ1) := by
  cases k with
  | true => rw [and_t h1, h2 rfl]; rfl
  | false => rw [and_f h1]; rfl
theorem e_or {k l : Bool} (h1 : ev Γ a ρ = some (.bl k, ρ1)) (h2 : k = false → ev Γ b ρ1 = some (.bl l, ρ1)) : ev Γ (.or a b) ρ = some (.bl (k || l), ρ1) := by
  cases k with
  | true => rw [or_t h1]; rfl
  | false => rw [or_f h1, h2 rfl]; rfl
theorem e_ife {c : E} {k : Bool} (h1 : ev Γ c ρ = some (.bl k, ρ1)) (h2 : k = true → ev Γ a ρ1 = some (d, ρ2)) (h3 : k = false → ev Γ b ρ1 = some (d, ρ2)) : ev Γ (.ife c a b) ρ = some (d, ρ2) := by
  show bnd (tB (ev Γ c)) _ ρ = _
  rw [bnd_eq (tB_eq h1)]
  cases k with
  | true => exact h2 rfl
  | false => exact h3 rfl
theorem evs_nil : evs Γ [] ρ = some ([], ρ) := rfl
theorem evs_cons {es : List E} {ds : List D} (h1 : ev Γ e ρ = some (d, ρ1)) (h2 : evs Γ es ρ1 = some (ds, ρ2)) : evs Γ (e :: es) ρ = some (d :: ds, ρ2) := by
  show bnd (ev Γ e) _ ρ = _
  rw [bnd_eq h1, bnd_eq h2]
  rfl
theorem e_tup {es : List E} {ds : List D} (h : evs Γ es ρ = some (ds, ρ1)) (hl : ds.length ≤ LIM) : ev Γ (.tup es) ρ = some (.tup ds, ρ1) := by
  show bnd (evs Γ es) _ ρ = _
  rw [bnd_eq h, if_pos hl]
  rfl
theorem e_lst {es : List E} {ds : List D} (h : evs Γ es ρ = some (ds, ρ1)) (hl : ds.length ≤ LIM) : ev Γ (.lst es) ρ = some (.lst ds, ρ1) := by
  show bnd (evs Γ es) _ ρ = _
  rw [bnd_eq h, if_pos hl]
  rfl
theorem e_chn {c : E} {op op' : Cm} {t t' : Bool} (h1 : ev Γ a ρ = some (x, ρ1)) (h2 : ev Γ b ρ1 = some (y, ρ2)) (h3 : cmpop op x y = some t) (h4 : t = true → ev Γ c ρ2 = some (z, ρ2)) (h5 : t = true → cmpop op' y z = some t') : ev Γ (.chn op op' a b c) ρ = some (.bl (t && t'), ρ2) := by
  show bnd (ev Γ a) _ ρ = _
  rw [bnd_eq h1, bnd_eq h2, bnd_eq (lif_eq h3 _)]
  cases t with
  | true =>
    show bnd (ev Γ c) _ ρ2 = _
    rw [bnd_eq (h4 rfl)]
    exact lif_eq (by rw [h5 rfl]; rfl) _
  | false => rfl
/-- arguments -/
theorem evT_nil : evT Γ [] ρ = some ([], ρ) := rfl
theorem evT_v {es : List E} {ds : List D} (h : ρ[j]? = some (some d)) (h2 : evT Γ es ρ = some (ds, ρ2)) : evT Γ (.var j :: es) ρ = some (.non :: ds, ρ2) := by
  show bnd (bnd (look j) _) _ ρ = _
  have : bnd (look j) (fun _ => pur D.non) ρ = some (.non, ρ) := by rw [bnd_eq (look_eq h)]; rfl
  rw [bnd_eq this, bnd_eq h2]
  rfl
theorem evT_e {es : List E} {ds : List D} (hn : ∀ j, e ≠ .var j) (h : ev Γ e ρ = some (d, ρ1)) (h2 : evT Γ es ρ1 = some (ds, ρ2)) : evT Γ (e :: es) ρ = some (d :: ds, ρ2) := by
  show bnd (argT e (ev Γ e)) _ ρ = _
  have : argT e (ev Γ e) = ev Γ e := by
    unfold argT
    split
    · exact absurd rfl (hn _)
    · rfl
  rw [this, bnd_eq h, bnd_eq h2]
  rfl
theorem argF_nil : argF [] [] ρ = some ([], ρ) := rfl
theorem argF_v {es : List E} {ts ds : List D} (h : ρ[j]? = some (some d)) (hi : im d = true) (h2 : argF es ts ρ = some (ds, ρ2)) : argF (.var j :: es) (x :: ts) ρ = some (d :: ds, ρ2) := by
  show bnd (take j) _ ρ = _
  have : take j ρ = some (d, ρ) := e_var (Γ := fun _ _ => none) h hi
  rw [bnd_eq this, bnd_eq h2]
  rfl
theorem argF_e {es : List E} {ts ds : List D} (hn : ∀ j, e ≠ .var j) (h2 : argF es ts ρ = some (ds, ρ2)) : argF (e :: es) (d :: ts) ρ = some (d :: ds, ρ2) := by
  have : argF (e :: es) (d :: ts) ρ = bnd (pur d) (fun x => bnd (argF es ts) fun r => pur (x :: r)) ρ := by cases e <;> first | rfl | exact absurd rfl (hn _)
  rw [this, bnd_eq (a := d) (ρ' := ρ) rfl, bnd_eq h2]
  rfl
theorem e_call {f : Nat} {es : List E} {ts ds : List D} (h1 : evT Γ es ρ = some (ts, ρ1)) (h2 : argF es ts ρ1 = some (ds, ρ2)) (him : ims ds = true) (hg : ∃ os, Γ f ds = some (v, os)) : ev Γ (.call f es) ρ = some (v, ρ2) := call_im h1 h2 him hg
end
/-! ### flat plain data -/
def isPl : D → Bool
  | .int _ => true
  | .str s => s.all fun c => decide (c < 1114112)
  | _ => false
theorem pl_okn {d : D} (h : isPl d = true) (n : Nat) : okn n d = true := by
  cases d <;> cases n <;> first | rfl | exact h | simp [isPl] at h
theorem pl_im {d : D} (h : isPl d = true) : im d = true := by
  cases d <;> first | rfl | simp [isPl] at h
theorem pls_okns : ∀ {xs : List D}, xs.all isPl = true → ∀ n, okns n xs = true
  | [], _, n => by cases n <;> rfl
  | x :: xs, h, n => by
    rw [List.all_cons, Bool.and_eq_true] at h
    simp [okns, pl_okn h.1 n, pls_okns h.2 n]
theorem pls_ims : ∀ {xs : List D}, xs.all isPl = true → ims xs = true
  | [], _ => rfl
  | x :: xs, h => by
    rw [List.all_cons, Bool.and_eq_true] at h
    simp [ims, pl_im h.1, pls_ims h.2]
theorem pls_tup {xs : List D} (h : xs.all isPl = true) (n : Nat) : okn (n + 1) (.tup xs) = true := by
  show okns n xs = true
  exact pls_okns h n
theorem pls_lst {xs : List D} (h : xs.all isPl = true) (n : Nat) : okn (n + 1) (.lst xs) = true := by
  show okns n xs = true
  exact pls_okns h n
theorem eq_tup {a b : List D} (ha : a.all isPl = true) (hb : b.all isPl = true) : pyEq (.tup a) (.tup b) = some (decide (a = b)) := by
  have h1 := pls_tup ha 19
  have h2 := pls_tup hb 19
  show (if okn 20 (.tup a) && okn 20 (.tup b) then _ else _) = _
  rw [h1, h2]
  simp
theorem eq_pl {a b : D} (ha : isPl a = true) (hb : isPl b = true) : pyEq a b = some (decide (a = b)) := by
  have h1 := pl_okn ha 20
  have h2 := pl_okn hb 20
  cases a <;> cases b <;> first | (simp [isPl] at ha; done) | (simp [isPl] at hb; done) | (simp [pyEq, okn]; done) | (simp [pyEq, h1, h2]; done)
theorem all_take {α : Type} {p : α → Bool} {xs : List α} (h : xs.all p = true) (n : Nat) : (xs.take n).all p = true := by
  rw [List.all_eq_true] at h ⊢
  exact fun x hx => h x (List.mem_of_mem_take hx)
theorem all_drop {α : Type} {p : α → Bool} {xs : List α} (h : xs.all p = true) (n : Nat) : (xs.drop n).all p = true := by
  rw [List.all_eq_true] at h ⊢
  exact fun x hx => h x (List.mem_of_mem_drop hx)
theorem all_rep {α : Type} {p : α → Bool} {xs : List α} (h : xs.all p = true) (n : Nat) : ((List.replicate n xs).flatten).all p = true := by
  rw [List.all_eq_true] at h ⊢
  intro x hx
  obtain ⟨ys, h1, h2⟩ := List.mem_flatten.mp hx
  rw [(List.mem_replicate.mp h1).2] at h2
  exact h x h2
end VS

set_option Elab.async false
set_option linter.all false
set_option autoImplicit false
set_option maxRecDepth 100000
set_option maxHeartbeats 1000000
namespace VS
/-! ### rounds of words: the root, the shortest form -/
section
variable {α : Type} [DecidableEq α]
def rep (k : Nat) (xs : List α) : List α := (List.replicate k xs).flatten
def isRt (xs : List α) (j : Nat) : Bool := decide (xs.length % j = 0) && decide (rep (xs.length / j) (xs.take j) = xs)
def rootL (xs : List α) : List α := match (List.range' 1 xs.length).find? (isRt xs) with
  | some j => xs.take j
  | none => xs
def rot (a : List α) : List α := a.drop (a.length - 1) ++ a.take (a.length - 1)
def shortN : Nat → List α → List α → List α × List α
  | 0, w, a => (w, a)
  | n + 1, w, a => if w ≠ [] ∧ w[w.length - 1]? = a[a.length - 1]? then shortN n (w.take (w.length - 1)) (rot a) else (w, a)
def shortL (w a : List α) : List α × List α := shortN w.length w (rootL a)
def cy (xs : List α) (t : Nat) : Option α := xs[t % xs.length]?
def prim (xs : List α) : Prop := ∀ i, 1 ≤ i → i < xs.length → isRt xs i = false
def seqn (w a : List α) (t : Nat) : Option α := if t < w.length then w[t]? else cy a (t - w.length)
omit [DecidableEq α] in
theorem rep_len (k : Nat) (xs : List α) : (rep k xs).length = k * xs.length := by
  unfold rep
  rw [List.length_flatten]
  simp
omit [DecidableEq α] in
theorem rep_get (xs : List α) : ∀ (k t : Nat), t < k * xs.length → (rep k xs)[t]? = xs[t % xs.length]?
  | 0, t, h => by simp at h
  | k + 1, t, h => by
    have e : rep (k + 1) xs = xs ++ rep k xs := by unfold rep; rw [List.replicate_succ, List.flatten_cons]
    rw [e]
    by_cases ht : t < xs.length
    · rw [List.getElem?_append_left ht, Nat.mod_eq_of_lt ht]
    · have h' : t - xs.length < k * xs.length := by rw [Nat.add_mul, Nat.one_mul] at h; omega
      rw [List.getElem?_append_right (by omega), rep_get xs k _ h']
      congr 1
      conv => rhs; rw [show t = t - xs.length + xs.length by omega]
      rw [Nat.add_mod_right]
theorem rt_iff {xs : List α} {i : Nat} (hi : 1 ≤ i) (hx : i ≤ xs.length) : isRt xs i = true ↔ xs.length % i = 0 ∧ ∀ t, cy xs (t + i) = cy xs t := by
  unfold isRt
  simp only [Bool.and_eq_true, decide_eq_true_eq]
  have hlen : (xs.take i).length = i := by rw [List.length_take]; omega
  constructor
  · rintro ⟨h1, h2⟩
    refine ⟨h1, ?_⟩
    have hd : i ∣ xs.length := Nat.dvd_of_mod_eq_zero h1
    have hmul : xs.length / i * i = xs.length := Nat.div_mul_cancel hd
    have key : ∀ u, cy xs u = xs[u % i]? := fun u => by
      unfold cy
      have hu : u % xs.length < xs.length := Nat.mod_lt _ (by omega)
      have e1 : xs[u % xs.length]? = (rep (xs.length / i) (xs.take i))[u % xs.length]? := by rw [h2]
      rw [e1, rep_get _ _ _ (by rw [hlen, hmul]; exact hu), hlen, Nat.mod_mod_of_dvd _ hd]
      rw [List.getElem?_take_of_lt (Nat.mod_lt _ hi)]
    intro t
    rw [key, key, Nat.add_mod_right]
  · rintro ⟨h1, h2⟩
    refine ⟨h1, ?_⟩
    have hd : i ∣ xs.length := Nat.dvd_of_mod_eq_zero h1
    have hmul : xs.length / i * i = xs.length := Nat.div_mul_cancel hd
    have hp : ∀ k t, cy xs (t + k * i) = cy xs t := by
      intro k
      induction k with
      | zero => intro t; simp
      | succ k ih => intro t; rw [Nat.add_mul, Nat.one_mul, ← Nat.add_assoc, h2, ih]
    refine List.ext_getElem? fun t => ?_
    by_cases ht : t < xs.length
    · rw [rep_get _ _ _ (by rw [hlen, hmul]; exact ht), hlen, List.getElem?_take_of_lt (Nat.mod_lt _ hi)]
      have e1 : cy xs (t % i) = xs[t % i]? := by
        unfold cy
        rw [Nat.mod_eq_of_lt (Nat.lt_of_lt_of_le (Nat.mod_lt _ hi) hx)]
      have e2 : cy xs t = xs[t]? := by unfold cy; rw [Nat.mod_eq_of_lt ht]
      rw [← e1, ← e2]
      conv => rhs; rw [← Nat.mod_add_div t i, Nat.mul_comm i]
      rw [hp]
    · rw [List.getElem?_eq_none (by rw [rep_len, hlen, hmul]; omega), List.getElem?_eq_none (by omega)]
theorem isRt_self {xs : List α} (h : xs ≠ []) : isRt xs xs.length = true := by
  have hl : 1 ≤ xs.length := List.length_pos_iff.mpr h
  rw [rt_iff hl (Nat.le_refl _)]
  exact ⟨Nat.mod_self _, fun t => by unfold cy; rw [Nat.add_mod_right]⟩
theorem root_spec {xs : List α} (h : xs ≠ []) : ∃ j, 1 ≤ j ∧ j ≤ xs.length ∧ rootL xs = xs.take j ∧ isRt xs j = true ∧ ∀ i, 1 ≤ i → i < j → isRt xs i = false := by
  have hl : 1 ≤ xs.length := List.length_pos_iff.mpr h
  unfold rootL
  cases q : (List.range' 1 xs.length).find? (isRt xs) with
  | none =>
    rw [List.find?_eq_none] at q
    exact absurd (isRt_self h) (q _ (List.mem_range'_1.mpr ⟨hl, by omega⟩))
  | some j =>
    have hm := List.mem_range'_1.mp (List.mem_of_find?_eq_some q)
    refine ⟨j, hm.1, by omega, rfl, List.find?_some q, fun i h1 h2 => ?_⟩
    rw [List.find?_range'_eq_some] at q
    have := q.2.2 i h1 h2
    simpa using this
theorem root_cy {xs : List α} (h : xs ≠ []) (t : Nat) : cy (rootL xs) t = cy xs t := by
  obtain ⟨j, h1, h2, e, h3, _⟩ := root_spec h
  have h3 := (rt_iff h1 h2).mp h3
  have hp : ∀ k t, cy xs (t + k * j) = cy xs t := by
    intro k
    induction k with
    | zero => intro t; simp
    | succ k ih => intro t; rw [Nat.add_mul, Nat.one_mul, ← Nat.add_assoc, h3.2, ih]
  rw [e]
  have hlen : (xs.take j).length = j := by rw [List.length_take, Nat.min_eq_left h2]
  have e1 : cy (xs.take j) t = cy xs (t % j) := by
    unfold cy
    have : t % j < j := Nat.mod_lt _ h1
    rw [hlen, List.getElem?_take_of_lt this, Nat.mod_eq_of_lt (show t % j < xs.length by omega)]
  rw [e1]
  conv => rhs; rw [← Nat.mod_add_div t j, Nat.mul_comm j]
  rw [hp]
theorem root_len {xs : List α} (h : xs ≠ []) : (rootL xs).length ≤ xs.length ∧ rootL xs ≠ [] := by
  obtain ⟨j, h1, h2, e, _⟩ := root_spec h
  rw [e]
  refine ⟨by rw [List.length_take]; omega, fun z => ?_⟩
  have hl : 1 ≤ xs.length := List.length_pos_iff.mpr h
  have : (xs.take j).length = 0 := by rw [z]; rfl
  rw [List.length_take] at this
  omega
theorem root_prim {xs : List α} (h : xs ≠ []) : prim (rootL xs) := by
  obtain ⟨j, h1, h2, e, h3, h4⟩ := root_spec h
  intro i hi hl
  have hlen : (rootL xs).length = j := by rw [e, List.length_take]; omega
  rw [hlen] at hl
  cases q : isRt (rootL xs) i with
  | false => rfl
  | true =>
    exfalso
    rw [rt_iff hi (by omega)] at q
    have : isRt xs i = true := by
      rw [rt_iff hi (by omega)]
      refine ⟨?_, fun t => ?_⟩
      · have a := Nat.dvd_of_mod_eq_zero ((rt_iff h1 h2).mp h3).1
        have b := Nat.dvd_of_mod_eq_zero q.1
        rw [hlen] at b
        exact Nat.mod_eq_zero_of_dvd (Nat.dvd_trans b a)
      · rw [← root_cy h, ← root_cy h]
        exact q.2 t
    rw [h4 i hi hl] at this
    cases this
theorem root_fix {xs : List α} (h : prim xs) : rootL xs = xs := by
  by_cases h0 : xs = []
  · subst h0; rfl
  · obtain ⟨j, h1, h2, e, h3, h4⟩ := root_spec h0
    by_cases hj : j < xs.length
    · rw [h j h1 hj] at h3; cases h3
    · rw [e, List.take_of_length_le (by omega)]
omit [DecidableEq α] in
theorem rot_len (a : List α) : (rot a).length = a.length := by
  unfold rot
  rw [List.length_append, List.length_drop, List.length_take]
  omega
omit [DecidableEq α] in
theorem rot_cy {a : List α} (h : a ≠ []) (t : Nat) : cy (rot a) (t + 1) = cy a t := by
  have hl : 1 ≤ a.length := List.length_pos_iff.mpr h
  unfold cy
  rw [rot_len]
  have hm : t % a.length < a.length := Nat.mod_lt _ hl
  have hd : (a.drop (a.length - 1)).length = 1 := by rw [List.length_drop]; omega
  unfold rot
  by_cases hc : t % a.length = a.length - 1
  · have e : (t + 1) % a.length = 0 := by
      rw [Nat.add_mod, hc]
      by_cases h1 : a.length = 1
      · rw [h1]
      · rw [Nat.mod_eq_of_lt (show 1 < a.length by omega), show a.length - 1 + 1 = a.length by omega, Nat.mod_self]
    rw [e, hc, List.getElem?_append_left (by omega), List.getElem?_drop]
    rfl
  · have e : (t + 1) % a.length = t % a.length + 1 := by
      rw [Nat.add_mod]
      by_cases h1 : a.length = 1
      · omega
      · rw [Nat.mod_eq_of_lt (show 1 < a.length by omega), Nat.mod_eq_of_lt (by omega)]
    rw [e, List.getElem?_append_right (by omega), hd, Nat.add_sub_cancel, List.getElem?_take_of_lt (by omega)]
omit [DecidableEq α] in
theorem rot_cy0 {a : List α} (h : a ≠ []) : cy (rot a) 0 = a[a.length - 1]? := by
  have hl : 1 ≤ a.length := List.length_pos_iff.mpr h
  unfold cy rot
  rw [Nat.zero_mod, List.getElem?_append_left (by rw [List.length_drop]; omega), List.getElem?_drop]
  rfl
theorem rot_prim {a : List α} (h : a ≠ []) (hp : prim a) : prim (rot a) := by
  intro i hi hl
  rw [rot_len] at hl
  cases q : isRt (rot a) i with
  | false => rfl
  | true =>
    exfalso
    rw [rt_iff hi (by rw [rot_len]; omega)] at q
    have : isRt a i = true := by
      rw [rt_iff hi (by omega)]
      refine ⟨by rw [← rot_len a]; exact q.1, fun t => ?_⟩
      rw [← rot_cy h, ← rot_cy h, show t + i + 1 = t + 1 + i by omega]
      exact q.2 _
    rw [hp i hi hl] at this
    cases this
/-- what the shortest form is -/
structure Short (w a w' a' : List α) : Prop where
  ne : a' ≠ []
  la : a'.length ≤ a.length
  lw : w'.length ≤ w.length
  sq : ∀ t, seqn w' a' t = seqn w a t
  pr : prim a'
  ls : w' = [] ∨ w'[w'.length - 1]? ≠ a'[a'.length - 1]?
theorem seqn_step {w a : List α} (hw : w ≠ []) (ha : a ≠ []) (h : w[w.length - 1]? = a[a.length - 1]?) (t : Nat) : seqn (w.take (w.length - 1)) (rot a) t = seqn w a t := by
  have hl : 1 ≤ w.length := List.length_pos_iff.mpr hw
  have e : (w.take (w.length - 1)).length = w.length - 1 := by rw [List.length_take]; omega
  unfold seqn
  rw [e]
  by_cases h1 : t < w.length - 1
  · rw [if_pos h1, if_pos (by omega), List.getElem?_take_of_lt h1]
  · rw [if_neg h1]
    by_cases h2 : t < w.length
    · have : t = w.length - 1 := by omega
      subst this
      rw [if_pos h2, Nat.sub_self, rot_cy0 ha, h]
    · rw [if_neg h2, show t - (w.length - 1) = t - w.length + 1 by omega, rot_cy ha]
theorem shortN_spec : ∀ (n : Nat) {w a : List α}, w.length ≤ n → a ≠ [] → prim a → Short w a (shortN n w a).1 (shortN n w a).2
  | 0, w, a, h, ha, hp => by
    have : w = [] := List.eq_nil_of_length_eq_zero (by omega)
    exact ⟨ha, Nat.le_refl _, Nat.le_refl _, fun _ => rfl, hp, .inl this⟩
  | n + 1, w, a, h, ha, hp => by
    unfold shortN
    split
    · rename_i hc
      have hl : 1 ≤ w.length := List.length_pos_iff.mpr hc.1
      have e : (w.take (w.length - 1)).length = w.length - 1 := by rw [List.length_take]; omega
      have hr : rot a ≠ [] := fun z => ha (List.eq_nil_of_length_eq_zero (by rw [← rot_len a, z]; rfl))
      have ih := shortN_spec n (w := w.take (w.length - 1)) (a := rot a) (by omega) hr (rot_prim ha hp)
      exact ⟨ih.ne, by have := ih.la; rw [rot_len] at this; exact this, by have := ih.lw; omega, fun t => (ih.sq t).trans (seqn_step hc.1 ha hc.2 t), ih.pr, ih.ls⟩
    · rename_i hc
      refine ⟨ha, Nat.le_refl _, Nat.le_refl _, fun _ => rfl, hp, ?_⟩
      by_cases hw : w = []
      · exact .inl hw
      · exact .inr fun z => hc ⟨hw, z⟩
theorem shortL_spec {w a : List α} (ha : a ≠ []) : Short w a (shortL w a).1 (shortL w a).2 := by
  have r := root_len ha
  have s := shortN_spec w.length (w := w) (a := rootL a) (Nat.le_refl _) r.2 (root_prim ha)
  refine ⟨s.ne, Nat.le_trans s.la r.1, s.lw, fun t => (s.sq t).trans ?_, s.pr, s.ls⟩
  unfold seqn
  split
  · rfl
  · exact root_cy ha _
theorem shortN_stop {n : Nat} {w a : List α} (h : w = [] ∨ w[w.length - 1]? ≠ a[a.length - 1]?) : shortN n w a = (w, a) := by
  cases n with
  | zero => rfl
  | succ n =>
    unfold shortN
    rw [if_neg]
    rintro ⟨h1, h2⟩
    rcases h with h | h
    · exact h1 h
    · exact h h2
theorem shortL_fix {w a : List α} (hp : prim a) (h : w = [] ∨ w[w.length - 1]? ≠ a[a.length - 1]?) : shortL w a = (w, a) := by
  unfold shortL
  rw [root_fix hp]
  exact shortN_stop h
/-- the root's last letter -/
theorem root_last {a : List α} (h : a ≠ []) : (rootL a)[(rootL a).length - 1]? = a[a.length - 1]? := by
  have hl : 1 ≤ a.length := List.length_pos_iff.mpr h
  have r := root_len h
  have hr : 1 ≤ (rootL a).length := List.length_pos_iff.mpr r.2
  obtain ⟨j, h1, h2, e, h3, h4⟩ := root_spec h
  have hlen : (rootL a).length = j := by rw [e, List.length_take]; omega
  have d := Nat.dvd_of_mod_eq_zero ((rt_iff h1 h2).mp h3).1
  have e1 : a[a.length - 1]? = cy a (a.length - 1) := by unfold cy; rw [Nat.mod_eq_of_lt (by omega)]
  have e2 : (rootL a)[(rootL a).length - 1]? = cy (rootL a) (a.length - 1) := by
    unfold cy
    congr 1
    rw [hlen]
    obtain ⟨k, hk⟩ := d
    have hk1 : 1 ≤ k := by
      cases k with
      | zero => rw [Nat.mul_zero] at hk; omega
      | succ k => omega
    have : a.length - 1 = (j - 1) + j * (k - 1) := by
      rw [hk, Nat.mul_sub, Nat.mul_one]
      have := Nat.le_mul_of_pos_right j hk1
      omega
    rw [this, Nat.add_mul_mod_self_left, Nat.mod_eq_of_lt (by omega)]
  rw [e1, e2, root_cy h]
/-! by an injective map -/
section
variable {β : Type} [DecidableEq β] {f : α → β}
theorem rep_map (k : Nat) (xs : List α) : rep k (xs.map f) = (rep k xs).map f := by
  unfold rep
  rw [List.map_flatten, List.map_replicate]
theorem isRt_map (hf : ∀ a b, f a = f b → a = b) (xs : List α) (j : Nat) : isRt (xs.map f) j = isRt xs j := by
  unfold isRt
  rw [List.length_map, ← List.map_take, rep_map]
  congr 1
  refine decide_eq_decide.mpr ⟨fun h => ?_, fun h => by rw [h]⟩
  exact List.map_inj_right (fun a b => hf a b) |>.mp h
theorem rootL_map (hf : ∀ a b, f a = f b → a = b) (xs : List α) : rootL (xs.map f) = (rootL xs).map f := by
  unfold rootL
  rw [List.length_map]
  have : isRt (xs.map f) = isRt xs := funext fun j => isRt_map hf xs j
  rw [this]
  cases (List.range' 1 xs.length).find? (isRt xs) with
  | none => rfl
  | some j => simp [List.map_take]
theorem rot_map (a : List α) : rot (a.map f) = (rot a).map f := by
  unfold rot
  rw [List.length_map, List.map_append, List.map_drop, List.map_take]
theorem shortN_map (hf : ∀ a b, f a = f b → a = b) : ∀ (n : Nat) (w a : List α), shortN n (w.map f) (a.map f) = ((shortN n w a).1.map f, (shortN n w a).2.map f)
  | 0, w, a => rfl
  | n + 1, w, a => by
    unfold shortN
    have hi : Function.Injective f := hf
    have e : (w.map f ≠ [] ∧ (w.map f)[(w.map f).length - 1]? = (a.map f)[(a.map f).length - 1]?) ↔ (w ≠ [] ∧ w[w.length - 1]? = a[a.length - 1]?) := by
      rw [List.length_map, List.length_map, List.getElem?_map, List.getElem?_map]
      refine and_congr (by simp) ⟨fun h => ?_, fun h => by rw [h]⟩
      cases h1 : w[w.length - 1]? <;> cases h2 : a[a.length - 1]? <;> rw [h1, h2] at h <;> simp at h
      rw [hf _ _ h]
    by_cases hc : w ≠ [] ∧ w[w.length - 1]? = a[a.length - 1]?
    · rw [if_pos (e.mpr hc), if_pos hc, List.length_map, ← List.map_take, rot_map, shortN_map hf n]
    · rw [if_neg (fun z => hc (e.mp z)), if_neg hc]
theorem shortL_map (hf : ∀ a b, f a = f b → a = b) (w a : List α) : shortL (w.map f) (a.map f) = ((shortL w a).1.map f, (shortL w a).2.map f) := by
  unfold shortL
  rw [rootL_map hf, List.length_map, shortN_map hf]
theorem prim_map (hf : ∀ a b, f a = f b → a = b) {xs : List α} (h : prim xs) : prim (xs.map f) := by
  intro i h1 h2
  rw [isRt_map hf]
  exact h i h1 (by rwa [List.length_map] at h2)
end
omit [DecidableEq α] in
theorem mem_rot {a : List α} {x : α} (h : x ∈ rot a) : x ∈ a := by
  unfold rot at h
  rcases List.mem_append.mp h with h | h
  · exact List.mem_of_mem_drop h
  · exact List.mem_of_mem_take h
theorem mem_root {a : List α} {x : α} (h : x ∈ rootL a) : x ∈ a := by
  unfold rootL at h
  split at h
  · exact List.mem_of_mem_take h
  · exact h
theorem mem_shortN : ∀ (n : Nat) {w a : List α} {x : α}, x ∈ (shortN n w a).1 ∨ x ∈ (shortN n w a).2 → x ∈ w ∨ x ∈ a
  | 0, w, a, x, h => h
  | n + 1, w, a, x, h => by
    unfold shortN at h
    split at h
    · exact (mem_shortN n h).imp List.mem_of_mem_take mem_rot
    · exact h
theorem mem_short {w a : List α} {x : α} (h : x ∈ (shortL w a).1 ∨ x ∈ (shortL w a).2) : x ∈ w ∨ x ∈ a := (mem_shortN _ h).imp_right mem_root
end
end VS

set_option Elab.async false
set_option linter.all false
set_option autoImplicit false
set_option maxRecDepth 100000
set_option maxHeartbeats 1000000
namespace K64
open VS
/-! ### the doubles of a fraction and their signs -/
def at_ (m n : Nat) : Nat → Nat
  | 0 => m
  | i + 1 => 2 * at_ m n i % n
def sgn (m n x : Nat) : Nat := if 2 * x = m ∨ 2 * x = m + n then 42 else if m < 2 * x ∧ 2 * x < m + n then 49 else 48
def sg (m n i : Nat) : Nat := sgn m n (at_ m n i)
def Nd (m n L : Nat) : Prop := ∀ i j, i < j → j < L → at_ m n i ≠ at_ m n j
/-- the walk's end -/
structure End (m n L p : Nat) : Prop where
  pl : p < L
  eq : at_ m n L = at_ m n p
  nd : Nd m n L
theorem at_lt {m n : Nat} (h : m < n) : ∀ i, at_ m n i < n
  | 0 => h
  | i + 1 => Nat.mod_lt _ (by omega)
theorem hole : ∀ (n i : Nat) (g : Nat → Nat), (∀ j, j < i → g j < n) → (∀ a b, a < b → b < i → g a ≠ g b) → i ≤ n
  | 0, i, g, h, _ => by
    cases i with
    | zero => exact Nat.le_refl _
    | succ i => exact absurd (h 0 (by omega)) (Nat.not_lt_zero _)
  | n + 1, i, g, h, hd => by
    by_cases hex : ∃ j, j < i ∧ g j = n
    · obtain ⟨j0, hj, e⟩ := hex
      have := hole n (i - 1) (fun j => if j < j0 then g j else g (j + 1)) (fun j hj' => by
        show (if j < j0 then g j else g (j + 1)) < n
        split
        · rename_i hlt
          have h1 := h j (by omega)
          have h2 := hd j j0 hlt hj
          omega
        · rename_i hlt
          have h1 := h (j + 1) (by omega)
          have h2 := hd j0 (j + 1) (by omega) (by omega)
          omega) (fun a b hab hb => by
        show (if a < j0 then g a else g (a + 1)) ≠ (if b < j0 then g b else g (b + 1))
        split <;> split
        · exact hd a b hab (by omega)
        · exact hd a (b + 1) (by omega) (by omega)
        · omega
        · exact hd (a + 1) (b + 1) (by omega) (by omega))
      omega
    · have := hole n i g (fun j hj => by
        have h1 := h j hj
        have h2 : g j ≠ n := fun z => hex ⟨j, hj, z⟩
        omega) hd
      omega
theorem nd_le {m n L : Nat} (h : m < n) (hd : Nd m n L) : L ≤ n := hole n L (at_ m n) (fun j _ => at_lt h j) hd
theorem at_add {m n i j : Nat} (h : at_ m n i = at_ m n j) : ∀ k, at_ m n (i + k) = at_ m n (j + k)
  | 0 => h
  | k + 1 => by
    show 2 * at_ m n (i + k) % n = 2 * at_ m n (j + k) % n
    rw [at_add h k]
theorem End.per {m n L p : Nat} (E : End m n L p) : ∀ t, at_ m n (p + t) = at_ m n (p + t % (L - p)) := by
  have hp : ∀ t, at_ m n (p + (t + (L - p))) = at_ m n (p + t) := fun t => by
    have := at_add E.eq t
    rw [← this]
    congr 1
    have := E.pl
    omega
  have hq : ∀ k t, at_ m n (p + (t + k * (L - p))) = at_ m n (p + t) := by
    intro k
    induction k with
    | zero => intro t; simp
    | succ k ih => intro t; rw [Nat.add_mul, Nat.one_mul, ← Nat.add_assoc t, hp, ih]
  intro t
  conv => lhs; rw [← Nat.mod_add_div t (L - p), Nat.mul_comm (L - p)]
  rw [hq]
def fstL (m n p : Nat) : List Nat := (List.range p).map (sg m n)
def agnL (m n L p : Nat) : List Nat := (List.range (L - p)).map fun i => sg m n (p + i)
def K (m n L p : Nat) : List Nat × List Nat := shortL (fstL m n p) (agnL m n L p)
section
variable {m n L p : Nat}
theorem agn_ne (E : End m n L p) : agnL m n L p ≠ [] := fun z => by
  have := congrArg List.length z
  unfold agnL at this
  simp at this
  have := E.pl
  omega
theorem seq_sg (E : End m n L p) (t : Nat) : seqn (fstL m n p) (agnL m n L p) t = some (sg m n t) := by
  unfold seqn cy fstL agnL
  simp only [List.length_map, List.length_range]
  have hpl := E.pl
  split
  · rename_i h
    rw [List.getElem?_map, List.getElem?_range h]
    rfl
  · rename_i h
    have hm : (t - p) % (L - p) < L - p := Nat.mod_lt _ (by omega)
    rw [List.getElem?_map, List.getElem?_range hm]
    show some (sgn m n (at_ m n (p + (t - p) % (L - p)))) = some (sgn m n (at_ m n t))
    rw [← E.per]
    congr 3
    omega
theorem K_short (E : End m n L p) : Short (fstL m n p) (agnL m n L p) (K m n L p).1 (K m n L p).2 := shortL_spec (agn_ne E)
theorem K_seq (E : End m n L p) (t : Nat) : seqn (K m n L p).1 (K m n L p).2 t = some (sg m n t) := ((K_short E).sq t).trans (seq_sg E t)
theorem K_len (E : End m n L p) (h : m < n) : (K m n L p).1.length + (K m n L p).2.length ≤ n := by
  have h1 := (K_short E).la
  have h2 := (K_short E).lw
  have h3 := nd_le h E.nd
  have h4 := E.pl
  unfold fstL at h2
  unfold agnL at h1
  simp only [List.length_map, List.length_range] at h1 h2
  omega
theorem star_iff {x : Nat} (h : m < n) (hx : x < n) : sgn m n x = 42 ↔ 2 * x % n = m := by
  have e : 2 * x % n = if 2 * x < n then 2 * x else 2 * x - n := by
    split
    · rename_i h; exact Nat.mod_eq_of_lt h
    · rename_i h
      rw [Nat.mod_eq_sub_mod (by omega), Nat.mod_eq_of_lt (by omega)]
  rw [e]
  unfold sgn
  split
  · rename_i hc
    refine ⟨fun _ => ?_, fun _ => rfl⟩
    split <;> omega
  · rename_i hc
    split
    · refine ⟨fun z => by omega, fun z => ?_⟩
      split at z <;> omega
    · refine ⟨fun z => by omega, fun z => ?_⟩
      split at z <;> omega
theorem sg_star (h : m < n) (i : Nat) : sg m n i = 42 ↔ at_ m n (i + 1) = m := star_iff h (at_lt h i)
theorem sgn_val (x : Nat) : sgn m n x = 42 ∨ sgn m n x = 48 ∨ sgn m n x = 49 := by
  unfold sgn
  split
  · exact .inl rfl
  · split
    · exact .inr (.inr rfl)
    · exact .inr (.inl rfl)
/-- does the fraction come round? -/
theorem back_iff (E : End m n L p) (h1 : 1 ≤ m) (h : m < n) : (K m n L p).1 = [] ↔ ∃ i, 1 ≤ i ∧ i < 3 * n ∧ at_ m n i = m := by
  have hL := nd_le h E.nd
  have hpl := E.pl
  constructor
  · intro hk
    by_cases hex : ∃ i, 1 ≤ i ∧ i < 3 * n ∧ at_ m n i = m
    · exact hex
    · exfalso
      have hp : 0 < p := by
        rcases Nat.eq_zero_or_pos p with z | z
        · subst z
          exact absurd ⟨L, by omega, by omega, E.eq⟩ hex
        · exact z
      have hx : at_ m n (p - 1) < n := at_lt h _
      have hy : at_ m n (L - 1) < n := at_lt h _
      have hne : at_ m n (p - 1) ≠ at_ m n (L - 1) := E.nd _ _ (by omega) (by omega)
      have e1 : 2 * at_ m n (p - 1) % n = at_ m n p := by
        conv => rhs; rw [show p = p - 1 + 1 by omega]
        rfl
      have e2 : 2 * at_ m n (L - 1) % n = at_ m n p := by
        rw [← E.eq]
        conv => rhs; rw [show L = L - 1 + 1 by omega]
        rfl
      have hm : at_ m n p ≠ m := fun z => hex ⟨p, by omega, by omega, z⟩
      have dbl : ∀ x, x < n → 2 * x % n = if 2 * x < n then 2 * x else 2 * x - n := fun x hx => by
        split
        · rename_i h; exact Nat.mod_eq_of_lt h
        · rename_i h
          rw [Nat.mod_eq_sub_mod (by omega), Nat.mod_eq_of_lt (by omega)]
      rw [dbl _ hx] at e1
      rw [dbl _ hy] at e2
      have hsg : sg m n (p - 1) ≠ sg m n (L - 1) := by
        unfold sg sgn
        generalize at_ m n (p - 1) = x at *
        generalize at_ m n (L - 1) = y at *
        generalize at_ m n p = z at *
        split at e1 <;> split at e2 <;> (repeat' split) <;> omega
      have hw : fstL m n p ≠ [] := fun z => by
        have := congrArg List.length z
        unfold fstL at this
        simp at this
        omega
      have lw : (fstL m n p)[(fstL m n p).length - 1]? = some (sg m n (p - 1)) := by
        unfold fstL
        simp only [List.length_map, List.length_range, List.getElem?_map]
        rw [List.getElem?_range (by omega)]
        rfl
      have la : (agnL m n L p)[(agnL m n L p).length - 1]? = some (sg m n (L - 1)) := by
        unfold agnL
        simp only [List.length_map, List.length_range, List.getElem?_map]
        rw [List.getElem?_range (by omega)]
        simp only [Option.map_some]
        congr 2
        omega
      have : K m n L p = (fstL m n p, rootL (agnL m n L p)) := by
        unfold K shortL
        refine shortN_stop (.inr ?_)
        rw [root_last (agn_ne E), lw, la]
        exact fun z => hsg (Option.some.inj z)
      rw [this] at hk
      exact hw hk
  · rintro ⟨i, hi1, _, hi⟩
    have hp : p = 0 := by
      rcases Nat.eq_zero_or_pos p with z | z
      · exact z
      · exfalso
        have hiL : L ≤ i := by
          rcases Nat.lt_or_ge i L with c | c
          · exact absurd hi.symm (E.nd 0 i (by omega) c)
          · exact c
        have := E.per (i - p)
        rw [show p + (i - p) = i by omega, hi] at this
        have hm : (i - p) % (L - p) < L - p := Nat.mod_lt _ (by omega)
        exact E.nd 0 (p + (i - p) % (L - p)) (by omega) (by omega) this
    subst hp
    have := (K_short E).lw
    have e : (fstL m n 0).length = 0 := rfl
    exact List.eq_nil_of_length_eq_zero (by omega)
/-- the signs are in order: behind nothing -/
theorem signs_nil (E : End m n L p) (h1 : 1 ≤ m) (h : m < n) (hk : (K m n L p).1 = []) : (K m n L p).2[(K m n L p).2.length - 1]? = some 42 ∧ ∀ c ∈ (K m n L p).2.take ((K m n L p).2.length - 1), c = 48 ∨ c = 49 := by
  have hL := nd_le h E.nd
  have hpl := E.pl
  obtain ⟨i, hi1, hi2, hi⟩ := (back_iff E h1 h).mp hk
  have hp : p = 0 := by
    rcases Nat.eq_zero_or_pos p with z | z
    · exact z
    · exfalso
      have hiL : L ≤ i := by
        rcases Nat.lt_or_ge i L with c | c
        · exact absurd hi.symm (E.nd 0 i (by omega) c)
        · exact c
      have := E.per (i - p)
      rw [show p + (i - p) = i by omega, hi] at this
      have hm : (i - p) % (L - p) < L - p := Nat.mod_lt _ (by omega)
      exact E.nd 0 (p + (i - p) % (L - p)) (by omega) (by omega) this
  subst hp
  have eK : K m n L 0 = ([], rootL (agnL m n L 0)) := by
    unfold K shortL
    rfl
  have hlast : (agnL m n L 0)[(agnL m n L 0).length - 1]? = some (sg m n (L - 1)) := by
    unfold agnL
    simp only [List.length_map, List.length_range, List.getElem?_map]
    rw [List.getElem?_range (by omega)]
    simp only [Option.map_some]
    congr 2
    omega
  have hr := root_len (agn_ne E)
  have hlen : (agnL m n L 0).length = L := by unfold agnL; simp
  rw [eK]
  refine ⟨?_, fun c hc => ?_⟩
  · show (rootL (agnL m n L 0))[(rootL (agnL m n L 0)).length - 1]? = _
    rw [root_last (agn_ne E), hlast]
    congr 1
    rw [sg_star h, show L - 1 + 1 = L by omega, E.eq]
    rfl
  · obtain ⟨t, ht, e⟩ := List.getElem_of_mem hc
    rw [List.length_take] at ht
    have e2 : (K m n L 0).2[t]? = some c := by
      rw [eK]
      have : ((rootL (agnL m n L 0)).take ((rootL (agnL m n L 0)).length - 1))[t]? = some c := by
        rw [← e]; exact List.getElem?_eq_getElem _
      rwa [List.getElem?_take_of_lt (by simp only at ht; omega)] at this
    have e3 := K_seq E t
    unfold seqn cy at e3
    rw [eK] at e2 e3
    simp only [List.length_nil, Nat.not_lt_zero, if_false, Nat.sub_zero] at e2 e3
    simp only at ht
    rw [Nat.mod_eq_of_lt (by omega), e2] at e3
    have e3 := Option.some.inj e3
    rcases sgn_val (m := m) (n := n) (at_ m n t) with z | z | z
    · exfalso
      have z : sg m n t = 42 := z
      rw [sg_star h] at z
      exact E.nd 0 (t + 1) (by omega) (by omega) z.symm
    · exact .inl (e3.trans z)
    · exact .inr (e3.trans z)
theorem signs_cons (E : End m n L p) (h1 : 1 ≤ m) (h : m < n) (hk : (K m n L p).1 ≠ []) : ∀ c, c ∈ (K m n L p).1 ∨ c ∈ (K m n L p).2 → c = 48 ∨ c = 49 := by
  have hL := nd_le h E.nd
  have hpl := E.pl
  intro c hc
  have hno : ¬ ∃ i, 1 ≤ i ∧ i < 3 * n ∧ at_ m n i = m := fun z => hk ((back_iff E h1 h).mpr z)
  have : ∃ i, i < L ∧ c = sg m n i := by
    rcases mem_short hc with z | z
    · unfold fstL at z
      obtain ⟨i, hi, rfl⟩ := List.mem_map.mp z
      exact ⟨i, by have := List.mem_range.mp hi; omega, rfl⟩
    · unfold agnL at z
      obtain ⟨i, hi, rfl⟩ := List.mem_map.mp z
      exact ⟨p + i, by have := List.mem_range.mp hi; omega, rfl⟩
  obtain ⟨i, hi, rfl⟩ := this
  rcases sgn_val (m := m) (n := n) (at_ m n i) with z | z | z
  · exfalso
    have z : sg m n i = 42 := z
    rw [sg_star h] at z
    exact hno ⟨i + 1, by omega, by omega, z⟩
  · exact .inl z
  · exact .inr z
theorem sg_val (i : Nat) : sg m n i = 42 ∨ sg m n i = 48 ∨ sg m n i = 49 := sgn_val _
theorem K_val (E : End m n L p) : ∀ c, c ∈ (K m n L p).1 ∨ c ∈ (K m n L p).2 → c = 42 ∨ c = 48 ∨ c = 49 := by
  intro c hc
  rcases mem_short hc with z | z
  · unfold fstL at z
    obtain ⟨i, hi, rfl⟩ := List.mem_map.mp z
    exact sg_val i
  · unfold agnL at z
    obtain ⟨i, hi, rfl⟩ := List.mem_map.mp z
    exact sg_val _
/-! a multiple of both -/
theorem at_mul (t : Nat) : ∀ i, at_ (m * t) (n * t) i = at_ m n i * t
  | 0 => rfl
  | i + 1 => by
    show 2 * at_ (m * t) (n * t) i % (n * t) = 2 * at_ m n i % n * t
    rw [at_mul t i, ← Nat.mul_assoc, Nat.mul_mod_mul_right]
theorem sg_mul {t : Nat} (ht : 1 ≤ t) (i : Nat) : sg (m * t) (n * t) i = sg m n i := by
  unfold sg sgn
  rw [at_mul t]
  generalize at_ m n i = x
  have a1 : 2 * (x * t) = m * t ↔ 2 * x = m := by
    rw [← Nat.mul_assoc]
    exact ⟨fun h => Nat.eq_of_mul_eq_mul_right ht h, fun h => by rw [h]⟩
  have a2 : 2 * (x * t) = m * t + n * t ↔ 2 * x = m + n := by
    rw [← Nat.mul_assoc, ← Nat.add_mul]
    exact ⟨fun h => Nat.eq_of_mul_eq_mul_right ht h, fun h => by rw [h]⟩
  have a3 : m * t < 2 * (x * t) ↔ m < 2 * x := by
    rw [← Nat.mul_assoc]
    exact Nat.mul_lt_mul_right ht
  have a4 : 2 * (x * t) < m * t + n * t ↔ 2 * x < m + n := by
    rw [← Nat.mul_assoc, ← Nat.add_mul]
    exact Nat.mul_lt_mul_right ht
  simp only [a1, a2, a3, a4]
theorem end_mul {t L' p' : Nat} (ht : 1 ≤ t) (E : End m n L p) (E' : End (m * t) (n * t) L' p') : L' = L ∧ p' = p := by
  have inj : ∀ i j, at_ (m * t) (n * t) i = at_ (m * t) (n * t) j ↔ at_ m n i = at_ m n j := fun i j => by
    rw [at_mul, at_mul]
    exact ⟨fun h => Nat.eq_of_mul_eq_mul_right ht h, fun h => by rw [h]⟩
  have hL : L' = L := by
    rcases Nat.lt_trichotomy L' L with c | c | c
    · exact absurd ((inj _ _).mp E'.eq).symm (E.nd _ _ E'.pl c)
    · exact c
    · exact absurd ((inj _ _).mpr E.eq).symm (E'.nd _ _ E.pl c)
  subst hL
  refine ⟨rfl, ?_⟩
  have h := (inj _ _).mp E'.eq
  rw [E.eq] at h
  rcases Nat.lt_trichotomy p' p with c | c | c
  · exact absurd h.symm (E.nd _ _ c E.pl)
  · exact c
  · exact absurd h (E.nd _ _ c E'.pl)
theorem K_mul {t L' p' : Nat} (ht : 1 ≤ t) (E : End m n L p) (E' : End (m * t) (n * t) L' p') : K (m * t) (n * t) L' p' = K m n L p := by
  obtain ⟨rfl, rfl⟩ := end_mul ht E E'
  unfold K fstL agnL
  have : sg (m * t) (n * t) = sg m n := funext fun i => sg_mul ht i
  rw [this]
end
end K64

set_option Elab.async false
set_option linter.all false
set_option autoImplicit false
set_option maxRecDepth 100000
set_option maxHeartbeats 1000000
namespace VS
open D M
/-! ### comprehensions and loops that run through -/
theorem lcL_run {b : D → M (Option D)} {chk : M Unit} {f : D → D} {P : Rho → Prop} : ∀ (xs acc : List D) (ρ : Rho), (∀ x ∈ xs, ∀ ρ, P ρ → ∃ ρ', b x ρ = some (some (f x), ρ') ∧ P ρ' ∧ chk ρ' = some ((), ρ')) → P ρ → acc.length + xs.length ≤ LIM →
    ∃ ρ', P ρ' ∧ lcL b chk xs acc ρ = some (acc ++ xs.map f, ρ')
  | [], acc, ρ, _, hp, _ => ⟨ρ, hp, by simp [lcL, pur]⟩
  | x :: xs, acc, ρ, h, hp, hl => by
    obtain ⟨ρ1, h1, h2, h3⟩ := h x List.mem_cons_self ρ hp
    have hl' : acc.length + (xs.length + 1) ≤ LIM := hl
    obtain ⟨ρ2, h4, h5⟩ := lcL_run xs (acc ++ [f x]) ρ1 (fun y hy => h y (List.mem_cons_of_mem _ hy)) h2 (by rw [List.length_append, List.length_singleton]; omega)
    refine ⟨ρ2, h4, ?_⟩
    show bnd (b x) _ ρ = _
    rw [bnd_eq h1]
    show bnd chk _ ρ1 = _
    rw [bnd_eq h3]
    show (if acc.length < LIM then lcL b chk xs (acc ++ [f x]) else fun _ => none) ρ1 = _
    rw [if_pos (by omega), h5, List.map_cons, List.append_assoc]
    rfl
theorem lc_run {Γ : Gam} {t : Tg} {own : List Nat} {it : It} {c : Option E} {e : E} {ρ ρ1 : Rho} {src : D} {xs : List D} (f : D → D) (P : Rho → Prop) (hI : evI Γ it ρ = some ((src, xs), ρ1)) (hP : P (wipeS ρ1 own))
    (hb : ∀ x ∈ xs, ∀ ρ, P ρ → ∃ ρ', lcB own t (tB (evc Γ c)) (ev Γ e) x ρ = some (some (f x), ρ') ∧ P ρ' ∧ itChk it src ρ' = some ((), ρ')) (hl : xs.length ≤ LIM) :
    ∃ ρ', P ρ' ∧ ev Γ (.lc t own it c e) ρ = some (D.lst (xs.map f), backS (wipeB ρ1 own) ρ' own) := by
  obtain ⟨ρ2, h1, h2⟩ := lcL_run (f := f) xs [] (wipeS ρ1 own) hb hP (by simpa using hl)
  refine ⟨ρ2, h1, ?_⟩
  show bnd (evI Γ it) _ ρ = _
  rw [bnd_eq hI]
  show blk own _ ρ1 = _
  unfold blk
  have : bnd (lcL (lcB own t (tB (evc Γ c)) (ev Γ e)) (itChk it src) xs []) (fun ds => pur (D.lst ds)) (wipeS ρ1 own) = some (D.lst (xs.map f), ρ2) := by
    rw [bnd_eq h2]
    rfl
  simp only [this]
theorem boolL_map (f : D → Bool) : ∀ xs : List D, boolL (xs.map fun x => D.bl (f x)) = some (xs.map f)
  | [] => rfl
  | x :: xs => by simp [boolL, boolL_map f xs]
theorem cut_take {α : Type} (xs : List α) (j : Nat) : cut xs none (some (j : Int)) = xs.take j := by
  have h0 : sIx xs.length 0 none = 0 := rfl
  have h1 : sIx xs.length xs.length (some (j : Int)) = min j xs.length := by
    show (if (j : Int) < 0 then ((j : Int) + (xs.length : Int)).toNat else min (j : Int).toNat xs.length) = _
    rw [if_neg (by omega)]
    simp
  unfold cut
  rw [h0, h1, List.drop_zero, Nat.sub_zero, List.take_eq_take_iff]
  omega
theorem cut_drop {α : Type} (xs : List α) (j : Nat) : cut xs (some (j : Int)) none = xs.drop j := by
  have h0 : sIx xs.length 0 (some (j : Int)) = min j xs.length := by
    show (if (j : Int) < 0 then ((j : Int) + (xs.length : Int)).toNat else min (j : Int).toNat xs.length) = _
    rw [if_neg (by omega)]
    simp
  have h1 : sIx xs.length xs.length none = xs.length := rfl
  unfold cut
  rw [h0, h1]
  by_cases h : j ≤ xs.length
  · rw [Nat.min_eq_left h, List.take_of_length_le (by rw [List.length_drop]; omega)]
  · rw [Nat.min_eq_right (by omega), Nat.sub_self, List.take_zero, List.drop_eq_nil_of_le (by omega)]
theorem cut_take1 {α : Type} (xs : List α) : cut xs none (some (-1)) = xs.take (xs.length - 1) := by
  have h0 : sIx xs.length 0 none = 0 := rfl
  have h1 : sIx xs.length xs.length (some (-1)) = xs.length - 1 := by
    show (if (-1 : Int) < 0 then (-1 + (xs.length : Int)).toNat else min (-1 : Int).toNat xs.length) = _
    rw [if_pos (by decide)]
    omega
  unfold cut
  rw [h0, h1, List.drop_zero, Nat.sub_zero]
theorem cut_drop1 {α : Type} (xs : List α) : cut xs (some (-1)) none = xs.drop (xs.length - 1) := by
  have h0 : sIx xs.length 0 (some (-1)) = xs.length - 1 := by
    show (if (-1 : Int) < 0 then (-1 + (xs.length : Int)).toNat else min (-1 : Int).toNat xs.length) = _
    rw [if_pos (by decide)]
    omega
  have h1 : sIx xs.length xs.length none = xs.length := rfl
  unfold cut
  rw [h0, h1, List.take_of_length_le (by rw [List.length_drop]; exact Nat.le_refl _)]
theorem slice_tup {xs : List D} (h : ims xs = true) (lo hi : Option Int) : slice (.tup xs) lo hi = some (.tup (cut xs lo hi)) := by
  show (if ims xs = true then _ else none) = _
  rw [if_pos h]
theorem slice_lst {xs : List D} (h : ims xs = true) (lo hi : Option Int) : slice (.lst xs) lo hi = some (.lst (cut xs lo hi)) := by
  show (if ims xs = true then _ else none) = _
  rw [if_pos h]
theorem mul_tup {xs : List D} {k : Nat} (h : ims xs = true) (hk : k ≤ 1000) (hl : xs.length ≤ 1000) : mulD (.tup xs) (.int (k : Nat)) = some (.tup (rep k xs)) := by
  show (if (ims xs && decide _) = true then _ else none) = _
  rw [h, decide_eq_true (show (0 : Int) ≤ (k : Nat) ∧ ((k : Nat) : Int) ≤ 1000 ∧ xs.length ≤ 1000 from ⟨by omega, by omega, hl⟩)]
  rfl
theorem mul_str {xs : List Nat} {k : Nat} (hk : k ≤ 1000) (hl : xs.length ≤ 1000) : mulD (.str xs) (.int (k : Nat)) = some (.str (rep k xs)) := by
  show (if _ then _ else none) = _
  rw [if_pos (show (0 : Int) ≤ (k : Nat) ∧ ((k : Nat) : Int) ≤ 1000 ∧ xs.length ≤ 1000 from ⟨by omega, by omega, hl⟩)]
  rfl
theorem mod_nat {a b : Nat} (h : 0 < b) : modD (.int (a : Nat)) (.int (b : Nat)) = some (.int ((a % b : Nat) : Int)) := by
  show (if _ then _ else none) = _
  rw [if_pos (show (0 : Int) < (b : Nat) by omega)]
  rfl
theorem fdv_nat {a b : Nat} (h : 0 < b) (h2 : b < 1073741824) : fdvD (.int (a : Nat)) (.int (b : Nat)) = some (.int ((a / b : Nat) : Int)) := by
  show (if _ then _ else none) = _
  rw [if_pos (show (0 : Int) < (b : Nat) ∧ ((b : Nat) : Int) < 1073741824 by omega)]
  rfl
theorem b_mod {a b : Nat} (h : 0 < b) : binop .mod (.int (a : Nat)) (.int (b : Nat)) = some (.int ((a % b : Nat) : Int)) := mod_nat h
theorem b_fdv {a b : Nat} (h : 0 < b) (h2 : b < 1073741824) : binop .fdv (.int (a : Nat)) (.int (b : Nat)) = some (.int ((a / b : Nat) : Int)) := fdv_nat h h2
theorem b_mulT {xs : List D} {k : Nat} (h : ims xs = true) (hk : k ≤ 1000) (hl : xs.length ≤ 1000) : binop .mul (.tup xs) (.int (k : Nat)) = some (.tup (rep k xs)) := mul_tup h hk hl
theorem b_mulS {xs : List Nat} {k : Nat} (hk : k ≤ 1000) (hl : xs.length ≤ 1000) : binop .mul (.str xs) (.int (k : Nat)) = some (.str (rep k xs)) := mul_str hk hl
theorem b_mul {a b : Int} (h : smallI a = true) : binop .mul (.int a) (.int b) = some (.int (a * b)) := by
  show (if (smallI a || smallI b) = true then _ else none) = _
  rw [h]
  rfl
theorem e_one {Γ : Gam} {a : E} {ρ : Rho} {r : Option (D × Rho)} (h : ev Γ a ρ = r) : ev Γ (.one a) ρ = r := h
theorem b_tuple {xs : List D} (h : ims xs = true) : builtin .tuple (.lst xs) = some (.tup xs) := if_pos h
theorem index_dic {ks vs : List D} {k v : D} (h : keyK k = true) (h2 : dget ks vs k = some v) (hi : im v = true) : index (.dic false ks vs) k = some v := by
  show (if key false k = true then imO (dget ks vs k) else none) = _
  have : key false k = true := h
  rw [if_pos this, h2]
  simp only [imO, hi, if_true]
theorem c_lt (a b : Int) : cmpop .lt (.int a) (.int b) = some (decide (a < b)) := rfl
theorem c_le (a b : Int) : cmpop .le (.int a) (.int b) = some (decide (a ≤ b)) := rfl
theorem c_gt (a b : Int) : cmpop .gt (.int a) (.int b) = some (decide (b < a)) := rfl
theorem c_ge (a b : Int) : cmpop .ge (.int a) (.int b) = some (decide (b ≤ a)) := rfl
theorem c_eq (a b : D) : cmpop .eq a b = pyEq a b := rfl
theorem c_ne (a b : D) : cmpop .ne a b = (pyEq a b).map not := rfl
theorem some_t {p : Prop} [Decidable p] (h : p) : some (decide p) = some true := by rw [decide_eq_true h]
theorem some_f {p : Prop} [Decidable p] (h : ¬ p) : some (decide p) = some false := by rw [decide_eq_false h]
theorem eq_int (a b : Int) : pyEq (.int a) (.int b) = some (decide (a = b)) := by
  rw [eq_pl rfl rfl]
  congr 1
  exact decide_eq_decide.mpr ⟨fun h => D.int.inj h, fun h => by rw [h]⟩
theorem eq_nat (a b : Nat) : pyEq (.int (a : Nat)) (.int (b : Nat)) = some (decide (a = b)) := by
  rw [eq_int]
  congr 1
  exact decide_eq_decide.mpr (by omega)
theorem eq_str (a b : List Nat) : pyEq (.str a) (.str b) = some (decide (a = b)) := rfl
theorem eq_tup' {a b : List D} (ha : a.all isPl = true) (hb : b.all isPl = true) : pyEq (.tup a) (.tup b) = some (decide (a = b)) := by
  rw [eq_tup ha hb]
theorem rangeD_nat (lo n : Nat) : rangeD (lo : Int) ((lo + n : Nat) : Int) = (List.range' lo n).map fun j => D.int (j : Nat) := by
  unfold rangeD
  have : (((lo + n : Nat) : Int) - (lo : Int)).toNat = n := by omega
  rw [this, List.range'_eq_map_range, List.map_map]
  refine List.map_congr_left fun i _ => ?_
  simp
theorem rgD_nat {lo n : Nat} (h : lo + n ≤ 1000000) : rgD [.int (lo : Nat), .int ((lo + n : Nat) : Int)] = some ((List.range' lo n).map fun j => D.int (j : Nat)) := by
  have hr : rngOk (lo : Nat) ((lo + n : Nat) : Int) = true := by
    unfold rngOk
    refine decide_eq_true ⟨by omega, by omega, by omega, by omega, ?_⟩
    have : (((lo + n : Nat) : Int) - (lo : Int)).toNat = n := by omega
    rw [this]
    unfold LIM
    omega
  unfold rgD
  simp only [rgI, hr, if_true, rangeD_nat]
theorem ixN_nat {n i : Nat} (h : i < n) : ixN n (i : Int) = some i := by
  unfold ixN
  rw [if_pos (by omega), if_pos (by omega)]
  simp
theorem ixN_last {n : Nat} (h : 0 < n) : ixN n (-1) = some (n - 1) := by
  unfold ixN
  rw [if_neg (by decide), if_pos (by omega)]
  congr 1
  omega
theorem index_tup {xs : List D} {i : Nat} {d : D} (h : xs[i]? = some d) (hi : im d = true) : index (.tup xs) (.int (i : Nat)) = some d := by
  have hl := (List.getElem?_eq_some_iff.mp h).1
  show imO (atD xs _) = _
  unfold atD
  rw [ixN_nat hl]
  simp only [h, imO, hi, if_true]
theorem index_lst {xs : List D} {i : Nat} {d : D} (h : xs[i]? = some d) (hi : im d = true) : index (.lst xs) (.int (i : Nat)) = some d := index_tup h hi
theorem index_tup1 {xs : List D} {d : D} (h : xs[xs.length - 1]? = some d) (hi : im d = true) : index (.tup xs) (.int (-1)) = some d := by
  have hl := (List.getElem?_eq_some_iff.mp h).1
  show imO (atD xs _) = _
  unfold atD
  rw [ixN_last (by omega)]
  simp only [h, imO, hi, if_true]
theorem index_str {xs : List Nat} {i : Nat} {c : Nat} (h : xs[i]? = some c) : index (.str xs) (.int (i : Nat)) = some (.str [c]) := by
  have hl := (List.getElem?_eq_some_iff.mp h).1
  show (match ixN xs.length _ with
    | some j => match xs[j]? with
      | some c => some (D.str [c])
      | none => none
    | none => none) = _
  rw [ixN_nat hl]
  simp only [h]
theorem index_str1 {xs : List Nat} {c : Nat} (h : xs[xs.length - 1]? = some c) : index (.str xs) (.int (-1)) = some (.str [c]) := by
  have hl := (List.getElem?_eq_some_iff.mp h).1
  show (match ixN xs.length _ with
    | some j => match xs[j]? with
      | some c => some (D.str [c])
      | none => none
    | none => none) = _
  rw [ixN_last (by omega)]
  simp only [h]
/-- a walk over a text: all signs of a text fit -/
theorem e_for {Γ : Gam} {t : Tg} {it : It} {b : List S} {ρ ρ1 : Rho} {src : D} {xs : List D} (hI : evI Γ it ρ = some ((src, xs), ρ1)) : ex Γ (.for_ t it b) ρ = frL (fun x => bnd (setT t x) fun _ => exs Γ b) (itChk it src) xs ρ1 := by
  show bnd (evI Γ it) _ ρ = _
  rw [bnd_eq hI]
theorem evI_rng {Γ : Gam} {as : List E} {ρ ρ1 : Rho} {ds xs : List D} (h : evs Γ as ρ = some (ds, ρ1)) (h2 : rgD ds = some xs) : evI Γ (.rng as) ρ = some ((.non, xs), ρ1) := by
  show bnd (evs Γ as) _ ρ = _
  rw [bnd_eq h]
  exact lif_eq (by rw [h2]; rfl) _
theorem evI_txt {Γ : Gam} {a : E} {ρ ρ1 : Rho} {s : List Nat} (h : ev Γ a ρ = some (.str s, ρ1)) : evI Γ (.txt a) ρ = some ((.non, s.map fun c => .str [c]), ρ1) := by
  show bnd (ev Γ a) _ ρ = _
  rw [bnd_eq h]
  rfl
theorem evI_seqV {Γ : Gam} {j : Nat} {ρ : Rho} {d : D} {xs : List D} (h : ρ[j]? = some (some d)) (h2 : items d = some xs) (h3 : ims xs = true) : evI Γ (.seq (.var j)) ρ = some ((d, xs), ρ) := by
  show bnd (rd (.var j) _) _ ρ = _
  rw [bnd_eq (rd_v h _)]
  exact lif_eq (by unfold itemsIm; rw [h2]; simp only [h3, if_true]) _
theorem unp_eq {Γ : Gam} {is : List Nat} {e : E} {ρ ρ1 ρ2 : Rho} {xs : List D} (h : ev Γ e ρ = some (.tup xs, ρ1)) (h2 : setMany is xs ρ1 = some ((), ρ2)) : ex Γ (.unp is e) ρ = some (.nx, ρ2) := by
  show bnd (ev Γ e) _ ρ = _
  rw [bnd_eq h]
  show bnd (setMany is xs) _ ρ1 = _
  rw [bnd_eq h2]
  rfl
theorem par_eq {Γ : Gam} {is : List Nat} {es : List E} {ρ ρ1 ρ2 : Rho} {ds : List D} (h : evs Γ es ρ = some (ds, ρ1)) (h2 : parS is ds ρ1 = some ((), ρ2)) : ex Γ (.par is es) ρ = some (.nx, ρ2) := by
  show bnd (evs Γ es) _ ρ = _
  rw [bnd_eq h, bnd_eq h2]
  rfl
theorem put_eq {Γ : Gam} {j : Nat} {k e : E} {ρ ρ1 ρ2 : Rho} {d i c c' c0 : D} (h1 : ev Γ e ρ = some (d, ρ1)) (h2 : ρ1[j]? = some (some c0)) (h3 : ev Γ k ρ1 = some (i, ρ2)) (h4 : ρ2[j]? = some (some c)) (h5 : putD c i d = some c') : ex Γ (.put j k e) ρ = some (.nx, ρ2.set j (some c')) := by
  show bnd (ev Γ e) _ ρ = _
  rw [bnd_eq h1, bnd_eq (look_eq h2), bnd_eq h3, bnd_eq (look_eq h4), bnd_eq (lif_eq h5 _)]
  have hl := (List.getElem?_eq_some_iff.mp h4).1
  have : setS j c' ρ2 = some ((), ρ2.set j (some c')) := by unfold setS; rw [if_pos hl]
  rw [bnd_eq this]
  rfl
theorem app_eq {Γ : Gam} {j : Nat} {a : E} {ρ ρ1 : Rho} {xs ys : List D} {d : D} (h0 : ρ[j]? = some (some (.lst xs))) (h1 : ev Γ a ρ = some (d, ρ1)) (h2 : ρ1[j]? = some (some (.lst ys))) (hl : ys.length < LIM) : ex Γ (.exp (.app j a)) ρ = some (.nx, ρ1.set j (some (.lst (ys ++ [d])))) := by
  refine exp_eq (d := .non) ?_
  show bnd (lookL j) _ ρ = _
  have e0 : lookL j ρ = some ((), ρ) := by unfold lookL; rw [h0]
  have e1 : appD (.lst ys) d = some (.lst (ys ++ [d])) := by
    show (if _ then _ else none) = _
    rw [if_pos hl]
  have hj := (List.getElem?_eq_some_iff.mp h2).1
  have e2 : setS j (.lst (ys ++ [d])) ρ1 = some ((), ρ1.set j (some (.lst (ys ++ [d])))) := by unfold setS; rw [if_pos hj]
  rw [bnd_eq e0, bnd_eq h1, bnd_eq (look_eq h2), bnd_eq (lif_eq e1 _), bnd_eq e2]
  rfl
theorem e_join {Γ : Gam} {a b : E} {ρ ρ1 ρ2 : Rho} {x y z : D} (h1 : ev Γ a ρ = some (x, ρ1)) (h2 : rd b (ev Γ b) ρ1 = some (y, ρ2)) (h3 : joinD x y = some z) : ev Γ (.join a b) ρ = some (z, ρ2) := by
  show bnd (ev Γ a) _ ρ = _
  rw [bnd_eq h1, bnd_eq h2]
  exact lif_eq h3 _
theorem whl_eq {Γ : Gam} {c : E} {b : List S} {ρ : Rho} : ex Γ (.whl c b) ρ = whL (tB (ev Γ c)) (exs Γ b) FUEL ρ := rfl
end VS

set_option Elab.async false
set_option linter.all false
set_option autoImplicit false
set_option maxRecDepth 100000
set_option maxHeartbeats 4000000
namespace K64
open VS
/-! ### the program of the law, def by def -/
/-- is_integer -/
def fd0 : Fd :=
  ⟨1, 1, [.ret (.and (.isi (.var 0) .int) (.one (.not (.isi (.var 0) .bool))))]⟩
/-- is_natural -/
def fd1 : Fd :=
  ⟨1, 1, [.ret (.and (.call 0 [(.var 0)]) (.one (.cmp .ge (.var 0) (.cst (.int 0)))))]⟩
/-- are_below -/
def fd2 : Fd :=
  ⟨2, 3, [.ret (.and (.isi (.var 0) .tuple) (.one (.bi .all (.lc (.one 2) [2] (.seq (.var 0)) none (.and (.call 1 [(.var 2)]) (.one (.cmp .lt (.var 2) (.var 1))))))))]⟩
/-- check_from -/
def fd3 : Fd :=
  ⟨2, 2, [.ife (.or (.not (.call 0 [(.var 0)])) (.one (.cmp .lt (.var 0) (.var 1)))) [.nev] []]⟩
/-- check_word -/
def fd4 : Fd :=
  ⟨2, 2, [.ife (.not (.call 2 [(.var 1), (.var 0)])) [.nev] []]⟩
/-- check_again -/
def fd5 : Fd :=
  ⟨2, 2, [.ife (.or (.not (.call 2 [(.var 1), (.var 0)])) (.one (.cmp .eq (.var 1) (.tup [])))) [.nev] []]⟩
/-- root_of -/
def fd6 : Fd :=
  ⟨1, 2, [.for_ (.one 1) (.rng [(.cst (.int 1)), (.bin .add (.bi .len (.var 0)) (.cst (.int 1)))]) [.ife (.and (.cmp .eq (.bin .mod (.bi .len (.var 0)) (.var 1)) (.cst (.int 0))) (.one (.cmp .eq (.bin .mul (.sl (.var 0) none (some (.var 1))) (.bin .fdv (.bi .len (.var 0)) (.var 1))) (.var 0)))) [.ret (.sl (.var 0) none (some (.var 1)))] []],
  .ret (.var 0)]⟩
/-- short_form -/
def fd7 : Fd :=
  ⟨2, 2, [.set 1 (.call 6 [(.var 1)]),
  .whl (.and (.cmp .ne (.var 0) (.tup [])) (.one (.cmp .eq (.ix (.var 0) (.neg (.cst (.int 1)))) (.ix (.var 1) (.neg (.cst (.int 1))))))) [.par [0, 1] [(.sl (.var 0) none (some (.neg (.cst (.int 1))))), (.bin .add (.sl (.var 1) (some (.neg (.cst (.int 1)))) none) (.sl (.var 1) none (some (.neg (.cst (.int 1))))))]],
  .ret (.tup [(.var 0), (.var 1)])]⟩
/-- round_form -/
def fd8 : Fd :=
  ⟨2, 2, [.exp (.call 4 [(.glb 0 (.int 4)), (.var 0)]),
  .exp (.call 5 [(.glb 0 (.int 4)), (.var 1)]),
  .ret (.call 7 [(.var 0), (.var 1)])]⟩
/-- are_plain_signs -/
def fd9 : Fd :=
  ⟨1, 2, [.ret (.and (.isi (.var 0) .str) (.one (.bi .all (.lc (.one 1) [1] (.txt (.var 0)) none (.or (.cmp .eq (.var 1) (.cst (.str [48]))) (.one (.cmp .eq (.var 1) (.cst (.str [49])))))))))]⟩
/-- are_signs -/
def fd10 : Fd :=
  ⟨2, 2, [.ife (.or (.not (.call 9 [(.var 0)])) (.or (.not (.isi (.var 1) .str)) (.one (.cmp .eq (.var 1) (.cst (.str [])))))) [.ret (.cst (.bl false))] [],
  .ife (.cmp .eq (.var 0) (.cst (.str []))) [.ret (.and (.cmp .eq (.ix (.var 1) (.neg (.cst (.int 1)))) (.cst (.str [42]))) (.one (.call 9 [(.sl (.var 1) none (some (.neg (.cst (.int 1)))))])))] [],
  .ret (.and (.call 9 [(.var 1)]) (.one (.cmp .ne (.ix (.var 0) (.neg (.cst (.int 1)))) (.ix (.var 1) (.neg (.cst (.int 1)))))))]⟩
/-- kneading_of -/
def fd11 : Fd :=
  ⟨2, 7, [.par [2, 3, 4] [(.var 0), (.dnew false), (.lst [])],
  .whl (.cmp .nin (.var 2) (.var 3)) [.put 3 (.var 2) (.bi .len (.var 4)),
     .ife (.or (.cmp .eq (.bin .mul (.cst (.int 2)) (.var 2)) (.var 0)) (.one (.cmp .eq (.bin .mul (.cst (.int 2)) (.var 2)) (.bin .add (.var 0) (.var 1))))) [.exp (.app 4 (.cst (.str [42])))] [.exp (.app 4 (.ife (.chn .lt .lt (.var 0) (.bin .mul (.cst (.int 2)) (.var 2)) (.bin .add (.var 0) (.var 1))) (.cst (.str [49])) (.cst (.str [48]))))],
     .set 2 (.bin .mod (.bin .mul (.cst (.int 2)) (.var 2)) (.var 1))],
  .unp [5, 6] (.call 7 [(.bi .tuple (.sl (.var 4) none (some (.ix (.var 3) (.var 2))))), (.bi .tuple (.sl (.var 4) (some (.ix (.var 3) (.var 2))) none))]),
  .ret (.tup [(.join (.cst (.str [])) (.var 5)), (.join (.cst (.str [])) (.var 6))])]⟩
/-- is_signs -/
def fd12 : Fd :=
  ⟨1, 1, [.ret (.and (.isi (.var 0) .tuple) (.and (.cmp .eq (.bi .len (.var 0)) (.cst (.int 2))) (.one (.call 10 [(.ix (.var 0) (.cst (.int 0))), (.ix (.var 0) (.cst (.int 1)))]))))]⟩
/-- kneading -/
def fd13 : Fd :=
  ⟨2, 2, [.ife (.not (.call 0 [(.var 0)])) [.nev] [],
  .exp (.call 3 [(.var 1), (.cst (.int 2))]),
  .ife (.not (.chn .le .lt (.cst (.int 1)) (.var 0) (.var 1))) [.nev] [],
  .ret (.call 11 [(.var 0), (.var 1)])]⟩
/-- _law_purse -/
def fd14 : Fd :=
  ⟨1, 2, [.ret (.lst [(.lc (.one 1) [1] (.seq (.var 0)) none (.ife (.cmp .ge (.var 1) (.cst (.int 0))) (.bi .int (.var 1)) (.bin .sub (.cst (.int 5)) (.bin .mul (.cst (.int 2)) (.bi .int (.var 1)))))), (.cst (.int 0)), (.cst (.int 0))])]⟩
/-- _law_like -/
def fd16 : Fd :=
  ⟨2, 3, [.ife (.isN (.var 1)) [.ret (.isN (.var 0))] [],
  .ife (.isi (.var 1) .tuple) [.ife (.or (.not (.isi (.var 0) .tuple)) (.one (.cmp .ne (.bi .len (.var 0)) (.bi .len (.var 1))))) [.ret (.cst (.bl false))] [],
     .for_ (.one 2) (.rng [(.bi .len (.var 1))]) [.ife (.not (.call 16 [(.ix (.var 0) (.var 2)), (.ix (.var 1) (.var 2))])) [.ret (.cst (.bl false))] []],
     .ret (.cst (.bl true))] [],
  .ife (.or (.isi (.var 1) .bool) (.one (.isi (.var 0) .bool))) [.ret (.and (.isi (.var 1) .bool) (.and (.isi (.var 0) .bool) (.one (.cmp .eq (.var 0) (.var 1)))))] [],
  .ife (.isi (.var 1) .str) [.ret (.and (.isi (.var 0) .str) (.one (.cmp .eq (.var 0) (.var 1))))] [],
  .ret (.and (.isi (.var 0) .int) (.one (.cmp .eq (.var 0) (.var 1))))]⟩
/-- _law_signs -/
def fd17 : Fd :=
  ⟨3, 8, [.par [4, 5, 6] [(.var 0), (.lst []), (.lst [])],
  .for_ (.one 3) (.rng [(.var 2)]) [.exp (.app 6 (.var 4)),
     .set 7 (.bin .sub (.bin .mul (.cst (.int 2)) (.var 4)) (.var 0)),
     .exp (.app 5 (.ife (.or (.cmp .eq (.var 7) (.cst (.int 0))) (.one (.cmp .eq (.var 7) (.var 1)))) (.cst (.str [42])) (.ife (.chn .lt .lt (.cst (.int 0)) (.var 7) (.var 1)) (.cst (.str [49])) (.cst (.str [48]))))),
     .set 4 (.ife (.cmp .lt (.bin .mul (.cst (.int 2)) (.var 4)) (.var 1)) (.bin .mul (.cst (.int 2)) (.var 4)) (.bin .sub (.bin .mul (.cst (.int 2)) (.var 4)) (.var 1)))],
  .ret (.tup [(.var 5), (.var 6)])]⟩
/-- _law_is_short -/
def fd18 : Fd :=
  ⟨2, 3, [.ife (.and (.cmp .ne (.var 0) (.cst (.str []))) (.one (.cmp .eq (.ix (.var 0) (.neg (.cst (.int 1)))) (.ix (.var 1) (.neg (.cst (.int 1))))))) [.ret (.cst (.bl false))] [],
  .for_ (.one 2) (.rng [(.cst (.int 1)), (.bi .len (.var 1))]) [.ife (.and (.cmp .eq (.bin .mod (.bi .len (.var 1)) (.var 2)) (.cst (.int 0))) (.one (.cmp .eq (.bin .mul (.sl (.var 1) none (some (.var 2))) (.bin .fdv (.bi .len (.var 1)) (.var 2))) (.var 1)))) [.ret (.cst (.bl false))] []],
  .ret (.cst (.bl true))]⟩
/-- _law_holds -/
def fd19 : Fd :=
  ⟨3, 8, [.ife (.or (.not (.isi (.var 0) .tuple)) (.one (.cmp .ne (.bi .len (.var 0)) (.cst (.int 2))))) [.ret (.cst (.bl false))] [],
  .unp [4, 5] (.var 0),
  .ife (.or (.not (.isi (.var 4) .str)) (.or (.not (.isi (.var 5) .str)) (.or (.cmp .eq (.var 5) (.cst (.str []))) (.one (.cmp .gt (.bin .add (.bi .len (.var 4)) (.bi .len (.var 5))) (.var 2)))))) [.ret (.cst (.bl false))] [],
  .unp [6, 7] (.call 17 [(.var 1), (.var 2), (.bin .mul (.cst (.int 3)) (.var 2))]),
  .ife (.or (.cmp .ne (.var 4) (.join (.cst (.str [])) (.sl (.var 6) none (some (.bi .len (.var 4)))))) (.one (.not (.call 18 [(.var 4), (.var 5)])))) [.ret (.cst (.bl false))] [],
  .for_ (.one 3) (.rng [(.bi .len (.var 4)), (.bin .mul (.cst (.int 3)) (.var 2))]) [.ife (.cmp .ne (.ix (.var 6) (.var 3)) (.ix (.var 5) (.bin .mod (.bi .int (.bin .sub (.var 3) (.bi .len (.var 4)))) (.bi .len (.var 5))))) [.ret (.cst (.bl false))] []],
  .ret (.cmp .eq (.cmp .eq (.var 4) (.cst (.str []))) (.cmp .inn (.var 1) (.sl (.var 7) (some (.cst (.int 1))) none)))]⟩
/-- law -/
def fd20 : Fd :=
  ⟨1, 10, [.set 1 (.call 14 [(.var 0)]),
  .set 2 (.call 15 [(.var 1), (.cst (.int 4))]),
  .set 3 (.bin .add (.cst (.int 2)) (.call 15 [(.var 1), (.cst (.int 199))])),
  .ife (.cmp .eq (.var 2) (.cst (.int 1))) [.set 3 (.bin .mul (.ix (.lst [(.cst (.int 2)), (.cst (.int 4)), (.cst (.int 8)), (.cst (.int 16)), (.cst (.int 32)), (.cst (.int 64))]) (.call 15 [(.var 1), (.cst (.int 6))])) (.ix (.lst [(.cst (.int 1)), (.cst (.int 3)), (.cst (.int 1))]) (.call 15 [(.var 1), (.cst (.int 3))])))] [],
  .ife (.cmp .eq (.var 2) (.cst (.int 2))) [.set 3 (.bin .add (.cst (.int 3)) (.bin .mul (.cst (.int 2)) (.call 15 [(.var 1), (.cst (.int 99))])))] [],
  .set 4 (.bin .add (.cst (.int 1)) (.call 15 [(.var 1), (.bin .sub (.var 3) (.cst (.int 1)))])),
  .set 5 (.call 13 [(.var 4), (.var 3)]),
  .ife (.or (.not (.call 19 [(.var 5), (.var 4), (.var 3)])) (.one (.notT (.call 12 [(.var 5)])))) [.ret (.cst (.bl false))] [],
  .set 6 (.bi .tuple (.lc (.one 9) [9] (.txt (.ix (.var 5) (.cst (.int 0)))) none (.idx (.lst [(.cst (.str [48])), (.cst (.str [49])), (.cst (.str [42]))]) (.var 9)))),
  .set 7 (.bi .tuple (.lc (.one 9) [9] (.txt (.ix (.var 5) (.cst (.int 1)))) none (.idx (.lst [(.cst (.str [48])), (.cst (.str [49])), (.cst (.str [42]))]) (.var 9)))),
  .ife (.and (.cmp .le (.bi .len (.var 6)) (.cst (.int 24))) (.and (.cmp .le (.bi .len (.var 7)) (.cst (.int 24))) (.one (.not (.call 16 [(.call 8 [(.var 6), (.var 7)]), (.tup [(.var 6), (.var 7)])]))))) [.ret (.cst (.bl false))] [],
  .set 8 (.bin .add (.cst (.int 1)) (.call 15 [(.var 1), (.bin .fdv (.cst (.int 200)) (.var 3))])),
  .ret (.call 16 [(.call 13 [(.bin .mul (.var 4) (.var 8)), (.bin .mul (.var 3) (.var 8))]), (.tup [(.ix (.var 5) (.cst (.int 0))), (.ix (.var 5) (.cst (.int 1)))])])]⟩
def fds : List (Option Fd) := [some fd0, some fd1, some fd2, some fd3, some fd4, some fd5, some fd6, some fd7, some fd8, some fd9, some fd10, some fd11, some fd12, some fd13, some fd14, none, some fd16, some fd17, some fd18, some fd19, some fd20]
end K64

set_option Elab.async false
set_option linter.all false
set_option autoImplicit false
set_option maxRecDepth 100000
set_option maxHeartbeats 1000000
namespace K64
open VS D M
abbrev T := mkTab fds
abbrev nv {e : E} (h : ∀ j, e ≠ .var j) := h
theorem f0 (k : Nat) (i : Int) : ∃ os, sem T (k + 1) 0 [.int i] = some (.bl true, os) := ⟨_, rfl⟩
theorem f1 (k : Nat) (i : Int) : ∃ os, sem T (k + 2) 1 [.int i] = some (.bl (decide (0 ≤ i)), os) := ⟨_, rfl⟩
/-! root_of -/
def rtCond : E := .and (.cmp .eq (.bin .mod (.bi .len (.var 0)) (.var 1)) (.cst (.int 0))) (.one (.cmp .eq (.bin .mul (.sl (.var 0) none (some (.var 1))) (.bin .fdv (.bi .len (.var 0)) (.var 1))) (.var 0)))
def rtBody : List S := [.ife rtCond [.ret (.sl (.var 0) none (some (.var 1)))] []]
section
variable {Γ : Gam} {xs : List D} {j : Nat}
theorem rt_sl (hp : xs.all isPl = true) : ev Γ (.sl (.var 0) none (some (.var 1))) [some (.tup xs), some (.int (j : Nat))] = some (.tup (xs.take j), [some (.tup xs), some (.int (j : Nat))]) :=
  e_slV rfl evo_none (evo_some (e_var rfl rfl)) rfl rfl rfl (by rw [slice_tup (pls_ims hp), cut_take])
theorem rt_cond (hp : xs.all isPl = true) (hl : xs.length ≤ 1000) (hj : 1 ≤ j) (hj2 : j ≤ xs.length) : ev Γ rtCond [some (.tup xs), some (.int (j : Nat))] = some (.bl (isRt xs j), [some (.tup xs), some (.int (j : Nat))]) := by
  have hd : xs.length / j ≤ 1000 := Nat.le_trans (Nat.div_le_self _ _) hl
  have e1 : ev Γ (.cmp .eq (.bin .mod (.bi .len (.var 0)) (.var 1)) (.cst (.int 0))) [some (.tup xs), some (.int (j : Nat))] = some (.bl (decide (xs.length % j = 0)), [some (.tup xs), some (.int (j : Nat))]) :=
    e_cmp (fun _ => E.noConfusion) (e_bin (e_bi (rd_v rfl _) rfl) (e_var rfl rfl) (b_mod hj)) rfl (eq_nat _ 0)
  have e2 : ev Γ (.cmp .eq (.bin .mul (.sl (.var 0) none (some (.var 1))) (.bin .fdv (.bi .len (.var 0)) (.var 1))) (.var 0)) [some (.tup xs), some (.int (j : Nat))] = some (.bl (decide (rep (xs.length / j) (xs.take j) = xs)), [some (.tup xs), some (.int (j : Nat))]) :=
    e_cmp (fun _ => E.noConfusion) (e_bin (rt_sl hp) (e_bin (e_bi (rd_v rfl _) rfl) (e_var rfl rfl) (b_fdv hj (by omega))) (b_mulT (pls_ims (all_take hp j)) hd (by rw [List.length_take]; omega))) (rd_v rfl _) (eq_tup (all_rep (all_take hp j) _) hp)
  unfold rtCond isRt
  exact e_and e1 fun _ => e_one e2
theorem f6_loop (hp : xs.all isPl = true) (hl : xs.length ≤ 1000) : ∀ (js : List Nat) (x : Option D), (∀ j ∈ js, 1 ≤ j ∧ j ≤ xs.length) →
    ∃ y, frL (fun x => bnd (setT (.one 1) x) fun _ => exs Γ rtBody) (pur ()) (js.map fun j => D.int (j : Nat)) [some (.tup xs), x] =
      match js.find? (isRt xs) with
      | some j => some (.ret (.tup (xs.take j)), [some (.tup xs), some (.int (j : Nat))])
      | none => some (.nx, [some (.tup xs), y])
  | [], x, _ => ⟨x, rfl⟩
  | j :: js, x, h => by
    obtain ⟨h1, h2⟩ := h j List.mem_cons_self
    have hc := rt_cond (Γ := Γ) hp hl h1 h2
    have hb : bnd (setT (.one 1) (.int (j : Nat))) (fun _ => exs Γ rtBody) [some (.tup xs), x] = exs Γ rtBody [some (.tup xs), some (.int (j : Nat))] := rfl
    cases q : isRt xs j with
    | true =>
      rw [q] at hc
      refine ⟨x, ?_⟩
      rw [List.map_cons, List.find?_cons, q]
      refine frL_ret ?_
      rw [hb]
      exact exs_ret (by rw [ife_t hc]; exact exs_ret (ret_eq (rt_sl hp)))
    | false =>
      rw [q] at hc
      obtain ⟨y, ih⟩ := f6_loop hp hl js (some (.int (j : Nat))) fun i hi => h i (List.mem_cons_of_mem _ hi)
      refine ⟨y, ?_⟩
      rw [List.map_cons, List.find?_cons, q]
      rw [← ih]
      refine frL_nx ?_ rfl
      rw [hb]
      exact exs_nx (by rw [ife_f hc]; rfl)
end
theorem f6 (k : Nat) {xs : List D} (hp : xs.all isPl = true) (hl : xs.length ≤ 1000) : ∃ os, sem T (k + 1) 6 [.tup xs] = some (.tup (rootL xs), os) := by
  rw [sem_code (d := fd6) rfl]
  obtain ⟨y, hlo⟩ := f6_loop (Γ := sem T k) hp hl (List.range' 1 xs.length) none fun j hj => by have := List.mem_range'_1.mp hj; omega
  have e1 : (xs.length : Int) + 1 = ((1 + xs.length : Nat) : Int) := by omega
  have hi : evI (sem T k) (.rng [(.cst (.int 1)), (.bin .add (.bi .len (.var 0)) (.cst (.int 1)))]) [some (.tup xs), none] = some ((.non, (List.range' 1 xs.length).map fun j => D.int (j : Nat)), [some (.tup xs), none]) :=
    evI_rng (ds := [.int (1 : Nat), .int ((1 + xs.length : Nat) : Int)]) (evs_cons e_cst (evs_cons (e_bin (e_bi (rd_v rfl _) rfl) e_cst (by rw [← e1]; rfl)) evs_nil)) (rgD_nat (by omega))
  have hf := (e_for (t := .one 1) (b := rtBody) hi).trans hlo
  unfold rootL
  cases q : (List.range' 1 xs.length).find? (isRt xs) with
  | some j =>
    rw [q] at hf
    exact runF_ret rfl (exs_ret hf)
  | none =>
    rw [q] at hf
    exact runF_ret rfl ((exs_nx hf).trans (exs_ret (ret_eq (e_var rfl (pls_ims hp)))))
/-! short_form -/
def shCond : E := .and (.cmp .ne (.var 0) (.tup [])) (.one (.cmp .eq (.ix (.var 0) (.neg (.cst (.int 1)))) (.ix (.var 1) (.neg (.cst (.int 1))))))
def shBody : List S := [.par [0, 1] [(.sl (.var 0) none (some (.neg (.cst (.int 1))))), (.bin .add (.sl (.var 1) (some (.neg (.cst (.int 1)))) none) (.sl (.var 1) none (some (.neg (.cst (.int 1))))))]]
section
variable {Γ : Gam} {w a : List D}
theorem last_some {α : Type} {a : List α} (h : a ≠ []) : ∃ x, a[a.length - 1]? = some x ∧ x ∈ a := by
  have hl : 1 ≤ a.length := List.length_pos_iff.mpr h
  exact ⟨a[a.length - 1], List.getElem?_eq_getElem (by omega), List.getElem_mem _⟩
theorem sh_cond (hw : w.all isPl = true) (ha : a.all isPl = true) (hn : a ≠ []) : ev Γ shCond [some (.tup w), some (.tup a)] = some (.bl (decide (w ≠ [] ∧ w[w.length - 1]? = a[a.length - 1]?)), [some (.tup w), some (.tup a)]) := by
  obtain ⟨y, hy, my⟩ := last_some hn
  have py : isPl y = true := List.all_eq_true.mp ha y my
  have e1 : ev Γ (.cmp .ne (.var 0) (.tup [])) [some (.tup w), some (.tup a)] = some (.bl (!decide (w = [])), [some (.tup w), some (.tup a)]) :=
    e_cmpV rfl (rd_e (fun _ => E.noConfusion) (e_tup evs_nil (Nat.zero_le _))) rfl (by show (pyEq _ _).map not = _; rw [eq_tup hw rfl]; rfl)
  by_cases h0 : w = []
  · subst h0
    unfold shCond
    rw [and_f e1]
    rfl
  · obtain ⟨x, hx, mx⟩ := last_some h0
    have px : isPl x = true := List.all_eq_true.mp hw x mx
    have e2 : ev Γ (.cmp .eq (.ix (.var 0) (.neg (.cst (.int 1)))) (.ix (.var 1) (.neg (.cst (.int 1))))) [some (.tup w), some (.tup a)] = some (.bl (decide (x = y)), [some (.tup w), some (.tup a)]) :=
      e_cmp (fun _ => E.noConfusion) (e_ixV rfl (e_neg e_cst) rfl (index_tup1 hx (pl_im px))) (rd_e (fun _ => E.noConfusion) (e_ixV rfl (e_neg e_cst) rfl (index_tup1 hy (pl_im py)))) (eq_pl px py)
    have := e_and e1 fun _ => e_one e2
    unfold shCond
    rw [this, hx, hy]
    congr 3
    rw [decide_eq_false h0]
    simp [h0]
theorem sh_body (hw : w.all isPl = true) (ha : a.all isPl = true) (hl : a.length ≤ 1000) : exs Γ shBody [some (.tup w), some (.tup a)] = some (.nx, [some (.tup (w.take (w.length - 1))), some (.tup (rot a))]) := by
  have i1 := pls_ims hw
  have i2 := pls_ims ha
  have hadd : binop .add (.tup (a.drop (a.length - 1))) (.tup (a.take (a.length - 1))) = some (.tup (rot a)) := by
    show (if (ims _ && ims _ && decide _) = true then _ else none) = _
    have : (a.drop (a.length - 1)).length + (a.take (a.length - 1)).length ≤ LIM := by
      rw [List.length_drop, List.length_take]
      have : 1000 ≤ LIM := by decide
      omega
    rw [pls_ims (all_drop ha _), pls_ims (all_take ha _), decide_eq_true this]
    rfl
  refine exs_nx (ρ' := [some (.tup (w.take (w.length - 1))), some (.tup (rot a))]) (par_eq (ds := [.tup (w.take (w.length - 1)), .tup (rot a)]) (ρ1 := [some (.tup w), some (.tup a)]) ?_ rfl)
  refine evs_cons (e_slV rfl evo_none (evo_some (e_neg e_cst)) rfl rfl rfl (by rw [slice_tup i1, cut_take1])) (evs_cons ?_ evs_nil)
  exact e_bin (e_slV rfl (evo_some (e_neg e_cst)) evo_none rfl rfl rfl (by rw [slice_tup i2, cut_drop1])) (e_slV rfl evo_none (evo_some (e_neg e_cst)) rfl rfl rfl (by rw [slice_tup i2, cut_take1])) hadd
theorem rot_all {p : D → Bool} (h : a.all p = true) : (rot a).all p = true := by
  rw [List.all_eq_true] at h ⊢
  exact fun x hx => h x (mem_rot hx)
theorem f7_loop : ∀ (n f : Nat) {w a : List D}, w.length ≤ n → n < f → w.all isPl = true → a.all isPl = true → a ≠ [] → a.length ≤ 1000 →
    whL (tB (ev Γ shCond)) (exs Γ shBody) f [some (.tup w), some (.tup a)] = some (.nx, [some (.tup (shortN n w a).1), some (.tup (shortN n w a).2)])
  | n, 0, _, _, _, h, _, _, _, _ => by omega
  | 0, f + 1, w, a, hn, _, hw, ha, h0, hl => by
    have : w = [] := List.eq_nil_of_length_eq_zero (by omega)
    subst this
    exact whL_f (tB_eq (sh_cond hw ha h0))
  | n + 1, f + 1, w, a, hn, hf, hw, ha, h0, hl => by
    have hc := sh_cond (Γ := Γ) hw ha h0
    unfold shortN
    by_cases q : w ≠ [] ∧ w[w.length - 1]? = a[a.length - 1]?
    · rw [if_pos q]
      rw [decide_eq_true q] at hc
      have hl1 : 1 ≤ w.length := List.length_pos_iff.mpr q.1
      rw [whL_t (tB_eq hc) (sh_body hw ha hl)]
      exact f7_loop n f (by rw [List.length_take]; omega) (by omega) (all_take hw _) (rot_all ha) (fun z => h0 (List.eq_nil_of_length_eq_zero (by rw [← rot_len a, z]; rfl))) (by rw [rot_len]; exact hl)
    · rw [if_neg q]
      rw [decide_eq_false q] at hc
      exact whL_f (tB_eq hc)
end
theorem root_all {p : D → Bool} {a : List D} (h : a.all p = true) : (rootL a).all p = true := by
  rw [List.all_eq_true] at h ⊢
  exact fun x hx => h x (mem_root hx)
theorem f7 (k : Nat) {w a : List D} (hw : w.all isPl = true) (ha : a.all isPl = true) (h0 : a ≠ []) (hl : a.length ≤ 1000) (hlw : w.length ≤ 1000) : ∃ os, sem T (k + 2) 7 [.tup w, .tup a] = some (.tup [.tup (shortL w a).1, .tup (shortL w a).2], os) := by
  rw [sem_code (d := fd7) rfl]
  have r := root_len h0
  have i1 := pls_ims ha
  have ra := root_all ha
  have s1 : ex (sem T (k + 1)) (.set 1 (.call 6 [(.var 1)])) [some (.tup w), some (.tup a)] = some (.nx, [some (.tup w), some (.tup (rootL a))]) :=
    set_eq (e_call (evT_v rfl evT_nil) (argF_v (d := .tup a) rfl i1 argF_nil) (by simp [ims, im, i1]) (f6 k ha hl)) (by show 1 < 2; decide)
  have s2 := f7_loop (Γ := sem T (k + 1)) w.length FUEL (Nat.le_refl _) (Nat.lt_of_le_of_lt hlw (by decide)) hw ra r.2 (by omega)
  have m : ∀ x, x ∈ (shortN w.length w (rootL a)).1 ∨ x ∈ (shortN w.length w (rootL a)).2 → isPl x = true := fun x hx => by
    rcases mem_shortN _ hx with z | z
    · exact List.all_eq_true.mp hw x z
    · exact List.all_eq_true.mp ra x z
  have m1 : (shortL w a).1.all isPl = true := List.all_eq_true.mpr fun x hx => m x (.inl hx)
  have m2 : (shortL w a).2.all isPl = true := List.all_eq_true.mpr fun x hx => m x (.inr hx)
  exact runF_ret rfl ((exs_nx s1).trans ((exs_nx (whl_eq.trans s2)).trans (exs_ret (ret_eq (e_tup (evs_cons (e_var (d := .tup (shortL w a).1) rfl (pls_ims m1)) (evs_cons (e_var (d := .tup (shortL w a).2) rfl (pls_ims m2)) evs_nil)) (by show 2 ≤ LIM; decide))))))
end K64

set_option Elab.async false
set_option linter.all false
set_option autoImplicit false
set_option maxRecDepth 100000
set_option maxHeartbeats 1000000
namespace K64
open VS D M
/-! are_below, round_form: letters -/
def okL (m : Nat) (d : D) : Bool := match d with
  | .int i => decide (0 ≤ i) && decide (i < m)
  | _ => false
theorem okL_pl {m : Nat} {xs : List D} (h : xs.all (okL m) = true) : xs.all isPl = true := by
  rw [List.all_eq_true] at h ⊢
  intro x hx
  have := h x hx
  cases x <;> simp [okL] at this
  rfl
theorem setT_one {i : Nat} {d : D} {ρ : Rho} (h : i < ρ.length) : setT (.one i) d ρ = some ((), ρ.set i (some d)) := by
  show setS i d ρ = _
  unfold setS
  rw [if_pos h]
theorem lcB_yes {own : List Nat} {t : Tg} {e : M D} {x d : D} {ρ ρ1 ρ2 : Rho} (h : setT t x (wipeS ρ own) = some ((), ρ1)) (h2 : e ρ1 = some (d, ρ2)) : lcB own t (tB (pur (.bl true))) e x ρ = some (some d, ρ2) := by
  show bnd (wip own) _ ρ = _
  rw [bnd_eq (a := ()) (ρ' := wipeS ρ own) rfl, bnd_eq h, bnd_eq (a := true) (ρ' := ρ1) rfl]
  show bnd e _ ρ1 = _
  rw [bnd_eq h2]
  rfl
theorem f2 (k : Nat) {xs : List D} {m : Nat} (h : xs.all (okL m) = true) (hl : xs.length ≤ 1000) : ∃ os, sem T (k + 3) 2 [.tup xs, .int (m : Nat)] = some (.bl true, os) := by
  rw [sem_code (d := fd2) rfl]
  have hp := okL_pl h
  have him := pls_ims hp
  let P : Rho → Prop := fun ρ => ∃ x, ρ = [some (.tup xs), some (.int (m : Nat)), x]
  obtain ⟨ρ', ⟨x, rfl⟩, hlc⟩ := lc_run (Γ := sem T (k + 2)) (t := .one 2) (own := [2]) (it := .seq (.var 0)) (c := none) (e := .and (.call 1 [(.var 2)]) (.one (.cmp .lt (.var 2) (.var 1)))) (ρ := [some (.tup xs), some (.int (m : Nat)), none]) (ρ1 := [some (.tup xs), some (.int (m : Nat)), none]) (src := .tup xs) (xs := xs) (fun _ => D.bl true) P
    (evI_seqV rfl rfl him) ⟨none, rfl⟩ (fun x hx ρ hP => by
      obtain ⟨y, rfl⟩ := hP
      have hx' := List.all_eq_true.mp h x hx
      cases x <;> simp [okL] at hx'
      rename_i i
      refine ⟨[some (.tup xs), some (.int (m : Nat)), some (.int i)], lcB_yes (ρ1 := [some (.tup xs), some (.int (m : Nat)), some (.int i)]) rfl ?_, ⟨_, rfl⟩, ?_⟩
      · have c1 : ev (sem T (k + 2)) (.call 1 [(.var 2)]) [some (.tup xs), some (.int (m : Nat)), some (.int i)] = some (.bl true, [some (.tup xs), some (.int (m : Nat)), some (.int i)]) := by
          refine e_call (evT_v rfl evT_nil) (argF_v (d := .int i) rfl rfl argF_nil) rfl ?_
          have := f1 k i
          rw [decide_eq_true hx'.1] at this
          exact this
        have c2 : ev (sem T (k + 2)) (.cmp .lt (.var 2) (.var 1)) [some (.tup xs), some (.int (m : Nat)), some (.int i)] = some (.bl true, [some (.tup xs), some (.int (m : Nat)), some (.int i)]) :=
          e_cmpV rfl (rd_v rfl _) rfl (by show some (decide (i < (m : Int))) = _; rw [decide_eq_true hx'.2])
        exact e_and c1 fun _ => e_one c2
      · exact if_pos rfl) (Nat.le_trans hl (by decide))
  have hall : builtin .all (.lst (xs.map fun _ => D.bl true)) = some (.bl true) := by
    show (boolL (xs.map fun _ => D.bl true)).map _ = _
    rw [boolL_map (fun _ => true)]
    simp
  have c0 : ev (sem T (k + 2)) (.isi (.var 0) .tuple) [some (.tup xs), some (.int (m : Nat)), none] = some (.bl true, [some (.tup xs), some (.int (m : Nat)), none]) := e_isi (rd_v rfl _) rfl
  refine runF_ret rfl (exs_ret (ret_eq ((and_t c0).trans (one_eq.trans (e_bi (rd_e (fun _ => E.noConfusion) hlc) hall)))))
theorem f4 (k : Nat) {xs : List D} {m : Nat} (h : xs.all (okL m) = true) (hl : xs.length ≤ 1000) : ∃ os, sem T (k + 4) 4 [.int (m : Nat), .tup xs] = some (.non, os) := by
  rw [sem_code (d := fd4) rfl]
  have him := pls_ims (okL_pl h)
  have c : ev (sem T (k + 3)) (.not (.call 2 [(.var 1), (.var 0)])) [some (.int (m : Nat)), some (.tup xs)] = some (.bl false, [some (.int (m : Nat)), some (.tup xs)]) :=
    e_not (k := true) (e_call (evT_v rfl (evT_v rfl evT_nil)) (argF_v (d := .tup xs) rfl him (argF_v (d := .int (m : Nat)) rfl rfl argF_nil)) (by simp [ims, im, him]) (f2 k h hl))
  exact runF_nx rfl (exs_nx ((ife_f c).trans exs_nil))
theorem f5 (k : Nat) {xs : List D} {m : Nat} (h : xs.all (okL m) = true) (hl : xs.length ≤ 1000) (hn : xs ≠ []) : ∃ os, sem T (k + 4) 5 [.int (m : Nat), .tup xs] = some (.non, os) := by
  rw [sem_code (d := fd5) rfl]
  have hp := okL_pl h
  have him := pls_ims hp
  have c : ev (sem T (k + 3)) (.not (.call 2 [(.var 1), (.var 0)])) [some (.int (m : Nat)), some (.tup xs)] = some (.bl false, [some (.int (m : Nat)), some (.tup xs)]) :=
    e_not (k := true) (e_call (evT_v rfl (evT_v rfl evT_nil)) (argF_v (d := .tup xs) rfl him (argF_v (d := .int (m : Nat)) rfl rfl argF_nil)) (by simp [ims, im, him]) (f2 k h hl))
  have c2 : ev (sem T (k + 3)) (.cmp .eq (.var 1) (.tup [])) [some (.int (m : Nat)), some (.tup xs)] = some (.bl false, [some (.int (m : Nat)), some (.tup xs)]) :=
    e_cmpV rfl (rd_e (fun _ => E.noConfusion) (e_tup evs_nil (Nat.zero_le _))) rfl ((eq_tup hp rfl).trans (by rw [decide_eq_false hn]))
  exact runF_nx rfl (exs_nx ((ife_f (e_or c fun _ => e_one c2)).trans exs_nil))
theorem f8 (k : Nat) {w a : List D} (hw : w.all (okL 4) = true) (ha : a.all (okL 4) = true) (h0 : a ≠ []) (hl : a.length ≤ 1000) (hlw : w.length ≤ 1000) : ∃ os, sem T (k + 5) 8 [.tup w, .tup a] = some (.tup [.tup (shortL w a).1, .tup (shortL w a).2], os) := by
  rw [sem_code (d := fd8) rfl]
  have pw := okL_pl hw
  have pa := okL_pl ha
  have iw := pls_ims pw
  have ia := pls_ims pa
  have s1 : ex (sem T (k + 4)) (.exp (.call 4 [(.glb 0 (.int 4)), (.var 0)])) [some (.tup w), some (.tup a)] = some (.nx, [some (.tup w), some (.tup a)]) :=
    exp_eq (e_call (evT_e (fun _ => E.noConfusion) e_glb (evT_v rfl evT_nil)) (argF_e (fun _ => E.noConfusion) (argF_v (d := .tup w) rfl iw argF_nil)) (by simp [ims, im, iw]) (f4 k (m := 4) hw hlw))
  have s2 : ex (sem T (k + 4)) (.exp (.call 5 [(.glb 0 (.int 4)), (.var 1)])) [some (.tup w), some (.tup a)] = some (.nx, [some (.tup w), some (.tup a)]) :=
    exp_eq (e_call (evT_e (fun _ => E.noConfusion) e_glb (evT_v rfl evT_nil)) (argF_e (fun _ => E.noConfusion) (argF_v (d := .tup a) rfl ia argF_nil)) (by simp [ims, im, ia]) (f5 k (m := 4) ha hl h0))
  exact runF_ret rfl ((exs_nx s1).trans ((exs_nx s2).trans (exs_ret (ret_eq (e_call (evT_v rfl (evT_v rfl evT_nil)) (argF_v (d := .tup w) rfl iw (argF_v (d := .tup a) rfl ia argF_nil)) (by simp [ims, im, iw, ia]) (f7 (k + 2) pw pa h0 hl hlw))))))
/-! are_plain_signs, are_signs, is_signs -/
def plS (c : Nat) : Bool := decide (c = 48) || decide (c = 49)
theorem f9 (k : Nat) (s : List Nat) (hl : s.length ≤ 1000) : ∃ os, sem T (k + 1) 9 [.str s] = some (.bl (s.all plS), os) := by
  rw [sem_code (d := fd9) rfl]
  let P : Rho → Prop := fun ρ => ∃ x, ρ = [some (.str s), x]
  obtain ⟨ρ', ⟨x, rfl⟩, hlc⟩ := lc_run (Γ := sem T k) (t := .one 1) (own := [1]) (it := .txt (.var 0)) (c := none) (e := .or (.cmp .eq (.var 1) (.cst (.str [48]))) (.one (.cmp .eq (.var 1) (.cst (.str [49]))))) (ρ := [some (.str s), none]) (ρ1 := [some (.str s), none]) (src := .non) (xs := s.map fun c => D.str [c])
    (fun d => D.bl (decide (d = .str [48]) || decide (d = .str [49]))) P (evI_txt (e_var rfl rfl)) ⟨none, rfl⟩ (fun x hx ρ hP => by
      obtain ⟨y, rfl⟩ := hP
      obtain ⟨c, hc, rfl⟩ := List.mem_map.mp hx
      refine ⟨[some (.str s), some (.str [c])], lcB_yes (ρ1 := [some (.str s), some (.str [c])]) rfl ?_, ⟨_, rfl⟩, rfl⟩
      have e1 : decide (D.str [c] = D.str [48]) = decide ([c] = [48]) := decide_eq_decide.mpr ⟨fun h => D.str.inj h, fun h => by rw [h]⟩
      have e2 : decide (D.str [c] = D.str [49]) = decide ([c] = [49]) := decide_eq_decide.mpr ⟨fun h => D.str.inj h, fun h => by rw [h]⟩
      rw [e1, e2]
      exact e_or (e_cmpV rfl (rd_e (fun _ => E.noConfusion) e_cst) rfl (eq_str _ _)) fun _ => e_one (e_cmpV rfl (rd_e (fun _ => E.noConfusion) e_cst) rfl (eq_str _ _))) (by rw [List.length_map]; exact Nat.le_trans hl (by decide))
  have hall : builtin .all (.lst ((s.map fun c => D.str [c]).map fun d => D.bl (decide (d = .str [48]) || decide (d = .str [49])))) = some (.bl (s.all plS)) := by
    show (boolL _).map _ = _
    rw [boolL_map (fun d => decide (d = .str [48]) || decide (d = .str [49]))]
    simp only [Option.map_some, List.map_map]
    congr 2
    rw [List.all_map]
    congr 1
    funext c
    simp [plS]
  have c0 : ev (sem T k) (.isi (.var 0) .str) [some (.str s), none] = some (.bl true, [some (.str s), none]) := e_isi (rd_v rfl _) rfl
  refine runF_ret rfl (exs_ret (ret_eq ((and_t c0).trans (one_eq.trans (e_bi (rd_e (fun _ => E.noConfusion) hlc) hall)))))
theorem slice_str (s : List Nat) (lo hi : Option Int) : slice (.str s) lo hi = some (.str (cut s lo hi)) := rfl
/-- the signs that fit -/
def okSg (f a : List Nat) : Prop := (f = [] ∧ a[a.length - 1]? = some 42 ∧ (a.take (a.length - 1)).all plS = true) ∨ (f ≠ [] ∧ f.all plS = true ∧ a.all plS = true ∧ a ≠ [] ∧ f[f.length - 1]? ≠ a[a.length - 1]?)
theorem f10 (k : Nat) {f a : List Nat} (hf : f.length ≤ 1000) (ha : a.length ≤ 1000) (h : okSg f a) : ∃ os, sem T (k + 2) 10 [.str f, .str a] = some (.bl true, os) := by
  rw [sem_code (d := fd10) rfl]
  have han : a ≠ [] := by
    rcases h with ⟨_, h, _⟩ | ⟨_, _, _, h, _⟩
    · intro z; rw [z] at h; cases h
    · exact h
  have hfp : f.all plS = true := by
    rcases h with ⟨rfl, _⟩ | ⟨_, h, _⟩
    · rfl
    · exact h
  have c9 : ∀ (j : Nat) (s : List Nat), [some (D.str f), some (D.str a)][j]? = some (some (.str s)) → s.length ≤ 1000 → ev (sem T (k + 1)) (.call 9 [(.var j)]) [some (.str f), some (.str a)] = some (.bl (s.all plS), [some (.str f), some (.str a)]) := fun j s hj hs =>
    e_call (evT_v hj evT_nil) (argF_v (d := .str s) hj rfl argF_nil) rfl (f9 k s hs)
  have c0 : ev (sem T (k + 1)) (.or (.not (.call 9 [(.var 0)])) (.or (.not (.isi (.var 1) .str)) (.one (.cmp .eq (.var 1) (.cst (.str [])))))) [some (.str f), some (.str a)] = some (.bl false, [some (.str f), some (.str a)]) := by
    have a1 := e_not (c9 0 f rfl hf)
    rw [hfp] at a1
    have a2 := e_cmpV (Γ := sem T (k + 1)) (op := .eq) (j := 1) (b := .cst (.str [])) (ρ := [some (.str f), some (.str a)]) (ρ1 := [some (.str f), some (.str a)]) rfl (rd_e (fun _ => E.noConfusion) e_cst) rfl (eq_str a [])
    rw [decide_eq_false han] at a2
    exact e_or a1 fun _ => e_or (k := false) (e_not (k := true) (e_isi (rd_v rfl _) rfl)) fun _ => e_one a2
  have c1 := e_cmpV (Γ := sem T (k + 1)) (op := .eq) (j := 0) (b := .cst (.str [])) (ρ := [some (.str f), some (.str a)]) (ρ1 := [some (.str f), some (.str a)]) rfl (rd_e (fun _ => E.noConfusion) e_cst) rfl (eq_str f [])
  rcases h with ⟨rfl, h1, h2⟩ | ⟨h0, h1, h2, h3, h4⟩
  · have b1 := e_cmp (Γ := sem T (k + 1)) (op := .eq) (a := .ix (.var 1) (.neg (.cst (.int 1)))) (b := .cst (.str [42])) (ρ := [some (.str []), some (.str a)]) (fun _ => E.noConfusion) (e_ixV rfl (e_neg e_cst) rfl (index_str1 h1)) (rd_e (fun _ => E.noConfusion) e_cst) (eq_str [42] [42])
    have b2 : ev (sem T (k + 1)) (.call 9 [(.sl (.var 1) none (some (.neg (.cst (.int 1)))))]) [some (.str []), some (.str a)] = some (.bl true, [some (.str []), some (.str a)]) := by
      have b3 : ev (sem T (k + 1)) (.sl (.var 1) none (some (.neg (.cst (.int 1))))) [some (.str []), some (.str a)] = some (.str (a.take (a.length - 1)), [some (.str []), some (.str a)]) :=
        e_slV rfl evo_none (evo_some (e_neg e_cst)) rfl rfl rfl (by rw [slice_str, cut_take1])
      have f9' := f9 k (a.take (a.length - 1)) (by rw [List.length_take]; omega)
      rw [h2] at f9'
      exact e_call (evT_e (fun _ => E.noConfusion) b3 evT_nil) (argF_e (fun _ => E.noConfusion) argF_nil) rfl f9'
    exact runF_ret rfl ((exs_nx ((ife_f c0).trans exs_nil)).trans (exs_ret ((ife_t c1).trans (exs_ret (ret_eq ((and_t b1).trans (one_eq.trans b2)))))))
  · have c1' := c1
    rw [decide_eq_false h0] at c1'
    have b1 := c9 1 a rfl ha
    rw [h2] at b1
    obtain ⟨x, hx, _⟩ := last_some h0
    obtain ⟨y, hy, _⟩ := last_some h3
    have hxy : ¬ [x] = [y] := fun z => h4 (by rw [hx, hy]; cases z; rfl)
    have b2 : ev (sem T (k + 1)) (.cmp .ne (.ix (.var 0) (.neg (.cst (.int 1)))) (.ix (.var 1) (.neg (.cst (.int 1))))) [some (.str f), some (.str a)] = some (.bl true, [some (.str f), some (.str a)]) :=
      e_cmp (fun _ => E.noConfusion) (e_ixV rfl (e_neg e_cst) rfl (index_str1 hx)) (rd_e (fun _ => E.noConfusion) (e_ixV rfl (e_neg e_cst) rfl (index_str1 hy))) (show (pyEq (.str [x]) (.str [y])).map not = some true by rw [eq_str, decide_eq_false hxy]; rfl)
    exact runF_ret rfl ((exs_nx ((ife_f c0).trans exs_nil)).trans ((exs_nx ((ife_f c1').trans exs_nil)).trans (exs_ret (ret_eq ((and_t b1).trans (one_eq.trans b2))))))
theorem f12 (k : Nat) {f a : List Nat} (hf : f.length ≤ 1000) (ha : a.length ≤ 1000) (h : okSg f a) : ∃ os, sem T (k + 3) 12 [.tup [.str f, .str a]] = some (.bl true, os) := by
  rw [sem_code (d := fd12) rfl]
  have c1 := e_isi (Γ := sem T (k + 2)) (a := .var 0) (t := .tuple) (ρ := [some (.tup [.str f, .str a])]) (k := true) (rd_v rfl _) rfl
  have c2 := e_cmp (Γ := sem T (k + 2)) (op := .eq) (a := .bi .len (.var 0)) (b := .cst (.int 2)) (ρ := [some (.tup [.str f, .str a])]) (fun _ => E.noConfusion) (x := .int 2) (t := true) (e_bi (v := .int 2) (rd_v rfl _) rfl) (rd_e (fun _ => E.noConfusion) e_cst) rfl
  have c3 : ev (sem T (k + 2)) (.call 10 [(.ix (.var 0) (.cst (.int 0))), (.ix (.var 0) (.cst (.int 1)))]) [some (.tup [.str f, .str a])] = some (.bl true, [some (.tup [.str f, .str a])]) :=
    e_call (evT_e (fun _ => E.noConfusion) (e_ixV rfl e_cst rfl (index_tup (i := 0) rfl rfl)) (evT_e (fun _ => E.noConfusion) (e_ixV rfl e_cst rfl (index_tup (i := 1) rfl rfl)) evT_nil)) (argF_e (fun _ => E.noConfusion) (argF_e (fun _ => E.noConfusion) argF_nil)) rfl (f10 k hf ha h)
  exact runF_ret rfl (exs_ret (ret_eq ((and_t c1).trans ((and_t c2).trans (one_eq.trans c3)))))
end K64

set_option Elab.async false
set_option linter.all false
set_option autoImplicit false
set_option maxRecDepth 100000
set_option maxHeartbeats 1000000
namespace K64
open VS D M
/-! kneading_of -/
def sD (c : Nat) : D := .str [c]
theorem sD_inj : ∀ a b, sD a = sD b → a = b := fun a b h => by
  have := D.str.inj h
  cases this
  rfl
def sgD (m n i : Nat) : D := sD (sg m n i)
theorem sg_small (m n i : Nat) : sg m n i < 1114112 := by
  rcases sg_val (m := m) (n := n) i with h | h | h <;> rw [h] <;> decide
theorem sD_pl {c : Nat} (h : c < 1114112) : isPl (sD c) = true := by
  show ([c].all fun c => decide (c < 1114112)) = true
  simp [h]
def keysOf (m n i : Nat) : List D := (List.range i).map fun t => D.int (at_ m n t : Nat)
def valsOf (i : Nat) : List D := (List.range i).map fun t => D.int (t : Nat)
def sgsOf (m n i : Nat) : List D := (List.range i).map (sgD m n)
def rk (m n i : Nat) : Rho := [some (.int (m : Nat)), some (.int (n : Nat)), some (.int (at_ m n i : Nat)), some (.dic false (keysOf m n i) (valsOf i)), some (.lst (sgsOf m n i)), none, none]
theorem knC_mem {m n i t : Nat} : dhas (keysOf m n i) (.int (t : Nat)) = true ↔ ∃ j, j < i ∧ at_ m n j = t := by
  unfold dhas keysOf
  rw [List.any_eq_true]
  constructor
  · rintro ⟨x, hx, e⟩
    obtain ⟨j, hj, rfl⟩ := List.mem_map.mp hx
    have := D.int.inj (of_decide_eq_true e)
    exact ⟨j, List.mem_range.mp hj, by omega⟩
  · rintro ⟨j, hj, rfl⟩
    exact ⟨_, List.mem_map.mpr ⟨j, List.mem_range.mpr hj, rfl⟩, decide_eq_true rfl⟩
theorem dput_new (x y : D) : ∀ (ks vs : List D), ks.length = vs.length → dhas ks x = false → dput ks vs x y = (ks ++ [x], vs ++ [y])
  | [], [], _, _ => rfl
  | k :: ks, v :: vs, hl, h => by
    unfold dhas at h
    rw [List.any_cons, Bool.or_eq_false_iff, decide_eq_false_iff_not] at h
    show (if k = x then _ else _) = _
    rw [if_neg h.1, dput_new x y ks vs (by simpa using hl) h.2]
    rfl
theorem dget_at {m n : Nat} : ∀ (l : List Nat) (t : Nat), t ∈ l → (∀ a ∈ l, a ≠ t → at_ m n a ≠ at_ m n t) → dget (l.map fun t => D.int (at_ m n t : Nat)) (l.map fun t => D.int (t : Nat)) (.int (at_ m n t : Nat)) = some (.int (t : Nat))
  | [], t, h, _ => by cases h
  | a :: l, t, h, hd => by
    show (if D.int (at_ m n a : Nat) = D.int (at_ m n t : Nat) then _ else _) = _
    by_cases e : a = t
    · subst e
      rw [if_pos rfl]
    · have := hd a List.mem_cons_self e
      rw [if_neg (fun z => this (by have := D.int.inj z; omega))]
      refine dget_at l t ?_ fun b hb => hd b (List.mem_cons_of_mem _ hb)
      rcases List.mem_cons.mp h with h | h
      · exact absurd h.symm e
      · exact h
section
variable {Γ : Gam} {m n i : Nat}
theorem kn_cond (h : Nd m n i) : ev Γ (.cmp .nin (.var 2) (.var 3)) (rk m n i) = some (.bl (!(dhas (keysOf m n i) (.int (at_ m n i : Nat)))), rk m n i) :=
  e_cmpV (d := .int (at_ m n i : Nat)) rfl (rd_v (d := .dic false (keysOf m n i) (valsOf i)) rfl _) rfl (show cmpop .nin (.int (at_ m n i : Nat)) (.dic false (keysOf m n i) (valsOf i)) = some (!(dhas (keysOf m n i) (.int (at_ m n i : Nat)))) from rfl)
theorem iNat (a b : Nat) : decide ((a : Int) = (b : Int)) = decide (a = b) := decide_eq_decide.mpr (by omega)
theorem kn_body (h1 : m < n) (hn : n ≤ 200) (h : dhas (keysOf m n i) (.int (at_ m n i : Nat)) = false) (hi : i ≤ 200) :
    exs Γ [.put 3 (.var 2) (.bi .len (.var 4)),
     .ife (.or (.cmp .eq (.bin .mul (.cst (.int 2)) (.var 2)) (.var 0)) (.one (.cmp .eq (.bin .mul (.cst (.int 2)) (.var 2)) (.bin .add (.var 0) (.var 1))))) [.exp (.app 4 (.cst (.str [42])))] [.exp (.app 4 (.ife (.chn .lt .lt (.var 0) (.bin .mul (.cst (.int 2)) (.var 2)) (.bin .add (.var 0) (.var 1))) (.cst (.str [49])) (.cst (.str [48]))))],
     .set 2 (.bin .mod (.bin .mul (.cst (.int 2)) (.var 2)) (.var 1))] (rk m n i) = some (.nx, rk m n (i + 1)) := by
  have hx := at_lt h1 i
  have lim : 1000 < LIM := by decide
  have kl : (keysOf m n i).length = i := by simp [keysOf]
  have vl : (valsOf i).length = i := by simp [valsOf]
  have sl : (sgsOf m n i).length = i := by simp [sgsOf]
  let r1 : Rho := [some (.int (m : Nat)), some (.int (n : Nat)), some (.int (at_ m n i : Nat)), some (.dic false (keysOf m n (i + 1)) (valsOf (i + 1))), some (.lst (sgsOf m n i)), none, none]
  let r2 : Rho := [some (.int (m : Nat)), some (.int (n : Nat)), some (.int (at_ m n i : Nat)), some (.dic false (keysOf m n (i + 1)) (valsOf (i + 1))), some (.lst (sgsOf m n (i + 1))), none, none]
  have hput : putD (.dic false (keysOf m n i) (valsOf i)) (.int (at_ m n i : Nat)) (.int (i : Nat)) = some (.dic false (keysOf m n (i + 1)) (valsOf (i + 1))) := by
    show (if _ then some (D.dic false (dput _ _ _ _).1 (dput _ _ _ _).2) else none) = _
    rw [if_pos (by simp [key, keyK, kl, vl]; omega), dput_new _ _ _ _ (by rw [kl, vl]) h]
    simp [keysOf, valsOf, List.range_succ]
  have s1 : ex Γ (.put 3 (.var 2) (.bi .len (.var 4))) (rk m n i) = some (.nx, r1) := by
    have := put_eq (Γ := Γ) (j := 3) (k := .var 2) (e := .bi .len (.var 4)) (ρ := rk m n i) (e_bi (v := .int (i : Nat)) (rd_v rfl _) (by show some (D.int ((sgsOf m n i).length : Nat)) = _; rw [sl])) rfl (e_var rfl rfl) rfl hput
    exact this
  have e2 : ev Γ (.bin .mul (.cst (.int 2)) (.var 2)) r1 = some (.int ((2 * at_ m n i : Nat) : Int), r1) :=
    e_bin e_cst (e_var rfl rfl) ((b_mul (by decide)).trans (by congr 2))
  have e3 : ev Γ (.bin .add (.var 0) (.var 1)) r1 = some (.int ((m + n : Nat) : Int), r1) :=
    e_bin (e_var rfl rfl) (e_var rfl rfl) (show some (D.int ((m : Int) + (n : Int))) = _ by congr 2)
  have c1 := e_cmp (Γ := Γ) (op := .eq) (a := .bin .mul (.cst (.int 2)) (.var 2)) (b := .var 0) (fun _ => E.noConfusion) e2 (rd_v rfl _) (eq_nat (2 * at_ m n i) m)
  have c2 := e_cmp (Γ := Γ) (op := .eq) (a := .bin .mul (.cst (.int 2)) (.var 2)) (b := .bin .add (.var 0) (.var 1)) (fun _ => E.noConfusion) e2 (rd_e (fun _ => E.noConfusion) e3) (eq_nat (2 * at_ m n i) (m + n))
  have c3 := e_or (Γ := Γ) (b := .one _) c1 fun _ => e_one c2
  have app : ∀ (a : E) (d : D), ev Γ a r1 = some (d, r1) → d = sgD m n i → ex Γ (.exp (.app 4 a)) r1 = some (.nx, r2) := fun a d ha hd => by
    have := app_eq (Γ := Γ) (j := 4) (a := a) (ρ := r1) (xs := sgsOf m n i) (ys := sgsOf m n i) rfl ha rfl (by rw [sl]; omega)
    rw [this, hd]
    show some (Out.nx, [_, _, _, _, some (D.lst (sgsOf m n i ++ [sgD m n i])), _, _]) = _
    simp only [r2, sgsOf, List.range_succ, List.map_append, List.map_cons, List.map_nil]
  have s2 : ex Γ (.ife (.or (.cmp .eq (.bin .mul (.cst (.int 2)) (.var 2)) (.var 0)) (.one (.cmp .eq (.bin .mul (.cst (.int 2)) (.var 2)) (.bin .add (.var 0) (.var 1))))) [.exp (.app 4 (.cst (.str [42])))] [.exp (.app 4 (.ife (.chn .lt .lt (.var 0) (.bin .mul (.cst (.int 2)) (.var 2)) (.bin .add (.var 0) (.var 1))) (.cst (.str [49])) (.cst (.str [48]))))]) r1 = some (.nx, r2) := by
    by_cases hc : 2 * at_ m n i = m ∨ 2 * at_ m n i = m + n
    · have e0 : (decide (2 * at_ m n i = m) || decide (2 * at_ m n i = m + n)) = true := by simpa using hc
      rw [e0] at c3
      refine (ife_t c3).trans ((exs_nx (app _ _ e_cst ?_)).trans exs_nil)
      unfold sgD sg sgn
      rw [if_pos hc]
      rfl
    · have e0 : (decide (2 * at_ m n i = m) || decide (2 * at_ m n i = m + n)) = false := by simpa using hc
      rw [e0] at c3
      have c4 := e_chn (Γ := Γ) (op := .lt) (op' := .lt) (a := .var 0) (b := .bin .mul (.cst (.int 2)) (.var 2)) (c := .bin .add (.var 0) (.var 1)) (ρ := r1) (x := .int (m : Nat)) (t := decide (m < 2 * at_ m n i)) (t' := decide (2 * at_ m n i < m + n)) (e_var rfl rfl) e2 (show some (decide ((m : Int) < ((2 * at_ m n i : Nat) : Int))) = _ by congr 1; exact decide_eq_decide.mpr (by omega)) (fun _ => e3) (fun _ => show some (decide (((2 * at_ m n i : Nat) : Int) < ((m + n : Nat) : Int))) = _ by congr 1; exact decide_eq_decide.mpr (by omega))
      refine (ife_f c3).trans ((exs_nx (app _ (if m < 2 * at_ m n i ∧ 2 * at_ m n i < m + n then .str [49] else .str [48]) (e_ife c4 (fun hk => ?_) (fun hk => ?_)) ?_)).trans exs_nil)
      · have : m < 2 * at_ m n i ∧ 2 * at_ m n i < m + n := by simpa using hk
        rw [if_pos this]
        exact e_cst
      · have : ¬ (m < 2 * at_ m n i ∧ 2 * at_ m n i < m + n) := by simpa using hk
        rw [if_neg this]
        exact e_cst
      · unfold sgD sg sgn
        rw [if_neg hc]
        split <;> rfl
  have e4 : ev Γ (.bin .mod (.bin .mul (.cst (.int 2)) (.var 2)) (.var 1)) r2 = some (.int (at_ m n (i + 1) : Nat), r2) :=
    e_bin (e_bin e_cst (e_var rfl rfl) ((b_mul (b := (at_ m n i : Nat)) (by decide)).trans (show _ = some (D.int ((2 * at_ m n i : Nat) : Int)) by congr 2))) (e_var rfl rfl) (b_mod (by omega))
  have s3 := set_eq (Γ := Γ) (i := 2) e4 (by show 2 < 7; decide)
  exact (exs_nx s1).trans ((exs_nx s2).trans ((exs_nx s3).trans exs_nil))
theorem kn_loop (h1 : m < n) (hn : n ≤ 200) : ∀ (f i : Nat), Nd m n i → n < i + f →
    ∃ L p, End m n L p ∧ whL (tB (ev Γ (.cmp .nin (.var 2) (.var 3)))) (exs Γ [.put 3 (.var 2) (.bi .len (.var 4)),
     .ife (.or (.cmp .eq (.bin .mul (.cst (.int 2)) (.var 2)) (.var 0)) (.one (.cmp .eq (.bin .mul (.cst (.int 2)) (.var 2)) (.bin .add (.var 0) (.var 1))))) [.exp (.app 4 (.cst (.str [42])))] [.exp (.app 4 (.ife (.chn .lt .lt (.var 0) (.bin .mul (.cst (.int 2)) (.var 2)) (.bin .add (.var 0) (.var 1))) (.cst (.str [49])) (.cst (.str [48]))))],
     .set 2 (.bin .mod (.bin .mul (.cst (.int 2)) (.var 2)) (.var 1))]) f (rk m n i) = some (.nx, rk m n L)
  | 0, i, hd, hf => by
    have := nd_le h1 hd
    omega
  | f + 1, i, hd, hf => by
    have hle := nd_le h1 hd
    have hc := kn_cond (Γ := Γ) hd
    cases q : dhas (keysOf m n i) (.int (at_ m n i : Nat)) with
    | true =>
      rw [q] at hc
      obtain ⟨p, hp, e⟩ := knC_mem.mp q
      exact ⟨i, p, ⟨hp, e.symm, hd⟩, whL_f (tB_eq hc)⟩
    | false =>
      rw [q] at hc
      have hd' : Nd m n (i + 1) := fun a b hab hb e => by
        by_cases hbi : b < i
        · exact hd a b hab hbi e
        · have : b = i := by omega
          subst this
          rw [knC_mem.mpr ⟨a, hab, e⟩] at q
          cases q
      obtain ⟨L, p, E, hw⟩ := kn_loop h1 hn f (i + 1) hd' (by omega)
      exact ⟨L, p, E, (whL_t (tB_eq hc) (kn_body h1 hn q (by omega))).trans hw⟩
end
end K64

set_option Elab.async false
set_option linter.all false
set_option autoImplicit false
set_option maxRecDepth 100000
set_option maxHeartbeats 1000000
namespace K64
open VS D M
theorem sgs_take {m n L p : Nat} (h : p ≤ L) : (sgsOf m n L).take p = (fstL m n p).map sD := by
  unfold sgsOf fstL
  rw [List.map_map, ← List.map_take]
  congr 1
  refine List.ext_getElem? fun t => ?_
  by_cases ht : t < p
  · rw [List.getElem?_take_of_lt ht, List.getElem?_range (by omega), List.getElem?_range ht]
  · rw [List.getElem?_eq_none (by rw [List.length_take, List.length_range]; omega), List.getElem?_eq_none (by rw [List.length_range]; omega)]
theorem sgs_drop {m n L p : Nat} : (sgsOf m n L).drop p = (agnL m n L p).map sD := by
  unfold sgsOf agnL
  rw [List.map_map, ← List.map_drop]
  refine List.ext_getElem? fun t => ?_
  rw [List.getElem?_map, List.getElem?_map, List.getElem?_drop]
  by_cases ht : t < L - p
  · rw [List.getElem?_range (by omega), List.getElem?_range ht]
    rfl
  · rw [List.getElem?_eq_none (by rw [List.length_range]; omega), List.getElem?_eq_none (by rw [List.length_range]; omega)]
    rfl
theorem strL_sD : ∀ xs : List Nat, strL (xs.map sD) = some (xs.map fun c => [c])
  | [] => rfl
  | x :: xs => by simp [strL, sD, strL_sD xs]
theorem joinL_sD : ∀ xs : List Nat, joinL [] (xs.map fun c => [c]) = xs
  | [] => rfl
  | [x] => rfl
  | x :: y :: xs => by
    have := joinL_sD (y :: xs)
    simp only [List.map_cons, joinL, List.append_nil] at this ⊢
    rw [this]
    rfl
theorem sum_ones : ∀ xs : List Nat, ((xs.map fun c => [c]).map List.length).sum = xs.length
  | [] => rfl
  | x :: xs => by
    have := sum_ones xs
    simp only [List.map_cons, List.sum_cons, List.length_cons, List.length_nil] at this ⊢
    omega
theorem join_sD {d : D} {xs : List Nat} (h : items d = some (xs.map sD)) (hl : xs.length ≤ 10000) : joinD (.str []) d = some (.str xs) := by
  have hlim : 10000 ≤ LIM := by decide
  have e : ((xs.map fun c => [c]).map (fun s => s.length)).sum + (xs.map fun c => [c]).length * ([] : List Nat).length ≤ LIM := by
    have := sum_ones xs
    simp only [List.length_nil, Nat.mul_zero, Nat.add_zero]
    exact Nat.le_trans (Nat.le_of_eq this) (by omega)
  unfold joinD
  simp only [h, strL_sD]
  rw [if_pos e, joinL_sD]
theorem sgs_pl {m n : Nat} (f : Nat → Nat) (k : Nat) (hf : ∀ i, f i < 1114112) : (((List.range k).map f).map sD).all isPl = true := by
  rw [List.all_eq_true]
  intro x hx
  obtain ⟨c, hc, rfl⟩ := List.mem_map.mp hx
  obtain ⟨i, _, rfl⟩ := List.mem_map.mp hc
  exact sD_pl (hf i)
theorem fst_pl (m n p : Nat) : ((fstL m n p).map sD).all isPl = true := sgs_pl (m := m) (n := n) _ _ fun i => sg_small m n i
theorem agn_pl (m n L p : Nat) : ((agnL m n L p).map sD).all isPl = true := sgs_pl (m := m) (n := n) _ _ fun i => sg_small m n (p + i)
/-- what kneading tells -/
def told (m n L p : Nat) : D := .tup [.str (K m n L p).1, .str (K m n L p).2]
theorem f11 (k : Nat) {m n : Nat} (h1 : m < n) (hn : n ≤ 200) : ∃ L p, End m n L p ∧ ∃ os, sem T (k + 3) 11 [.int (m : Nat), .int (n : Nat)] = some (told m n L p, os) := by
  rw [sem_code (d := fd11) rfl]
  obtain ⟨L, p, En, hw⟩ := kn_loop (Γ := sem T (k + 2)) h1 hn FUEL 0 (fun i j h1 h2 => by omega) (by rw [Nat.zero_add]; exact Nat.lt_of_le_of_lt hn (by decide))
  have hL := nd_le h1 En.nd
  have hpl := En.pl
  refine ⟨L, p, En, ?_⟩
  have s1 : ex (sem T (k + 2)) (.par [2, 3, 4] [(.var 0), (.dnew false), (.lst [])]) ([D.int (m : Nat), .int (n : Nat)].map some ++ List.replicate (7 - 2) none) = some (.nx, rk m n 0) :=
    par_eq (ds := [.int (m : Nat), .dic false [] [], .lst []]) (evs_cons (e_var rfl rfl) (evs_cons rfl (evs_cons (e_lst evs_nil (Nat.zero_le _)) evs_nil))) rfl
  have s2 := (whl_eq (Γ := sem T (k + 2))).trans hw
  have ipl : ims (sgsOf m n L) = true := by
    have := sgs_pl (m := m) (n := n) (sg m n) L (sg_small m n)
    rw [List.map_map] at this
    exact pls_ims this
  have hix : index (.dic false (keysOf m n L) (valsOf L)) (.int (at_ m n L : Nat)) = some (.int (p : Nat)) := by
    rw [En.eq]
    refine index_dic rfl (dget_at (List.range L) p (List.mem_range.mpr hpl) fun a ha hne e => ?_) rfl
    · have ha := List.mem_range.mp ha
      rcases Nat.lt_trichotomy a p with c | c | c
      · exact En.nd a p c hpl e
      · exact hne c
      · exact En.nd p a c ha e.symm
  have e0 : ev (sem T (k + 2)) (.ix (.var 3) (.var 2)) (rk m n L) = some (.int (p : Nat), rk m n L) := e_ixV rfl (e_var rfl rfl) rfl hix
  have ia := fst_pl m n p
  have ib := agn_pl m n L p
  have e1 : ev (sem T (k + 2)) (.bi .tuple (.sl (.var 4) none (some (.ix (.var 3) (.var 2))))) (rk m n L) = some (.tup ((fstL m n p).map sD), rk m n L) :=
    e_bi (rd_e (fun _ => E.noConfusion) (e_slV rfl evo_none (evo_some e0) rfl rfl rfl (by rw [slice_lst ipl, cut_take, sgs_take (by omega)]))) (b_tuple (pls_ims ia))
  have e2 : ev (sem T (k + 2)) (.bi .tuple (.sl (.var 4) (some (.ix (.var 3) (.var 2))) none)) (rk m n L) = some (.tup ((agnL m n L p).map sD), rk m n L) :=
    e_bi (rd_e (fun _ => E.noConfusion) (e_slV rfl (evo_some e0) evo_none rfl rfl rfl (by rw [slice_lst ipl, cut_drop, sgs_drop]))) (b_tuple (pls_ims ib))
  have hne : (agnL m n L p).map sD ≠ [] := fun z => agn_ne En (List.map_eq_nil_iff.mp z)
  have l1 : ((agnL m n L p).map sD).length ≤ 1000 := by simp [agnL]; omega
  have l2 : ((fstL m n p).map sD).length ≤ 1000 := by simp [fstL]; omega
  have hsh := shortL_map sD_inj (fstL m n p) (agnL m n L p)
  have f7' := f7 k ia ib hne l1 l2
  rw [hsh] at f7'
  have e3 : ev (sem T (k + 2)) (.call 7 [(.bi .tuple (.sl (.var 4) none (some (.ix (.var 3) (.var 2))))), (.bi .tuple (.sl (.var 4) (some (.ix (.var 3) (.var 2))) none))]) (rk m n L) = some (.tup [.tup ((K m n L p).1.map sD), .tup ((K m n L p).2.map sD)], rk m n L) :=
    e_call (evT_e (fun _ => E.noConfusion) e1 (evT_e (fun _ => E.noConfusion) e2 evT_nil)) (argF_e (fun _ => E.noConfusion) (argF_e (fun _ => E.noConfusion) argF_nil)) (by simp [ims, im, pls_ims ia, pls_ims ib]) f7'
  have hlen := K_len En h1
  let r3 : Rho := [some (.int (m : Nat)), some (.int (n : Nat)), some (.int (at_ m n L : Nat)), some (.dic false (keysOf m n L) (valsOf L)), some (.lst (sgsOf m n L)), some (.tup ((K m n L p).1.map sD)), some (.tup ((K m n L p).2.map sD))]
  have s3 : ex (sem T (k + 2)) (.unp [5, 6] (.call 7 [(.bi .tuple (.sl (.var 4) none (some (.ix (.var 3) (.var 2))))), (.bi .tuple (.sl (.var 4) (some (.ix (.var 3) (.var 2))) none))])) (rk m n L) = some (.nx, r3) :=
    unp_eq e3 rfl
  have e4 : ev (sem T (k + 2)) (.tup [(.join (.cst (.str [])) (.var 5)), (.join (.cst (.str [])) (.var 6))]) r3 = some (told m n L p, r3) :=
    e_tup (evs_cons (e_join e_cst (rd_v (d := .tup ((K m n L p).1.map sD)) rfl _) (join_sD rfl (by omega))) (evs_cons (e_join e_cst (rd_v (d := .tup ((K m n L p).2.map sD)) rfl _) (join_sD rfl (by omega))) evs_nil)) (by show 2 ≤ LIM; decide)
  exact runF_ret rfl ((exs_nx s1).trans ((exs_nx s2).trans ((exs_nx s3).trans (exs_ret (ret_eq e4)))))
theorem f3 (k : Nat) {n : Nat} (h : 2 ≤ n) : ∃ os, sem T (k + 2) 3 [.int (n : Nat), .int 2] = some (.non, os) := by
  rw [sem_code (d := fd3) rfl]
  have a1 : ev (sem T (k + 1)) (.not (.call 0 [(.var 0)])) [some (.int (n : Nat)), some (.int 2)] = some (.bl false, [some (.int (n : Nat)), some (.int 2)]) :=
    e_not (k := true) (e_call (evT_v rfl evT_nil) (argF_v (d := .int (n : Nat)) rfl rfl argF_nil) rfl (f0 k _))
  have a2 : ev (sem T (k + 1)) (.cmp .lt (.var 0) (.var 1)) [some (.int (n : Nat)), some (.int 2)] = some (.bl false, [some (.int (n : Nat)), some (.int 2)]) :=
    e_cmpV rfl (rd_v rfl _) rfl ((c_lt _ _).trans (some_f (by omega)))
  exact runF_nx rfl (exs_nx ((ife_f (e_or a1 fun _ => e_one a2)).trans exs_nil))
theorem f13 (k : Nat) {m n : Nat} (h0 : 1 ≤ m) (h1 : m < n) (hn : n ≤ 200) : ∃ L p, End m n L p ∧ ∃ os, sem T (k + 4) 13 [.int (m : Nat), .int (n : Nat)] = some (told m n L p, os) := by
  rw [sem_code (d := fd13) rfl]
  obtain ⟨L, p, En, h11⟩ := f11 k h1 hn
  refine ⟨L, p, En, ?_⟩
  have a1 : ev (sem T (k + 3)) (.not (.call 0 [(.var 0)])) [some (.int (m : Nat)), some (.int (n : Nat))] = some (.bl false, [some (.int (m : Nat)), some (.int (n : Nat))]) :=
    e_not (k := true) (e_call (evT_v rfl evT_nil) (argF_v (d := .int (m : Nat)) rfl rfl argF_nil) rfl (f0 (k + 2) _))
  have s2 : ex (sem T (k + 3)) (.exp (.call 3 [(.var 1), (.cst (.int 2))])) [some (.int (m : Nat)), some (.int (n : Nat))] = some (.nx, [some (.int (m : Nat)), some (.int (n : Nat))]) :=
    exp_eq (e_call (evT_v rfl (evT_e (fun _ => E.noConfusion) e_cst evT_nil)) (argF_v (d := .int (n : Nat)) rfl rfl (argF_e (fun _ => E.noConfusion) argF_nil)) rfl (f3 (k + 1) (by omega)))
  have a3 : ev (sem T (k + 3)) (.not (.chn .le .lt (.cst (.int 1)) (.var 0) (.var 1))) [some (.int (m : Nat)), some (.int (n : Nat))] = some (.bl false, [some (.int (m : Nat)), some (.int (n : Nat))]) :=
    e_not (k := true) (e_chn (t := true) (t' := true) e_cst (e_var (d := .int (m : Nat)) rfl rfl) ((c_le _ _).trans (some_t (by omega))) (fun _ => e_var (d := .int (n : Nat)) rfl rfl) fun _ => (c_lt _ _).trans (some_t (by omega)))
  exact runF_ret rfl ((exs_nx ((ife_f a1).trans exs_nil)).trans ((exs_nx s2).trans ((exs_nx ((ife_f a3).trans exs_nil)).trans (exs_ret (ret_eq (e_call (evT_v rfl (evT_v rfl evT_nil)) (argF_v (d := .int (m : Nat)) rfl rfl (argF_v (d := .int (n : Nat)) rfl rfl argF_nil)) rfl h11))))))
end K64

set_option Elab.async false
set_option linter.all false
set_option autoImplicit false
set_option maxRecDepth 100000
set_option maxHeartbeats 1000000
namespace K64
open VS D M
theorem e_varM {Γ : Gam} {j : Nat} {ρ : Rho} {d : D} (h : ρ[j]? = some (some d)) (hi : im d = false) : ev Γ (.var j) ρ = some (d, ρ.set j none) := by
  show take j ρ = _
  unfold take
  rw [h]
  simp only [hi, Bool.false_eq_true, if_false]
theorem e_isN {Γ : Gam} {a : E} {ρ ρ1 : Rho} {d : D} {b : Bool} (h : ev Γ a ρ = some (d, ρ1)) (hb : decide (d = .non) = b) : ev Γ (.isN a) ρ = some (.bl b, ρ1) := by
  show bnd (ev Γ a) _ ρ = _
  rw [bnd_eq h, ← hb]
  rfl
/-! _law_like of two alike -/
theorem like_str (k : Nat) (s : List Nat) : ∃ os, sem T (k + 1) 16 [.str s, .str s] = some (.bl true, os) := by
  rw [sem_code (d := fd16) rfl]
  let ρ : Rho := [some (.str s), some (.str s), none]
  have c1 : ev (sem T k) (.isN (.var 1)) ρ = some (.bl false, ρ) := e_isN (e_var (d := .str s) rfl rfl) rfl
  have c2 : ev (sem T k) (.isi (.var 1) .tuple) ρ = some (.bl false, ρ) := e_isi (rd_v (d := .str s) rfl _) rfl
  have c3 : ev (sem T k) (.or (.isi (.var 1) .bool) (.one (.isi (.var 0) .bool))) ρ = some (.bl false, ρ) := e_or (e_isi (k := false) (rd_v (d := .str s) rfl _) rfl) fun _ => e_one (e_isi (rd_v (d := .str s) rfl _) rfl)
  have c4 : ev (sem T k) (.isi (.var 1) .str) ρ = some (.bl true, ρ) := e_isi (rd_v (d := .str s) rfl _) rfl
  have c5 : ev (sem T k) (.isi (.var 0) .str) ρ = some (.bl true, ρ) := e_isi (rd_v (d := .str s) rfl _) rfl
  have c6 : ev (sem T k) (.cmp .eq (.var 0) (.var 1)) ρ = some (.bl true, ρ) := e_cmpV (x := .str s) (d := .str s) rfl (rd_v (d := .str s) rfl _) rfl ((eq_str s s).trans (some_t rfl))
  exact runF_ret rfl ((exs_nx ((ife_f c1).trans exs_nil)).trans ((exs_nx ((ife_f c2).trans exs_nil)).trans ((exs_nx ((ife_f c3).trans exs_nil)).trans (exs_ret ((ife_t c4).trans (exs_ret (ret_eq ((and_t c5).trans (one_eq.trans c6)))))))))
theorem like_int (k : Nat) (s : Int) : ∃ os, sem T (k + 1) 16 [.int s, .int s] = some (.bl true, os) := by
  rw [sem_code (d := fd16) rfl]
  let ρ : Rho := [some (.int s), some (.int s), none]
  have c1 : ev (sem T k) (.isN (.var 1)) ρ = some (.bl false, ρ) := e_isN (e_var (d := .int s) rfl rfl) rfl
  have c2 : ev (sem T k) (.isi (.var 1) .tuple) ρ = some (.bl false, ρ) := e_isi (rd_v (d := .int s) rfl _) rfl
  have c3 : ev (sem T k) (.or (.isi (.var 1) .bool) (.one (.isi (.var 0) .bool))) ρ = some (.bl false, ρ) := e_or (e_isi (k := false) (rd_v (d := .int s) rfl _) rfl) fun _ => e_one (e_isi (rd_v (d := .int s) rfl _) rfl)
  have c4 : ev (sem T k) (.isi (.var 1) .str) ρ = some (.bl false, ρ) := e_isi (rd_v (d := .int s) rfl _) rfl
  have c5 : ev (sem T k) (.isi (.var 0) .int) ρ = some (.bl true, ρ) := e_isi (rd_v (d := .int s) rfl _) rfl
  have c6 : ev (sem T k) (.cmp .eq (.var 0) (.var 1)) ρ = some (.bl true, ρ) := e_cmpV (x := .int s) (d := .int s) rfl (rd_v (d := .int s) rfl _) rfl ((eq_int s s).trans (some_t rfl))
  exact runF_ret rfl ((exs_nx ((ife_f c1).trans exs_nil)).trans ((exs_nx ((ife_f c2).trans exs_nil)).trans ((exs_nx ((ife_f c3).trans exs_nil)).trans ((exs_nx ((ife_f c4).trans exs_nil)).trans (exs_ret (ret_eq ((and_t c5).trans (one_eq.trans c6))))))))
theorem ims_get : ∀ {xs : List D} {i : Nat} {d : D}, ims xs = true → xs[i]? = some d → im d = true
  | [], i, d, _, h => by simp at h
  | x :: xs, 0, d, h, e => by
    simp only [ims, Bool.and_eq_true] at h
    simp at e
    rw [← e]; exact h.1
  | x :: xs, i + 1, d, h, e => by
    simp only [ims, Bool.and_eq_true] at h
    exact ims_get h.2 (by simpa using e)
theorem like_tup (k : Nat) {xs : List D} (hi : ims xs = true) (hl : xs.length ≤ 1000) (h : ∀ x ∈ xs, ∃ os, sem T k 16 [x, x] = some (.bl true, os)) : ∃ os, sem T (k + 1) 16 [.tup xs, .tup xs] = some (.bl true, os) := by
  rw [sem_code (d := fd16) rfl]
  let ρ : Rho := [some (.tup xs), some (.tup xs), none]
  have c1 : ev (sem T k) (.isN (.var 1)) ρ = some (.bl false, ρ) := e_isN (e_var (d := .tup xs) rfl hi) rfl
  have c2 : ev (sem T k) (.isi (.var 1) .tuple) ρ = some (.bl true, ρ) := e_isi (rd_v (d := .tup xs) rfl _) rfl
  have c3 : ev (sem T k) (.or (.not (.isi (.var 0) .tuple)) (.one (.cmp .ne (.bi .len (.var 0)) (.bi .len (.var 1))))) ρ = some (.bl false, ρ) :=
    e_or (k := false) (e_not (k := true) (e_isi (rd_v (d := .tup xs) rfl _) rfl)) fun _ => e_one (e_cmp (x := .int (xs.length : Nat)) (y := .int (xs.length : Nat)) (fun _ => E.noConfusion) (e_bi (rd_v (d := .tup xs) rfl _) rfl) (rd_e (fun _ => E.noConfusion) (e_bi (rd_v (d := .tup xs) rfl _) rfl)) (by rw [c_ne, eq_nat, decide_eq_true rfl]; rfl))
  have hI : evI (sem T k) (.rng [(.bi .len (.var 1))]) ρ = some ((.non, (List.range' 0 xs.length).map fun j => D.int (j : Nat)), ρ) :=
    evI_rng (ds := [.int (xs.length : Nat)]) (evs_cons (e_bi (rd_v (d := .tup xs) rfl _) rfl) evs_nil) (by
      have := rgD_nat (lo := 0) (n := xs.length) (by omega)
      rw [← this]
      unfold rgD rgI
      simp)
  have loop : ∀ (js : List Nat) (x : Option D), (∀ j ∈ js, j < xs.length) → ∃ y, frL (fun x => bnd (setT (.one 2) x) fun _ => exs (sem T k) [.ife (.not (.call 16 [(.ix (.var 0) (.var 2)), (.ix (.var 1) (.var 2))])) [.ret (.cst (.bl false))] []]) (pur ()) (js.map fun j => D.int (j : Nat)) [some (.tup xs), some (.tup xs), x] = some (.nx, [some (.tup xs), some (.tup xs), y]) := by
    intro js
    induction js with
    | nil => exact fun x _ => ⟨x, rfl⟩
    | cons j js ih =>
      intro x hj
      obtain ⟨y, hy⟩ := ih (some (.int (j : Nat))) fun i hi => hj i (List.mem_cons_of_mem _ hi)
      have hjl := hj j List.mem_cons_self
      have hg : xs[j]? = some xs[j] := List.getElem?_eq_getElem hjl
      have hd := ims_get hi hg
      refine ⟨y, ?_⟩
      rw [List.map_cons]
      refine (frL_nx (ρ1 := [some (.tup xs), some (.tup xs), some (.int (j : Nat))]) ?_ rfl).trans hy
      let r : Rho := [some (.tup xs), some (.tup xs), some (.int (j : Nat))]
      have a0 : ev (sem T k) (.ix (.var 0) (.var 2)) r = some (xs[j], r) := e_ixV (x := .tup xs) (d := .tup xs) rfl (e_var (d := .int (j : Nat)) rfl rfl) rfl (index_tup hg hd)
      have a1 : ev (sem T k) (.ix (.var 1) (.var 2)) r = some (xs[j], r) := e_ixV (x := .tup xs) (d := .tup xs) rfl (e_var (d := .int (j : Nat)) rfl rfl) rfl (index_tup hg hd)
      have a2 : ev (sem T k) (.not (.call 16 [(.ix (.var 0) (.var 2)), (.ix (.var 1) (.var 2))])) r = some (.bl false, r) :=
        e_not (k := true) (e_call (evT_e (fun _ => E.noConfusion) a0 (evT_e (fun _ => E.noConfusion) a1 evT_nil)) (argF_e (fun _ => E.noConfusion) (argF_e (fun _ => E.noConfusion) argF_nil)) (by simp [ims, hd]) (h _ (List.getElem_mem _)))
      exact exs_nx ((ife_f a2).trans exs_nil)
  obtain ⟨y, hy⟩ := loop (List.range' 0 xs.length) none fun j hj => by have := List.mem_range'_1.mp hj; omega
  have s := (e_for (t := .one 2) hI).trans hy
  exact runF_ret rfl ((exs_nx ((ife_f c1).trans exs_nil)).trans (exs_ret ((ife_t c2).trans ((exs_nx ((ife_f c3).trans exs_nil)).trans ((exs_nx s).trans (exs_ret (ret_eq e_cst)))))))
/-! _law_signs -/
def nmsOf (m n i : Nat) : List D := (List.range i).map fun t => D.int (at_ m n t : Nat)
def rs (m n q i : Nat) (x y : Option D) : Rho := [some (.int (m : Nat)), some (.int (n : Nat)), some (.int (q : Nat)), x, some (.int (at_ m n i : Nat)), some (.lst (sgsOf m n i)), some (.lst (nmsOf m n i)), y]
def sgBody : List S := [.exp (.app 6 (.var 4)),
     .set 7 (.bin .sub (.bin .mul (.cst (.int 2)) (.var 4)) (.var 0)),
     .exp (.app 5 (.ife (.or (.cmp .eq (.var 7) (.cst (.int 0))) (.one (.cmp .eq (.var 7) (.var 1)))) (.cst (.str [42])) (.ife (.chn .lt .lt (.cst (.int 0)) (.var 7) (.var 1)) (.cst (.str [49])) (.cst (.str [48]))))),
     .set 4 (.ife (.cmp .lt (.bin .mul (.cst (.int 2)) (.var 4)) (.var 1)) (.bin .mul (.cst (.int 2)) (.var 4)) (.bin .sub (.bin .mul (.cst (.int 2)) (.var 4)) (.var 1)))]
theorem sg_body {Γ : Gam} {m n q i : Nat} {x y : Option D} (h1 : m < n) (hi : i < 1000) : ∃ y', exs Γ sgBody (rs m n q i x y) = some (.nx, rs m n q (i + 1) x y') := by
  have hx := at_lt h1 i
  have lim : 1000 < LIM := by decide
  have sl : (sgsOf m n i).length = i := by simp [sgsOf]
  have nl : (nmsOf m n i).length = i := by simp [nmsOf]
  let w : Int := 2 * (at_ m n i : Int) - m
  let r1 : Rho := [some (.int (m : Nat)), some (.int (n : Nat)), some (.int (q : Nat)), x, some (.int (at_ m n i : Nat)), some (.lst (sgsOf m n i)), some (.lst (nmsOf m n (i + 1))), y]
  let r2 : Rho := [some (.int (m : Nat)), some (.int (n : Nat)), some (.int (q : Nat)), x, some (.int (at_ m n i : Nat)), some (.lst (sgsOf m n i)), some (.lst (nmsOf m n (i + 1))), some (.int w)]
  let r3 : Rho := [some (.int (m : Nat)), some (.int (n : Nat)), some (.int (q : Nat)), x, some (.int (at_ m n i : Nat)), some (.lst (sgsOf m n (i + 1))), some (.lst (nmsOf m n (i + 1))), some (.int w)]
  have e2 : ∀ r : Rho, r[4]? = some (some (.int (at_ m n i : Nat))) → ev Γ (.bin .mul (.cst (.int 2)) (.var 4)) r = some (.int (2 * (at_ m n i : Int)), r) := fun r h => e_bin e_cst (e_var h rfl) (b_mul (by decide))
  have s1 : ex Γ (.exp (.app 6 (.var 4))) (rs m n q i x y) = some (.nx, r1) := by
    have := app_eq (Γ := Γ) (j := 6) (a := .var 4) (ρ := rs m n q i x y) (xs := nmsOf m n i) (ys := nmsOf m n i) rfl (e_var rfl rfl) rfl (by rw [nl]; omega)
    rw [this]
    show some (Out.nx, [_, _, _, _, _, _, some (D.lst (nmsOf m n i ++ [D.int (at_ m n i : Nat)])), _]) = _
    simp only [r1, nmsOf, List.range_succ, List.map_append, List.map_cons, List.map_nil]
  have s2 : ex Γ (.set 7 (.bin .sub (.bin .mul (.cst (.int 2)) (.var 4)) (.var 0))) r1 = some (.nx, r2) :=
    set_eq (e_bin (e2 r1 rfl) (e_var (d := .int (m : Nat)) rfl rfl) rfl) (by show 7 < 8; decide)
  have hw : 2 * (at_ m n i : Int) - m = w := rfl
  have c1 : ev Γ (.cmp .eq (.var 7) (.cst (.int 0))) r2 = some (.bl (decide (2 * at_ m n i = m)), r2) :=
    e_cmpV (x := .int w) (d := .int w) rfl (rd_e (fun _ => E.noConfusion) e_cst) rfl ((eq_int _ _).trans (by congr 1; exact decide_eq_decide.mpr (by omega)))
  have c2 : ev Γ (.cmp .eq (.var 7) (.var 1)) r2 = some (.bl (decide (2 * at_ m n i = m + n)), r2) :=
    e_cmpV (x := .int w) (d := .int w) rfl (rd_v (d := .int (n : Nat)) rfl _) rfl ((eq_int _ _).trans (by congr 1; exact decide_eq_decide.mpr (by omega)))
  have c3 := e_or c1 fun _ => e_one c2
  have c4 : ev Γ (.chn .lt .lt (.cst (.int 0)) (.var 7) (.var 1)) r2 = some (.bl (decide (m < 2 * at_ m n i) && decide (2 * at_ m n i < m + n)), r2) :=
    e_chn (y := .int w) e_cst (e_var rfl rfl) ((c_lt _ _).trans (by congr 1; exact decide_eq_decide.mpr (by omega))) (fun _ => e_var (d := .int (n : Nat)) rfl rfl) fun _ => (c_lt _ _).trans (by congr 1; exact decide_eq_decide.mpr (by omega))
  have e3 : ev Γ (.ife (.or (.cmp .eq (.var 7) (.cst (.int 0))) (.one (.cmp .eq (.var 7) (.var 1)))) (.cst (.str [42])) (.ife (.chn .lt .lt (.cst (.int 0)) (.var 7) (.var 1)) (.cst (.str [49])) (.cst (.str [48])))) r2 = some (sgD m n i, r2) := by
    refine e_ife c3 (fun hk => ?_) (fun hk => e_ife c4 (fun hk2 => ?_) fun hk2 => ?_)
    · have hk : 2 * at_ m n i = m ∨ 2 * at_ m n i = m + n := by simpa using hk
      have : sgD m n i = .str [42] := by unfold sgD sg sgn; rw [if_pos hk]; rfl
      rw [this]
      exact e_cst
    · have hk : ¬ (2 * at_ m n i = m ∨ 2 * at_ m n i = m + n) := by simpa using hk
      have hk2 : m < 2 * at_ m n i ∧ 2 * at_ m n i < m + n := by simpa using hk2
      have : sgD m n i = .str [49] := by unfold sgD sg sgn; rw [if_neg hk, if_pos hk2]; rfl
      rw [this]
      exact e_cst
    · have hk : ¬ (2 * at_ m n i = m ∨ 2 * at_ m n i = m + n) := by simpa using hk
      have hk2 : ¬ (m < 2 * at_ m n i ∧ 2 * at_ m n i < m + n) := by simpa using hk2
      have : sgD m n i = .str [48] := by unfold sgD sg sgn; rw [if_neg hk, if_neg hk2]; rfl
      rw [this]
      exact e_cst
  have s3 : ex Γ (.exp (.app 5 (.ife (.or (.cmp .eq (.var 7) (.cst (.int 0))) (.one (.cmp .eq (.var 7) (.var 1)))) (.cst (.str [42])) (.ife (.chn .lt .lt (.cst (.int 0)) (.var 7) (.var 1)) (.cst (.str [49])) (.cst (.str [48])))))) r2 = some (.nx, r3) := by
    have := app_eq (Γ := Γ) (j := 5) (ρ := r2) (xs := sgsOf m n i) (ys := sgsOf m n i) rfl e3 rfl (by rw [sl]; omega)
    rw [this]
    show some (Out.nx, [_, _, _, _, _, some (D.lst (sgsOf m n i ++ [sgD m n i])), _, _]) = _
    simp only [r3, sgsOf, List.range_succ, List.map_append, List.map_cons, List.map_nil]
  have hn : at_ m n (i + 1) = if 2 * at_ m n i < n then 2 * at_ m n i else 2 * at_ m n i - n := by
    show 2 * at_ m n i % n = _
    split
    · rename_i h; exact Nat.mod_eq_of_lt h
    · rename_i h
      rw [Nat.mod_eq_sub_mod (by omega), Nat.mod_eq_of_lt (by omega)]
  have e4 : ev Γ (.ife (.cmp .lt (.bin .mul (.cst (.int 2)) (.var 4)) (.var 1)) (.bin .mul (.cst (.int 2)) (.var 4)) (.bin .sub (.bin .mul (.cst (.int 2)) (.var 4)) (.var 1))) r3 = some (.int (at_ m n (i + 1) : Nat), r3) := by
    refine e_ife (k := decide (2 * at_ m n i < n)) (e_cmp (fun _ => E.noConfusion) (e2 r3 rfl) (rd_v (d := .int (n : Nat)) rfl _) ((c_lt _ _).trans (by congr 1; exact decide_eq_decide.mpr (by omega)))) (fun hk => ?_) fun hk => ?_
    · have hk := of_decide_eq_true hk
      rw [hn, if_pos hk]
      exact e2 r3 rfl
    · have hk := of_decide_eq_false hk
      rw [hn, if_neg hk]
      exact e_bin (e2 r3 rfl) (e_var (d := .int (n : Nat)) rfl rfl) (show some (D.int (2 * (at_ m n i : Int) - (n : Int))) = _ by congr 2; omega)
  have s4 := set_eq (i := 4) e4 (by show 4 < 8; decide)
  exact ⟨some (.int w), (exs_nx s1).trans ((exs_nx s2).trans ((exs_nx s3).trans ((exs_nx s4).trans exs_nil)))⟩
theorem sg_loop {Γ : Gam} {m n q : Nat} (h1 : m < n) : ∀ (c i : Nat) (x y : Option D), i + c ≤ 1000 → ∃ x' y', frL (fun x => bnd (setT (.one 3) x) fun _ => exs Γ sgBody) (pur ()) ((List.range' i c).map fun j => D.int (j : Nat)) (rs m n q i x y) = some (.nx, rs m n q (i + c) x' y')
  | 0, i, x, y, _ => ⟨x, y, rfl⟩
  | c + 1, i, x, y, h => by
    obtain ⟨y1, hb⟩ := sg_body (Γ := Γ) (q := q) (x := some (.int (i : Nat))) (y := y) h1 (show i < 1000 by omega)
    obtain ⟨x', y', hl⟩ := sg_loop (Γ := Γ) (q := q) h1 c (i + 1) (some (.int (i : Nat))) y1 (by omega)
    refine ⟨x', y', ?_⟩
    rw [List.range'_succ, List.map_cons]
    rw [show i + (c + 1) = i + 1 + c by omega]
    exact (frL_nx hb rfl).trans hl
theorem f17 (k : Nat) {m n : Nat} (h1 : m < n) (hn : n ≤ 200) : ∃ os, sem T (k + 1) 17 [.int (m : Nat), .int (n : Nat), .int ((3 * n : Nat) : Int)] = some (.tup [.lst (sgsOf m n (3 * n)), .lst (nmsOf m n (3 * n))], os) := by
  rw [sem_code (d := fd17) rfl]
  have s1 : ex (sem T k) (.par [4, 5, 6] [(.var 0), (.lst []), (.lst [])]) ([D.int (m : Nat), .int (n : Nat), .int ((3 * n : Nat) : Int)].map some ++ List.replicate (8 - 3) none) = some (.nx, rs m n (3 * n) 0 none none) :=
    par_eq (ds := [.int (m : Nat), .lst [], .lst []]) (evs_cons (e_var rfl rfl) (evs_cons (e_lst evs_nil (Nat.zero_le _)) (evs_cons (e_lst evs_nil (Nat.zero_le _)) evs_nil))) rfl
  obtain ⟨x', y', hl⟩ := sg_loop (Γ := sem T k) (q := 3 * n) h1 (3 * n) 0 none none (by omega)
  rw [Nat.zero_add] at hl
  have hI : evI (sem T k) (.rng [(.var 2)]) (rs m n (3 * n) 0 none none) = some ((.non, (List.range' 0 (3 * n)).map fun j => D.int (j : Nat)), rs m n (3 * n) 0 none none) :=
    evI_rng (ds := [.int ((3 * n : Nat) : Int)]) (evs_cons (e_var rfl rfl) evs_nil) (by
      have := rgD_nat (lo := 0) (n := 3 * n) (by omega)
      rw [← this]
      unfold rgD rgI
      simp)
  have s2 := (e_for (t := .one 3) (b := sgBody) hI).trans hl
  exact runF_ret rfl ((exs_nx s1).trans ((exs_nx s2).trans (exs_ret (ret_eq (e_tup (evs_cons (e_varM (d := .lst (sgsOf m n (3 * n))) rfl rfl) (evs_cons (e_varM (d := .lst (nmsOf m n (3 * n))) rfl rfl) evs_nil)) (by show 2 ≤ LIM; decide))))))
end K64

set_option Elab.async false
set_option linter.all false
set_option autoImplicit false
set_option maxRecDepth 100000
set_option maxHeartbeats 1000000
namespace K64
open VS D M
/-! _law_is_short -/
def isCond : E := .and (.cmp .eq (.bin .mod (.bi .len (.var 1)) (.var 2)) (.cst (.int 0))) (.one (.cmp .eq (.bin .mul (.sl (.var 1) none (some (.var 2))) (.bin .fdv (.bi .len (.var 1)) (.var 2))) (.var 1)))
theorem is_cond {Γ : Gam} {f xs : List Nat} {j : Nat} (hl : xs.length ≤ 1000) (hj : 1 ≤ j) (hj2 : j ≤ xs.length) : ev Γ isCond [some (.str f), some (.str xs), some (.int (j : Nat))] = some (.bl (isRt xs j), [some (.str f), some (.str xs), some (.int (j : Nat))]) := by
  have hd : xs.length / j ≤ 1000 := Nat.le_trans (Nat.div_le_self _ _) hl
  let r : Rho := [some (.str f), some (.str xs), some (.int (j : Nat))]
  have e1 : ev Γ (.cmp .eq (.bin .mod (.bi .len (.var 1)) (.var 2)) (.cst (.int 0))) r = some (.bl (decide (xs.length % j = 0)), r) :=
    e_cmp (fun _ => E.noConfusion) (e_bin (e_bi (rd_v (d := .str xs) rfl _) rfl) (e_var (d := .int (j : Nat)) rfl rfl) (b_mod hj)) rfl (eq_nat _ 0)
  have e2 : ev Γ (.cmp .eq (.bin .mul (.sl (.var 1) none (some (.var 2))) (.bin .fdv (.bi .len (.var 1)) (.var 2))) (.var 1)) r = some (.bl (decide (rep (xs.length / j) (xs.take j) = xs)), r) :=
    e_cmp (fun _ => E.noConfusion) (e_bin (e_slV (x := .str xs) (d := .str xs) rfl evo_none (evo_some (e_var (d := .int (j : Nat)) rfl rfl)) rfl rfl rfl (by rw [slice_str, cut_take])) (e_bin (e_bi (rd_v (d := .str xs) rfl _) rfl) (e_var (d := .int (j : Nat)) rfl rfl) (b_fdv hj (by omega))) (b_mulS hd (by rw [List.length_take]; omega))) (rd_v (d := .str xs) rfl _) (eq_str _ _)
  unfold isCond isRt
  exact e_and e1 fun _ => e_one e2
theorem f18 (k : Nat) {f a : List Nat} (ha : a ≠ []) (hla : a.length ≤ 1000) (hp : prim a) (h : f = [] ∨ f[f.length - 1]? ≠ a[a.length - 1]?) : ∃ os, sem T (k + 1) 18 [.str f, .str a] = some (.bl true, os) := by
  rw [sem_code (d := fd18) rfl]
  have hl1 : 1 ≤ a.length := List.length_pos_iff.mpr ha
  let ρ : Rho := [some (.str f), some (.str a), none]
  have c1 : ev (sem T k) (.cmp .ne (.var 0) (.cst (.str []))) ρ = some (.bl (!decide (f = [])), ρ) := e_cmpV (x := .str f) (d := .str f) rfl (rd_e (fun _ => E.noConfusion) e_cst) rfl (by rw [c_ne, eq_str]; rfl)
  have c2 : ev (sem T k) (.and (.cmp .ne (.var 0) (.cst (.str []))) (.one (.cmp .eq (.ix (.var 0) (.neg (.cst (.int 1)))) (.ix (.var 1) (.neg (.cst (.int 1))))))) ρ = some (.bl false, ρ) := by
    by_cases h0 : f = []
    · rw [decide_eq_true h0] at c1
      exact and_f c1
    · rw [decide_eq_false h0] at c1
      obtain ⟨x, hx, _⟩ := last_some h0
      obtain ⟨y, hy, _⟩ := last_some ha
      have hne := h.resolve_left h0
      rw [hx, hy] at hne
      exact (and_t c1).trans (one_eq.trans (e_cmp (x := .str [x]) (y := .str [y]) (fun _ => E.noConfusion) (e_ixV (x := .str f) (d := .str f) rfl (e_neg e_cst) rfl (index_str1 hx)) (rd_e (fun _ => E.noConfusion) (e_ixV (x := .str a) (d := .str a) rfl (e_neg e_cst) rfl (index_str1 hy))) ((eq_str _ _).trans (some_f fun z => hne (by cases z; rfl)))))
  have loop : ∀ (js : List Nat) (x : Option D), (∀ j ∈ js, 1 ≤ j ∧ j < a.length) → ∃ y, frL (fun x => bnd (setT (.one 2) x) fun _ => exs (sem T k) [.ife isCond [.ret (.cst (.bl false))] []]) (pur ()) (js.map fun j => D.int (j : Nat)) [some (.str f), some (.str a), x] = some (.nx, [some (.str f), some (.str a), y]) := by
    intro js
    induction js with
    | nil => exact fun x _ => ⟨x, rfl⟩
    | cons j js ih =>
      intro x hj
      obtain ⟨y, hy⟩ := ih (some (.int (j : Nat))) fun i hi => hj i (List.mem_cons_of_mem _ hi)
      obtain ⟨j1, j2⟩ := hj j List.mem_cons_self
      have hc := is_cond (Γ := sem T k) (f := f) hla j1 (Nat.le_of_lt j2)
      rw [hp j j1 j2] at hc
      refine ⟨y, ?_⟩
      rw [List.map_cons]
      exact (frL_nx (ρ1 := [some (.str f), some (.str a), some (.int (j : Nat))]) (exs_nx ((ife_f hc).trans exs_nil)) rfl).trans hy
  have hI : evI (sem T k) (.rng [(.cst (.int 1)), (.bi .len (.var 1))]) ρ = some ((.non, (List.range' 1 (a.length - 1)).map fun j => D.int (j : Nat)), ρ) :=
    evI_rng (ds := [.int (1 : Nat), .int (a.length : Nat)]) (evs_cons e_cst (evs_cons (e_bi (rd_v (d := .str a) rfl _) rfl) evs_nil)) (by
      have := rgD_nat (lo := 1) (n := a.length - 1) (by omega)
      rw [show 1 + (a.length - 1) = a.length by omega] at this
      exact this)
  obtain ⟨y, hy⟩ := loop (List.range' 1 (a.length - 1)) none fun j hj => by have := List.mem_range'_1.mp hj; omega
  have s := (e_for (t := .one 2) hI).trans hy
  exact runF_ret rfl ((exs_nx ((ife_f c2).trans exs_nil)).trans ((exs_nx s).trans (exs_ret (ret_eq e_cst))))
/-! _law_holds -/
theorem K_fst {m n L p : Nat} (En : End m n L p) : (K m n L p).1 = (List.range (K m n L p).1.length).map (sg m n) := by
  refine List.ext_getElem? fun t => ?_
  rw [List.getElem?_map]
  by_cases ht : t < (K m n L p).1.length
  · rw [List.getElem?_range ht]
    have := K_seq En t
    unfold seqn at this
    rw [if_pos ht] at this
    exact this
  · rw [List.getElem?_eq_none (by omega), List.getElem?_eq_none (by rw [List.length_range]; omega)]
    rfl
theorem K_rest {m n L p : Nat} (En : End m n L p) {t : Nat} (ht : (K m n L p).1.length ≤ t) : (K m n L p).2[(t - (K m n L p).1.length) % (K m n L p).2.length]? = some (sg m n t) := by
  have := K_seq En t
  unfold seqn cy at this
  rw [if_neg (by omega)] at this
  exact this
theorem nms_pl (m n i : Nat) : (nmsOf m n i).all isPl = true := by
  rw [List.all_eq_true]
  intro x hx
  unfold nmsOf at hx
  obtain ⟨c, _, rfl⟩ := List.mem_map.mp hx
  rfl
theorem sgsD_pl (m n i : Nat) : (sgsOf m n i).all isPl = true := by
  have := sgs_pl (m := m) (n := n) (sg m n) i (sg_small m n)
  rw [List.map_map] at this
  exact this
theorem b_mul3 (n : Nat) : binop .mul (.int 3) (.int (n : Nat)) = some (.int ((3 * n : Nat) : Int)) := by
  rw [b_mul (by decide)]
  have : (3 : Int) * (n : Int) = ((3 * n : Nat) : Int) := by omega
  rw [this]
theorem b_subN {a b : Nat} (h : b ≤ a) : binop .sub (.int (a : Nat)) (.int (b : Nat)) = some (.int ((a - b : Nat) : Int)) := by
  show some (D.int ((a : Int) - (b : Int))) = _
  have : (a : Int) - (b : Int) = ((a - b : Nat) : Int) := by omega
  rw [this]
theorem b_eq_bl (a b : Bool) : cmpop .eq (.bl a) (.bl b) = some (decide (a = b)) := rfl
theorem f19 (k : Nat) {m n L p : Nat} (En : End m n L p) (h0 : 1 ≤ m) (h1 : m < n) (hn : n ≤ 200) : ∃ os, sem T (k + 2) 19 [told m n L p, .int (m : Nat), .int (n : Nat)] = some (.bl true, os) := by
  rw [sem_code (d := fd19) rfl]
  have hlen := K_len En h1
  have sh := K_short En
  obtain ⟨w, a, hw, ha⟩ : ∃ w a, (K m n L p).1 = w ∧ (K m n L p).2 = a := ⟨_, _, rfl, rfl⟩
  have htold : told m n L p = .tup [.str w, .str a] := by unfold told; rw [hw, ha]
  rw [htold]
  rw [hw, ha] at hlen sh
  have han := sh.ne
  have hla : 1 ≤ a.length := List.length_pos_iff.mpr han
  let tl : D := .tup [.str w, .str a]
  let r0 : Rho := [some tl, some (.int (m : Nat)), some (.int (n : Nat)), none, none, none, none, none]
  let r1 : Rho := [some tl, some (.int (m : Nat)), some (.int (n : Nat)), none, some (.str w), some (.str a), none, none]
  let r2 : Option D → Rho := fun x => [some tl, some (.int (m : Nat)), some (.int (n : Nat)), x, some (.str w), some (.str a), some (.lst (sgsOf m n (3 * n))), some (.lst (nmsOf m n (3 * n)))]
  have c1 : ev (sem T (k + 1)) (.or (.not (.isi (.var 0) .tuple)) (.one (.cmp .ne (.bi .len (.var 0)) (.cst (.int 2))))) r0 = some (.bl false, r0) :=
    e_or (k := false) (e_not (k := true) (e_isi (rd_v (d := tl) rfl _) rfl)) fun _ => e_one (e_cmp (x := .int 2) (fun _ => E.noConfusion) (e_bi (v := .int 2) (rd_v (d := tl) rfl _) rfl) (rd_e (fun _ => E.noConfusion) e_cst) rfl)
  have s2 : ex (sem T (k + 1)) (.unp [4, 5] (.var 0)) r0 = some (.nx, r1) := unp_eq (xs := [.str w, .str a]) (e_var (d := tl) rfl rfl) rfl
  have c3 : ev (sem T (k + 1)) (.or (.not (.isi (.var 4) .str)) (.or (.not (.isi (.var 5) .str)) (.or (.cmp .eq (.var 5) (.cst (.str []))) (.one (.cmp .gt (.bin .add (.bi .len (.var 4)) (.bi .len (.var 5))) (.var 2)))))) r1 = some (.bl false, r1) := by
    refine e_or (k := false) (e_not (k := true) (e_isi (rd_v (d := .str w) rfl _) rfl)) fun _ => e_or (k := false) (e_not (k := true) (e_isi (rd_v (d := .str a) rfl _) rfl)) fun _ => e_or (k := false) (e_cmpV (x := .str a) (d := .str a) rfl (rd_e (fun _ => E.noConfusion) e_cst) rfl ((eq_str _ _).trans (some_f han))) fun _ => e_one ?_
    exact e_cmp (x := .int ((w.length + a.length : Nat) : Int)) (fun _ => E.noConfusion) (e_bin (e_bi (rd_v (d := .str w) rfl _) rfl) (e_bi (rd_v (d := .str a) rfl _) rfl) (show some (D.int ((w.length : Int) + (a.length : Int))) = _ by congr 2)) (rd_v (d := .int (n : Nat)) rfl _) ((c_gt _ _).trans (some_f (by omega)))
  have e17 : ev (sem T (k + 1)) (.call 17 [(.var 1), (.var 2), (.bin .mul (.cst (.int 3)) (.var 2))]) r1 = some (.tup [.lst (sgsOf m n (3 * n)), .lst (nmsOf m n (3 * n))], r1) :=
    e_call (evT_v rfl (evT_v rfl (evT_e (fun _ => E.noConfusion) (e_bin e_cst (e_var (d := .int (n : Nat)) rfl rfl) (b_mul3 n)) evT_nil))) (argF_v (d := .int (m : Nat)) rfl rfl (argF_v (d := .int (n : Nat)) rfl rfl (argF_e (fun _ => E.noConfusion) argF_nil))) rfl (f17 k h1 hn)
  have s4 : ex (sem T (k + 1)) (.unp [6, 7] (.call 17 [(.var 1), (.var 2), (.bin .mul (.cst (.int 3)) (.var 2))])) r1 = some (.nx, r2 none) := unp_eq e17 rfl
  have isg := pls_ims (sgsD_pl m n (3 * n))
  have inm := pls_ims (nms_pl m n (3 * n))
  have htake : (sgsOf m n (3 * n)).take w.length = w.map sD := by
    have := sgs_take (m := m) (n := n) (p := w.length) (L := 3 * n) (by omega)
    have e : fstL m n w.length = w := by
      have := K_fst En
      rw [hw] at this
      exact this.symm
    rw [this, e]
  have c5a : ev (sem T (k + 1)) (.cmp .ne (.var 4) (.join (.cst (.str [])) (.sl (.var 6) none (some (.bi .len (.var 4)))))) (r2 none) = some (.bl false, r2 none) :=
    e_cmpV (x := .str w) (d := .str w) (y := .str w) rfl (rd_e (fun _ => E.noConfusion) (e_join e_cst (rd_e (fun _ => E.noConfusion) (e_slV (x := .lst (sgsOf m n (3 * n))) (d := .lst (sgsOf m n (3 * n))) rfl evo_none (evo_some (e_bi (v := .int (w.length : Nat)) (rd_v (d := .str w) rfl _) rfl)) rfl rfl rfl (by rw [slice_lst isg, cut_take, htake]))) (join_sD rfl (by omega)))) rfl (by rw [c_ne, eq_str, decide_eq_true rfl]; rfl)
  have c5b : ev (sem T (k + 1)) (.not (.call 18 [(.var 4), (.var 5)])) (r2 none) = some (.bl false, r2 none) :=
    e_not (k := true) (e_call (evT_v rfl (evT_v rfl evT_nil)) (argF_v (d := .str w) rfl rfl (argF_v (d := .str a) rfl rfl argF_nil)) rfl (f18 k han (by omega) sh.pr sh.ls))
  have c5 : ev (sem T (k + 1)) (.or (.cmp .ne (.var 4) (.join (.cst (.str [])) (.sl (.var 6) none (some (.bi .len (.var 4)))))) (.one (.not (.call 18 [(.var 4), (.var 5)])))) (r2 none) = some (.bl false, r2 none) := e_or c5a fun _ => e_one c5b
  have loop : ∀ (js : List Nat) (x : Option D), (∀ j ∈ js, w.length ≤ j ∧ j < 3 * n) → ∃ y, frL (fun x => bnd (setT (.one 3) x) fun _ => exs (sem T (k + 1)) [.ife (.cmp .ne (.ix (.var 6) (.var 3)) (.ix (.var 5) (.bin .mod (.bi .int (.bin .sub (.var 3) (.bi .len (.var 4)))) (.bi .len (.var 5))))) [.ret (.cst (.bl false))] []]) (pur ()) (js.map fun j => D.int (j : Nat)) (r2 x) = some (.nx, r2 y) := by
    intro js
    induction js with
    | nil => exact fun x _ => ⟨x, rfl⟩
    | cons j js ih =>
      intro x hj
      obtain ⟨y, hy⟩ := ih (some (.int (j : Nat))) fun i hi => hj i (List.mem_cons_of_mem _ hi)
      obtain ⟨j1, j2⟩ := hj j List.mem_cons_self
      refine ⟨y, ?_⟩
      rw [List.map_cons]
      let r : Rho := r2 (some (.int (j : Nat)))
      have g1 : (sgsOf m n (3 * n))[j]? = some (sgD m n j) := by
        unfold sgsOf
        rw [List.getElem?_map, List.getElem?_range j2]
        rfl
      have g2 : a[(j - w.length) % a.length]? = some (sg m n j) := by
        have := K_rest En (t := j) (by rw [hw]; exact j1)
        rw [hw, ha] at this
        exact this
      have a1 : ev (sem T (k + 1)) (.ix (.var 6) (.var 3)) r = some (sgD m n j, r) := e_ixV (x := .lst (sgsOf m n (3 * n))) (d := .lst (sgsOf m n (3 * n))) rfl (e_var (d := .int (j : Nat)) rfl rfl) rfl (index_lst g1 rfl)
      have a2 : ev (sem T (k + 1)) (.bin .mod (.bi .int (.bin .sub (.var 3) (.bi .len (.var 4)))) (.bi .len (.var 5))) r = some (.int (((j - w.length) % a.length : Nat) : Int), r) :=
        e_bin (e_bi (d := .int ((j - w.length : Nat) : Int)) (rd_e (fun _ => E.noConfusion) (e_bin (e_var (d := .int (j : Nat)) rfl rfl) (e_bi (rd_v (d := .str w) rfl _) rfl) (b_subN j1))) rfl) (e_bi (rd_v (d := .str a) rfl _) rfl) (b_mod hla)
      have a3 : ev (sem T (k + 1)) (.ix (.var 5) (.bin .mod (.bi .int (.bin .sub (.var 3) (.bi .len (.var 4)))) (.bi .len (.var 5)))) r = some (sgD m n j, r) := e_ixV (x := .str a) (d := .str a) rfl a2 rfl (index_str g2)
      have a4 : ev (sem T (k + 1)) (.cmp .ne (.ix (.var 6) (.var 3)) (.ix (.var 5) (.bin .mod (.bi .int (.bin .sub (.var 3) (.bi .len (.var 4)))) (.bi .len (.var 5))))) r = some (.bl false, r) :=
        e_cmp (x := sgD m n j) (y := sgD m n j) (fun _ => E.noConfusion) a1 (rd_e (fun _ => E.noConfusion) a3) (by
          show (pyEq (.str [sg m n j]) (.str [sg m n j])).map not = _
          rw [eq_str, decide_eq_true rfl]; rfl)
      exact (frL_nx (ρ1 := r) (exs_nx ((ife_f a4).trans exs_nil)) rfl).trans hy
  have hI : evI (sem T (k + 1)) (.rng [(.bi .len (.var 4)), (.bin .mul (.cst (.int 3)) (.var 2))]) (r2 none) = some ((.non, (List.range' w.length (3 * n - w.length)).map fun j => D.int (j : Nat)), r2 none) :=
    evI_rng (ds := [.int (w.length : Nat), .int ((3 * n : Nat) : Int)]) (evs_cons (e_bi (rd_v (d := .str w) rfl _) rfl) (evs_cons (e_bin e_cst (e_var (d := .int (n : Nat)) rfl rfl) (b_mul3 n)) evs_nil)) (by
      have := rgD_nat (lo := w.length) (n := 3 * n - w.length) (by omega)
      rw [show w.length + (3 * n - w.length) = 3 * n by omega] at this
      exact this)
  obtain ⟨y, hy⟩ := loop (List.range' w.length (3 * n - w.length)) none fun j hj => by have := List.mem_range'_1.mp hj; omega
  have s6 := (e_for (t := .one 3) hI).trans hy
  have d1 : ev (sem T (k + 1)) (.cmp .eq (.var 4) (.cst (.str []))) (r2 y) = some (.bl (decide (w = [])), r2 y) := e_cmpV (x := .str w) (d := .str w) rfl (rd_e (fun _ => E.noConfusion) e_cst) rfl (eq_str _ _)
  have d2 : ev (sem T (k + 1)) (.sl (.var 7) (some (.cst (.int 1))) none) (r2 y) = some (.lst ((nmsOf m n (3 * n)).drop 1), r2 y) := e_slV (x := .lst (nmsOf m n (3 * n))) (d := .lst (nmsOf m n (3 * n))) rfl (evo_some (d := .int ((1 : Nat) : Int)) e_cst) evo_none rfl rfl rfl (by rw [slice_lst inm, cut_drop])
  have hin : cmpop .inn (.int (m : Nat)) (.lst ((nmsOf m n (3 * n)).drop 1)) = some (decide (w = [])) := by
    show (if (okn 20 (.int (m : Nat)) && okns 20 ((nmsOf m n (3 * n)).drop 1)) = true then some (((nmsOf m n (3 * n)).drop 1).any fun y => decide (y = .int (m : Nat))) else none) = _
    have e20 : (okn 20 (.int (m : Nat)) && okns 20 ((nmsOf m n (3 * n)).drop 1)) = true := by rw [pls_okns (all_drop (nms_pl m n (3 * n)) 1) 20]; rfl
    rw [if_pos e20]
    refine congrArg some ?_
    have hb := back_iff En h0 h1
    rw [hw] at hb
    rw [Bool.eq_iff_iff, List.any_eq_true, decide_eq_true_eq, hb]
    constructor
    · rintro ⟨x, hx, e⟩
      have e := of_decide_eq_true e
      obtain ⟨i, hi, hg⟩ := List.getElem_of_mem hx
      rw [List.length_drop] at hi
      have nl : (nmsOf m n (3 * n)).length = 3 * n := by simp [nmsOf]
      rw [nl] at hi
      refine ⟨i + 1, by omega, by omega, ?_⟩
      have : ((nmsOf m n (3 * n)).drop 1)[i]? = some x := by rw [← hg]; exact List.getElem?_eq_getElem _
      rw [List.getElem?_drop] at this
      unfold nmsOf at this
      rw [List.getElem?_map, List.getElem?_range (by omega), e] at this
      have := D.int.inj (Option.some.inj this)
      rw [show 1 + i = i + 1 by omega] at this
      omega
    · rintro ⟨i, i1, i2, e⟩
      refine ⟨.int (m : Nat), ?_, decide_eq_true rfl⟩
      have : ((nmsOf m n (3 * n)).drop 1)[i - 1]? = some (.int (m : Nat)) := by
        rw [List.getElem?_drop]
        unfold nmsOf
        rw [List.getElem?_map, List.getElem?_range (by omega), show 1 + (i - 1) = i by omega]
        show some (D.int (at_ m n i : Nat)) = _
        rw [e]
      exact List.mem_of_getElem? this
  have d3 : ev (sem T (k + 1)) (.cmp .inn (.var 1) (.sl (.var 7) (some (.cst (.int 1))) none)) (r2 y) = some (.bl (decide (w = [])), r2 y) := e_cmpV (x := .int (m : Nat)) (d := .int (m : Nat)) rfl (rd_e (fun _ => E.noConfusion) d2) rfl hin
  have d4 : ev (sem T (k + 1)) (.cmp .eq (.cmp .eq (.var 4) (.cst (.str []))) (.cmp .inn (.var 1) (.sl (.var 7) (some (.cst (.int 1))) none))) (r2 y) = some (.bl true, r2 y) :=
    e_cmp (fun _ => E.noConfusion) d1 (rd_e (fun _ => E.noConfusion) d3) ((b_eq_bl _ _).trans (some_t rfl))
  exact runF_ret rfl ((exs_nx ((ife_f c1).trans exs_nil)).trans ((exs_nx s2).trans ((exs_nx ((ife_f c3).trans exs_nil)).trans ((exs_nx s4).trans ((exs_nx ((ife_f c5).trans exs_nil)).trans ((exs_nx s6).trans (exs_ret (ret_eq d4))))))))
end K64

set_option Elab.async false
set_option linter.all false
set_option autoImplicit false
set_option maxRecDepth 100000
set_option maxHeartbeats 1000000
namespace K64
open VS D M
/-! the draw, the purse -/
def prs (ns : List Int) (a c : Int) : D := .lst [.lst (ns.map .int), .int a, .int c]
theorem intL_map : ∀ ns : List Int, intL (ns.map .int) = some ns
  | [] => rfl
  | n :: ns => by simp [intL, intL_map ns]
theorem f15 (k : Nat) (ns : List Int) (a c : Int) {m : Nat} (hm : 1 ≤ m) (hm2 : m < 1073741824) : ∃ (r : Nat) (ns' : List Int) (a' c' : Int), r < m ∧ sem T (k + 1) 15 [prs ns a c, .int (m : Nat)] = some (.int (r : Nat), [some (prs ns' a' c'), none]) := by
  obtain ⟨r, ns', a', h⟩ := takeI_some (ns := ns) (a := a) (n := c) (m := (m : Nat)) (by omega)
  obtain ⟨h1, h2, _⟩ := takeI_r h (by omega)
  refine ⟨r.toNat, ns', a', c + 1, by omega, ?_⟩
  rw [sem_nat (g := takeD) rfl]
  have e : ((r.toNat : Nat) : Int) = r := by omega
  rw [e]
  unfold prs takeD
  simp only [intL_map, h]
theorem draw {k : Nat} {ρ : Rho} {e : E} {ns : List Int} {a c : Int} {m : Nat} (h : ρ[1]? = some (some (prs ns a c))) (he : ev (sem T (k + 1)) e ρ = some (.int (m : Nat), ρ)) (hn : ∀ j, e ≠ .var j) (hm : 1 ≤ m) (hm2 : m < 1073741824) :
    ∃ (r : Nat) (ns' : List Int) (a' c' : Int), r < m ∧ ev (sem T (k + 1)) (.call 15 [(.var 1), e]) ρ = some (.int (r : Nat), ρ.set 1 (some (prs ns' a' c'))) := by
  obtain ⟨r, ns', a', c', hr, hs⟩ := f15 k ns a c hm hm2
  refine ⟨r, ns', a', c', hr, ?_⟩
  show callM _ _ _ _ ρ = _
  unfold callM
  rw [bnd_eq (evT_v h (evT_e hn he evT_nil))]
  have ht : take 1 ρ = some (prs ns a c, ρ.set 1 none) := by
    unfold take
    rw [h]
    rfl
  have ha : argF [.var 1, e] [.non, .int (m : Nat)] ρ = some ([prs ns a c, .int (m : Nat)], ρ.set 1 none) := by
    show bnd (take 1) _ ρ = _
    rw [bnd_eq ht, bnd_eq (argF_e hn argF_nil)]
    rfl
  rw [bnd_eq ha]
  simp only [hs]
  have hb : backA [.var 1, e] [prs ns a c, .int (m : Nat)] [some (prs ns' a' c'), none] (ρ.set 1 none) = (ρ.set 1 none).set 1 (some (prs ns' a' c')) := by
    cases e <;> rfl
  rw [hb, List.set_set]
theorem f14 (k : Nat) (ns : List Int) (hl : ns.length ≤ 63) : ∃ ns', ∃ os, sem T (k + 1) 14 [.rls (ns.map .int)] = some (prs ns' 0 0, os) := by
  refine ⟨ns.map fun c => if 0 ≤ c then c else 5 - 2 * c, ?_⟩
  rw [sem_code (d := fd14) rfl]
  have him : ims (ns.map D.int) = true := by
    refine pls_ims (List.all_eq_true.mpr fun x hx => ?_)
    obtain ⟨c, _, rfl⟩ := List.mem_map.mp hx
    rfl
  let src : D := .rls (ns.map .int)
  let P : Rho → Prop := fun ρ => ∃ x, ρ = [some src, x]
  obtain ⟨ρ', ⟨x, rfl⟩, hlc⟩ := lc_run (Γ := sem T k) (t := .one 1) (own := [1]) (it := .seq (.var 0)) (c := none) (e := .ife (.cmp .ge (.var 1) (.cst (.int 0))) (.bi .int (.var 1)) (.bin .sub (.cst (.int 5)) (.bin .mul (.cst (.int 2)) (.bi .int (.var 1))))) (ρ := [some src, none]) (ρ1 := [some src, none]) (src := src) (xs := ns.map .int)
    (fun d => match d with
      | .int c => .int (if 0 ≤ c then c else 5 - 2 * c)
      | d => d) P (evI_seqV (d := src) rfl rfl him) ⟨none, rfl⟩ (fun x hx ρ hP => by
      obtain ⟨y, rfl⟩ := hP
      obtain ⟨c, _, rfl⟩ := List.mem_map.mp hx
      let r : Rho := [some src, some (.int c)]
      refine ⟨r, lcB_yes (ρ1 := r) rfl ?_, ⟨_, rfl⟩, if_pos rfl⟩
      refine e_ife (k := decide (0 ≤ c)) (e_cmpV (x := .int c) (d := .int c) rfl (rd_e (fun _ => E.noConfusion) e_cst) rfl (c_ge _ _)) (fun hk => ?_) fun hk => ?_
      · show _ = some (D.int (if 0 ≤ c then c else 5 - 2 * c), r)
        rw [if_pos (of_decide_eq_true hk)]
        exact e_bi (rd_v (d := .int c) rfl _) rfl
      · show _ = some (D.int (if 0 ≤ c then c else 5 - 2 * c), r)
        rw [if_neg (of_decide_eq_false hk)]
        exact e_bin e_cst (e_bin e_cst (e_bi (d := .int c) (v := .int c) (rd_v rfl _) rfl) (b_mul (by decide))) rfl) (by rw [List.length_map]; exact Nat.le_trans hl (by decide))
  have e : (ns.map D.int).map (fun d => match d with
      | .int c => D.int (if 0 ≤ c then c else 5 - 2 * c)
      | d => d) = (ns.map fun c => if 0 ≤ c then c else 5 - 2 * c).map D.int := by
    rw [List.map_map, List.map_map]
    rfl
  rw [e] at hlc
  exact runF_ret rfl (exs_ret (ret_eq (e_lst (evs_cons hlc (evs_cons e_cst (evs_cons e_cst evs_nil))) (by show 3 ≤ LIM; decide))))
/-! letters -/
def phi (c : Nat) : D := .int (if c = 48 then 0 else if c = 49 then 1 else if c = 42 then 2 else (c + 3 : Nat))
theorem phi_inj : ∀ a b, phi a = phi b → a = b := fun a b h => by
  have h := D.int.inj h
  split at h <;> split at h <;> (try split at h) <;> (try split at h) <;> (try split at h) <;> (try split at h) <;> omega
theorem e_idx {Γ : Gam} {a b : E} {ρ ρ1 ρ2 : Rho} {x y z : D} (hn : ∀ j, a ≠ .var j) (h1 : ev Γ a ρ = some (x, ρ1)) (h2 : ev Γ b ρ1 = some (y, ρ2)) (h3 : idxD x y = some z) : ev Γ (.idx a b) ρ = some (z, ρ2) := by
  show rcvL a _ _ _ ρ = _
  have : rcvL a (ev Γ a) (ev Γ b) (fun d x => lif (idxD d x)) = bnd (ev Γ a) fun d => bnd (ev Γ b) fun k => lif (idxD d k) := by
    unfold rcvL
    split
    · exact absurd rfl (hn _)
    · rfl
  rw [this, bnd_eq h1, bnd_eq h2]
  exact lif_eq h3 _
theorem idx_phi {c : Nat} (h : c = 42 ∨ c = 48 ∨ c = 49) : idxD (.lst [.str [48], .str [49], .str [42]]) (.str [c]) = some (phi c) := by
  rcases h with rfl | rfl | rfl <;> rfl
def unS (d : D) : D := match d with
  | .str [c] => phi c
  | d => d
theorem letters {Γ : Gam} {ρ : Rho} {xs : List Nat} {a : E} (hρ : ρ.length = 10) (h9 : ρ[9]? = some none) (ha : ev Γ a ρ = some (.str xs, ρ)) (hx : ∀ c ∈ xs, c = 42 ∨ c = 48 ∨ c = 49) (hl : xs.length ≤ 1000) :
    ev Γ (.bi .tuple (.lc (.one 9) [9] (.txt a) none (.idx (.lst [(.cst (.str [48])), (.cst (.str [49])), (.cst (.str [42]))]) (.var 9)))) ρ = some (.tup (xs.map phi), ρ) := by
  let P : Rho → Prop := fun r => r.length = 10 ∧ r.set 9 none = ρ
  have hw : wipeS ρ [9] = ρ := by
    show ρ.set 9 none = ρ
    refine List.ext_getElem? fun i => ?_
    by_cases hi : i = 9
    · subst hi
      rw [List.getElem?_set_self (by omega), h9]
    · rw [List.getElem?_set_ne (by omega)]
  obtain ⟨ρ', ⟨h1, h2⟩, hlc⟩ := lc_run (Γ := Γ) (t := .one 9) (own := [9]) (it := .txt a) (c := none) (e := .idx (.lst [(.cst (.str [48])), (.cst (.str [49])), (.cst (.str [42]))]) (.var 9)) (ρ := ρ) (ρ1 := ρ) (src := .non) (xs := xs.map fun c => D.str [c]) unS P (evI_txt ha) ⟨by rw [hw]; exact hρ, by rw [hw]; exact hw⟩ (fun x hx' r hP => by
      obtain ⟨c, hc, rfl⟩ := List.mem_map.mp hx'
      obtain ⟨p1, p2⟩ := hP
      refine ⟨(r.set 9 none).set 9 (some (.str [c])), lcB_yes (setT_one (by show 9 < (r.set 9 none).length; rw [List.length_set]; omega)) ?_, ⟨by simp [p1], by rw [List.set_set, List.set_set]; exact p2⟩, rfl⟩
      refine e_idx (fun _ => E.noConfusion) (e_lst (evs_cons e_cst (evs_cons e_cst (evs_cons e_cst evs_nil))) (by show 3 ≤ LIM; decide)) (e_var (d := .str [c]) ?_ rfl) (idx_phi (hx c hc))
      show ((r.set 9 none).set 9 (some (D.str [c])))[9]? = _
      rw [List.getElem?_set_self (by rw [List.length_set]; omega)]) (by rw [List.length_map]; exact Nat.le_trans hl (by decide))
  have e : (xs.map fun c => D.str [c]).map unS = xs.map phi := by rw [List.map_map]; rfl
  rw [e] at hlc
  have hb : backS (wipeB ρ [9]) ρ' [9] = ρ := by
    have : wipeB ρ [9] = ρ := by
      show (match ρ[9]? with
        | some (some d) => if im d = true then ρ else ρ.set 9 none
        | _ => ρ) = ρ
      rw [h9]
    rw [this]
    show (match ρ[9]? with
      | some o => ρ'.set 9 o
      | none => ρ') = ρ
    rw [h9]
    exact h2
  rw [hb] at hlc
  have hp : (xs.map phi).all isPl = true := List.all_eq_true.mpr fun x hx => by
    obtain ⟨c, _, rfl⟩ := List.mem_map.mp hx
    rfl
  exact e_bi (rd_e (fun _ => E.noConfusion) hlc) (b_tuple (pls_ims hp))
theorem okL_phi {xs : List Nat} (hx : ∀ c ∈ xs, c = 42 ∨ c = 48 ∨ c = 49) : (xs.map phi).all (okL 4) = true := List.all_eq_true.mpr fun x h => by
  obtain ⟨c, hc, rfl⟩ := List.mem_map.mp h
  rcases hx c hc with rfl | rfl | rfl <;> rfl
theorem e_notT {Γ : Gam} {a : E} {ρ ρ1 : Rho} {b : Bool} (h : ev Γ a ρ = some (.bl b, ρ1)) : ev Γ (.notT a) ρ = some (.bl (!b), ρ1) := by
  show bnd (ev Γ a) _ ρ = _
  rw [bnd_eq h]
  rfl
theorem told_ok {m n L p : Nat} (En : End m n L p) (h0 : 1 ≤ m) (h1 : m < n) : okSg (K m n L p).1 (K m n L p).2 := by
  have sh := K_short En
  by_cases hk : (K m n L p).1 = []
  · obtain ⟨a1, a2⟩ := signs_nil En h0 h1 hk
    refine .inl ⟨hk, a1, List.all_eq_true.mpr fun c hc => ?_⟩
    rcases a2 c hc with rfl | rfl <;> rfl
  · have a := signs_cons En h0 h1 hk
    have pl : ∀ c, (c = 48 ∨ c = 49) → plS c = true := fun c hc => by rcases hc with rfl | rfl <;> rfl
    exact .inr ⟨hk, List.all_eq_true.mpr fun c hc => pl c (a c (.inl hc)), List.all_eq_true.mpr fun c hc => pl c (a c (.inr hc)), sh.ne, sh.ls.resolve_left hk⟩
theorem like2 (k : Nat) {a b : D} (ha : im a = true) (hb : im b = true) (h1 : ∃ os, sem T k 16 [a, a] = some (.bl true, os)) (h2 : ∃ os, sem T k 16 [b, b] = some (.bl true, os)) : ∃ os, sem T (k + 1) 16 [.tup [a, b], .tup [a, b]] = some (.bl true, os) :=
  like_tup k (by simp [ims, ha, hb]) (by show 2 ≤ 1000; decide) fun x hx => by
    simp only [List.mem_cons, List.not_mem_nil, or_false] at hx
    rcases hx with rfl | rfl
    · exact h1
    · exact h2
theorem like_ints (k : Nat) {xs : List Nat} (hl : xs.length ≤ 1000) : ∃ os, sem T (k + 2) 16 [.tup (xs.map phi), .tup (xs.map phi)] = some (.bl true, os) :=
  like_tup (k + 1) (pls_ims (List.all_eq_true.mpr fun x hx => by
    obtain ⟨c, _, rfl⟩ := List.mem_map.mp hx
    rfl)) (by rw [List.length_map]; exact hl) fun x hx => by
    obtain ⟨c, _, rfl⟩ := List.mem_map.mp hx
    exact like_int k _
end K64

set_option Elab.async false
set_option linter.all false
set_option autoImplicit false
set_option maxRecDepth 100000
set_option maxHeartbeats 1000000
namespace K64
open VS D M
/-- law's names -/
def st (sc pu mk n m to wo ag ti : Option D) : Rho := [sc, pu, mk, n, m, to, wo, ag, ti, none]
def Pu (d : D) : Prop := ∃ ns a c, d = prs ns a c
section
variable {sc mk n m to wo ag ti : Option D} {pu : D}
/-- a draw in law -/
theorem dr {e : E} {q : Nat} (hp : Pu pu) (he : ev (sem T 11) e (st sc (some pu) mk n m to wo ag ti) = some (.int (q : Nat), st sc (some pu) mk n m to wo ag ti)) (hn : ∀ j, e ≠ .var j) (h1 : 1 ≤ q) (h2 : q < 1073741824) :
    ∃ (r : Nat) (pu' : D), r < q ∧ Pu pu' ∧ ev (sem T 11) (.call 15 [(.var 1), e]) (st sc (some pu) mk n m to wo ag ti) = some (.int (r : Nat), st sc (some pu') mk n m to wo ag ti) := by
  obtain ⟨ns, a, c, rfl⟩ := hp
  obtain ⟨r, ns', a', c', hr, h⟩ := draw (k := 10) (ρ := st sc (some (prs ns a c)) mk n m to wo ag ti) (ns := ns) (a := a) (c := c) rfl he hn h1 h2
  exact ⟨r, prs ns' a' c', hr, ⟨_, _, _, rfl⟩, h⟩
end
theorem ix6 {r : Nat} (h : r < 6) : ∃ v : Nat, 2 ≤ v ∧ v ≤ 64 ∧ index (.lst [.int 2, .int 4, .int 8, .int 16, .int 32, .int 64]) (.int (r : Nat)) = some (.int (v : Nat)) := by
  match r, h with
  | 0, _ => exact ⟨2, by decide, by decide, rfl⟩
  | 1, _ => exact ⟨4, by decide, by decide, rfl⟩
  | 2, _ => exact ⟨8, by decide, by decide, rfl⟩
  | 3, _ => exact ⟨16, by decide, by decide, rfl⟩
  | 4, _ => exact ⟨32, by decide, by decide, rfl⟩
  | 5, _ => exact ⟨64, by decide, by decide, rfl⟩
theorem ix3 {r : Nat} (h : r < 3) : ∃ v : Nat, 1 ≤ v ∧ v ≤ 3 ∧ index (.lst [.int 1, .int 3, .int 1]) (.int (r : Nat)) = some (.int (v : Nat)) := by
  match r, h with
  | 0, _ => exact ⟨1, by decide, by decide, rfl⟩
  | 1, _ => exact ⟨3, by decide, by decide, rfl⟩
  | 2, _ => exact ⟨1, by decide, by decide, rfl⟩
theorem b_addN (a b : Nat) : binop .add (.int (a : Nat)) (.int (b : Nat)) = some (.int ((a + b : Nat) : Int)) := by
  show some (D.int ((a : Int) + (b : Int))) = _
  have : (a : Int) + (b : Int) = ((a + b : Nat) : Int) := by omega
  rw [this]
theorem b_mulN {a b : Nat} (h : a < 1000000) : binop .mul (.int (a : Nat)) (.int (b : Nat)) = some (.int ((a * b : Nat) : Int)) := by
  rw [b_mul (decide_eq_true (by have : (a : Int).natAbs < 1000000 := by omega
                                exact Nat.lt_trans this (by decide)))]
  rw [Int.natCast_mul]
theorem law_true (ns : List Int) (h : ns.length ≤ 63) : ∃ os, sem (mkTab fds) 12 20 [.rls (ns.map .int)] = some (.bl true, os) := by
  rw [sem_code (d := fd20) rfl]
  let src : D := .rls (ns.map .int)
  have isrc : im src = true := by
    show ims (ns.map D.int) = true
    refine pls_ims (List.all_eq_true.mpr fun x hx => ?_)
    obtain ⟨c, _, rfl⟩ := List.mem_map.mp hx
    rfl
  let S0 : Option D := some src
  -- the purse
  obtain ⟨ns1, h14⟩ := f14 10 ns h
  have s1 : ex (sem T 11) (.set 1 (.call 14 [(.var 0)])) (st S0 none none none none none none none none) = some (.nx, st S0 (some (prs ns1 0 0)) none none none none none none none) :=
    set_eq (i := 1) (e_call (evT_v (d := src) rfl evT_nil) (argF_v (d := src) rfl isrc argF_nil) (by simp only [ims, isrc, Bool.and_true]) h14) (by show 1 < 10; decide)
  have pu1 : Pu (prs ns1 0 0) := ⟨_, _, _, rfl⟩
  -- make
  obtain ⟨mk, p2, hmk, pu2, e2⟩ := dr (sc := S0) (mk := none) (n := none) (m := none) (to := none) (wo := none) (ag := none) (ti := none) (e := .cst (.int 4)) (q := 4) pu1 e_cst (fun _ => E.noConfusion) (by decide) (by decide)
  let M0 : Option D := some (.int (mk : Nat))
  have s2 : ex (sem T 11) (.set 2 (.call 15 [(.var 1), (.cst (.int 4))])) (st S0 (some (prs ns1 0 0)) none none none none none none none) = some (.nx, st S0 (some p2) M0 none none none none none none) :=
    set_eq (i := 2) e2 (by show 2 < 10; decide)
  -- n
  obtain ⟨r3, p3, hr3, pu3, e3⟩ := dr (sc := S0) (mk := M0) (n := none) (m := none) (to := none) (wo := none) (ag := none) (ti := none) (e := .cst (.int 199)) (q := 199) pu2 e_cst (fun _ => E.noConfusion) (by decide) (by decide)
  have s3 : ex (sem T 11) (.set 3 (.bin .add (.cst (.int 2)) (.call 15 [(.var 1), (.cst (.int 199))]))) (st S0 (some p2) M0 none none none none none none) = some (.nx, st S0 (some p3) M0 (some (.int ((2 + r3 : Nat) : Int))) none none none none none) :=
    set_eq (i := 3) (e_bin (e_cst (d := .int ((2 : Nat) : Int))) e3 (b_addN 2 r3)) (by show 3 < 10; decide)
  -- make == 1
  have s4 : ∃ (p4 : D) (n4 : Nat), Pu p4 ∧ 2 ≤ n4 ∧ n4 ≤ 200 ∧ ex (sem T 11) (.ife (.cmp .eq (.var 2) (.cst (.int 1))) [.set 3 (.bin .mul (.ix (.lst [(.cst (.int 2)), (.cst (.int 4)), (.cst (.int 8)), (.cst (.int 16)), (.cst (.int 32)), (.cst (.int 64))]) (.call 15 [(.var 1), (.cst (.int 6))])) (.ix (.lst [(.cst (.int 1)), (.cst (.int 3)), (.cst (.int 1))]) (.call 15 [(.var 1), (.cst (.int 3))])))] []) (st S0 (some p3) M0 (some (.int ((2 + r3 : Nat) : Int))) none none none none none) = some (.nx, st S0 (some p4) M0 (some (.int (n4 : Nat))) none none none none none) := by
    have c : ev (sem T 11) (.cmp .eq (.var 2) (.cst (.int 1))) (st S0 (some p3) M0 (some (.int ((2 + r3 : Nat) : Int))) none none none none none) = some (.bl (decide ((mk : Int) = 1)), st S0 (some p3) M0 (some (.int ((2 + r3 : Nat) : Int))) none none none none none) :=
      e_cmpV (x := .int (mk : Nat)) (d := .int (mk : Nat)) rfl (rd_e (fun _ => E.noConfusion) e_cst) rfl (eq_int _ _)
    by_cases hk : (mk : Int) = 1
    · rw [decide_eq_true hk] at c
      obtain ⟨ra, pa, hra, pua, ea⟩ := dr (sc := S0) (mk := M0) (n := some (.int ((2 + r3 : Nat) : Int))) (m := none) (to := none) (wo := none) (ag := none) (ti := none) (e := .cst (.int 6)) (q := 6) pu3 e_cst (fun _ => E.noConfusion) (by decide) (by decide)
      obtain ⟨rb, pb, hrb, pub, eb⟩ := dr (sc := S0) (mk := M0) (n := some (.int ((2 + r3 : Nat) : Int))) (m := none) (to := none) (wo := none) (ag := none) (ti := none) (e := .cst (.int 3)) (q := 3) pua e_cst (fun _ => E.noConfusion) (by decide) (by decide)
      obtain ⟨va, a1, a2, a3⟩ := ix6 hra
      obtain ⟨vb, b1, b2, b3⟩ := ix3 hrb
      have hab1 : va * vb ≤ 64 * 3 := Nat.mul_le_mul a2 b2
      have hab2 : 2 * 1 ≤ va * vb := Nat.mul_le_mul a1 b1
      have e4 : ev (sem T 11) (.bin .mul (.ix (.lst [(.cst (.int 2)), (.cst (.int 4)), (.cst (.int 8)), (.cst (.int 16)), (.cst (.int 32)), (.cst (.int 64))]) (.call 15 [(.var 1), (.cst (.int 6))])) (.ix (.lst [(.cst (.int 1)), (.cst (.int 3)), (.cst (.int 1))]) (.call 15 [(.var 1), (.cst (.int 3))]))) (st S0 (some p3) M0 (some (.int ((2 + r3 : Nat) : Int))) none none none none none) = some (.int ((va * vb : Nat) : Int), st S0 (some pb) M0 (some (.int ((2 + r3 : Nat) : Int))) none none none none none) :=
        e_bin (e_ix (fun _ => E.noConfusion) (e_lst (evs_cons e_cst (evs_cons e_cst (evs_cons e_cst (evs_cons e_cst (evs_cons e_cst (evs_cons e_cst evs_nil)))))) (by show 6 ≤ LIM; decide)) ea a3) (e_ix (fun _ => E.noConfusion) (e_lst (evs_cons e_cst (evs_cons e_cst (evs_cons e_cst evs_nil))) (by show 3 ≤ LIM; decide)) eb b3) (b_mulN (by omega))
      exact ⟨pb, va * vb, pub, by omega, by omega, (ife_t c).trans ((exs_nx (set_eq (i := 3) e4 (by show 3 < 10; decide))).trans exs_nil)⟩
    · rw [decide_eq_false hk] at c
      exact ⟨p3, 2 + r3, pu3, by omega, by omega, (ife_f c).trans exs_nil⟩
  obtain ⟨p4, n4, pu4, n41, n42, s4⟩ := s4
  -- make == 2
  have s5 : ∃ (p5 : D) (n5 : Nat), Pu p5 ∧ 2 ≤ n5 ∧ n5 ≤ 200 ∧ ex (sem T 11) (.ife (.cmp .eq (.var 2) (.cst (.int 2))) [.set 3 (.bin .add (.cst (.int 3)) (.bin .mul (.cst (.int 2)) (.call 15 [(.var 1), (.cst (.int 99))])))] []) (st S0 (some p4) M0 (some (.int (n4 : Nat))) none none none none none) = some (.nx, st S0 (some p5) M0 (some (.int (n5 : Nat))) none none none none none) := by
    have c : ev (sem T 11) (.cmp .eq (.var 2) (.cst (.int 2))) (st S0 (some p4) M0 (some (.int (n4 : Nat))) none none none none none) = some (.bl (decide ((mk : Int) = 2)), st S0 (some p4) M0 (some (.int (n4 : Nat))) none none none none none) :=
      e_cmpV (x := .int (mk : Nat)) (d := .int (mk : Nat)) rfl (rd_e (fun _ => E.noConfusion) e_cst) rfl (eq_int _ _)
    by_cases hk : (mk : Int) = 2
    · rw [decide_eq_true hk] at c
      obtain ⟨ra, pa, hra, pua, ea⟩ := dr (sc := S0) (mk := M0) (n := some (.int (n4 : Nat))) (m := none) (to := none) (wo := none) (ag := none) (ti := none) (e := .cst (.int 99)) (q := 99) pu4 e_cst (fun _ => E.noConfusion) (by decide) (by decide)
      refine ⟨pa, 3 + 2 * ra, pua, by omega, by omega, (ife_t c).trans ((exs_nx (set_eq (i := 3) (e_bin (e_cst (d := .int ((3 : Nat) : Int))) (e_bin (e_cst (d := .int ((2 : Nat) : Int))) ea (b_mulN (a := 2) (b := ra) (by decide))) (b_addN 3 (2 * ra))) (by show 3 < 10; decide))).trans exs_nil)⟩
    · rw [decide_eq_false hk] at c
      exact ⟨p4, n4, pu4, n41, n42, (ife_f c).trans exs_nil⟩
  obtain ⟨p5, n, pu5, n51, n52, s5⟩ := s5
  let N0 : Option D := some (.int (n : Nat))
  -- m
  have e6a : ev (sem T 11) (.bin .sub (.var 3) (.cst (.int 1))) (st S0 (some p5) M0 N0 none none none none none) = some (.int ((n - 1 : Nat) : Int), st S0 (some p5) M0 N0 none none none none none) :=
    e_bin (e_var (d := .int (n : Nat)) rfl rfl) (e_cst (d := .int ((1 : Nat) : Int))) (b_subN (by omega))
  obtain ⟨r6, p6, hr6, pu6, e6⟩ := dr (sc := S0) (mk := M0) (n := N0) (m := none) (to := none) (wo := none) (ag := none) (ti := none) (q := n - 1) pu5 e6a (fun _ => E.noConfusion) (by omega) (by omega)
  obtain ⟨m, hm⟩ : ∃ m, m = 1 + r6 := ⟨_, rfl⟩
  have m1 : 1 ≤ m := by omega
  have m2 : m < n := by omega
  let K0 : Option D := some (.int (m : Nat))
  have s6 : ex (sem T 11) (.set 4 (.bin .add (.cst (.int 1)) (.call 15 [(.var 1), (.bin .sub (.var 3) (.cst (.int 1)))]))) (st S0 (some p5) M0 N0 none none none none none) = some (.nx, st S0 (some p6) M0 N0 K0 none none none none) := by
    have := set_eq (Γ := sem T 11) (i := 4) (e_bin (e_cst (d := .int ((1 : Nat) : Int))) e6 (b_addN 1 r6)) (by show 4 < 10; decide)
    rw [← hm] at this
    exact this
  -- told
  obtain ⟨L, p, En, h13⟩ := f13 7 m1 m2 n52
  obtain ⟨w, hw⟩ : ∃ w, (K m n L p).1 = w := ⟨_, rfl⟩
  obtain ⟨a, ha⟩ : ∃ a, (K m n L p).2 = a := ⟨_, rfl⟩
  have hto : told m n L p = .tup [.str w, .str a] := by unfold told; rw [hw, ha]
  have sh := K_short En
  have hlen := K_len En m2
  have hsg := told_ok En m1 m2
  have hval := K_val En
  rw [hw, ha] at sh hlen hsg hval
  let tl : D := .tup [.str w, .str a]
  have s7 : ex (sem T 11) (.set 5 (.call 13 [(.var 4), (.var 3)])) (st S0 (some p6) M0 N0 K0 none none none none) = some (.nx, st S0 (some p6) M0 N0 K0 (some tl) none none none) := by
    rw [hto] at h13
    exact set_eq (i := 5) (e_call (evT_v (d := .int (m : Nat)) rfl (evT_v (d := .int (n : Nat)) rfl evT_nil)) (argF_v (d := .int (m : Nat)) rfl rfl (argF_v (d := .int (n : Nat)) rfl rfl argF_nil)) rfl h13) (by show 5 < 10; decide)
  let R7 : Rho := st S0 (some p6) M0 N0 K0 (some tl) none none none
  have h19 := f19 9 En m1 m2 n52
  rw [hto] at h19
  have c8 : ev (sem T 11) (.or (.not (.call 19 [(.var 5), (.var 4), (.var 3)])) (.one (.notT (.call 12 [(.var 5)])))) R7 = some (.bl false, R7) :=
    e_or (e_not (k := true) (e_call (evT_v (d := tl) rfl (evT_v (d := .int (m : Nat)) rfl (evT_v (d := .int (n : Nat)) rfl evT_nil))) (argF_v (d := tl) rfl rfl (argF_v (d := .int (m : Nat)) rfl rfl (argF_v (d := .int (n : Nat)) rfl rfl argF_nil))) rfl h19)) fun _ => e_one (e_notT (b := true) (e_call (evT_v (d := tl) rfl evT_nil) (argF_v (d := tl) rfl rfl argF_nil) rfl (f12 8 (by omega) (by omega) hsg)))
  -- the letters
  let W0 : Option D := some (.tup (w.map phi))
  let A0 : Option D := some (.tup (a.map phi))
  have e9 := letters (Γ := sem T 11) (ρ := R7) (xs := w) (a := .ix (.var 5) (.cst (.int 0))) rfl rfl (e_ixV (x := tl) (d := tl) rfl e_cst rfl (index_tup (i := 0) rfl rfl)) (fun c hc => hval c (.inl hc)) (by omega)
  let R9 : Rho := st S0 (some p6) M0 N0 K0 (some tl) W0 none none
  have s9 := set_eq (Γ := sem T 11) (i := 6) e9 (by show 6 < 10; decide)
  have e10 := letters (Γ := sem T 11) (ρ := R9) (xs := a) (a := .ix (.var 5) (.cst (.int 1))) rfl rfl (e_ixV (x := tl) (d := tl) rfl e_cst rfl (index_tup (i := 1) rfl rfl)) (fun c hc => hval c (.inr hc)) (by omega)
  let R10 : Rho := st S0 (some p6) M0 N0 K0 (some tl) W0 A0 none
  have s10 := set_eq (Γ := sem T 11) (i := 7) e10 (by show 7 < 10; decide)
  have okw : (w.map phi).all (okL 4) = true := okL_phi fun c hc => hval c (.inl hc)
  have oka : (a.map phi).all (okL 4) = true := okL_phi fun c hc => hval c (.inr hc)
  have iw := pls_ims (okL_pl okw)
  have ia := pls_ims (okL_pl oka)
  have hfix : shortL (w.map phi) (a.map phi) = (w.map phi, a.map phi) := by
    rw [shortL_map phi_inj, shortL_fix sh.pr sh.ls]
  have h8 := f8 6 okw oka (fun z => sh.ne (List.map_eq_nil_iff.mp z)) (by rw [List.length_map]; omega) (by rw [List.length_map]; omega)
  rw [hfix] at h8
  have c11c : ev (sem T 11) (.not (.call 16 [(.call 8 [(.var 6), (.var 7)]), (.tup [(.var 6), (.var 7)])])) R10 = some (.bl false, R10) := by
    have c8' : ev (sem T 11) (.call 8 [(.var 6), (.var 7)]) R10 = some (.tup [.tup (w.map phi), .tup (a.map phi)], R10) :=
      e_call (evT_v (d := .tup (w.map phi)) rfl (evT_v (d := .tup (a.map phi)) rfl evT_nil)) (argF_v (d := .tup (w.map phi)) rfl iw (argF_v (d := .tup (a.map phi)) rfl ia argF_nil)) (by simp [ims, im, iw, ia]) h8
    have ct : ev (sem T 11) (.tup [(.var 6), (.var 7)]) R10 = some (.tup [.tup (w.map phi), .tup (a.map phi)], R10) :=
      e_tup (evs_cons (e_var (d := .tup (w.map phi)) rfl iw) (evs_cons (e_var (d := .tup (a.map phi)) rfl ia) evs_nil)) (by show 2 ≤ LIM; decide)
    refine e_not (k := true) (e_call (evT_e (fun _ => E.noConfusion) c8' (evT_e (fun _ => E.noConfusion) ct evT_nil)) (argF_e (fun _ => E.noConfusion) (argF_e (fun _ => E.noConfusion) argF_nil)) (by simp [ims, im, iw, ia]) ?_)
    exact like2 10 iw ia (like_ints 8 (by omega)) (like_ints 8 (by omega))
  have c11 : ∃ b, b = false ∧ ev (sem T 11) (.and (.cmp .le (.bi .len (.var 6)) (.cst (.int 24))) (.and (.cmp .le (.bi .len (.var 7)) (.cst (.int 24))) (.one (.not (.call 16 [(.call 8 [(.var 6), (.var 7)]), (.tup [(.var 6), (.var 7)])]))))) R10 = some (.bl b, R10) := by
    have a1 : ev (sem T 11) (.cmp .le (.bi .len (.var 6)) (.cst (.int 24))) R10 = some (.bl (decide (((w.map phi).length : Int) ≤ 24)), R10) := e_cmp (fun _ => E.noConfusion) (e_bi (rd_v (d := .tup (w.map phi)) rfl _) rfl) (rd_e (fun _ => E.noConfusion) e_cst) (c_le _ _)
    have a2 : ev (sem T 11) (.cmp .le (.bi .len (.var 7)) (.cst (.int 24))) R10 = some (.bl (decide (((a.map phi).length : Int) ≤ 24)), R10) := e_cmp (fun _ => E.noConfusion) (e_bi (rd_v (d := .tup (a.map phi)) rfl _) rfl) (rd_e (fun _ => E.noConfusion) e_cst) (c_le _ _)
    exact ⟨_, by simp, e_and a1 fun _ => e_and a2 fun _ => e_one c11c⟩
  obtain ⟨_, rfl, c11⟩ := c11
  -- times
  have hq : 1 ≤ 200 / n := Nat.div_pos n52 (by omega)
  have hq2 : 200 / n ≤ 200 := Nat.div_le_self _ _
  have e12a : ev (sem T 11) (.bin .fdv (.cst (.int 200)) (.var 3)) R10 = some (.int ((200 / n : Nat) : Int), R10) :=
    e_bin (e_cst (d := .int ((200 : Nat) : Int))) (e_var (d := .int (n : Nat)) rfl rfl) (b_fdv (by omega) (by omega))
  obtain ⟨r12, p12, hr12, pu12, e12⟩ := dr (sc := S0) (mk := M0) (n := N0) (m := K0) (to := some tl) (wo := W0) (ag := A0) (ti := none) (q := 200 / n) pu6 e12a (fun _ => E.noConfusion) hq (by omega)
  obtain ⟨t, ht⟩ : ∃ t, t = 1 + r12 := ⟨_, rfl⟩
  have t1 : 1 ≤ t := by omega
  have t2 : n * t ≤ 200 := Nat.le_trans (Nat.mul_le_mul_left n (show t ≤ 200 / n by omega)) (Nat.mul_div_le 200 n)
  let R12 : Rho := st S0 (some p12) M0 N0 K0 (some tl) W0 A0 (some (.int (t : Nat)))
  have s12 : ex (sem T 11) (.set 8 (.bin .add (.cst (.int 1)) (.call 15 [(.var 1), (.bin .fdv (.cst (.int 200)) (.var 3))]))) R10 = some (.nx, R12) := by
    have := set_eq (Γ := sem T 11) (i := 8) (e_bin (e_cst (d := .int ((1 : Nat) : Int))) e12 (b_addN 1 r12)) (by show 8 < 10; decide)
    rw [← ht] at this
    exact this
  -- the multiple
  have mt1 : 1 ≤ m * t := Nat.mul_pos m1 t1
  have mt2 : m * t < n * t := Nat.mul_lt_mul_of_pos_right m2 t1
  obtain ⟨L', p', En', h13'⟩ := f13 7 mt1 mt2 t2
  have hto' : told (m * t) (n * t) L' p' = .tup [.str w, .str a] := by
    unfold told
    rw [K_mul t1 En En', hw, ha]
  rw [hto'] at h13'
  have g1 : ev (sem T 11) (.call 13 [(.bin .mul (.var 4) (.var 8)), (.bin .mul (.var 3) (.var 8))]) R12 = some (tl, R12) :=
    e_call (evT_e (fun _ => E.noConfusion) (e_bin (e_var (d := .int (m : Nat)) rfl rfl) (e_var (d := .int (t : Nat)) rfl rfl) (b_mulN (by omega))) (evT_e (fun _ => E.noConfusion) (e_bin (e_var (d := .int (n : Nat)) rfl rfl) (e_var (d := .int (t : Nat)) rfl rfl) (b_mulN (by omega))) evT_nil)) (argF_e (fun _ => E.noConfusion) (argF_e (fun _ => E.noConfusion) argF_nil)) rfl h13'
  have g2 : ev (sem T 11) (.tup [(.ix (.var 5) (.cst (.int 0))), (.ix (.var 5) (.cst (.int 1)))]) R12 = some (tl, R12) :=
    e_tup (evs_cons (e_ixV (x := tl) (d := tl) rfl e_cst rfl (index_tup (i := 0) rfl rfl)) (evs_cons (e_ixV (x := tl) (d := tl) rfl e_cst rfl (index_tup (i := 1) rfl rfl)) evs_nil)) (by show 2 ≤ LIM; decide)
  have g3 : ev (sem T 11) (.call 16 [(.call 13 [(.bin .mul (.var 4) (.var 8)), (.bin .mul (.var 3) (.var 8))]), (.tup [(.ix (.var 5) (.cst (.int 0))), (.ix (.var 5) (.cst (.int 1)))])]) R12 = some (.bl true, R12) :=
    e_call (evT_e (fun _ => E.noConfusion) g1 (evT_e (fun _ => E.noConfusion) g2 evT_nil)) (argF_e (fun _ => E.noConfusion) (argF_e (fun _ => E.noConfusion) argF_nil)) rfl (like2 10 rfl rfl (like_str 9 w) (like_str 9 a))
  exact runF_ret rfl ((exs_nx s1).trans ((exs_nx s2).trans ((exs_nx s3).trans ((exs_nx s4).trans ((exs_nx s5).trans ((exs_nx s6).trans ((exs_nx s7).trans ((exs_nx ((ife_f c8).trans exs_nil)).trans ((exs_nx s9).trans ((exs_nx s10).trans ((exs_nx ((ife_f c11).trans exs_nil)).trans ((exs_nx s12).trans (exs_ret (ret_eq g3))))))))))))))
end K64

set_option Elab.async false
set_option linter.all false
set_option autoImplicit false
namespace VS
open PySem L2

/-- a plain key as data -/
def keyD : Key → D
  | .inl i => .int i
  | .inr x => .str x.cps.toList
/-- what may change -/
def Muty : HO → Prop
  | .lst _ => True
  | .dK _ => True
  | .ext _ => True
  | _ => False
/-- a list that nothing changes -/
def RdL (K : PySem.W.Frag) (H : Hp) (a : Addr) (xs : List V) : Prop := (∃ o, H a = some (.frz o (.lst xs))) ∨
    ∃ (o : Obj) (its : Array Value) (n : Nat), K.lookup a = some o ∧ o.cls = .type "list" ∧ o.dict = none ∧ o.data = .seq its n ∧ its.size ≤ sizeLine ∧ Vals xs its.toList
theorem RdL.sq {K : PySem.W.Frag} {H : Hp} {a : Addr} {xs : List V} (h : RdL K H a xs) : SqL K H a xs := by
  rcases h with ⟨o, h⟩ | h
  · exact .inl (.inr ⟨o, h⟩)
  · exact .inr h

mutual
/-- the value v is the data d; F: the objects that may change, each once -/
inductive Rep (K : PySem.W.Frag) (H : Hp) : V → D → List Addr → Prop
  | non : Rep K H .non .non []
  | bl (b : Bool) : Rep K H (.bl b) (.bl b) []
  | int (i : Int) : Rep K H (.int i) (.int i) []
  | str (x : Str) (h : x.length ≤ sizeLine) : Rep K H (.str x) (.str x.cps.toList) []
  | tup {a : Addr} {vs : List V} {ds : List D} {F : List Addr} : SqT K H a vs → RepL K H vs ds F → Rep K H (.ref a) (.tup ds) F
  | lst {a : Addr} {vs : List V} {ds : List D} {F : List Addr} : H a = some (.lst vs) → RepL K H vs ds F → Rep K H (.ref a) (.lst ds) (a :: F)
  | rls {a : Addr} {vs : List V} {ds : List D} {F : List Addr} : RdL K H a vs → RepL K H vs ds F → Rep K H (.ref a) (.rls ds) F
  | dicK {a : Addr} {kvs : List (Key × V)} {ks ds : List D} {F : List Addr} : H a = some (.dK kvs) → (kvs.map (·.1)).Nodup ∧ ks = kvs.map (fun p => keyD p.1) → RepL K H (kvs.map (·.2)) ds F → Rep K H (.ref a) (.dic false ks ds) (a :: F)
  | ptr (a : Addr) : Rep K H (.ref a) (.ptr a) []
inductive RepL (K : PySem.W.Frag) (H : Hp) : List V → List D → List Addr → Prop
  | nil : RepL K H [] [] []
  | cons {v : V} {d : D} {F G : List Addr} {vs : List V} {ds : List D} : Rep K H v d F → RepL K H vs ds G → RepL K H (v :: vs) (d :: ds) (F ++ G)
end
/-- the slots -/
inductive RepO (K : PySem.W.Frag) (H : Hp) : L2.St → Rho → List Addr → Prop
  | nil : RepO K H [] [] []
  | non {o : Option V} {σ : L2.St} {ρ : Rho} {F : List Addr} : RepO K H σ ρ F → RepO K H (o :: σ) (none :: ρ) F
  | som {v : V} {d : D} {σ : L2.St} {ρ : Rho} {F G : List Addr} : Rep K H v d G → RepO K H σ ρ F → RepO K H (some v :: σ) (some d :: ρ) (G ++ F)

structure Step (F F' : List Addr) (H H' : Hp) : Prop where
  keep : ∀ a o, H a = some o → a ∉ F → H' a = some o
  new : ∀ a, a ∈ F' → a ∈ F ∨ H a = none

section
variable {K : PySem.W.Frag} {H H' H1 H2 : Hp} {v : V} {d : D} {vs : List V} {ds : List D} {F F' F1 F2 G G' G1 G2 : List Addr} {σ : L2.St} {ρ ρ' : Rho}

mutual
theorem Rep.muty : ∀ {v : V} {d : D} {F : List Addr}, Rep K H v d F → ∀ a ∈ F, ∃ o, H a = some o ∧ Muty o
  | _, _, _, .non, _, h => nomatch h
  | _, _, _, .bl _, _, h => nomatch h
  | _, _, _, .int _, _, h => nomatch h
  | _, _, _, .str _ _, _, h => nomatch h
  | _, _, _, .tup _ r, a, h => RepL.muty r a h
  | _, _, _, .rls _ r, a, h => RepL.muty r a h
  | _, _, _, .lst e r, a, h => by
    rcases List.mem_cons.mp h with rfl | h
    · exact ⟨_, e, trivial⟩
    · exact RepL.muty r a h
  | _, _, _, .dicK e _ r, a, h => by
    rcases List.mem_cons.mp h with rfl | h
    · exact ⟨_, e, trivial⟩
    · exact RepL.muty r a h
theorem RepL.muty : ∀ {vs : List V} {ds : List D} {F : List Addr}, RepL K H vs ds F → ∀ a ∈ F, ∃ o, H a = some o ∧ Muty o
  | _, _, _, .nil, _, h => nomatch h
  | _, _, _, .cons r t, a, h => by
    rcases List.mem_append.mp h with h | h
    · exact Rep.muty r a h
    · exact RepL.muty t a h
end
theorem RepO.muty : ∀ {σ : L2.St} {ρ : Rho} {F : List Addr}, RepO K H σ ρ F → ∀ a ∈ F, ∃ o, H a = some o ∧ Muty o
  | _, _, _, .nil, _, h => nomatch h
  | _, _, _, .non t, a, h => RepO.muty t a h
  | _, _, _, .som r t, a, h => by
    rcases List.mem_append.mp h with h | h
    · exact r.muty a h
    · exact RepO.muty t a h

mutual
theorem Rep.im : ∀ {v : V} {d : D} {F : List Addr}, Rep K H v d F → D.im d = true → F = []
  | _, _, _, .non, _ => rfl
  | _, _, _, .bl _, _ => rfl
  | _, _, _, .int _, _ => rfl
  | _, _, _, .str _ _, _ => rfl
  | _, _, _, .tup _ r, h => RepL.im r (by simpa [D.im] using h)
  | _, _, _, .rls _ r, h => RepL.im r (by simpa [D.im] using h)
  | _, _, _, .lst _ _, h => by simp [D.im] at h
  | _, _, _, .dicK _ _ _, h => by simp [D.im] at h
theorem RepL.im : ∀ {vs : List V} {ds : List D} {F : List Addr}, RepL K H vs ds F → D.ims ds = true → F = []
  | _, _, _, .nil, _ => rfl
  | _, _, _, .cons r t, h => by
    simp only [D.ims, Bool.and_eq_true] at h
    rw [Rep.im r h.1, RepL.im t h.2]
    rfl
end

theorem sqT_keep {a : Addr} {xs : List V} (k : ∀ b o, H b = some o → ¬ Muty o → H' b = some o) (h : SqT K H a xs) : SqT K H' a xs := by
  rcases h with (h | ⟨o, h⟩) | h
  · exact .inl (.inl (k _ _ h fun z => z))
  · exact .inl (.inr ⟨o, k _ _ h fun z => z⟩)
  · exact .inr h
theorem rdL_keep {a : Addr} {xs : List V} (k : ∀ b o, H b = some o → ¬ Muty o → H' b = some o) (h : RdL K H a xs) : RdL K H' a xs := by
  rcases h with ⟨o, h⟩ | h
  · exact .inl ⟨o, k _ _ h fun z => z⟩
  · exact .inr h
mutual
theorem Rep.keep (k : ∀ b o, H b = some o → ¬ Muty o → H' b = some o) : ∀ {v : V} {d : D} {F : List Addr}, Rep K H v d F → (∀ a ∈ F, ∀ o, H a = some o → H' a = some o) → Rep K H' v d F
  | _, _, _, .non, _ => .non
  | _, _, _, .bl _, _ => .bl _
  | _, _, _, .int _, _ => .int _
  | _, _, _, .str _ h, _ => .str _ h
  | _, _, _, .ptr _, _ => .ptr _
  | _, _, _, .tup e r, h => .tup (sqT_keep k e) (RepL.keep k r h)
  | _, _, _, .rls e r, h => .rls (rdL_keep k e) (RepL.keep k r h)
  | _, _, _, .lst e r, h => .lst (h _ List.mem_cons_self _ e) (RepL.keep k r fun a ha => h a (List.mem_cons_of_mem _ ha))
  | _, _, _, .dicK e e2 r, h => .dicK (h _ List.mem_cons_self _ e) e2 (RepL.keep k r fun a ha => h a (List.mem_cons_of_mem _ ha))
theorem RepL.keep (k : ∀ b o, H b = some o → ¬ Muty o → H' b = some o) : ∀ {vs : List V} {ds : List D} {F : List Addr}, RepL K H vs ds F → (∀ a ∈ F, ∀ o, H a = some o → H' a = some o) → RepL K H' vs ds F
  | _, _, _, .nil, _ => .nil
  | _, _, _, .cons r t, h => .cons (Rep.keep k r fun a ha => h a (List.mem_append_left _ ha)) (RepL.keep k t fun a ha => h a (List.mem_append_right _ ha))
end
theorem RepO.keep (k : ∀ b o, H b = some o → ¬ Muty o → H' b = some o) : ∀ {σ : L2.St} {ρ : Rho} {F : List Addr}, RepO K H σ ρ F → (∀ a ∈ F, ∀ o, H a = some o → H' a = some o) → RepO K H' σ ρ F
  | _, _, _, .nil, _ => .nil
  | _, _, _, .non t, h => .non (RepO.keep k t h)
  | _, _, _, .som r t, h => .som (Rep.keep k r fun a ha => h a (List.mem_append_left _ ha)) (RepO.keep k t fun a ha => h a (List.mem_append_right _ ha))

/-- objects that may change lie at F -/
def MutAt (H : Hp) (F : List Addr) : Prop := ∀ a ∈ F, ∃ o, H a = some o ∧ Muty o
theorem Step.imm (st : Step F F' H H') (m : MutAt H F) : ∀ b o, H b = some o → ¬ Muty o → H' b = some o := fun b o e n => st.keep b o e fun hb => by
  obtain ⟨o', e', m'⟩ := m b hb
  rw [e] at e'; cases e'
  exact n m'
theorem Step.off (st : Step F F' H H') (dj : ∀ a ∈ G, a ∉ F) : ∀ a ∈ G, ∀ o, H a = some o → H' a = some o := fun a ha o e => st.keep a o e (dj a ha)
theorem Rep.step (r : Rep K H v d G) (m : MutAt H F) (dj : ∀ a ∈ G, a ∉ F) (st : Step F F' H H') : Rep K H' v d G := r.keep (st.imm m) (st.off dj)
theorem RepL.step (r : RepL K H vs ds G) (m : MutAt H F) (dj : ∀ a ∈ G, a ∉ F) (st : Step F F' H H') : RepL K H' vs ds G := r.keep (st.imm m) (st.off dj)
theorem RepO.step (r : RepO K H σ ρ G) (m : MutAt H F) (dj : ∀ a ∈ G, a ∉ F) (st : Step F F' H H') : RepO K H' σ ρ G := r.keep (st.imm m) (st.off dj)
theorem Step.refl : Step F F H H := ⟨fun _ _ e _ => e, fun _ h => .inl h⟩
theorem Step.trans (a : Step F F1 H H1) (b : Step F1 F2 H1 H2) : Step F F2 H H2 where
  keep := fun x o e hx => by
    have e1 := a.keep x o e hx
    refine b.keep x o e1 fun h => ?_
    rcases a.new x h with h | h
    · exact hx h
    · rw [e] at h; cases h
  new := fun x hx => by
    rcases b.new x hx with h | h
    · exact a.new x h
    · by_cases hf : x ∈ F
      · exact .inl hf
      · refine .inr ?_
        cases e : H x with
        | none => rfl
        | some o => rw [a.keep x o e hf] at h; cases h
/-- more is owned ahead and behind -/
theorem Step.frame (a : Step F F' H H') (G : List Addr) : Step (F ++ G) (F' ++ G) H H' where
  keep := fun x o e hx => a.keep x o e fun h => hx (List.mem_append_left _ h)
  new := fun x hx => by
    rcases List.mem_append.mp hx with h | h
    · rcases a.new x h with h | h
      · exact .inl (List.mem_append_left _ h)
      · exact .inr h
    · exact .inl (List.mem_append_right _ h)
theorem Step.sub (a : Step F F1 H H') (h : ∀ x ∈ F2, x ∈ F1) : Step F F2 H H' := ⟨a.keep, fun x hx => a.new x (h x hx)⟩
theorem Step.sup (a : Step F F1 H H') (h : ∀ x ∈ F, x ∈ G) : Step G F1 H H' := ⟨fun x o e hx => a.keep x o e fun z => hx (h x z), fun x hx => (a.new x hx).imp_left (h x)⟩
/-- a new object that is never owned (a tuple), or is -/
theorem Step.laid {p : Addr} {o : HO} (hp : H p = none) : Step F F H (upd H p o) := ⟨fun a u e _ => by rw [upd_ne (ne_of_none e hp)]; exact e, fun _ h => .inl h⟩
theorem Step.laidO {p : Addr} {o : HO} (hp : H p = none) : Step F (F ++ [p]) H (upd H p o) := ⟨fun a u e _ => by rw [upd_ne (ne_of_none e hp)]; exact e, fun a h => by
  rcases List.mem_append.mp h with h | h
  · exact .inl h
  · rw [List.mem_singleton] at h; subst h; exact .inr hp⟩
theorem Step.wrote {p : Addr} {o : HO} (hp : p ∈ F) : Step F F H (upd H p o) := ⟨fun a u e ha => by rw [upd_ne (fun z => ha (by rw [z]; exact hp))]; exact e, fun _ h => .inl h⟩
theorem MutAt.out (m : MutAt H F) {p : Addr} (hp : H p = none) : p ∉ F := fun h => by
  obtain ⟨o, e, _⟩ := m p h
  rw [hp] at e; cases e
theorem keep_laid {p : Addr} {o : HO} (hp : H p = none) : ∀ b u, H b = some u → (upd H p o) b = some u := fun b u e => by rw [upd_ne (ne_of_none e hp)]; exact e
theorem Rep.laid {p : Addr} {o : HO} (r : Rep K H v d F) (hp : H p = none) : Rep K (upd H p o) v d F := r.keep (fun b u e _ => keep_laid hp b u e) fun a _ u e => keep_laid hp a u e
theorem RepL.laid {p : Addr} {o : HO} (r : RepL K H vs ds F) (hp : H p = none) : RepL K (upd H p o) vs ds F := r.keep (fun b u e _ => keep_laid hp b u e) fun a _ u e => keep_laid hp a u e
theorem RepO.laid {p : Addr} {o : HO} (r : RepO K H σ ρ F) (hp : H p = none) : RepO K (upd H p o) σ ρ F := r.keep (fun b u e _ => keep_laid hp b u e) fun a _ u e => keep_laid hp a u e
/-- an owned object is written: what does not own it stays -/
theorem Rep.wrote {p : Addr} {o u : HO} (r : Rep K H v d F) (hp : H p = some u) (mu : Muty u) (h : p ∉ F) : Rep K (upd H p o) v d F :=
  r.keep (fun b w e n => by rw [upd_ne (fun z => by subst z; rw [hp] at e; cases e; exact n mu)]; exact e) fun a ha w e => by rw [upd_ne (fun z => h (by rw [← z]; exact ha))]; exact e
theorem RepL.wrote {p : Addr} {o u : HO} (r : RepL K H vs ds F) (hp : H p = some u) (mu : Muty u) (h : p ∉ F) : RepL K (upd H p o) vs ds F :=
  r.keep (fun b w e n => by rw [upd_ne (fun z => by subst z; rw [hp] at e; cases e; exact n mu)]; exact e) fun a ha w e => by rw [upd_ne (fun z => h (by rw [← z]; exact ha))]; exact e
theorem RepO.wrote {p : Addr} {o u : HO} (r : RepO K H σ ρ F) (hp : H p = some u) (mu : Muty u) (h : p ∉ F) : RepO K (upd H p o) σ ρ F :=
  r.keep (fun b w e n => by rw [upd_ne (fun z => by subst z; rw [hp] at e; cases e; exact n mu)]; exact e) fun a ha w e => by rw [upd_ne (fun z => h (by rw [← z]; exact ha))]; exact e

/-! ### lists -/
theorem RepL.length (r : RepL K H vs ds F) : vs.length = ds.length := by
  induction ds generalizing vs F with
  | nil => cases r; rfl
  | cons d ds ih => cases r with | cons _ t => simp [ih t]
theorem RepL.app : ∀ {vs : List V} {ds : List D} {F : List Addr} {ws : List V} {es : List D} {G : List Addr}, RepL K H vs ds F → RepL K H ws es G → RepL K H (vs ++ ws) (ds ++ es) (F ++ G)
  | _, _, _, _, _, _, .nil, t => t
  | _, _, _, _, _, _, .cons r s, t => by
    rw [List.append_assoc]
    exact .cons r (RepL.app s t)
theorem RepL.one (r : Rep K H v d F) : RepL K H [v] [d] F := by
  have := RepL.cons r .nil
  rwa [List.append_nil] at this
theorem RepL.get : ∀ {vs : List V} {ds : List D} {F : List Addr} {i : Nat} {d : D}, RepL K H vs ds F → ds[i]? = some d → ∃ v G, vs[i]? = some v ∧ Rep K H v d G ∧ ∀ a ∈ G, a ∈ F
  | _, _, _, i, _, .nil, e => by simp at e
  | _, _, _, 0, d, .cons r t, e => by
    simp at e; subst e
    exact ⟨_, _, rfl, r, fun a h => List.mem_append_left _ h⟩
  | _, _, _, i + 1, d, .cons r t, e => by
    obtain ⟨v, G, h1, h2, h3⟩ := RepL.get (i := i) t (by simpa using e)
    exact ⟨v, G, by simpa using h1, h2, fun a h => List.mem_append_right _ (h3 a h)⟩
/-- items that are free: any part -/
theorem RepL.free (r : RepL K H vs ds F) (h : D.ims ds = true) : RepL K H vs ds [] := by
  have e := r.im h
  subst e
  exact r
theorem RepL.uncons (r : RepL K H vs (d :: ds) F) : ∃ v ws G1 G2, vs = v :: ws ∧ F = G1 ++ G2 ∧ Rep K H v d G1 ∧ RepL K H ws ds G2 := by
  cases r with
  | cons a b => exact ⟨_, _, _, _, rfl, rfl, a, b⟩
theorem RepL.drop : ∀ (n : Nat) {vs : List V} {ds : List D}, RepL K H vs ds [] → RepL K H (vs.drop n) (ds.drop n) []
  | 0, _, _, r => r
  | n + 1, vs, [], r => by cases r; exact .nil
  | n + 1, vs, d :: ds, r => by
    obtain ⟨v, ws, G1, G2, rfl, e, _, b⟩ := r.uncons
    obtain ⟨_, rfl⟩ := List.append_eq_nil_iff.mp e.symm
    exact RepL.drop n b
theorem RepL.take : ∀ (n : Nat) {vs : List V} {ds : List D}, RepL K H vs ds [] → RepL K H (vs.take n) (ds.take n) []
  | 0, _, _, r => by simp only [List.take_zero]; exact .nil
  | n + 1, vs, [], r => by cases r; exact .nil
  | n + 1, vs, d :: ds, r => by
    obtain ⟨v, ws, G1, G2, rfl, e, a, b⟩ := r.uncons
    obtain ⟨rfl, rfl⟩ := List.append_eq_nil_iff.mp e.symm
    exact RepL.cons a (RepL.take n b)
theorem RepL.appN (r : RepL K H vs ds []) {ws : List V} {es : List D} (t : RepL K H ws es []) : RepL K H (vs ++ ws) (ds ++ es) [] := RepL.app r t
theorem RepL.rep (r : RepL K H vs ds []) : ∀ n : Nat, RepL K H (List.replicate n vs).flatten (List.replicate n ds).flatten []
  | 0 => .nil
  | n + 1 => by
    rw [List.replicate_succ, List.replicate_succ, List.flatten_cons, List.flatten_cons]
    exact r.appN (RepL.rep r n)
theorem RepL.getN (r : RepL K H vs ds []) {i : Nat} (e : ds[i]? = some d) : ∃ v, vs[i]? = some v ∧ Rep K H v d [] := by
  obtain ⟨v, G, h1, h2, h3⟩ := r.get e
  have : G = [] := List.eq_nil_iff_forall_not_mem.mpr fun a ha => nomatch h3 a ha
  subst this
  exact ⟨v, h1, h2⟩
/-- an item put anew -/
theorem RepL.set : ∀ {vs : List V} {ds : List D} {F : List Addr} {i : Nat} {w : V} {e : D} {G : List Addr}, RepL K H vs ds F → Rep K H w e G → (F ++ G).Nodup → i < ds.length →
    ∃ F', RepL K H (vs.set i w) (ds.set i e) F' ∧ F'.Nodup ∧ ∀ a ∈ F', a ∈ F ∨ a ∈ G
  | _, _, _, i, _, _, _, .nil, _, _, h => by simp at h
  | _, _, _, 0, w, e, G, .cons (F := F) (G := G0) r t, q, nd, _ => by
    refine ⟨G ++ G0, .cons q t, ?_, fun a ha => ?_⟩
    · rw [List.append_assoc] at nd
      exact (List.perm_append_comm.nodup_iff.mp (List.nodup_append.mp nd).2.1)
    · rcases List.mem_append.mp ha with h | h
      · exact .inr h
      · exact .inl (List.mem_append_right _ h)
  | _, _, _, i + 1, w, e, G, .cons (F := F) (G := G0) r t, q, nd, hl => by
    rw [List.append_assoc] at nd
    obtain ⟨F', h1, h2, h3⟩ := RepL.set (i := i) t q (List.nodup_append.mp nd).2.1 (by simpa using hl)
    refine ⟨F ++ F', .cons r h1, ?_, fun a ha => ?_⟩
    · refine List.nodup_append.mpr ⟨(List.nodup_append.mp nd).1, h2, fun a ha b hb z => ?_⟩
      subst z
      exact (List.nodup_append.mp nd).2.2 a ha a (List.mem_append.mpr (h3 a hb)) rfl
    · rcases List.mem_append.mp ha with h | h
      · exact .inl (List.mem_append_left _ h)
      · exact (h3 a h).imp_left (List.mem_append_right _)
/-- an item taken out -/
theorem RepL.erase : ∀ {vs : List V} {ds : List D} {F : List Addr} {i : Nat} {d : D}, RepL K H vs ds F → ds[i]? = some d →
    ∃ v G F', vs[i]? = some v ∧ Rep K H v d G ∧ RepL K H (vs.eraseIdx i) (ds.eraseIdx i) F' ∧ F.Perm (F' ++ G)
  | _, _, _, i, _, .nil, e => by simp at e
  | _, _, _, 0, d, .cons (F := F) (G := G0) r t, e => by
    simp at e; subst e
    exact ⟨_, F, G0, rfl, r, t, List.perm_append_comm⟩
  | _, _, _, i + 1, d, .cons (F := F) (G := G0) r t, e => by
    obtain ⟨v, G, F', h1, h2, h3, h4⟩ := RepL.erase (i := i) t (by simpa using e)
    refine ⟨v, G, F ++ F', by simpa using h1, h2, .cons r h3, ?_⟩
    rw [List.append_assoc]
    exact h4.append_left F

/-! ### slots -/
theorem RepO.length : ∀ {σ : L2.St} {ρ : Rho} {F : List Addr}, RepO K H σ ρ F → σ.length = ρ.length
  | _, _, _, .nil => rfl
  | _, _, _, .non t => by simp [RepO.length t]
  | _, _, _, .som _ t => by simp [RepO.length t]
theorem RepO.get : ∀ {σ : L2.St} {ρ : Rho} {F : List Addr} {i : Nat} {d : D}, RepO K H σ ρ F → ρ[i]? = some (some d) → ∃ v G, σ[i]? = some (some v) ∧ Rep K H v d G ∧ (∀ a ∈ G, a ∈ F) ∧ (F.Nodup → G.Nodup)
  | _, _, _, i, _, .nil, e => by simp at e
  | _, _, _, 0, d, .non t, e => by simp at e
  | _, _, _, i + 1, d, .non t, e => by
    obtain ⟨v, G, h1, h2, h3, h4⟩ := RepO.get (i := i) t (by simpa using e)
    exact ⟨v, G, by simpa using h1, h2, h3, h4⟩
  | _, _, _, 0, d, .som (F := F) (G := G) r t, e => by
    simp at e; subst e
    exact ⟨_, G, rfl, r, fun a h => List.mem_append_left _ h, fun nd => (List.nodup_append.mp nd).1⟩
  | _, _, _, i + 1, d, .som (F := F) (G := G) r t, e => by
    obtain ⟨v, G1, h1, h2, h3, h4⟩ := RepO.get (i := i) t (by simpa using e)
    exact ⟨v, G1, by simpa using h1, h2, fun a h => List.mem_append_right _ (h3 a h), fun nd => h4 (List.nodup_append.mp nd).2.1⟩
/-- a slot is given up -/
theorem RepO.take : ∀ {σ : L2.St} {ρ : Rho} {F : List Addr} {i : Nat} {d : D}, RepO K H σ ρ F → ρ[i]? = some (some d) →
    ∃ v G F', σ[i]? = some (some v) ∧ Rep K H v d G ∧ RepO K H σ (ρ.set i none) F' ∧ F.Perm (F' ++ G)
  | _, _, _, i, _, .nil, e => by simp at e
  | _, _, _, 0, d, .non t, e => by simp at e
  | _, _, _, i + 1, d, .non t, e => by
    obtain ⟨v, G, F', h1, h2, h3, h4⟩ := RepO.take (i := i) t (by simpa using e)
    exact ⟨v, G, F', by simpa using h1, h2, .non h3, h4⟩
  | _, _, _, 0, d, .som (F := F) (G := G) r t, e => by
    simp at e; subst e
    exact ⟨_, G, F, rfl, r, .non t, List.perm_append_comm⟩
  | _, _, _, i + 1, d, .som (F := F) (G := G) r t, e => by
    obtain ⟨v, G1, F', h1, h2, h3, h4⟩ := RepO.take (i := i) t (by simpa using e)
    refine ⟨v, G1, G ++ F', by simpa using h1, h2, .som r h3, ?_⟩
    rw [List.append_assoc]
    exact h4.append_left G
/-- a slot is forgotten -/
theorem RepO.lose : ∀ {σ : L2.St} {ρ : Rho} {F : List Addr} (i : Nat), RepO K H σ ρ F → ∃ F', RepO K H σ (ρ.set i none) F' ∧ F'.Sublist F
  | _, _, _, i, .nil => ⟨[], by simp; exact .nil, .refl _⟩
  | _, _, _, 0, .non t => ⟨_, .non t, .refl _⟩
  | _, _, _, 0, .som (F := F) (G := G) r t => ⟨F, .non t, List.sublist_append_right _ _⟩
  | _, _, _, i + 1, .non t => by
    obtain ⟨F', h1, h2⟩ := RepO.lose i t
    exact ⟨F', .non h1, h2⟩
  | _, _, _, i + 1, .som (F := F) (G := G) r t => by
    obtain ⟨F', h1, h2⟩ := RepO.lose i t
    exact ⟨G ++ F', .som r h1, List.Sublist.append (.refl _) h2⟩
/-- a slot is stored -/
theorem RepO.set : ∀ {σ : L2.St} {ρ : Rho} {F : List Addr} {i : Nat} {v : V} {d : D} {G : List Addr}, RepO K H σ ρ F → Rep K H v d G → (F ++ G).Nodup → i < ρ.length →
    ∃ F', RepO K H (σ.set i (some v)) (ρ.set i (some d)) F' ∧ F'.Nodup ∧ ∀ a ∈ F', a ∈ F ++ G
  | _, _, _, i, _, _, _, .nil, _, _, h => by simp at h
  | _, _, _, 0, v, d, G, .non (F := F) t, q, nd, _ => ⟨G ++ F, .som q t, List.perm_append_comm.nodup_iff.mp nd, fun a h => List.perm_append_comm.mem_iff.mp h⟩
  | _, _, _, 0, v, d, G, .som (F := F) (G := G0) r t, q, nd, _ => by
    rw [List.append_assoc] at nd
    refine ⟨G ++ F, .som q t, List.perm_append_comm.nodup_iff.mp (List.nodup_append.mp nd).2.1, fun a h => ?_⟩
    rw [List.append_assoc]
    exact List.mem_append_right _ (List.perm_append_comm.mem_iff.mp h)
  | _, _, _, i + 1, v, d, G, .non (F := F) t, q, nd, hl => by
    obtain ⟨F', h1, h2, h3⟩ := RepO.set (i := i) t q nd (by simpa using hl)
    exact ⟨F', .non h1, h2, h3⟩
  | _, _, _, i + 1, v, d, G, .som (F := F) (G := G0) r t, q, nd, hl => by
    rw [List.append_assoc] at nd
    obtain ⟨F', h1, h2, h3⟩ := RepO.set (i := i) t q (List.nodup_append.mp nd).2.1 (by simpa using hl)
    refine ⟨G0 ++ F', .som r h1, ?_, fun a h => ?_⟩
    · refine List.nodup_append.mpr ⟨(List.nodup_append.mp nd).1, h2, fun a ha b hb z => ?_⟩
      subst z
      exact (List.nodup_append.mp nd).2.2 a ha a (h3 a hb) rfl
    · rw [List.append_assoc]
      rcases List.mem_append.mp h with h | h
      · exact List.mem_append_left _ h
      · exact List.mem_append_right _ (h3 a h)
/-- a slot's object changes where it stands -/
theorem RepO.mod : ∀ {σ : L2.St} {ρ : Rho} {F : List Addr} {i : Nat} {v : V} {d : D} {G : List Addr}, RepO K H σ (ρ.set i none) F → σ[i]? = some (some v) → Rep K H v d G → (F ++ G).Nodup → i < ρ.length →
    ∃ F', RepO K H σ (ρ.set i (some d)) F' ∧ F'.Nodup ∧ ∀ a ∈ F', a ∈ F ++ G := fun {σ ρ F i v d G} r e q nd hl => by
  obtain ⟨F', h1, h2, h3⟩ := RepO.set (i := i) r q nd (by simpa using hl)
  refine ⟨F', ?_, h2, h3⟩
  rw [List.set_set] at h1
  have es : σ.set i (some v) = σ := by
    apply List.ext_getElem?
    intro j
    by_cases hj : i = j
    · subst hj
      rw [e, List.getElem?_set_self (List.getElem?_eq_some_iff.mp e).1]
    · rw [List.getElem?_set_ne hj]
  rwa [es] at h1
end
end VS

set_option Elab.async false
set_option linter.all false
set_option autoImplicit false
namespace VS
open PySem L2
open M (bnd lif pur)

theorem _root_.L2.PE.weak {X : Cx} {e : Expr} {t t' : TE} (h : PE X e t) (w : ∀ σ H Q, t' σ H Q → t σ H Q) : PE X e t' := ⟨fun pins s σ H Q I q => h.run pins s σ H Q I (w σ H Q q)⟩
theorem _root_.L2.PA.weak {X : Cx} {e : List Expr} {t t' : TA} (h : PA X e t) (w : ∀ σ H Q, t' σ H Q → t σ H Q) : PA X e t' := ⟨fun pos pins s σ H Q I q => h.run pos pins s σ H Q I (w σ H Q q)⟩
theorem _root_.L2.PS.weak {X : Cx} {e : Stmt} {t t' : TS} (h : PS X e t) (w : ∀ D σ H, t' D σ H → t D σ H) : PS X e t' := ⟨fun pins s σ H D I q => h.run pins s σ H D I (w D σ H q)⟩
theorem _root_.L2.PSs.weak {X : Cx} {e : List Stmt} {t t' : TS} (h : PSs X e t) (w : ∀ D σ H, t' D σ H → t D σ H) : PSs X e t' := ⟨fun pins s σ H D I q => h.run pins s σ H D I (w D σ H q)⟩
theorem _root_.L2.PT.weak {X : Cx} {e : Expr} {t t' : TT} (h : PT X e t) (w : ∀ σ H Q, t' σ H Q → t σ H Q) : PT X e t' := ⟨fun pins s σ H Q I q => h.run pins s σ H Q I (w σ H Q q)⟩
theorem _root_.L2.PW.weak {X : Cx} {e : Expr} {t t' : TT} (h : PW X e t) (w : ∀ σ H Q, t' σ H Q → t σ H Q) : PW X e t' := ⟨fun wh pins s σ H Q I q => h.run wh pins s σ H Q I (w σ H Q q)⟩
theorem _root_.L2.PI.weak {X : Cx} {tg e : Expr} {t t' : TI} (h : PI X tg e t) (w : ∀ σ H Q, t' σ H Q → t σ H Q) : PI X tg e t' := ⟨fun pins s σ H Q I q => h.run pins s σ H Q I (w σ H Q q)⟩
theorem _root_.L2.PO.weak {X : Cx} {e : Option Expr} {t t' : TO} (h : PO X e t) (w : ∀ σ H Q, t' σ H Q → t σ H Q) : PO X e t' := ⟨fun pins s σ H Q I q => h.run pins s σ H Q I (w σ H Q q)⟩

section
variable (K : PySem.W.Frag)
/-- an expression's reading by its meaning: the value is owned -/
def tV (f : M D) : TE := fun σ H Q => ∃ ρ F d ρ', RepO K H σ ρ F ∧ F.Nodup ∧ f ρ = some (d, ρ') ∧
  ∀ v H' F' G, RepO K H' σ ρ' F' → Rep K H' v d G → (F' ++ G).Nodup → Step F (F' ++ G) H H' → Q v H'
/-- .. the value is only read -/
def tR (f : M D) : TE := fun σ H Q => ∃ ρ F d ρ', RepO K H σ ρ F ∧ F.Nodup ∧ f ρ = some (d, ρ') ∧
  ∀ v H' F' G F2, RepO K H' σ ρ' F' → Rep K H' v d G → F'.Sublist F2 → (∀ a ∈ G, a ∈ F2) → G.Nodup → F2.Nodup → MutAt H' F2 → Step F F2 H H' → Q v H'
def tVT (f : M Bool) : TT := fun σ H Q => ∃ ρ F d ρ', RepO K H σ ρ F ∧ F.Nodup ∧ f ρ = some (d, ρ') ∧
  ∀ H' F', RepO K H' σ ρ' F' → F'.Nodup → Step F F' H H' → Q d H'
def tVA (f : M (List D)) : TA := fun σ H Q => ∃ ρ F ds ρ', RepO K H σ ρ F ∧ F.Nodup ∧ f ρ = some (ds, ρ') ∧
  ∀ vs H' F' G, RepO K H' σ ρ' F' → RepL K H' vs ds G → (F' ++ G).Nodup → Step F (F' ++ G) H H' → Q vs H'
def tVO (f : M (Option D)) : TO := fun σ H Q => ∃ ρ F o i ρ', RepO K H σ ρ F ∧ F.Nodup ∧ f ρ = some (o, ρ') ∧ optI o = some i ∧
  ∀ H' F', RepO K H' σ ρ' F' → F'.Nodup → Step F F' H H' → Q i H'
end

section
variable {K : PySem.W.Frag} {H H' H1 H2 : Hp} {v : V} {d : D} {vs : List V} {ds : List D} {F F' F1 F2 G G' G1 G2 : List Addr} {σ : L2.St} {ρ ρ' : Rho}
theorem nd_out (nd : (F ++ G).Nodup) : ∀ a ∈ G, a ∉ F := fun a ha hb => (List.nodup_append.mp nd).2.2 a hb a ha rfl
theorem nd_out' (nd : (F ++ G).Nodup) : ∀ a ∈ F, a ∉ G := fun a ha hb => (List.nodup_append.mp nd).2.2 a ha a hb rfl
theorem nd_l (nd : (F ++ G).Nodup) : F.Nodup := (List.nodup_append.mp nd).1
theorem nd_r (nd : (F ++ G).Nodup) : G.Nodup := (List.nodup_append.mp nd).2.1
theorem nd_mk (a : F.Nodup) (b : G.Nodup) (c : ∀ x ∈ G, x ∉ F) : (F ++ G).Nodup := List.nodup_append.mpr ⟨a, b, fun x hx y hy z => c y hy (by rw [← z]; exact hx)⟩
theorem MutAt.app (a : MutAt H F) (b : MutAt H G) : MutAt H (F ++ G) := fun x hx => (List.mem_append.mp hx).elim (a x) (b x)
/-- what is held through a step stays held, beside what the step made -/
theorem held (m1 : MutAt H1 G1) (nd1 : (F1 ++ G1).Nodup) (nd2 : F2.Nodup) (st : Step F1 F2 H1 H2) : (F2 ++ G1).Nodup := by
  refine nd_mk nd2 (nd_r nd1) fun a ha hb => ?_
  rcases st.new a hb with h | h
  · exact nd_out nd1 a ha h
  · obtain ⟨o, e, _⟩ := m1 a ha
    rw [h] at e; cases e
theorem perm_nd (p : F.Perm G) (h : F.Nodup) : G.Nodup := p.nodup_iff.mp h
theorem swap3 (nd : ((F ++ G) ++ G1).Nodup) : (F ++ (G1 ++ G)).Nodup := by
  refine perm_nd ?_ nd
  rw [List.append_assoc]
  exact List.Perm.append_left _ List.perm_append_comm
theorem step_more (st1 : Step F (F1 ++ G1) H H1) (st2 : Step F1 F2 H1 H2) : Step F (F2 ++ G1) H H2 := st1.trans (st2.frame G1)
theorem step_swap (st : Step F ((F2 ++ G2) ++ G1) H H2) : Step F (F2 ++ (G1 ++ G2)) H H2 := st.sub fun a h => by
  simp only [List.mem_append] at h ⊢
  rcases h with h | h | h
  · exact .inl (.inl h)
  · exact .inr h
  · exact .inl (.inr h)
end

section
variable {X : Cx} {a b c : Expr} {pos : Pos}
theorem v_take {i : Nat} {e : Expr} (h : PE X e (tVar i)) : PE X e (tV X.K (take i)) := h.weak fun σ H Q q => by
  obtain ⟨ρ, F, d, ρ', r, nd, h, k⟩ := q
  unfold take at h
  split at h
  · rename_i d' e
    by_cases hi : D.im d' = true
    · rw [if_pos hi] at h
      cases h
      obtain ⟨v, G, e1, r1, _, _⟩ := r.get e
      have := r1.im hi
      subst this
      exact ⟨v, e1, k v H F [] r r1 (by simpa using nd) (Step.refl.sub fun x hx => by simpa using hx)⟩
    · rw [if_neg hi] at h
      cases h
      obtain ⟨v, G, F', e1, r1, r2, p⟩ := r.take e
      exact ⟨v, e1, k v H F' G r2 r1 (perm_nd p nd) (Step.refl.sub fun x hx => p.mem_iff.mpr hx)⟩
  · cases h
theorem v_look {i : Nat} {e : Expr} (h : PE X e (tVar i)) : PE X e (tR X.K (look i)) := h.weak fun σ H Q q => by
  obtain ⟨ρ, F, d, ρ', r, nd, h, k⟩ := q
  unfold look at h
  split at h
  · rename_i d' e
    cases h
    obtain ⟨v, G, e1, r1, r2, r3⟩ := r.get e
    exact ⟨v, e1, k v H F G F r r1 (.refl _) r2 (r3 nd) nd r.muty Step.refl⟩
  · cases h
theorem v_own {e : Expr} {f : M D} (h : PE X e (tV X.K f)) : PE X e (tR X.K f) := h.weak fun σ H Q q => by
  obtain ⟨ρ, F, d, ρ', r, nd, h, k⟩ := q
  refine ⟨ρ, F, d, ρ', r, nd, h, fun v H' F' G r1 r2 nd2 st => ?_⟩
  exact k v H' F' G (F' ++ G) r1 r2 (List.sublist_append_left _ _) (fun a h => List.mem_append_right _ h) (nd_r nd2) nd2 (MutAt.app r1.muty r2.muty) st
/-- a constant -/
theorem v_const {e : Expr} {v : V} {d : D} (h : PE X e (tC v)) (r : ∀ H, Rep X.K H v d []) : PE X e (tV X.K (pur d)) := h.weak fun σ H Q q => by
  obtain ⟨ρ, F, d', ρ', r0, nd, h, k⟩ := q
  cases h
  exact k v H F [] r0 (r H) (by simpa using nd) (Step.refl.sub fun x hx => by simpa using hx)

/-! ### operators -/
/-- a binary rule does what f does -/
def OpV (K : PySem.W.Frag) (r : R2) (f : D → D → Option D) : Prop := ∀ (H : Hp) (vx vy : V) (x y d : D) (G1 G2 : List Addr) (Q : VK), Rep K H vx x G1 → Rep K H vy y G2 → (G1 ++ G2).Nodup → f x y = some d →
  (∀ v H' G, Rep K H' v d G → G.Nodup → Step (G1 ++ G2) G H H' → Q v H') → r vx vy H Q
theorem fin2 {K : PySem.W.Frag} {σ : L2.St} {ρ : Rho} {H H2 H' : Hp} {F F2 G1 G : List Addr} (r : RepO K H2 σ ρ F2) (m : MutAt H2 G1) (nd : (F2 ++ G1).Nodup) (st : Step F (F2 ++ G1) H H2) (ndG : G.Nodup) (s2 : Step G1 G H2 H') :
    RepO K H' σ ρ F2 ∧ (F2 ++ G).Nodup ∧ Step F (F2 ++ G) H H' := by
  have r' := r.step m (nd_out' nd) s2
  refine ⟨r', nd_mk (nd_l nd) ndG fun a ha hb => ?_, ?_⟩
  · rcases s2.new a ha with h | h
    · exact nd_out' nd a hb h
    · obtain ⟨o, e, _⟩ := r.muty a hb
      rw [h] at e; cases e
  · refine st.trans ⟨fun a o e ha => s2.keep a o e fun h => ha (List.mem_append_right _ h), fun a ha => ?_⟩
    rcases List.mem_append.mp ha with h | h
    · exact .inl (List.mem_append_left _ h)
    · exact (s2.new a h).imp_left (List.mem_append_right _)
theorem v_two {K : PySem.W.Frag} {fa fb : M D} {ta tb : TE} {f : D → D → Option D} {r : R2} (op : OpV K r f) (σ : L2.St) (H : Hp) (Q : VK)
    (q : tV K (bnd fa fun x => bnd fb fun y => lif (f x y)) σ H Q) : tOp r (tV K fa) (tV K fb) σ H Q := by
  obtain ⟨ρ, F, d, ρ3, r0, nd, h, k⟩ := q
  obtain ⟨x, ρ1, h1, h⟩ := bnd_some h
  obtain ⟨y, ρ2, h2, h⟩ := bnd_some h
  obtain ⟨h3, rfl⟩ := lif_some h
  refine ⟨ρ, F, x, ρ1, r0, nd, h1, fun v1 H1 F1 G1 R1 q1 nd1 st1 => ⟨ρ1, F1, y, ρ3, R1, nd_l nd1, h2, fun v2 H2 F2 G2 R2 q2 nd2 st2 => ?_⟩⟩
  have q1' := q1.step R1.muty (nd_out nd1) st2
  have ndA := swap3 (held q1.muty nd1 nd2 st2)
  have stA := step_swap (step_more st1 st2)
  refine op H2 v1 v2 x y d G1 G2 Q q1' q2 (nd_r ndA) h3 fun v H' G q3 ndG s3 => ?_
  obtain ⟨a1, a2, a3⟩ := fin2 R2 (MutAt.app q1'.muty q2.muty) ndA stA ndG s3
  exact k v H' F2 G a1 q3 a2 a3
theorem v_bin {op : Operator} {r : R2} {f : D → D → Option D} {fa fb : M D} (ho : OpR X (binaryOp op) r) (hf : OpV X.K r f) (ha : PE X a (tV X.K fa)) (hb : PE X b (tV X.K fb)) :
    PE X (.BinOp a op b pos) (tV X.K (bnd fa fun x => bnd fb fun y => lif (f x y))) := (pe_op ho ha hb).weak fun σ H Q q => v_two (ta := tV X.K fa) (tb := tV X.K fb) hf σ H Q q
/-- one operand, read -/
def OpV1 (K : PySem.W.Frag) (r : V → Hp → VK → Prop) (f : D → Option D) : Prop := ∀ (H : Hp) (vx : V) (x d : D) (G1 : List Addr) (Q : VK), Rep K H vx x G1 → f x = some d →
  (∀ v H' G, Rep K H' v d G → G.Nodup → Step [] G H H' → Q v H') → r vx H Q
theorem v_read1 {K : PySem.W.Frag} {fa : M D} {f : D → Option D} {r : V → Hp → VK → Prop} (op : OpV1 K r f) (σ : L2.St) (H : Hp) (Q : VK)
    (q : tV K (bnd fa fun x => lif (f x)) σ H Q) : tUn r (tR K fa) σ H Q := by
  obtain ⟨ρ, F, d, ρ3, r0, nd, h, k⟩ := q
  obtain ⟨x, ρ1, h1, h⟩ := bnd_some h
  obtain ⟨h3, rfl⟩ := lif_some h
  refine ⟨ρ, F, x, ρ3, r0, nd, h1, fun v1 H1 F1 G1 F2 R1 q1 sb _ _ nd2 m2 st1 => ?_⟩
  refine op H1 v1 x d G1 Q q1 h3 fun v H' G q3 ndG s3 => ?_
  have nd1 : F1.Nodup := sb.nodup nd2
  obtain ⟨a1, a2, a3⟩ := fin2 (G1 := []) R1 (fun _ z => nomatch z) (by simpa using nd1) (by rw [List.append_nil]; exact st1.sub fun a h => sb.subset h) ndG s3
  exact k v H' F1 G a1 q3 a2 a3
/-- two operands that are read: the first a slot or owned -/
def OpVR (K : PySem.W.Frag) (r : R2) (f : D → D → Option D) : Prop := ∀ (H : Hp) (vx vy : V) (x y d : D) (G1 G2 : List Addr) (Q : VK), Rep K H vx x G1 → Rep K H vy y G2 → f x y = some d →
  (∀ v H' G, Rep K H' v d G → G.Nodup → Step [] G H H' → Q v H') → r vx vy H Q
theorem v_readO {K : PySem.W.Frag} {fa fb : M D} {f : D → D → Option D} {r : R2} (op : OpVR K r f) (σ : L2.St) (H : Hp) (Q : VK)
    (q : tV K (bnd fa fun x => bnd fb fun y => lif (f x y)) σ H Q) : tOp r (tV K fa) (tR K fb) σ H Q := by
  obtain ⟨ρ, F, d, ρ3, r0, nd, h, k⟩ := q
  obtain ⟨x, ρ1, h1, h⟩ := bnd_some h
  obtain ⟨y, ρ2, h2, h⟩ := bnd_some h
  obtain ⟨h3, rfl⟩ := lif_some h
  refine ⟨ρ, F, x, ρ1, r0, nd, h1, fun v1 H1 F1 G1 R1 q1 nd1 st1 => ⟨ρ1, F1, y, ρ3, R1, nd_l nd1, h2, fun v2 H2 F2 G2 F3 R2 q2 sb _ _ nd3 m3 st2 => ?_⟩⟩
  have q1' := q1.step R1.muty (nd_out nd1) st2
  refine op H2 v1 v2 x y d G1 G2 Q q1' q2 h3 fun v H' G q3 ndG s3 => ?_
  have st : Step F F2 H H2 := (st1.sub fun a h => List.mem_append_left _ h).trans (st2.sub fun a h => sb.subset h)
  obtain ⟨a1, a2, a3⟩ := fin2 (G1 := []) R2 (fun _ z => nomatch z) (by simpa using sb.nodup nd3) (by rw [List.append_nil]; exact st) ndG s3
  exact k v H' F2 G a1 q3 a2 a3
theorem look_some {j : Nat} {ρ ρ' : Rho} {x : D} (h : look j ρ = some (x, ρ')) : ρ[j]? = some (some x) ∧ ρ' = ρ := by
  unfold look at h
  split at h
  · rename_i d e
    cases h
    exact ⟨e, rfl⟩
  · cases h
theorem v_readS {K : PySem.W.Frag} {j : Nat} {fb : M D} {f : D → D → Option D} {r : R2} (op : OpVR K r f) (σ : L2.St) (H : Hp) (Q : VK)
    (q : tV K (bnd (look j) fun _ => bnd fb fun y => bnd (look j) fun x => lif (f x y)) σ H Q) : tOp r (tVar j) (tR K fb) σ H Q := by
  obtain ⟨ρ, F, d, ρ3, r0, nd, h, k⟩ := q
  obtain ⟨x0, ρ0, h0, h⟩ := bnd_some h
  obtain ⟨y, ρ1, h1, h⟩ := bnd_some h
  obtain ⟨x, ρ2, h2, h⟩ := bnd_some h
  obtain ⟨h3, rfl⟩ := lif_some h
  obtain ⟨e0, rfl⟩ := look_some h0
  obtain ⟨e2, rfl⟩ := look_some h2
  obtain ⟨v, _, ev, _, _, _⟩ := r0.get e0
  refine ⟨v, ev, ρ0, F, y, ρ3, r0, nd, h1, fun v2 H2 F2 G2 F3 R2 q2 sb _ _ nd3 m3 st2 => ?_⟩
  obtain ⟨v', G1, ev', q1, _, _⟩ := R2.get e2
  rw [ev] at ev'; cases ev'
  refine op H2 v v2 x y d G1 G2 Q q1 q2 h3 fun v' H' G q3 ndG s3 => ?_
  obtain ⟨a1, a2, a3⟩ := fin2 (G1 := []) R2 (fun _ z => nomatch z) (by simpa using sb.nodup nd3) (by rw [List.append_nil]; exact st2.sub fun a h => sb.subset h) ndG s3
  exact k v' H' F2 G a1 q3 a2 a3
/-- a receiver and a second operand -/
theorem v_rcvR {K : PySem.W.Frag} {e : E} {fa fb : M D} {f : D → D → Option D} {r : R2} {ta : TE} (op : OpVR K r f) (σ : L2.St) (H : Hp) (Q : VK)
    (hv : (∃ j, e = .var j ∧ ta = tVar j) ∨ ((∀ j, e ≠ .var j) ∧ ta = tV K fa)) (q : tV K (rcv e fa fb fun x y => lif (f x y)) σ H Q) : tOp r ta (tR K fb) σ H Q := by
  rcases hv with ⟨j, rfl, rfl⟩ | ⟨hn, rfl⟩
  · exact v_readS op σ H Q q
  · refine v_readO (fa := fa) op σ H Q ?_
    have e1 : rcv e fa fb (fun x y => lif (f x y)) = bnd fa fun x => bnd fb fun y => lif (f x y) := by
      unfold rcv
      split
      · exact absurd rfl (hn _)
      · rfl
    rwa [e1] at q
end
end VS

set_option Elab.async false
set_option linter.all false
set_option autoImplicit false
set_option maxRecDepth 100000
set_option maxHeartbeats 1000000
namespace VS
open PySem PySem.Spec PyProof.Rows L2
/-! tuple * 1, tuple * 0, text * int -/
theorem tuple_mulOne (l : Addr) (items : Array Value) (n : Nat) (dd : Option Addr) (sl : Array (Option Value)) (x : Int) (u : Tok) (c0 : (decide (x < -(2 ^ 63)) || decide (x ≥ 2 ^ 63)) = false) (c1 : (items.isEmpty || x == 1) = true) :
    Meets (Builtin.«tuple.__mul__» ⟨[.ref l, .int x u], []⟩) (fun _ R s => s.heap.get? l = some { cls := .type "tuple", dict := dd, data := .seq items n, slots := sl } ∧
      R (.ok (.ret (Value.ref l))) s) :=
  .of_wp fun prog w A R s h => by
    obtain ⟨hp, g, d, tk, os⟩ := s
    obtain ⟨hl, h⟩ := h
    have f1 := AutoSeq1.idx_int
    wp_walk using wpAny_loadPart' hl
    repeat (first
      | (refine wpAny_ite_false (decide_eq_false (by rw [c0]; exact Bool.false_ne_true)) ?_; wp_walk using wpAny_loadPart' hl)
      | (refine wpAny_ite_true (decide_eq_true (by rw [c1])) ?_; wp_walk using wpAny_loadPart' hl))
    exact ⟨_, rfl, h⟩
theorem tuple_mulNone (l : Addr) (items : Array Value) (n : Nat) (dd : Option Addr) (sl : Array (Option Value)) (x : Int) (u : Tok) (c0 : (decide (x < -(2 ^ 63)) || decide (x ≥ 2 ^ 63)) = false) (c1 : (items.isEmpty || x == 1) = false) (c2 : (decide (x ≤ 0) || items.isEmpty) = true) :
    Meets (Builtin.«tuple.__mul__» ⟨[.ref l, .int x u], []⟩) (fun _ R s => s.heap.get? l = some { cls := .type "tuple", dict := dd, data := .seq items n, slots := sl } ∧
      R (.ok (.ret (Value.ref s.heap.objs.size))) { s with heap := s.heap.push { cls := Value.type "tuple", data := Data.seq #[] }, toks := s.toks }) :=
  .of_wp fun prog w A R s h => by
    obtain ⟨hp, g, d, tk, os⟩ := s
    obtain ⟨hl, h⟩ := h
    have f1 := AutoSeq1.idx_int
    wp_walk using wpAny_loadPart' hl
    repeat (first
      | (refine wpAny_ite_false (decide_eq_false (by rw [c0]; exact Bool.false_ne_true)) ?_; wp_walk using wpAny_loadPart' hl)
      | (refine wpAny_ite_false (decide_eq_false (by rw [c1]; exact Bool.false_ne_true)) ?_; wp_walk using wpAny_loadPart' hl)
      | (refine wpAny_ite_true (decide_eq_true (by rw [c2])) ?_; wp_walk using wpAny_loadPart' hl)
      | (refine wpAny_ite_false (decide_eq_false (Nat.not_lt.mpr (by decide))) ?_; wp_walk using wpAny_loadPart' hl))
    exact ⟨_, rfl, h⟩
/-- t * k, k from 0 on -/
def rRepA (K : PySem.W.Frag) : R2 := fun x y H Q => ∃ l k xs, x = .ref l ∧ y = .int k ∧ SqT K H l xs ∧ 0 ≤ k ∧ k ≤ 1000 ∧ xs.length ≤ 1000 ∧ (xs = [] ∨ k = 1 → Q (.ref l) H) ∧ (xs ≠ [] → k ≠ 1 → ∀ p, H p = none → Q (.ref p) (upd H p (.tup (List.replicate k.toNat xs).flatten)))
section
variable {X : Cx}
theorem op_repA : OpR X (binaryOp .Mult) (rRepA X.K) := by
  intro pins s σ H x y v u Q I rx ry h
  obtain ⟨l, k, xs, rfl, rfl, hT, h1, h2, hz, q1, q2⟩ := h
  by_cases hk : 2 ≤ k ∧ xs ≠ []
  · exact op_repT pins s σ H _ _ v u Q I rx ry ⟨l, k, xs, rfl, rfl, hT, hk.2, hk.1, h2, hz, q2 hk.2 (by omega)⟩
  · cases rx
    obtain ⟨t, rfl⟩ := ry
    obtain ⟨its, r, ⟨⟨cls, dd, data, sl⟩, ho, hc, n, hd⟩, hs⟩ := I.tuple hT
    simp only at hc hd
    subst hc hd
    have c0 : (decide (k < -(2 ^ 63)) || decide (k ≥ 2 ^ 63)) = false := by
      rw [decide_eq_false (by omega), decide_eq_false (by omega)] <;> rfl
    have hem : its.toArray.isEmpty = xs.isEmpty := by cases r <;> rfl
    refine wpAny_binaryOp_repeat_ref (T := "tuple") (U := "int") (by decide) ⟨_, ho, rfl⟩ (fun s' => typeIs_int s' k t) noFill_tuple_mul F.fills_int_mul F.slot_int_rmul repeat_tuple F.slot_int_index.lookup
      (call_meets F.slot_int_rmul (typeIs_int s k t) F.entry_int_rmul (F.args_int_rmul_2 _ _) (int_rmul_tuple k t l its.toArray n dd sl) ⟨ho, rfl, ⟨_, ho, rfl⟩, ?_⟩)
    by_cases h1' : xs = [] ∨ k = 1
    · have c1 : (its.toArray.isEmpty || k == 1) = true := by
        rw [hem]
        rcases h1' with rfl | rfl <;> simp
      exact call_meets F.slot_tuple_mul ⟨_, ho, rfl⟩ F.entry_tuple_mul (F.args_tuple_mul_2 _ _) (tuple_mulOne l its.toArray n dd sl k t c0 c1) ⟨ho, .ref l, H, I, rfl, q1 h1'⟩
    · have hx : xs ≠ [] := fun e => h1' (.inl e)
      have hk1 : k ≠ 1 := fun e => h1' (.inr e)
      have k0 : k = 0 := by
        have : ¬ 2 ≤ k := fun z => hk ⟨z, hx⟩
        omega
      have c1 : (its.toArray.isEmpty || k == 1) = false := by
        rw [hem]
        cases xs with
        | nil => exact absurd rfl hx
        | cons a b => simp [hk1]
      have c2 : (decide (k ≤ 0) || its.toArray.isEmpty) = true := by simp [k0]
      refine call_meets F.slot_tuple_mul ⟨_, ho, rfl⟩ F.entry_tuple_mul (F.args_tuple_mul_2 _ _) (tuple_mulNone l its.toArray n dd sl k t c0 c1 c2) ⟨ho, ?_⟩
      refine ⟨.ref s.heap.objs.size, _, I.laid (t' := s.toks) (o := .tup (List.replicate k.toNat xs).flatten) (fun b ob q => Heap.get?_push_of_some _ q) (Nat.le_refl _) ?_, rfl, q2 hx hk1 _ (I.hok.fresh (Nat.le_refl _))⟩
      subst k0
      exact ⟨Nat.zero_le _, [], .nil, IsTup.new _ _⟩
/-- text * k -/
def rRepS : R2 := fun x y H Q => ∃ z k, x = .str z ∧ y = .int k ∧ 0 ≤ k ∧ k ≤ 1000 ∧ z.length ≤ 1000 ∧ ∀ w : Str, w.cps.toList = (List.replicate k.toNat z.cps.toList).flatten → Q (.str w) H
theorem foldl_repS (its : List Nat) : ∀ (k : Nat) (acc : List Nat), List.foldl (fun x1 x2 => x1 ++ x2) acc.toArray (List.replicate k its.toArray) = (acc ++ (List.replicate k its).flatten).toArray
  | 0, acc => by simp
  | k + 1, acc => by
    have e : acc.toArray ++ its.toArray = (acc ++ its).toArray := by simp
    rw [List.replicate_succ, List.foldl_cons, e, foldl_repS its k, List.replicate_succ, List.flatten_cons, List.append_assoc]
theorem op_repS : OpR X (binaryOp .Mult) rRepS := by
  intro pins s σ H x y v u Q I rx ry h
  obtain ⟨z, k, rfl, rfl, h1, h2, hz, q⟩ := h
  obtain ⟨t, rfl⟩ := rx
  obtain ⟨t', rfl⟩ := ry
  refine P.mul_str ?_ ?_ ?_ ?_
  · rw [decide_eq_false (by omega), decide_eq_false (by omega)] <;> rfl
  · intro a b c
    have b2 : ¬ k = 1 := fun e => by rw [e] at b; simp at b
    have hle : (2 ^ 63 - 1) / k ≥ (2 ^ 63 - 1) / 1000 := by
      have hk0 : 0 < k := by omega
      have e1 : ((2 ^ 63 - 1) / 1000 : Int) * k ≤ 2 ^ 63 - 1 := by
        have := Int.mul_le_mul_of_nonneg_left h2 (show (0 : Int) ≤ (2 ^ 63 - 1) / 1000 by decide)
        exact Int.le_trans this (by decide)
      exact (Int.le_ediv_iff_mul_le hk0).mpr e1
    have : (z.length : Int) ≤ 1000 := by exact_mod_cast hz
    have e : ((2 ^ 63 - 1) / 1000 : Int) = 9223372036854775 := by decide
    omega
  · intro _ _
    unfold Builtin.Str.tooLong
    refine decide_eq_false ?_
    have a1 : z.length * k.toNat ≤ 1000 * 1000 := Nat.mul_le_mul hz (by omega)
    rw [sizeLine_eq]
    omega
  · have fin : ∀ (w : Str) (tk : Tok) (n : Nat), w.cps.toList = (List.replicate k.toNat z.cps.toList).flatten → EP X pins σ Q (Value.str w tk) { s with toks := n } := fun w tk n e => ⟨.str w, H, I.tok n, ⟨_, rfl⟩, q w e⟩
    split
    · rename_i hlt
      have : k = 0 := by omega
      subst this
      exact ⟨by decide, fin _ _ _ rfl⟩
    · split
      · rename_i hlt hb
        refine fin z t s.toks ?_
        rw [Bool.or_eq_true] at hb
        rcases hb with hb | hb
        · have : k = 1 := eq_of_beq hb
          subst this
          simp
        · have hl : z.cps.toList = [] := by
            have := eq_of_beq hb
            exact List.eq_nil_of_length_eq_zero (by simpa [Str.length] using this)
          rw [hl]
          simp
      · refine ⟨?_, fin _ _ _ ?_⟩
        · have e := foldl_repS z.cps.toList k.toNat []
          have a1 : k.toNat * z.length ≤ 1000 * 1000 := Nat.mul_le_mul (by omega) hz
          have e' : List.foldl (fun x1 x2 => x1 ++ x2) #[] (List.replicate k.toNat z.cps) = (List.replicate k.toNat z.cps.toList).flatten.toArray := by
            rw [List.nil_append] at e
            simpa using e
          show (List.foldl (fun x1 x2 => x1 ++ x2) #[] (List.replicate k.toNat z.cps)).size ≤ sizeLine
          rw [e', List.size_toArray, PyProof.Rows.lm_len_rep_flat, sizeLine_eq]
          have : z.cps.toList.length = z.length := by simp [Str.length]
          rw [this]
          omega
        · have e := foldl_repS z.cps.toList k.toNat []
          rw [List.nil_append] at e
          simp at e ⊢
          rw [e]
end
end VS

namespace VS
open PySem L2
open M (bnd lif pur)
theorem LIM_line : LIM = sizeLine := by rw [sizeLine_eq]; rfl
section
variable {K : PySem.W.Frag} {H : Hp} {v : V} {F : List Addr}
theorem Rep.int_inv {i : Int} (r : Rep K H v (.int i) F) : v = .int i ∧ F = [] := by cases r; exact ⟨rfl, rfl⟩
theorem Rep.bl_inv {b : Bool} (r : Rep K H v (.bl b) F) : v = .bl b ∧ F = [] := by cases r; exact ⟨rfl, rfl⟩
theorem Rep.str_inv {s : List Nat} (r : Rep K H v (.str s) F) : ∃ x : Str, v = .str x ∧ x.cps.toList = s ∧ F = [] ∧ x.length ≤ sizeLine := by
  generalize hd : D.str s = d at r
  cases r with
  | str x h => cases hd; exact ⟨x, rfl, rfl, rfl, h⟩
  | _ => cases hd
theorem Rep.tup_inv {ds : List D} (r : Rep K H v (.tup ds) F) : ∃ a vs, v = .ref a ∧ SqT K H a vs ∧ RepL K H vs ds F := by
  cases r with
  | tup e r => exact ⟨_, _, rfl, e, r⟩
theorem Rep.lst_inv {ds : List D} (r : Rep K H v (.lst ds) F) : ∃ a vs G, v = .ref a ∧ H a = some (.lst vs) ∧ RepL K H vs ds G ∧ F = a :: G := by
  cases r with
  | lst e r => exact ⟨_, _, _, rfl, e, r, rfl⟩
theorem Rep.rls_inv {ds : List D} (r : Rep K H v (.rls ds) F) : ∃ a vs, v = .ref a ∧ RdL K H a vs ∧ RepL K H vs ds F := by
  cases r with
  | rls e r => exact ⟨_, _, rfl, e, r⟩
theorem Rep.dicK_inv {ks ds : List D} (r : Rep K H v (.dic false ks ds) F) : ∃ a kvs G, v = .ref a ∧ H a = some (.dK kvs) ∧ ks = kvs.map (fun p => keyD p.1) ∧ RepL K H (kvs.map (·.2)) ds G ∧ F = a :: G := by
  cases r with
  | dicK e e2 r => exact ⟨_, _, _, rfl, e, e2.2, r, rfl⟩
theorem Rep.dicK_nd {ks ds : List D} {a : Addr} {kvs : List (Key × V)} (r : Rep K H (.ref a) (.dic false ks ds) F) (e : H a = some (.dK kvs)) : (kvs.map (·.1)).Nodup := by
  cases r with
  | dicK e1 e2 r => rw [e] at e1; cases e1; exact e2.1
theorem Rep.dicN_inv {ks ds : List D} (r : Rep K H v (.dic true ks ds) F) : False := by cases r
end
theorem str_app (x y : Str) : (x ++ y).cps.toList = x.cps.toList ++ y.cps.toList := by
  show (x.cps ++ y.cps).toList = _
  exact Array.toList_append
theorem str_len (x : Str) : x.cps.toList.length = x.length := by simp [Str.length]
/-- a new tuple of free items -/
theorem mk_tup {K : PySem.W.Frag} {H : Hp} {vs : List V} {ds : List D} {F : List Addr} {p : Addr} (hp : H p = none) (r : RepL K H vs ds F) : Rep K (upd H p (.tup vs)) (.ref p) (.tup ds) F :=
  .tup (SqT.of upd_same) (r.laid hp)
theorem mk_lst {K : PySem.W.Frag} {H : Hp} {vs : List V} {ds : List D} {F : List Addr} {p : Addr} (hp : H p = none) (r : RepL K H vs ds F) : Rep K (upd H p (.lst vs)) (.ref p) (.lst ds) (p :: F) :=
  .lst upd_same (r.laid hp)
theorem Step.nil_laid {H : Hp} {p : Addr} {o : HO} {F : List Addr} (hp : H p = none) : Step F [] H (upd H p o) := (Step.laid (F := F) hp).sub fun _ z => nomatch z
theorem Step.cons_laid {H : Hp} {p : Addr} {o : HO} {F : List Addr} (hp : H p = none) : Step F (p :: F) H (upd H p o) := (Step.laidO (F := F) hp).sub fun a h => by
  rcases List.mem_cons.mp h with rfl | h
  · exact List.mem_append_right _ (List.mem_singleton.mpr rfl)
  · exact List.mem_append_left _ h
theorem Step.drop {H : Hp} {F : List Addr} : Step F [] H H := (Step.refl (F := F)).sub fun _ z => nomatch z

/-! ### the operators, by kind -/
def rAdd (K : PySem.W.Frag) : R2 := fun x y H Q => (rI0 fun i j => .int (i + j)) x y H Q ∨ ((fun x y H Q => ∃ i j, x = .str i ∧ y = .str j ∧ i.length + j.length ≤ sizeLine ∧ Q (.str (i ++ j)) H) : R2) x y H Q ∨ rCatA K x y H Q ∨ rCat x y H Q
theorem op_addA {X : Cx} : OpR X (binaryOp .Add) (rAdd X.K) := op_add.or (op_add_str.or (op_catA.or op_cat))
theorem ov_add (K : PySem.W.Frag) : OpV K (rAdd K) addD := by
  intro H vx vy x y d G1 G2 Q r1 r2 nd e k
  unfold addD at e
  split at e
  · cases e
    obtain ⟨rfl, rfl⟩ := r1.int_inv
    obtain ⟨rfl, rfl⟩ := r2.int_inv
    exact .inl ⟨_, _, rfl, rfl, k _ _ [] (.int _) List.nodup_nil Step.refl⟩
  · split at e
    · rename_i hl
      cases e
      obtain ⟨x, rfl, rfl, rfl, hx⟩ := r1.str_inv
      obtain ⟨y, rfl, rfl, rfl, hy⟩ := r2.str_inv
      have hxy : x.length + y.length ≤ sizeLine := by rw [← LIM_line, ← str_len, ← str_len]; exact hl
      refine .inr (.inl ⟨_, _, rfl, rfl, hxy, k _ _ [] ?_ List.nodup_nil Step.refl⟩)
      rw [← str_app]
      refine .str _ ?_
      rw [← str_len, str_app, List.length_append, str_len, str_len]
      exact hxy
    · cases e
  · split at e
    · rename_i s t hc
      cases e
      simp only [Bool.and_eq_true, decide_eq_true_eq] at hc
      obtain ⟨a, vs, rfl, q1, l1⟩ := r1.tup_inv
      obtain ⟨b, ws, rfl, q2, l2⟩ := r2.tup_inv
      have f1 := l1.im hc.1.1
      have f2 := l2.im hc.1.2
      subst f1 f2
      have e1 := l1.length
      have e2 := l2.length
      refine .inr (.inr (.inl ⟨a, b, vs, ws, rfl, rfl, q1, q2, ?_, fun h => ?_, fun h h' => ?_, fun h h' p hp => ?_⟩))
      · rw [← LIM_line, e1, e2]; exact hc.2
      · subst h
        cases l1
        exact k _ _ [] r2 List.nodup_nil Step.refl
      · subst h'
        cases l2
        exact k _ _ [] (by rw [List.append_nil]; exact r1) List.nodup_nil Step.refl
      · exact k _ _ [] (mk_tup hp (l1.appN l2)) List.nodup_nil (Step.nil_laid hp)
    · cases e
  · split at e
    · rename_i s t hc
      cases e
      obtain ⟨a, vs, F1, rfl, q1, l1, rfl⟩ := r1.lst_inv
      obtain ⟨b, ws, F2, rfl, q2, l2, rfl⟩ := r2.lst_inv
      have e1 := l1.length
      have e2 := l2.length
      refine .inr (.inr (.inr ⟨a, b, vs, ws, rfl, rfl, q1, q2, ?_, fun p hp => ?_⟩))
      · rw [← LIM_line, e1, e2]; exact hc
      · have sub : ∀ z ∈ F1 ++ F2, z ∈ a :: F1 ++ b :: F2 := fun z h => by
          rcases List.mem_append.mp h with h | h
          · exact List.mem_append_left _ (List.mem_cons_of_mem _ h)
          · exact List.mem_append_right _ (List.mem_cons_of_mem _ h)
        refine k _ _ (p :: (F1 ++ F2)) (mk_lst hp (l1.app l2)) ?_ ?_
        · refine List.nodup_cons.mpr ⟨fun h => ?_, ?_⟩
          · exact MutAt.out (MutAt.app l1.muty l2.muty) hp h
          · refine List.Sublist.nodup ?_ nd
            exact List.Sublist.append (List.sublist_cons_self _ _) (List.sublist_cons_self _ _)
        · refine (Step.cons_laid (F := F1 ++ F2) hp).sup sub
    · cases e
  · cases e
theorem ov_sub (K : PySem.W.Frag) : OpV K (rI0 fun i j => .int (i - j)) subD := by
  intro H vx vy x y d G1 G2 Q r1 r2 nd e k
  unfold subD at e
  split at e
  · cases e
    obtain ⟨rfl, rfl⟩ := r1.int_inv
    obtain ⟨rfl, rfl⟩ := r2.int_inv
    exact ⟨_, _, rfl, rfl, k _ _ [] (.int _) List.nodup_nil Step.refl⟩
  · cases e
def rMul (K : PySem.W.Frag) : R2 := fun x y H Q => (rI CMul fun i j => .int (i * j)) x y H Q ∨ rRepS x y H Q ∨ rRepA K x y H Q ∨ rRep x y H Q
theorem op_mulA {X : Cx} : OpR X (binaryOp .Mult) (rMul X.K) := op_mul.or (op_repS.or (op_repA.or op_rep))
theorem ov_mul (K : PySem.W.Frag) : OpV K (rMul K) mulD := by
  intro H vx vy x y d G1 G2 Q r1 r2 nd e k
  unfold mulD at e
  split at e
  · split at e
    · rename_i i j hc
      cases e
      obtain ⟨rfl, rfl⟩ := r1.int_inv
      obtain ⟨rfl, rfl⟩ := r2.int_inv
      refine .inl ⟨_, _, rfl, rfl, ?_, k _ _ [] (.int _) List.nodup_nil Step.refl⟩
      unfold smallI at hc
      rw [Bool.or_eq_true] at hc
      rcases hc with hc | hc
      · have := of_decide_eq_true hc
        exact .inl ⟨by omega, by omega⟩
      · have := of_decide_eq_true hc
        exact .inr ⟨by omega, by omega⟩
    · cases e
  · split at e
    · rename_i s j hc
      cases e
      obtain ⟨x, rfl, rfl, rfl, hx⟩ := r1.str_inv
      obtain ⟨rfl, rfl⟩ := r2.int_inv
      refine .inr (.inl ⟨_, _, rfl, rfl, hc.1, hc.2.1, by rw [← str_len]; exact hc.2.2, fun w hw => ?_⟩)
      rw [← hw] at k
      refine k _ _ [] (.str _ ?_) List.nodup_nil Step.refl
      have h3 := hc.2.2
      rw [← str_len, hw, PyProof.Rows.lm_len_rep_flat, sizeLine_eq]
      have a1 : j.toNat * x.cps.toList.length ≤ 1000 * 1000 := Nat.mul_le_mul (by omega) h3
      omega
    · cases e
  · split at e
    · rename_i s j hc
      cases e
      simp only [Bool.and_eq_true, decide_eq_true_eq] at hc
      obtain ⟨a, vs, rfl, q1, l1⟩ := r1.tup_inv
      obtain ⟨rfl, rfl⟩ := r2.int_inv
      have f1 := l1.im hc.1
      subst f1
      have e1 := l1.length
      refine .inr (.inr (.inl ⟨a, j, vs, rfl, rfl, q1, hc.2.1, hc.2.2.1, by rw [e1]; exact hc.2.2.2, fun h => ?_, fun h h' p hp => ?_⟩))
      · refine k _ _ [] ?_ List.nodup_nil Step.refl
        rcases h with h | h
        · subst h
          cases l1
          have : (List.replicate j.toNat ([] : List D)).flatten = [] := by simp
          rw [this]
          exact r1
        · subst h
          simpa using r1
      · exact k _ _ [] (mk_tup hp (l1.rep _)) List.nodup_nil (Step.nil_laid hp)
    · cases e
  · split at e
    · rename_i s j hc
      cases e
      simp only [Bool.and_eq_true, decide_eq_true_eq] at hc
      obtain ⟨a, vs, F1, rfl, q1, l1, rfl⟩ := r1.lst_inv
      obtain ⟨rfl, rfl⟩ := r2.int_inv
      have f1 := l1.im hc.1
      subst f1
      have e1 := l1.length
      refine .inr (.inr (.inr ⟨a, j, vs, rfl, rfl, q1, by omega, by omega, ?_, fun p hp => ?_⟩))
      · rw [← LIM_line, e1]; exact hc.2.2.2
      · exact k _ _ [p] (mk_lst hp (l1.rep _)) (by simp) ((Step.cons_laid (F := []) hp).sup fun _ z => nomatch z)
    · cases e
  · cases e
theorem ov_fdv (K : PySem.W.Frag) : OpV K (rI CDiv fun i j => .int (i / j)) fdvD := by
  intro H vx vy x y d G1 G2 Q r1 r2 nd e k
  unfold fdvD at e
  split at e
  · split at e
    · rename_i hc
      cases e
      obtain ⟨rfl, rfl⟩ := r1.int_inv
      obtain ⟨rfl, rfl⟩ := r2.int_inv
      exact ⟨_, _, rfl, rfl, hc, k _ _ [] (.int _) List.nodup_nil Step.refl⟩
    · cases e
  · cases e
theorem ov_mod (K : PySem.W.Frag) : OpV K (rI (fun _ j => 0 < j) fun i j => .int (i % j)) modD := by
  intro H vx vy x y d G1 G2 Q r1 r2 nd e k
  unfold modD at e
  split at e
  · split at e
    · rename_i hc
      cases e
      obtain ⟨rfl, rfl⟩ := r1.int_inv
      obtain ⟨rfl, rfl⟩ := r2.int_inv
      exact ⟨_, _, rfl, rfl, hc, k _ _ [] (.int _) List.nodup_nil Step.refl⟩
    · cases e
  · cases e
theorem ov_pow (K : PySem.W.Frag) : OpV K (rI CPow fun i j => .int (i ^ j.toNat)) powD := by
  intro H vx vy x y d G1 G2 Q r1 r2 nd e k
  unfold powD at e
  split at e
  · split at e
    · rename_i hc
      cases e
      obtain ⟨rfl, rfl⟩ := r1.int_inv
      obtain ⟨rfl, rfl⟩ := r2.int_inv
      exact ⟨_, _, rfl, rfl, ⟨hc.1, by omega, hc.2.2⟩, k _ _ [] (.int _) List.nodup_nil Step.refl⟩
    · cases e
  · cases e
def opOf : Op → Operator
  | .add => .Add
  | .sub => .Sub
  | .mul => .Mult
  | .fdv => .FloorDiv
  | .mod => .Mod
  | .pow => .Pow
theorem v_binop {X : Cx} {op : Op} {a b : Expr} {pos : Pos} {fa fb : M D} (ha : PE X a (tV X.K fa)) (hb : PE X b (tV X.K fb)) :
    PE X (.BinOp a (opOf op) b pos) (tV X.K (bnd fa fun x => bnd fb fun y => lif (binop op x y))) := by
  cases op
  · exact v_bin op_addA (ov_add X.K) ha hb
  · exact v_bin op_sub (ov_sub X.K) ha hb
  · exact v_bin op_mulA (ov_mul X.K) ha hb
  · exact v_bin op_fdiv (ov_fdv X.K) ha hb
  · exact v_bin op_mod (ov_mod X.K) ha hb
  · exact v_bin op_pow (ov_pow X.K) ha hb
end VS

set_option Elab.async false
set_option linter.all false
set_option autoImplicit false
set_option maxRecDepth 100000
set_option maxHeartbeats 1000000
namespace VS
open PySem L2 PyProof.Rows
open M (bnd lif pur)
mutual
def toPy : D → PyData
  | .non => .none
  | .bl b => .bool b
  | .int i => .int i
  | .str s => .str ⟨s.toArray⟩
  | .tup xs => .tuple (toPys xs)
  | .lst xs => .list (toPys xs)
  | .rls xs => .list (toPys xs)
  | .dic _ _ _ => .none
  | .ptr _ => .none
def toPys : List D → List PyData
  | [] => []
  | x :: xs => toPy x :: toPys xs
end
section
variable {K : PySem.W.Frag} {H : Hp}
mutual
theorem rep_dp : ∀ {v : V} {d : D} {F : List Addr} {n : Nat}, Rep K H v d F → D.okn n d = true → Dp K H v (toPy d)
  | _, _, _, _, .non, _ => .non
  | _, _, _, n, .bl _, h => by cases n <;> simp [D.okn] at h
  | _, _, _, _, .int _, _ => .int _
  | _, _, _, _, .str x _, _ => by
    have e : toPy (.str x.cps.toList) = .str x := by simp [toPy]
    rw [e]
    exact .str x
  | _, _, _, n, .tup e r, h => by
    cases n with
    | zero => simp [D.okn] at h
    | succ n => exact .tup e (rep_dps r (by simpa [D.okn] using h))
  | _, _, _, n, .lst e r, h => by
    cases n with
    | zero => simp [D.okn] at h
    | succ n => exact .lst (SqL.of e) (rep_dps r (by simpa [D.okn] using h))
  | _, _, _, n, .rls e r, h => by cases n <;> simp [D.okn] at h
  | _, _, _, n, .dicK _ _ _, h => by cases n <;> simp [D.okn] at h
  | _, _, _, n, .ptr _, h => by cases n <;> simp [D.okn] at h
theorem rep_dps : ∀ {vs : List V} {ds : List D} {F : List Addr} {n : Nat}, RepL K H vs ds F → D.okns n ds = true → DpAll K H vs (toPys ds)
  | _, _, _, _, .nil, _ => .nil
  | _, _, _, n, .cons r t, h => by
    simp only [D.okns, Bool.and_eq_true] at h
    exact .cons (rep_dp r h.1) (rep_dps t h.2)
end
end
mutual
theorem py_lay : ∀ (d : D) (n : Nat), D.okn n d = true → (toPy d).canLay0 = true ∧ (toPy d).depth ≤ n
  | .non, _, _ => by simp [toPy, PyData.canLay0, PyData.depth]
  | .int _, _, _ => by simp [toPy, PyData.canLay0, PyData.depth]
  | .str s, _, h => by
    have h' : s.all (fun c => decide (c < 1114112)) = true := by simpa [D.okn] using h
    refine ⟨?_, by simp [toPy, PyData.depth]⟩
    simp only [toPy, PyData.canLay0, PyData.strOk]
    simpa using h'
  | .bl _, n, h => by cases n <;> simp [D.okn] at h
  | .rls _, n, h => by cases n <;> simp [D.okn] at h
  | .dic _ _ _, n, h => by cases n <;> simp [D.okn] at h
  | .tup xs, 0, h => by simp [D.okn] at h
  | .lst xs, 0, h => by simp [D.okn] at h
  | .tup xs, n + 1, h => by
    obtain ⟨a, b⟩ := pys_lay xs n (by simpa [D.okn] using h)
    exact ⟨by simpa [toPy, PyData.canLay0] using a, by simp only [toPy, PyData.depth]; omega⟩
  | .lst xs, n + 1, h => by
    obtain ⟨a, b⟩ := pys_lay xs n (by simpa [D.okn] using h)
    exact ⟨by simpa [toPy, PyData.canLay0] using a, by simp only [toPy, PyData.depth]; omega⟩
theorem pys_lay : ∀ (ds : List D) (n : Nat), D.okns n ds = true → PyData.canLayAll0 (toPys ds) = true ∧ PyData.depthAll (toPys ds) ≤ n
  | [], _, _ => by simp [toPys, PyData.canLayAll0, PyData.depthAll]
  | d :: ds, n, h => by
    simp only [D.okns, Bool.and_eq_true] at h
    obtain ⟨a, b⟩ := py_lay d n h.1
    obtain ⟨a', b'⟩ := pys_lay ds n h.2
    simp only [toPys, PyData.canLayAll0, PyData.depthAll, Bool.and_eq_true]
    exact ⟨⟨a, a'⟩, by omega⟩
end
theorem py_shaped {d : D} {n : Nat} (h : D.okn n d = true) (hn : n ≤ 64) : SeqAt.shaped (toPy d) = true := by
  obtain ⟨a, b⟩ := py_lay d n h
  show ((toPy d).canLay0 && decide ((toPy d).depth ≤ 64)) = true
  rw [a, Bool.true_and]
  exact decide_eq_true (by omega)
mutual
theorem py_eqv : ∀ (a b : D) (n m : Nat), D.okn n a = true → D.okn m b = true → PyData.eqv (toPy a) (toPy b) = decide (a = b)
  | .bl _, _, n, _, h, _ => by cases n <;> simp [D.okn] at h
  | .rls _, _, n, _, h, _ => by cases n <;> simp [D.okn] at h
  | .dic _ _ _, _, n, _, h, _ => by cases n <;> simp [D.okn] at h
  | .ptr _, _, n, _, h, _ => by cases n <;> simp [D.okn] at h
  | .non, b, _, m, _, h => by cases b <;> simp_all [toPy, PyData.eqv] <;> (cases m <;> simp_all [D.okn])
  | .int i, b, _, m, _, h => by
    cases b with
    | int j => simp only [toPy, PyData.eqv, D.int.injEq]; exact Bool.beq_eq_decide_eq i j
    | bl _ => cases m <;> simp [D.okn] at h
    | rls _ => cases m <;> simp [D.okn] at h
    | dic _ _ _ => cases m <;> simp [D.okn] at h
    | ptr _ => cases m <;> simp [D.okn] at h
    | _ => simp [toPy, PyData.eqv]
  | .str s, b, _, m, _, h => by
    cases b with
    | str t =>
      simp only [toPy, PyData.eqv, D.str.injEq]
      by_cases e : s = t
      · subst e; simp
      · rw [decide_eq_false e]
        exact beq_eq_false_iff_ne.mpr fun z => e (by simpa using congrArg Str.cps z)
    | bl _ => cases m <;> simp [D.okn] at h
    | rls _ => cases m <;> simp [D.okn] at h
    | dic _ _ _ => cases m <;> simp [D.okn] at h
    | ptr _ => cases m <;> simp [D.okn] at h
    | _ => simp [toPy, PyData.eqv]
  | .tup xs, b, 0, m, h, _ => by simp [D.okn] at h
  | .tup xs, b, n + 1, m, h, h' => by
    cases b with
    | tup ys =>
      cases m with
      | zero => simp [D.okn] at h'
      | succ m =>
        simp only [toPy, PyData.eqv, D.tup.injEq]
        exact py_eqvs xs ys n m (by simpa [D.okn] using h) (by simpa [D.okn] using h')
    | bl _ => cases m <;> simp [D.okn] at h'
    | rls _ => cases m <;> simp [D.okn] at h'
    | dic _ _ _ => cases m <;> simp [D.okn] at h'
    | ptr _ => cases m <;> simp [D.okn] at h'
    | _ => simp [toPy, PyData.eqv]
  | .lst xs, b, 0, m, h, _ => by simp [D.okn] at h
  | .lst xs, b, n + 1, m, h, h' => by
    cases b with
    | lst ys =>
      cases m with
      | zero => simp [D.okn] at h'
      | succ m =>
        simp only [toPy, PyData.eqv, D.lst.injEq]
        exact py_eqvs xs ys n m (by simpa [D.okn] using h) (by simpa [D.okn] using h')
    | bl _ => cases m <;> simp [D.okn] at h'
    | rls _ => cases m <;> simp [D.okn] at h'
    | dic _ _ _ => cases m <;> simp [D.okn] at h'
    | ptr _ => cases m <;> simp [D.okn] at h'
    | _ => simp [toPy, PyData.eqv]
theorem py_eqvs : ∀ (a b : List D) (n m : Nat), D.okns n a = true → D.okns m b = true → PyData.eqvAll (toPys a) (toPys b) = decide (a = b)
  | [], [], _, _, _, _ => by simp [toPys, PyData.eqvAll]
  | [], _ :: _, _, _, _, _ => by simp [toPys, PyData.eqvAll]
  | _ :: _, [], _, _, _, _ => by simp [toPys, PyData.eqvAll]
  | a :: as, b :: bs, n, m, h, h' => by
    simp only [D.okns, Bool.and_eq_true] at h h'
    simp only [toPys, PyData.eqvAll, List.cons.injEq]
    rw [py_eqv a b n m h.1 h'.1, py_eqvs as bs n m h.2 h'.2]
    by_cases e : a = b
    · by_cases e' : as = bs <;> simp [e, e']
    · simp [e]
end
/-! ### comparisons -/
def ovB (K : PySem.W.Frag) (r : R2) (f : D → D → Option Bool) : Prop := OpVR K r fun x y => (f x y).map .bl
theorem ovB_mk {K : PySem.W.Frag} {r : R2} {f : D → D → Option Bool} (h : ∀ (H : Hp) (vx vy : V) (x y : D) (b : Bool) (G1 G2 : List Addr) (Q : VK), Rep K H vx x G1 → Rep K H vy y G2 → f x y = some b → Q (.bl b) H → r vx vy H Q) : ovB K r f := by
  intro H vx vy x y d G1 G2 Q r1 r2 e k
  obtain ⟨b, e1, e2⟩ := Option.map_eq_some_iff.mp e
  subst e2
  exact h H vx vy x y b G1 G2 Q r1 r2 e1 (k _ _ [] (.bl b) List.nodup_nil Step.refl)
theorem ov_lt (K : PySem.W.Frag) (f : Int → Int → Bool) : ovB K (rI0 fun i j => .bl (f i j)) (ltD f) := ovB_mk fun H vx vy x y b G1 G2 Q r1 r2 e k => by
  unfold ltD at e
  split at e
  · cases e
    obtain ⟨rfl, rfl⟩ := r1.int_inv
    obtain ⟨rfl, rfl⟩ := r2.int_inv
    exact ⟨_, _, rfl, rfl, k⟩
  · cases e
def rEqA (K : PySem.W.Frag) : R2 := fun x y H Q => rEq x y H Q ∨ rEqD K x y H Q
def rNeA (K : PySem.W.Frag) : R2 := fun x y H Q => rNe x y H Q ∨ rNeD K x y H Q
theorem dec_strD (x y : Str) : decide (x.cps.toList = y.cps.toList) = decide (V.str x = V.str y) := by
  by_cases e : x = y
  · subst e; simp
  · rw [decide_eq_false (fun z => e ?_), decide_eq_false (fun z => e (by injection z))]
    cases x; cases y
    simp only [Str.mk.injEq]
    exact Array.toList_inj.mp z
theorem pyEq_r {K : PySem.W.Frag} {H : Hp} {vx vy : V} {x y : D} {b : Bool} {G1 G2 : List Addr} {P : Prop} (r1 : Rep K H vx x G1) (r2 : Rep K H vy y G2) (e : pyEq x y = some b)
    (h1 : scal vx vy = true → decide (vx = vy) = b → P) (h2 : ∀ d e, Dp K H vx d → Dp K H vy e → SeqAt.shaped d = true → SeqAt.shaped e = true → PyData.eqv d e = b → P) : P := by
  unfold pyEq at e
  split at e
  · cases e
    obtain ⟨rfl, rfl⟩ := r1.bl_inv
    obtain ⟨rfl, rfl⟩ := r2.bl_inv
    exact h1 rfl (by simp)
  · cases e
    obtain ⟨x, rfl, rfl, rfl, _⟩ := r1.str_inv
    obtain ⟨y, rfl, rfl, rfl, _⟩ := r2.str_inv
    exact h1 rfl (dec_strD x y).symm
  · split at e
    · rename_i hc
      cases e
      simp only [Bool.and_eq_true] at hc
      exact h2 _ _ (rep_dp r1 hc.1) (rep_dp r2 hc.2) (py_shaped hc.1 (by decide)) (py_shaped hc.2 (by decide)) (py_eqv _ _ _ _ hc.1 hc.2)
    · cases e
theorem ov_eq (K : PySem.W.Frag) : ovB K (rEqA K) pyEq := ovB_mk fun H vx vy x y b G1 G2 Q r1 r2 e k =>
  pyEq_r r1 r2 e (fun a c => .inl ⟨a, by rw [c]; exact k⟩) fun d d' a c s s' z => .inr ⟨d, d', a, c, s, s', by rw [z]; exact k⟩
theorem ov_ne (K : PySem.W.Frag) : ovB K (rNeA K) (fun x y => (pyEq x y).map not) := ovB_mk fun H vx vy x y b G1 G2 Q r1 r2 e k => by
  obtain ⟨b', e', rfl⟩ := Option.map_eq_some_iff.mp e
  exact pyEq_r r1 r2 e' (fun a c => .inl ⟨a, by rw [c]; exact k⟩) fun d d' a c s s' z => .inr ⟨d, d', a, c, s, s', by rw [z]; exact k⟩
/-! in: lists, tuples of plain data; dicts -/
def rInT (K : PySem.W.Frag) (neg : Bool) : R2 := fun x y H Q => ∃ d ds, Dp K H x d ∧ Dp K H y (.tuple ds) ∧ d.canLay0 = true ∧ d.depth ≤ 64 ∧ PyData.canLayAll0 ds = true ∧ Q (.bl (if neg then !(ds.any fun z => PyData.eqv z d) else ds.any fun z => PyData.eqv z d)) H
def rInDc (neg : Bool) : R2 := fun y x H Q => ∃ a o, x = .ref a ∧ DGet H a y o ∧ Q (.bl (if neg then !o.isSome else o.isSome)) H
section
variable {X : Cx}
theorem op_inT (hu : X.A.units + 100 < cLine) : OpR X (compareOp .In) (rInT X.K false) := by
  intro pins s σ H x y v u Q I rx ry h
  obtain ⟨d, ds, hd, he, sd, dd, se, q⟩ := h
  obtain ⟨as, r1⟩ := Dp.reads I d x v hd rx
  obtain ⟨bs, r2⟩ := Dp.reads I (.tuple ds) y u he ry
  exact SeqAt.in_tuple_reads r2 r1 se sd (by have : min (PyData.depthAll ds) d.depth ≤ d.depth := Nat.min_le_right _ _; omega) ⟨.bl _, H, I, rfl, q⟩
theorem op_ninT (hu : X.A.units + 100 < cLine) : OpR X (compareOp .NotIn) (rInT X.K true) := by
  intro pins s σ H x y v u Q I rx ry h
  obtain ⟨d, ds, hd, he, sd, dd, se, q⟩ := h
  obtain ⟨as, r1⟩ := Dp.reads I d x v hd rx
  obtain ⟨bs, r2⟩ := Dp.reads I (.tuple ds) y u he ry
  exact SeqAt.notIn_tuple_reads r2 r1 se sd (by have : min (PyData.depthAll ds) d.depth ≤ d.depth := Nat.min_le_right _ _; omega) ⟨.bl _, H, I, rfl, q⟩
theorem op_inDc (hu : X.A.units + 100 < cLine) : OpR X (compareOp .In) (rInDc false) := by
  intro pins s σ H x y v u Q I rx ry h
  obtain ⟨a, o, rfl, g, q⟩ := h
  cases ry
  exact d_in (by omega) I g rx fun s' I' => ⟨.bl _, H, I', rfl, q⟩
theorem op_ninDc (hu : X.A.units + 100 < cLine) : OpR X (compareOp .NotIn) (rInDc true) := by
  intro pins s σ H x y v u Q I rx ry h
  obtain ⟨a, o, rfl, g, q⟩ := h
  cases ry
  exact d_notIn (by omega) I g rx fun s' I' => ⟨.bl _, H, I', rfl, q⟩
def rInA (K : PySem.W.Frag) : R2 := fun x y H Q => rInD K x y H Q ∨ rInT K false x y H Q ∨ rInDc false x y H Q
def rNinA (K : PySem.W.Frag) : R2 := fun x y H Q => rNotInD K x y H Q ∨ rInT K true x y H Q ∨ rInDc true x y H Q
theorem op_inA (hu : X.A.units + 100 < cLine) : OpR X (compareOp .In) (rInA X.K) := (op_inD (by omega)).or ((op_inT hu).or (op_inDc hu))
theorem op_ninA (hu : X.A.units + 100 < cLine) : OpR X (compareOp .NotIn) (rNinA X.K) := (op_notInD (by omega)).or ((op_ninT hu).or (op_ninDc hu))
end
theorem any_toPy {x : D} {n m : Nat} : ∀ {xs : List D}, D.okn n x = true → D.okns m xs = true → (toPys xs).any (fun z => PyData.eqv z (toPy x)) = xs.any fun y => decide (y = x)
  | [], _, _ => rfl
  | y :: ys, h, h' => by
    simp only [D.okns, Bool.and_eq_true] at h'
    simp only [toPys, List.any_cons]
    rw [py_eqv y x m n h'.1 h, any_toPy h h'.2]
/-- a plain key's own form -/
theorem keyK_inv {K : PySem.W.Frag} {H : Hp} {v : V} {x : D} {G : List Addr} (r : Rep K H v x G) (h : D.keyK x = true) : ∃ k : Key, v = kV k ∧ x = keyD k := by
  cases r with
  | int i => exact ⟨.inl i, rfl, rfl⟩
  | str s _ => exact ⟨.inr s, rfl, rfl⟩
  | _ => simp [D.keyK] at h
theorem keyD_inj {a b : Key} (h : keyD a = keyD b) : a = b := by
  cases a with
  | inl i => cases b with
    | inl j => simp [keyD] at h; rw [h]
    | inr y => simp [keyD] at h
  | inr x => cases b with
    | inl j => simp [keyD] at h
    | inr y =>
      simp only [keyD, D.str.injEq] at h
      cases x; cases y
      have h' := Array.toList_inj.mp h
      simp only at h'
      rw [h']
theorem dhas_val (kvs : List (Key × V)) (k : Key) : dhas (kvs.map fun p => keyD p.1) (keyD k) = (valV kvs k).isSome := by
  rw [← valV_any]
  induction kvs with
  | nil => rfl
  | cons p r ih =>
    simp only [dhas, List.map_cons, List.any_cons] at ih ⊢
    rw [ih]
    congr 1
    by_cases e : p.1 = k
    · rw [e]; simp
    · rw [decide_eq_false e, decide_eq_false fun z => e (keyD_inj z)]
theorem isIn_r {K : PySem.W.Frag} {H : Hp} {vx vy : V} {x y : D} {b : Bool} {G1 G2 : List Addr} {P : Prop} (r1 : Rep K H vx x G1) (r2 : Rep K H vy y G2) (e : isIn x y = some b)
    (h1 : ∀ d ds, Dp K H vx d → Dp K H vy (.list ds) → SeqAt.shaped d = true → SeqAt.shaped (.list ds) = true → (ds.any fun z => PyData.eqv z d) = b → P)
    (h2 : ∀ d ds, Dp K H vx d → Dp K H vy (.tuple ds) → d.canLay0 = true → d.depth ≤ 64 → PyData.canLayAll0 ds = true → (ds.any fun z => PyData.eqv z d) = b → P)
    (h3 : ∀ a o, vy = .ref a → DGet H a vx o → o.isSome = b → P) : P := by
  unfold isIn at e
  split at e
  · rename_i xs
    unfold inD at e
    split at e
    · rename_i hc
      cases e
      simp only [Bool.and_eq_true] at hc
      have l := py_lay x 20 hc.1
      exact h2 _ _ (rep_dp r1 hc.1) (rep_dp (d := .tup xs) (n := 21) r2 (by simpa [D.okn] using hc.2)) l.1 (by omega) (pys_lay xs 20 hc.2).1 (any_toPy hc.1 hc.2)
    · cases e
  · rename_i xs
    unfold inD at e
    split at e
    · rename_i hc
      cases e
      simp only [Bool.and_eq_true] at hc
      exact h1 _ _ (rep_dp r1 hc.1) (rep_dp (d := .lst xs) (n := 21) r2 (by simpa [D.okn] using hc.2)) (py_shaped hc.1 (by decide)) (py_shaped (d := .lst xs) (n := 21) (by simpa [D.okn] using hc.2) (by decide)) (any_toPy hc.1 hc.2)
    · cases e
  · rename_i k ks vs
    split at e
    · rename_i hk
      cases e
      cases k with
      | true => exact (r2.dicN_inv).elim
      | false =>
        obtain ⟨a, kvs, G, rfl, q, rfl, l, rfl⟩ := r2.dicK_inv
        obtain ⟨k, rfl, rfl⟩ := keyK_inv r1 (by simpa [D.key] using hk)
        exact h3 a _ rfl (DGet.k q) (dhas_val kvs k).symm
    · cases e
  · cases e
theorem ov_in (K : PySem.W.Frag) : ovB K (rInA K) isIn := ovB_mk fun H vx vy x y b G1 G2 Q r1 r2 e k =>
  isIn_r r1 r2 e (fun d ds a c s s' z => .inl ⟨d, ds, a, c, s, s', by rw [z]; exact k⟩) (fun d ds a c s s' s2 z => .inr (.inl ⟨d, ds, a, c, s, s', s2, by rw [z]; exact k⟩))
    fun a o e g z => .inr (.inr ⟨a, o, e, g, by rw [z]; exact k⟩)
theorem ov_nin (K : PySem.W.Frag) : ovB K (rNinA K) (fun x y => (isIn x y).map not) := ovB_mk fun H vx vy x y b G1 G2 Q r1 r2 e k => by
  obtain ⟨b', e', rfl⟩ := Option.map_eq_some_iff.mp e
  exact isIn_r r1 r2 e' (fun d ds a c s s' z => .inl ⟨d, ds, a, c, s, s', by rw [z]; exact k⟩) (fun d ds a c s s' s2 z => .inr (.inl ⟨d, ds, a, c, s, s', s2, by rw [z]; exact k⟩))
    fun a o e g z => .inr (.inr ⟨a, o, e, g, by rw [z]; exact k⟩)
def cmOf : Cm → CmpOp
  | .eq => .Eq
  | .ne => .NotEq
  | .lt => .Lt
  | .le => .LtE
  | .gt => .Gt
  | .ge => .GtE
  | .inn => .In
  | .nin => .NotIn
def rCm (K : PySem.W.Frag) : Cm → R2
  | .eq => rEqA K
  | .ne => rNeA K
  | .lt => rI0 fun i j => .bl (decide (i < j))
  | .le => rI0 fun i j => .bl (decide (i ≤ j))
  | .gt => rI0 fun i j => .bl (decide (j < i))
  | .ge => rI0 fun i j => .bl (decide (j ≤ i))
  | .inn => rInA K
  | .nin => rNinA K
theorem op_cm {X : Cx} (hu : X.A.units + 100 < cLine) : ∀ op, OpR X (compareOp (cmOf op)) (rCm X.K op)
  | .eq => op_eq.or (op_eqD (by omega))
  | .ne => op_ne.or (op_neD (by omega))
  | .lt => op_lt
  | .le => op_le
  | .gt => op_gt
  | .ge => op_ge
  | .inn => op_inA hu
  | .nin => op_ninA hu
theorem ov_cm (K : PySem.W.Frag) : ∀ op, ovB K (rCm K op) (cmpop op)
  | .eq => ov_eq K
  | .ne => ov_ne K
  | .lt => ov_lt K _
  | .le => ov_lt K _
  | .gt => ov_lt K _
  | .ge => ov_lt K _
  | .inn => ov_in K
  | .nin => ov_nin K
/-- a receiver's reading -/
def Rcv (X : Cx) (e : E) (a : Expr) (fa : M D) : Prop := (∃ j, e = .var j ∧ PE X a (tVar j)) ∨ ((∀ j, e ≠ .var j) ∧ PE X a (tV X.K fa))
theorem v_cmp {X : Cx} {op : Cm} {e : E} {a b : Expr} {pos : Pos} {fa fb : M D} (hu : X.A.units + 100 < cLine) (ha : Rcv X e a fa) (hb : PE X b (tR X.K fb)) (hm : behindInMarks (cmOf op) b = false) :
    PE X (.Compare a [cmOf op] [b] pos) (tV X.K (rcv e fa fb fun x y => lif ((cmpop op x y).map .bl))) := by
  rcases ha with ⟨j, rfl, h⟩ | ⟨hn, h⟩
  · exact (pe_cmpR (op_cm hu op) h hb hm).weak fun σ H Q q => v_rcvR (ov_cm X.K op) σ H Q (.inl ⟨j, rfl, rfl⟩) q
  · exact (pe_cmpR (op_cm hu op) h hb hm).weak fun σ H Q q => v_rcvR (fa := fa) (ov_cm X.K op) σ H Q (.inr ⟨hn, rfl⟩) q
end VS

set_option Elab.async false
set_option linter.all false
set_option autoImplicit false
set_option maxRecDepth 100000
set_option maxHeartbeats 1000000
namespace VS
open PySem PySem.Spec PyProof.Rows L2
/-- d[k] as an item's rule -/
def rIxDic : R2 := fun x y H Q => ∃ a v, x = .ref a ∧ DGet H a y (some v) ∧ Q v H
theorem ix_dic {X : Cx} (hu : X.A.units + 100 < cLine) : IxR X rIxDic := by
  intro value slice pins s σ H x y v u Q I rx ry h hs
  obtain ⟨a, w, rfl, g, q⟩ := h
  cases rx
  have hT := dict_typeIs I g
  unfold subscriptTail
  refine wpAny_bind ?_
  rw [getitemInPython_of_ne hT.not_modules]
  refine wpAny_bind (wpAny_specialOf hT slot_dict_getitem.lookup ?_)
  have fin : wpAny (model X.prog X.w) X.A (subscripted slice false (.ref a) u) (fun r s₃ => wpAny (model X.prog X.w) X.A (letTemporaryGo value (.ref a) r >>= fun _ => pure r) (EP X pins σ Q) X.xe s₃) X.xe s := by
    rw [hs]
    exact wpAny_operating (d_getItem (by omega) I g ry fun w' s' I' rv => wpAny_bind (wpAny_letTemporaryGo (wpAny_pure ⟨w, H, I', rv, q⟩)))
  first
    | exact wpAny_pure (wpAny_bind fin)
    | exact wpAny_bind (wpAny_pure (wpAny_bind fin))
    | exact wpAny_bind fin
end VS
namespace VS
open PySem L2
open M (bnd lif pur)
/-! ### items -/
theorem ixN_eq (n : Nat) (i : Int) : VS.ixN n i = L2.ixN n i := rfl
theorem atD_at {K : PySem.W.Frag} {H : Hp} {vs : List V} {ds : List D} {F : List Addr} {i : Int} {d : D} (r : RepL K H vs ds F) (e : imO (atD ds i) = some d) : ∃ v, atI vs i = some v ∧ Rep K H v d [] := by
  unfold imO at e
  split at e
  · rename_i d' e'
    split at e
    · rename_i hi
      cases e
      unfold atD at e'
      split at e'
      · rename_i j hj
        obtain ⟨v, G, h1, h2, h3⟩ := r.get e'
        have := h2.im hi
        subst this
        refine ⟨v, ?_, h2⟩
        unfold atI
        rw [r.length, ← ixN_eq, hj]
        exact h1
      · cases e'
    · cases e
  · cases e
theorem dget_val {K : PySem.W.Frag} {H : Hp} {d : D} {k : Key} : ∀ {kvs : List (Key × V)} {ds : List D} {F : List Addr}, RepL K H (kvs.map (·.2)) ds F → dget (kvs.map fun p => keyD p.1) ds (keyD k) = some d → ∃ v G, valV kvs k = some v ∧ Rep K H v d G ∧ ∀ a ∈ G, a ∈ F
  | [], _, _, r, e => by cases r; simp [dget] at e
  | p :: kvs, _, _, r, e => by
    cases r with
    | @cons v d0 F0 G0 vs ds a b =>
      simp only [List.map_cons, dget] at e
      split at e
      · rename_i hk
        cases e
        exact ⟨p.2, F0, valV_pos (keyD_inj hk), a, fun x h => List.mem_append_left _ h⟩
      · rename_i hk
        obtain ⟨w, G, h1, h2, h3⟩ := dget_val b e
        exact ⟨w, G, by rw [valV_neg fun z => hk (by rw [z])]; exact h1, h2, fun x h => List.mem_append_right _ (h3 x h)⟩
def rIxA (K : PySem.W.Frag) : R2 := fun x y H Q => rIx K x y H Q ∨ rIxDic x y H Q
theorem ix_all {X : Cx} (hu : X.A.units + 100 < cLine) : IxR X (rIxA X.K) := ix_seq.or (ix_dic hu)
theorem imO_inv {o : Option D} {d : D} (e : imO o = some d) : o = some d ∧ D.im d = true := by
  unfold imO at e
  split at e
  · split at e
    · rename_i h; cases e; exact ⟨rfl, h⟩
    · cases e
  · cases e
theorem one_line {c : Nat} : (⟨#[c]⟩ : Str).length ≤ sizeLine := by rw [sizeLine_eq]; show 1 ≤ _; decide
theorem ov_ix (K : PySem.W.Frag) : OpVR K (rIxA K) index := by
  intro H vx vy x y d G1 G2 Q r1 r2 e k
  unfold index at e
  split at e
  · obtain ⟨a, vs, rfl, q1, l1⟩ := r1.tup_inv
    obtain ⟨rfl, rfl⟩ := r2.int_inv
    obtain ⟨v, h1, h2⟩ := atD_at l1 e
    exact .inl (.inr (.inl ⟨a, vs, _, v, rfl, rfl, q1, h1, k _ _ [] h2 List.nodup_nil Step.refl⟩))
  · obtain ⟨a, vs, G, rfl, q1, l1, rfl⟩ := r1.lst_inv
    obtain ⟨rfl, rfl⟩ := r2.int_inv
    obtain ⟨v, h1, h2⟩ := atD_at l1 e
    exact .inl (.inl ⟨a, vs, _, v, rfl, rfl, SqL.of q1, h1, k _ _ [] h2 List.nodup_nil Step.refl⟩)
  · obtain ⟨z, rfl, rfl, rfl, hz⟩ := r1.str_inv
    obtain ⟨rfl, rfl⟩ := r2.int_inv
    split at e
    · rename_i j hj
      split at e
      · rename_i c hc
        cases e
        refine .inl (.inr (.inr ⟨z, _, c, rfl, rfl, hz, ?_, k _ _ [] (.str ⟨#[c]⟩ one_line) List.nodup_nil Step.refl⟩))
        unfold atI
        rw [← ixN_eq, hj]
        exact hc
      · cases e
    · cases e
  · rename_i b ks vs
    split at e
    · rename_i hk
      obtain ⟨e1, hi⟩ := imO_inv e
      cases b with
      | true => exact (r1.dicN_inv).elim
      | false =>
        obtain ⟨a, kvs, G, rfl, q, rfl, l, rfl⟩ := r1.dicK_inv
        obtain ⟨k0, rfl, rfl⟩ := keyK_inv r2 (by simpa [D.key] using hk)
        obtain ⟨v, G', h1, h2, _⟩ := dget_val l e1
        have := h2.im hi
        subst this
        exact .inr ⟨a, v, rfl, by rw [← h1]; exact DGet.k q, k _ _ [] h2 List.nodup_nil Step.refl⟩
    · cases e
  · cases e
end VS
namespace VS
open PySem L2
open M (bnd lif pur)
section
variable {X : Cx} {a b c : Expr} {pos : Pos}
theorem Rcv.op {e : E} {fa fb : M D} {f : D → D → Option D} {r : R2} {x : Expr} (hf : OpVR X.K r f) (ha : Rcv X e a fa) (h : ∀ ta, PE X a ta → PE X x (tOp r ta (tR X.K fb))) : PE X x (tV X.K (rcv e fa fb fun x y => lif (f x y))) := by
  rcases ha with ⟨j, rfl, h1⟩ | ⟨hn, h1⟩
  · exact (h _ h1).weak fun σ H Q q => v_rcvR hf σ H Q (.inl ⟨j, rfl, rfl⟩) q
  · exact (h _ h1).weak fun σ H Q q => v_rcvR (fa := fa) hf σ H Q (.inr ⟨hn, rfl⟩) q
theorem v_ix {e : E} {fa fb : M D} (hu : X.A.units + 100 < cLine) (ha : Rcv X e a fa) (hb : PE X b (tV X.K fb)) (hs : PlainIx b) : PE X (.Subscript a b pos) (tV X.K (rcv e fa fb fun x y => lif (index x y))) :=
  ha.op (ov_ix X.K) fun ta h => pe_ix (ix_all hu) h (v_own hb) hs
/-! ### one operand read -/
theorem v_un {op : UnaryOp} {r : V → Hp → VK → Prop} {f : D → Option D} {fa : M D} (ho : UnR X (unaryOp op) r) (hf : OpV1 X.K r f) (ha : PE X a (tR X.K fa)) : PE X (.UnaryOp op a pos) (tV X.K (bnd fa fun x => lif (f x))) :=
  (pe_un ho ha).weak fun σ H Q q => v_read1 hf σ H Q q
theorem ov_neg (K : PySem.W.Frag) : OpV1 K (rU fun i => .int (-i)) negD := by
  intro H vx x d G1 Q r1 e k
  unfold negD at e
  split at e
  · cases e
    obtain ⟨rfl, rfl⟩ := r1.int_inv
    exact ⟨_, rfl, k _ _ [] (.int _) List.nodup_nil Step.refl⟩
  · cases e
theorem v_neg {fa : M D} (ha : PE X a (tV X.K fa)) : PE X (.UnaryOp .USub a pos) (tV X.K (bnd fa fun x => lif (negD x))) := v_un un_neg (ov_neg X.K) (v_own ha)
/-- is None -/
theorem v_isN {fa : M D} {j : Nat} {pos' : Pos} (ha : PE X a (tV X.K fa)) : PE X (.Compare a [.Is] [.Constant .none j pos'] pos) (tV X.K (bnd fa fun x => pur (.bl (decide (x = .non))))) :=
  (pe_cmp (pc_isN ha)).weak fun σ H Q q => by
    obtain ⟨ρ, F, d, ρ3, r0, nd, h, k⟩ := q
    obtain ⟨x, ρ1, h1, h⟩ := bnd_some h
    cases h
    refine ⟨ρ, F, x, _, r0, nd, h1, fun v1 H1 F1 G1 R1 q1 nd1 st1 => ?_⟩
    have e : decide (v1 = V.non) = decide (x = D.non) := by cases q1 <;> simp
    show Q (V.bl (decide (v1 = V.non))) H1
    rw [e]
    exact k _ H1 F1 [] R1 (.bl _) (by simpa using nd_l nd1) (st1.sub fun a h => List.mem_append_left _ (by simpa using h))
theorem v_notN {fa : M D} {j : Nat} {pos' : Pos} (ha : PE X a (tV X.K fa)) : PE X (.Compare a [.IsNot] [.Constant .none j pos'] pos) (tV X.K (bnd fa fun x => pur (.bl (!decide (x = .non))))) :=
  (pe_cmp (pc_notN ha)).weak fun σ H Q q => by
    obtain ⟨ρ, F, d, ρ3, r0, nd, h, k⟩ := q
    obtain ⟨x, ρ1, h1, h⟩ := bnd_some h
    cases h
    refine ⟨ρ, F, x, _, r0, nd, h1, fun v1 H1 F1 G1 R1 q1 nd1 st1 => ?_⟩
    have e : decide (v1 = V.non) = decide (x = D.non) := by cases q1 <;> simp
    show Q (V.bl (!decide (v1 = V.non))) H1
    rw [e]
    exact k _ H1 F1 [] R1 (.bl _) (by simpa using nd_l nd1) (st1.sub fun a h => List.mem_append_left _ (by simpa using h))

/-! ### tests -/
theorem tB_some {f : M D} {ρ ρ' : Rho} {b : Bool} (h : tB f ρ = some (b, ρ')) : f ρ = some (.bl b, ρ') := by
  unfold tB at h
  obtain ⟨d, ρ1, h1, h⟩ := bnd_some h
  obtain ⟨h2, rfl⟩ := lif_some h
  cases d <;> simp [toB] at h2
  subst h2
  exact h1
theorem wt {K : PySem.W.Frag} {f : M D} {σ : L2.St} {H : Hp} {Q : Bool → Hp → Prop} (q : tVT K (tB f) σ H Q) : tV K f σ H fun x H' => ∃ k, x = .bl k ∧ Q k H' := by
  obtain ⟨ρ, F, b, ρ', r0, nd, h, k⟩ := q
  refine ⟨ρ, F, .bl b, ρ', r0, nd, tB_some h, fun v H' F' G R1 q1 nd1 st1 => ?_⟩
  obtain ⟨rfl, rfl⟩ := q1.bl_inv
  exact ⟨b, rfl, k H' F' R1 (nd_l nd1) (by simpa using st1)⟩
/-- a value as a test -/
theorem v_pt {e : Expr} {fa : M D} (h : PE X e (tV X.K fa)) (he : ∀ whole, isTrue e X.env whole = (do let v ← whole; standAt e.pos; holding [v] (truthy v))) : PT X e (tVT X.K (tB fa)) :=
  (pt_val h he).weak fun σ H Q q => wt q
theorem v_ptCmp {op : Cm} {e : E} {fa fb : M D} (hu : X.A.units + 100 < cLine) (ha : Rcv X e a fa) (hb : PE X b (tR X.K fb)) (hm : behindInMarks (cmOf op) b = false) :
    PT X (.Compare a [cmOf op] [b] pos) (tVT X.K (tB (rcv e fa fb fun x y => lif ((cmpop op x y).map .bl)))) := by
  rcases ha with ⟨j, rfl, h⟩ | ⟨hn, h⟩
  · exact (pt_cmpR (op_cm hu op) h hb hm).weak fun σ H Q q => v_rcvR (ov_cm X.K op) σ H _ (.inl ⟨j, rfl, rfl⟩) (wt q)
  · exact (pt_cmpR (op_cm hu op) h hb hm).weak fun σ H Q q => v_rcvR (fa := fa) (ov_cm X.K op) σ H _ (.inr ⟨hn, rfl⟩) (wt q)
/-- a value that is a bool, turned about -/
theorem v_not {fa : M D} (h : PE X a (tV X.K fa)) : PE X (.UnaryOp .Not a pos) (tV X.K (bnd (tB fa) fun c => pur (.bl (!c)))) := (pe_not h).weak fun σ H Q q => by
  obtain ⟨ρ, F, d, ρ3, r0, nd, h, k⟩ := q
  obtain ⟨x, ρ1, h1, h⟩ := bnd_some h
  cases h
  refine ⟨ρ, F, .bl x, _, r0, nd, tB_some h1, fun v1 H1 F1 G1 R1 q1 nd1 st1 => ?_⟩
  obtain ⟨rfl, rfl⟩ := q1.bl_inv
  exact ⟨x, rfl, k _ H1 F1 [] R1 (.bl _) nd1 st1⟩
theorem tB_not {fa : M D} {ρ ρ' : Rho} {b : Bool} (h : tB (bnd (tB fa) fun c => pur (.bl (!c))) ρ = some (b, ρ')) : tB fa ρ = some (!b, ρ') := by
  obtain ⟨x, ρ1, h1, h⟩ := bnd_some (tB_some h)
  cases h
  rw [h1, Bool.not_not]
theorem v_ptNot {fa : M D} (h : PT X a (tVT X.K (tB fa))) : PT X (.UnaryOp .Not a pos) (tVT X.K (tB (bnd (tB fa) fun c => pur (.bl (!c))))) := (pt_not h).weak fun σ H Q q => by
  obtain ⟨ρ, F, b, ρ3, r0, nd, h, k⟩ := q
  refine ⟨ρ, F, !b, _, r0, nd, tB_not h, fun H1 F1 R1 nd1 st1 => ?_⟩
  show Q (!!b) H1
  rw [Bool.not_not]
  exact k H1 F1 R1 nd1 st1
theorem tB_and {fa fb : M D} {ρ ρ' : Rho} {b : Bool} (h : tB (bnd (tB fa) fun c => if c = true then fb else pur (.bl false)) ρ = some (b, ρ')) :
    ∃ x ρ1, tB fa ρ = some (x, ρ1) ∧ ((x = true ∧ tB fb ρ1 = some (b, ρ')) ∨ (x = false ∧ b = false ∧ ρ' = ρ1)) := by
  obtain ⟨x, ρ1, h1, h⟩ := bnd_some (tB_some h)
  refine ⟨x, ρ1, h1, ?_⟩
  cases x with
  | true => exact .inl ⟨rfl, by unfold tB bnd; simp only [if_true] at h; rw [h]; rfl⟩
  | false => simp only [Bool.false_eq_true, if_false] at h; cases h; exact .inr ⟨rfl, rfl, rfl⟩
theorem tB_or {fa fb : M D} {ρ ρ' : Rho} {b : Bool} (h : tB (bnd (tB fa) fun c => if c = true then pur (.bl true) else fb) ρ = some (b, ρ')) :
    ∃ x ρ1, tB fa ρ = some (x, ρ1) ∧ ((x = false ∧ tB fb ρ1 = some (b, ρ')) ∨ (x = true ∧ b = true ∧ ρ' = ρ1)) := by
  obtain ⟨x, ρ1, h1, h⟩ := bnd_some (tB_some h)
  refine ⟨x, ρ1, h1, ?_⟩
  cases x with
  | true => simp only [if_true] at h; cases h; exact .inr ⟨rfl, rfl, rfl⟩
  | false => exact .inl ⟨rfl, by unfold tB bnd; simp only [Bool.false_eq_true, if_false] at h; rw [h]; rfl⟩
theorem tB_ife {fc fa fb : M D} {ρ ρ' : Rho} {b : Bool} (h : tB (bnd (tB fc) fun c => if c = true then fa else fb) ρ = some (b, ρ')) :
    ∃ x ρ1, tB fc ρ = some (x, ρ1) ∧ ((x = true ∧ tB fa ρ1 = some (b, ρ')) ∨ (x = false ∧ tB fb ρ1 = some (b, ρ'))) := by
  obtain ⟨x, ρ1, h1, h⟩ := bnd_some (tB_some h)
  refine ⟨x, ρ1, h1, ?_⟩
  cases x with
  | true => exact .inl ⟨rfl, by unfold tB bnd; simp only [if_true] at h; rw [h]; rfl⟩
  | false => exact .inr ⟨rfl, by unfold tB bnd; simp only [Bool.false_eq_true, if_false] at h; rw [h]; rfl⟩
theorem v_pwAnd {fa fb : M D} {rest : List Expr} (ha : PT X a (tVT X.K (tB fa))) (hb : PW X (.BoolOp .And (b :: rest) pos) (tVT X.K (tB fb))) :
    PW X (.BoolOp .And (a :: b :: rest) pos) (tVT X.K (tB (bnd (tB fa) fun c => if c = true then fb else pur (.bl false)))) := (pw_and ha hb).weak fun σ H Q q => by
  obtain ⟨ρ, F, d, ρ3, r0, nd, h, k⟩ := q
  obtain ⟨x, ρ1, h1, h⟩ := tB_and h
  refine ⟨ρ, F, x, ρ1, r0, nd, h1, fun H1 F1 R1 nd1 st1 => ?_⟩
  rcases h with ⟨rfl, h⟩ | ⟨rfl, rfl, rfl⟩
  · refine iteT ⟨ρ1, F1, d, ρ3, R1, nd1, h, fun H2 F2 R2 nd2 st2 => k H2 F2 R2 nd2 (st1.trans st2)⟩
  · exact iteF (k H1 F1 R1 nd1 st1)
theorem v_pwOr {fa fb : M D} {rest : List Expr} (ha : PT X a (tVT X.K (tB fa))) (hb : PW X (.BoolOp .Or (b :: rest) pos) (tVT X.K (tB fb))) :
    PW X (.BoolOp .Or (a :: b :: rest) pos) (tVT X.K (tB (bnd (tB fa) fun c => if c = true then pur (.bl true) else fb))) := (pw_or ha hb).weak fun σ H Q q => by
  obtain ⟨ρ, F, d, ρ3, r0, nd, h, k⟩ := q
  obtain ⟨x, ρ1, h1, h⟩ := tB_or h
  refine ⟨ρ, F, x, ρ1, r0, nd, h1, fun H1 F1 R1 nd1 st1 => ?_⟩
  rcases h with ⟨rfl, h⟩ | ⟨rfl, rfl, rfl⟩
  · refine iteF ⟨ρ1, F1, d, ρ3, R1, nd1, h, fun H2 F2 R2 nd2 st2 => k H2 F2 R2 nd2 (st1.trans st2)⟩
  · exact iteT (k H1 F1 R1 nd1 st1)
theorem v_peAnd {fa fb : M D} {rest : List Expr} (ha : PE X a (tV X.K fa)) (hb : PE X (.BoolOp .And (b :: rest) pos) (tV X.K fb)) :
    PE X (.BoolOp .And (a :: b :: rest) pos) (tV X.K (bnd (tB fa) fun c => if c = true then fb else pur (.bl false))) := (pe_and ha hb).weak fun σ H Q q => by
  obtain ⟨ρ, F, d, ρ3, r0, nd, h, k⟩ := q
  obtain ⟨x, ρ1, h1, h⟩ := bnd_some h
  refine ⟨ρ, F, .bl x, ρ1, r0, nd, tB_some h1, fun v1 H1 F1 G1 R1 q1 nd1 st1 => ?_⟩
  obtain ⟨rfl, rfl⟩ := q1.bl_inv
  refine ⟨x, rfl, ?_⟩
  cases x with
  | true =>
    simp only [if_true] at h
    exact iteT ⟨ρ1, F1, d, ρ3, R1, nd_l nd1, h, fun v2 H2 F2 G2 R2 q2 nd2 st2 => k v2 H2 F2 G2 R2 q2 nd2 ((show Step F F1 H H1 by simpa using st1).trans st2)⟩
  | false =>
    simp only [Bool.false_eq_true, if_false] at h
    cases h
    exact iteF (k _ H1 F1 [] R1 (.bl _) nd1 st1)
theorem v_peOr {fa fb : M D} {rest : List Expr} (ha : PE X a (tV X.K fa)) (hb : PE X (.BoolOp .Or (b :: rest) pos) (tV X.K fb)) :
    PE X (.BoolOp .Or (a :: b :: rest) pos) (tV X.K (bnd (tB fa) fun c => if c = true then pur (.bl true) else fb)) := (pe_or ha hb).weak fun σ H Q q => by
  obtain ⟨ρ, F, d, ρ3, r0, nd, h, k⟩ := q
  obtain ⟨x, ρ1, h1, h⟩ := bnd_some h
  refine ⟨ρ, F, .bl x, ρ1, r0, nd, tB_some h1, fun v1 H1 F1 G1 R1 q1 nd1 st1 => ?_⟩
  obtain ⟨rfl, rfl⟩ := q1.bl_inv
  refine ⟨x, rfl, ?_⟩
  cases x with
  | false =>
    simp only [Bool.false_eq_true, if_false] at h
    exact iteF ⟨ρ1, F1, d, ρ3, R1, nd_l nd1, h, fun v2 H2 F2 G2 R2 q2 nd2 st2 => k v2 H2 F2 G2 R2 q2 nd2 ((show Step F F1 H H1 by simpa using st1).trans st2)⟩
  | true =>
    simp only [if_true] at h
    cases h
    exact iteT (k _ H1 F1 [] R1 (.bl _) nd1 st1)
theorem v_ife {fc fa fb : M D} (hc : PT X c (tVT X.K (tB fc))) (ha : PE X a (tV X.K fa)) (hb : PE X b (tV X.K fb)) :
    PE X (.IfExp c a b pos) (tV X.K (bnd (tB fc) fun t => if t = true then fa else fb)) := (pe_ifExp hc ha hb).weak fun σ H Q q => by
  obtain ⟨ρ, F, d, ρ3, r0, nd, h, k⟩ := q
  obtain ⟨x, ρ1, h1, h⟩ := bnd_some h
  refine ⟨ρ, F, x, ρ1, r0, nd, h1, fun H1 F1 R1 nd1 st1 => ?_⟩
  cases x with
  | false =>
    simp only [Bool.false_eq_true, if_false] at h
    exact iteF ⟨ρ1, F1, d, ρ3, R1, nd1, h, fun v2 H2 F2 G2 R2 q2 nd2 st2 => k v2 H2 F2 G2 R2 q2 nd2 (st1.trans st2)⟩
  | true =>
    simp only [if_true] at h
    exact iteT ⟨ρ1, F1, d, ρ3, R1, nd1, h, fun v2 H2 F2 G2 R2 q2 nd2 st2 => k v2 H2 F2 G2 R2 q2 nd2 (st1.trans st2)⟩
end
end VS

set_option Elab.async false
set_option linter.all false
set_option autoImplicit false
set_option maxRecDepth 100000
set_option maxHeartbeats 1000000
namespace VS
open PySem L2
open M (bnd lif pur)
section
variable {X : Cx} {a b c : Expr} {pos : Pos} {es : List Expr}
/-! ### lists of expressions -/
def plainE : Expr → Bool
  | .Starred _ _ => false
  | _ => true
theorem star_cons {e : Expr} (h : plainE e = true) (env : Env) : starEach (e :: es) env = (false, eval e env) :: starEach es env := by
  cases e <;> first | rfl | (simp [plainE] at h)
theorem star_plain : ∀ {es : List Expr}, es.all plainE = true → ∀ (pos : Pos) (env : Env), (backTo pos (starEach es env)).any (·.1) = false
  | [], _, _, _ => rfl
  | e :: es, h, pos, env => by
    rw [List.all_cons, Bool.and_eq_true] at h
    rw [star_cons h.1]
    show (false || (backTo pos (starEach es env)).any (·.1)) = false
    rw [star_plain h.2] <;> rfl
theorem v_nil : PA X [] (tVA X.K (pur [])) := pa_nil.weak fun σ H Q q => by
  obtain ⟨ρ, F, d, ρ3, r0, nd, h, k⟩ := q
  cases h
  exact k [] H F [] r0 .nil (by simpa using nd) (Step.refl.sub fun a h => by simpa using h)
theorem v_cons {e : Expr} {fe : M D} {fs : M (List D)} (hp : plainE e = true) (he : PE X e (tV X.K fe)) (hs : PA X es (tVA X.K fs)) : PA X (e :: es) (tVA X.K (bnd fe fun d => bnd fs fun ds => pur (d :: ds))) :=
  (pa_cons he hs (star_cons hp X.env)).weak fun σ H Q q => by
    obtain ⟨ρ, F, d, ρ3, r0, nd, h, k⟩ := q
    obtain ⟨x, ρ1, h1, h⟩ := bnd_some h
    obtain ⟨ys, ρ2, h2, h⟩ := bnd_some h
    cases h
    refine ⟨ρ, F, x, ρ1, r0, nd, h1, fun v1 H1 F1 G1 R1 q1 nd1 st1 => ⟨ρ1, F1, ys, _, R1, nd_l nd1, h2, fun vs H2 F2 G2 R2 q2 nd2 st2 => ?_⟩⟩
    have q1' := q1.step R1.muty (nd_out nd1) st2
    have ndA := swap3 (held q1.muty nd1 nd2 st2)
    exact k _ H2 F2 (G1 ++ G2) R2 (.cons q1' q2) ndA (step_swap (step_more st1 st2))
theorem v_tup {k : Nat} {fs : M (List D)} (hs : PA X es (tVA X.K fs)) : PE X (.Tuple es k pos) (tV X.K (bnd fs fun ds => if ds.length ≤ LIM then pur (.tup ds) else fun _ => none)) := (pe_tup hs).weak fun σ H Q q => by
  obtain ⟨ρ, F, d, ρ3, r0, nd, h, k⟩ := q
  obtain ⟨ds, ρ1, h1, h⟩ := bnd_some h
  split at h
  · rename_i hl
    cases h
    refine ⟨ρ, F, ds, _, r0, nd, h1, fun vs H1 F1 G1 R1 q1 nd1 st1 => ⟨by rw [q1.length, ← LIM_line]; exact hl, fun p hp => ?_⟩⟩
    exact k _ _ F1 G1 (R1.laid hp) (mk_tup hp q1) nd1 (st1.trans (Step.laid hp))
  · cases h
theorem nd_new {F G : List Addr} {H : Hp} {p : Addr} (nd : (F ++ G).Nodup) (m : MutAt H (F ++ G)) (hp : H p = none) : (F ++ p :: G).Nodup := by
  refine perm_nd (List.perm_middle.symm) (List.nodup_cons.mpr ⟨m.out hp, nd⟩)
theorem v_lst {fs : M (List D)} (hs : PA X es (tVA X.K fs)) : PE X (.List es pos) (tV X.K (bnd fs fun ds => if ds.length ≤ LIM then pur (.lst ds) else fun _ => none)) := (pe_lst hs).weak fun σ H Q q => by
  obtain ⟨ρ, F, d, ρ3, r0, nd, h, k⟩ := q
  obtain ⟨ds, ρ1, h1, h⟩ := bnd_some h
  split at h
  · rename_i hl
    cases h
    refine ⟨ρ, F, ds, _, r0, nd, h1, fun vs H1 F1 G1 R1 q1 nd1 st1 => ⟨by rw [q1.length, ← LIM_line]; exact hl, fun p hp => ?_⟩⟩
    refine k _ _ F1 (p :: G1) (R1.laid hp) (mk_lst hp q1) (nd_new nd1 (MutAt.app R1.muty q1.muty) hp) (st1.trans ((Step.laidO hp).sub fun a h => ?_))
    simp only [List.mem_append, List.mem_cons, List.mem_singleton, List.not_mem_nil, or_false] at h ⊢
    rcases h with h | h | h
    · exact .inl (.inl h)
    · exact .inr h
    · exact .inl (.inr h)
  · cases h
theorem mk_dicK {K : PySem.W.Frag} {H : Hp} {p : Addr} (hp : H p = none) : Rep K (upd H p (.dK [])) (.ref p) (.dic false [] []) [p] := .dicK upd_same ⟨List.nodup_nil, rfl⟩ .nil
theorem v_dnew : PE X (.Dict [] [] pos) (tV X.K (pur (.dic false [] []))) := pe_dnewK.weak fun σ H Q q => by
  obtain ⟨ρ, F, d, ρ3, r0, nd, h, k⟩ := q
  cases h
  exact fun p hp => k _ _ F [p] (r0.laid hp) (mk_dicK hp) (nd_new (G := []) (by simpa using nd) (by rw [List.append_nil]; exact r0.muty) hp) (Step.laidO hp)
/-- {k: v} -/
theorem v_dic1 {fa fb : M D} (ha : PE X a (tV X.K fa)) (hb : PE X b (tV X.K fb)) : PE X (.Dict [some a] [b] pos) (tV X.K (bnd fa fun x => bnd fb fun y => lif (dic1D false x y))) :=
  (pe_disp (pps_cons ha hb pps_nil) (by rfl) (by rfl) (fun z => by cases z) (by show 1 ≤ 15; decide)).weak fun σ H Q q => by
    obtain ⟨ρ, F, d, ρ3, r0, nd, h, k⟩ := q
    obtain ⟨x, ρ1, h1, h⟩ := bnd_some h
    obtain ⟨y, ρ2, h2, h⟩ := bnd_some h
    obtain ⟨h3, rfl⟩ := lif_some h
    unfold dic1D at h3
    split at h3
    · rename_i hk
      cases h3
      intro p hp
      have r0' := r0.laid (o := .dK []) hp
      refine ⟨ρ, F, x, ρ1, r0', nd, h1, fun v1 H1 F1 G1 R1 q1 nd1 st1 => ?_⟩
      have hp1 : H1 p = some (.dK []) := st1.keep p _ upd_same (MutAt.out r0.muty hp)
      refine ⟨ρ1, F1, y, ρ3, R1, nd_l nd1, h2, fun v2 H2 F2 G2 R2 q2 nd2 st2 => ?_⟩
      have npF1 : p ∉ F1 := fun z => by
        rcases st1.new p (List.mem_append_left _ z) with h | h
        · exact MutAt.out r0.muty hp h
        · rw [upd_same] at h; cases h
      have npG1 : p ∉ G1 := fun z => by
        rcases st1.new p (List.mem_append_right _ z) with h | h
        · exact MutAt.out r0.muty hp h
        · rw [upd_same] at h; cases h
      have hp2 : H2 p = some (.dK []) := st2.keep p _ hp1 npF1
      have npA : p ∉ F2 ++ G2 := fun z => by
        rcases st2.new p z with h | h
        · exact npF1 h
        · rw [hp1] at h; cases h
      have q1' := q1.step R1.muty (nd_out nd1) st2
      obtain ⟨key, e1, e2⟩ := keyK_inv q1' (by simpa [D.key] using hk)
      subst e1
      have g1 : G1 = [] := q1.im (by rw [e2]; cases key <;> rfl)
      subst g1
      refine ⟨hp2, [(key, v2)], rfl, (by show 1 ≤ 15; decide), ?_⟩
      show Q (.ref p) (upd H2 p (.dK [(key, v2)]))
      refine k _ _ F2 (p :: G2) (R2.wrote hp2 trivial fun z => npA (List.mem_append_left _ z)) ?_ ?_ ?_
      · refine Rep.dicK upd_same ⟨by simp, by rw [e2] <;> rfl⟩ ?_
        exact RepL.one (q2.wrote hp2 trivial fun z => npA (List.mem_append_right _ z))
      · exact perm_nd (List.perm_middle.symm) (List.nodup_cons.mpr ⟨npA, nd2⟩)
      · have s1 : Step F (F ++ [p]) H (upd H p (.dK [])) := Step.laidO hp
        have s2 : Step (F ++ [p]) (F1 ++ [p]) (upd H p (.dK [])) H1 := (st1.sub fun a h => by simpa using h).frame [p]
        have s3 : Step (F1 ++ [p]) ((F2 ++ G2) ++ [p]) H1 H2 := st2.frame [p]
        have s4 : Step ((F2 ++ G2) ++ [p]) ((F2 ++ G2) ++ [p]) H2 (upd H2 p (.dK [(key, v2)])) := Step.wrote (List.mem_append_right _ (List.mem_singleton.mpr rfl))
        refine (((s1.trans s2).trans s3).trans s4).sub fun a h => ?_
        simp only [List.mem_append, List.mem_cons, List.not_mem_nil, or_false] at h ⊢
        rcases h with h | h | h
        · exact .inl (.inl h)
        · exact .inr h
        · exact .inl (.inr h)
    · cases h3
/-! ### slices -/
def RPart (K : PySem.W.Frag) (fo : M (Option D)) : TO := tVO K fo
theorem v_none : PO X none (tVO X.K (pur none)) := po_none.weak fun σ H Q q => by
  obtain ⟨ρ, F, d, i, ρ3, r0, nd, h, e, k⟩ := q
  cases h
  cases e
  exact k H F r0 nd Step.refl
theorem v_some {fe : M D} (he : PE X a (tV X.K fe)) : PO X (some a) (tVO X.K (bnd fe fun d => pur (some d))) := (po_some he).weak fun σ H Q q => by
  obtain ⟨ρ, F, d, i, ρ3, r0, nd, h, e, k⟩ := q
  obtain ⟨x, ρ1, h1, h⟩ := bnd_some h
  cases h
  refine ⟨ρ, F, x, _, r0, nd, h1, fun v1 H1 F1 G1 R1 q1 nd1 st1 => ?_⟩
  cases x <;> simp [optI] at e
  subst e
  obtain ⟨rfl, rfl⟩ := q1.int_inv
  exact ⟨_, rfl, k H1 F1 R1 (nd_l nd1) (by simpa using st1)⟩
def rSlAll (K : PySem.W.Frag) : V → Option Int → Option Int → Hp → VK → Prop := fun x lo hi H Q => rSlS x lo hi H Q ∨ rSlA K x lo hi H Q ∨ rSlL K x lo hi H Q
theorem sl_all : SlR X (rSlAll X.K) := sl_str.or (sl_tupA.or sl_list)
theorem sIx_eq (n d : Nat) (o : Option Int) : VS.sIx n d o = HT.sIx n d o := by cases o <;> rfl
theorem cut_len {α : Type} (xs : List α) (lo hi : Option Int) : (cut xs lo hi).length ≤ xs.length := by
  unfold cut
  simp only [List.length_take, List.length_drop]
  omega
theorem repL_cut {K : PySem.W.Frag} {H : Hp} {vs : List V} {ds : List D} (r : RepL K H vs ds []) (lo hi : Option Int) : RepL K H (cutV vs lo hi) (cut ds lo hi) [] := by
  unfold cutV cut
  rw [r.length, sIx_eq, sIx_eq]
  exact (r.drop _).take _
theorem slice_r {K : PySem.W.Frag} {H : Hp} {v : V} {d d' : D} {G : List Addr} {lo hi : Option Int} {Q : VK} (r : Rep K H v d G) (e : slice d lo hi = some d')
    (k : ∀ v H' G', Rep K H' v d' G' → G'.Nodup → Step [] G' H H' → Q v H') : rSlAll K v lo hi H Q := by
  unfold slice at e
  split at e
  · cases e
    obtain ⟨x, rfl, rfl, rfl, hx⟩ := r.str_inv
    refine .inl ⟨x, rfl, hx, ?_⟩
    have e1 : (cutS x lo hi).cps.toList = cut x.cps.toList lo hi := by
      unfold cutS cut
      rw [sIx_eq, sIx_eq, str_len]
    rw [← e1] at k
    exact k _ _ [] (.str _ (Nat.le_trans (cutS_length x lo hi) hx)) List.nodup_nil Step.refl
  · rename_i xs
    split at e
    · rename_i hi'
      cases e
      obtain ⟨a, vs, rfl, q1, l1⟩ := r.tup_inv
      have := l1.im hi'
      subst this
      have e1 := l1.length
      refine .inr (.inl ⟨a, vs, rfl, q1, fun hw => ?_, fun _ p hp => k _ _ [] (mk_tup hp (repL_cut l1 _ _)) List.nodup_nil (Step.nil_laid hp)⟩)
      refine k _ _ [] ?_ List.nodup_nil Step.refl
      have e2 := repL_cut l1 lo hi
      have : cut xs lo hi = xs := by
        unfold cut
        rw [sIx_eq, sIx_eq, ← e1, hw.1, hw.2, e1, List.drop_zero, Nat.sub_zero, List.take_length]
      rw [this]
      exact r
    · cases e
  · split at e
    · rename_i hi'
      cases e
      obtain ⟨a, vs, G1, rfl, q1, l1, rfl⟩ := r.lst_inv
      have := l1.im hi'
      subst this
      exact .inr (.inr ⟨a, vs, rfl, SqL.of q1, fun p hp => k _ _ [p] (mk_lst hp (repL_cut l1 _ _)) (by simp) (Step.cons_laid hp)⟩)
    · cases e
  · cases e
theorem v_sl {e : E} {fa : M D} {fl fh : M (Option D)} {lo hi : Option Expr} {p2 : Pos} (ha : Rcv X e a fa) (hl : PO X lo (tVO X.K fl)) (hh : PO X hi (tVO X.K fh)) :
    PE X (.Subscript a (.Slice lo hi none p2) pos) (tV X.K (rcv e fa (bnd fl fun l => bnd fh fun h => pur (l, h)) fun d p => lif (match optI p.1, optI p.2 with
      | some l, some h => slice d l h
      | _, _ => none))) := by
  have fin : ∀ {K : PySem.W.Frag} {σ : L2.St} {ρ' : Rho} {H0 H2 : Hp} {F0 F2 G : List Addr} {v : V} {x d : D} {l h : Option Int} {Q : VK}, RepO K H2 σ ρ' F2 → F2.Nodup → Rep K H2 v x G → slice x l h = some d → Step F0 F2 H0 H2 →
      (∀ v H' F' G, RepO K H' σ ρ' F' → Rep K H' v d G → (F' ++ G).Nodup → Step F0 (F' ++ G) H0 H' → Q v H') → rSlAll K v l h H2 Q := fun {K σ ρ' H0 H2 F0 F2 G v x d l h Q} R2 nd2 q e st k => by
    refine slice_r q e fun v H' G' q3 nd3 s3 => ?_
    obtain ⟨a1, a2, a3⟩ := fin2 (G1 := []) R2 (fun _ z => nomatch z) (by simpa using nd2) (by rw [List.append_nil]; exact st) nd3 s3
    exact k v H' F2 G' a1 q3 a2 a3
  rcases ha with ⟨j, rfl, h⟩ | ⟨hn, h⟩
  · refine (pe_slice sl_all h hl hh).weak fun σ H Q q => ?_
    obtain ⟨ρ, F, d, ρ3, r0, nd, h, k⟩ := q
    obtain ⟨x0, ρ0, h0, h⟩ := bnd_some h
    obtain ⟨p, ρ1, h1, h⟩ := bnd_some h
    obtain ⟨x, ρ2, h2, h⟩ := bnd_some h
    obtain ⟨h3, rfl⟩ := lif_some h
    obtain ⟨e0, rfl⟩ := look_some h0
    obtain ⟨e2, rfl⟩ := look_some h2
    obtain ⟨l, ρa, ha, h1⟩ := bnd_some h1
    obtain ⟨hh', ρb, hb, h1⟩ := bnd_some h1
    cases h1
    obtain ⟨v, _, ev, _, _, _⟩ := r0.get e0
    simp only at h3
    split at h3
    · rename_i l' h' el eh
      refine ⟨v, ev, ρ0, F, l, l', ρa, r0, nd, ha, el, fun H1 F1 R1 nd1 st1 => ⟨ρa, F1, hh', h', _, R1, nd1, hb, eh, fun H2 F2 R2 nd2 st2 => ?_⟩⟩
      obtain ⟨v', G1, ev', q1, _, _⟩ := R2.get e2
      rw [ev] at ev'; cases ev'
      exact fin R2 nd2 q1 h3 (st1.trans st2) k
    · cases h3
  · refine (pe_slice sl_all h hl hh).weak fun σ H Q q => ?_
    have e1 : rcv e fa (bnd fl fun l => bnd fh fun h => pur (l, h)) (fun d p => lif (match optI p.1, optI p.2 with
      | some l, some h => slice d l h
      | _, _ => none)) = bnd fa fun d => bnd (bnd fl fun l => bnd fh fun h => pur (l, h)) fun p => lif (match optI p.1, optI p.2 with
      | some l, some h => slice d l h
      | _, _ => none) := by
      unfold rcv
      split
      · exact absurd rfl (hn _)
      · rfl
    rw [e1] at q
    obtain ⟨ρ, F, d, ρ3, r0, nd, h, k⟩ := q
    obtain ⟨x, ρ0, h0, h⟩ := bnd_some h
    obtain ⟨p, ρ1, h1, h⟩ := bnd_some h
    obtain ⟨h3, rfl⟩ := lif_some h
    obtain ⟨l, ρa, ha, h1⟩ := bnd_some h1
    obtain ⟨hh', ρb, hb, h1⟩ := bnd_some h1
    cases h1
    simp only at h3
    split at h3
    · rename_i l' h' el eh
      refine ⟨ρ, F, x, ρ0, r0, nd, h0, fun v0 H0 F0 G0 R0 q0 nd0 st0 => ⟨ρ0, F0, l, l', ρa, R0, nd_l nd0, ha, el, fun H1 F1 R1 nd1 st1 => ⟨ρa, F1, hh', h', _, R1, nd1, hb, eh, fun H2 F2 R2 nd2 st2 => ?_⟩⟩⟩
      have q2 := q0.step R0.muty (nd_out nd0) (st1.trans st2)
      exact fin R2 nd2 q2 h3 ((st0.sub fun a h => List.mem_append_left _ h).trans (st1.trans st2)) k
    · cases h3
end
end VS

set_option Elab.async false
set_option linter.all false
set_option autoImplicit false
set_option maxRecDepth 100000
set_option maxHeartbeats 1000000
namespace VS
open PySem L2
open M (bnd lif pur)
theorem slot_fin {K : PySem.W.Frag} {H : Hp} {σ : L2.St} {ρ : Rho} {F Gx : List Addr} {j : Nat} {d : D} (R : RepO K H σ ρ F) (e : ρ[j]? = some (some d)) (nd : (F ++ Gx).Nodup) (mx : MutAt H Gx) :
    ∃ v G, σ[j]? = some (some v) ∧ Rep K H v d G ∧ (G ++ Gx).Nodup ∧ ∀ (H' : Hp) (d' : D) (G' Gr : List Addr), Rep K H' v d' G' → (G' ++ Gr).Nodup → Step (G ++ Gx) (G' ++ Gr) H H' →
      ∃ F2, RepO K H' σ (ρ.set j (some d')) F2 ∧ (F2 ++ Gr).Nodup ∧ Step (F ++ Gx) (F2 ++ Gr) H H' := by
  obtain ⟨v, G, F', e1, r1, r2, p⟩ := R.take e
  have ndp : ((F' ++ G) ++ Gx).Nodup := perm_nd (p.append_right Gx) nd
  rw [List.append_assoc] at ndp
  refine ⟨v, G, e1, r1, nd_r ndp, fun H' d' G' Gr r' nd' st => ?_⟩
  have mG : MutAt H (G ++ Gx) := MutAt.app r1.muty mx
  have r2' := r2.step mG (nd_out' ndp) st
  have out : ∀ a, a ∈ G' ++ Gr → a ∉ F' := fun a ha hb => by
    rcases st.new a ha with h | h
    · exact nd_out ndp a h hb
    · obtain ⟨o, eo, _⟩ := r2.muty a hb
      rw [h] at eo; cases eo
  have hl : j < ρ.length := (List.getElem?_eq_some_iff.mp e).1
  obtain ⟨F2, a1, a2, a3⟩ := r2'.mod e1 r' (nd_mk (nd_l ndp) (nd_l nd') fun a ha => out a (List.mem_append_left _ ha)) hl
  refine ⟨F2, a1, nd_mk a2 (nd_r nd') fun a ha hb => ?_, ⟨fun a o eo ha => st.keep a o eo fun h => ha ?_, fun a ha => ?_⟩⟩
  · rcases List.mem_append.mp (a3 a hb) with h | h
    · exact out a (List.mem_append_right _ ha) h
    · exact nd_out nd' a ha h
  · rcases List.mem_append.mp h with h | h
    · exact List.mem_append_left _ (p.mem_iff.mpr (List.mem_append_right _ h))
    · exact List.mem_append_right _ h
  · have : a ∈ F' ∨ a ∈ G' ++ Gr := by
      rcases List.mem_append.mp ha with h | h
      · rcases List.mem_append.mp (a3 a h) with h | h
        · exact .inl h
        · exact .inr (List.mem_append_left _ h)
      · exact .inr (List.mem_append_right _ h)
    rcases this with h | h
    · exact .inl (List.mem_append_left _ (p.mem_iff.mpr (List.mem_append_left _ h)))
    · refine (st.new a h).imp_left fun h => ?_
      rcases List.mem_append.mp h with h | h
      · exact List.mem_append_left _ (p.mem_iff.mpr (List.mem_append_right _ h))
      · exact List.mem_append_right _ h
theorem setS_some {i : Nat} {d : D} {ρ ρ' : Rho} {u : Unit} (h : setS i d ρ = some (u, ρ')) : i < ρ.length ∧ ρ' = ρ.set i (some d) := by
  unfold setS at h
  split at h
  · rename_i hl; cases h; exact ⟨hl, rfl⟩
  · cases h
theorem lookL_some {K : PySem.W.Frag} {H : Hp} {σ : L2.St} {F : List Addr} {j : Nat} {ρ ρ' : Rho} {u : Unit} (r : RepO K H σ ρ F) (h : lookL j ρ = some (u, ρ')) : ∃ v, σ[j]? = some (some v) ∧ tyV K "list" v H ∧ ρ' = ρ := by
  unfold lookL at h
  split at h
  · rename_i xs e
    cases h
    obtain ⟨v, G, ev, q, _, _⟩ := r.get e
    obtain ⟨p, vs, G', rfl, hp', lv, rfl⟩ := q.lst_inv
    exact ⟨_, ev, .inl ⟨rfl, _, SqL.of hp'⟩, rfl⟩
  · cases h
section
variable {X : Cx} {a b c : Expr} {pos apos : Pos} {es : List Expr}
/-! ### methods that change a slot's list -/
def noSup : Expr → Bool
  | .Call (.Name _ _) [] [] _ => false
  | _ => true
theorem att_base {o : Expr} (h : noSup o = true) (attr : Str) (env : Env) (m : Sem Value) : attributeBase o attr env m = m := by
  unfold attributeBase
  split
  · simp [noSup] at h
  · rfl
theorem few_ok {pos : Pos} {a : Expr} (hp : plainE a = true) (env : Env) : ((backTo pos (starEach [a] env)).all (fun x => !x.1) && (backToKw pos (keywordEach [] env)).all (fun x => x.1.isSome)
      && decide ([a].length + ([] : List Keyword).length + (if ([] : List Keyword).isEmpty then 0 else 1) < 30)) = true := by
  rw [star_cons hp]
  rfl
theorem v_app {j : Nat} {o : Expr} {fa : M D} (ho : PE X o (tVar j)) (ha : PE X a (tV X.K fa)) (hp : plainE a = true) (hns : noSup o = true) (hline : (apos.endLine == pos.line) = true) :
    PE X (.Call (.Attribute o "append" apos) [a] [] pos) (tV X.K (bnd (lookL j) fun _ => bnd fa fun d => bnd (look j) fun l => bnd (lif (appD l d)) fun l' => bnd (setS j l') fun _ => pur .non)) :=
  (pe_bm PySem.F.plainAttrs_list PySem.F.slot_list_append PySem.F.type_list_append mt_append ho (pa_cons ha pa_nil (star_cons hp _)) (att_base hns _ _ _) (few_ok hp _) hline (star_cons hp _) (by rfl)).weak fun σ H Q q => by
    obtain ⟨ρ, F, d, ρ3, r0, nd, h, k⟩ := q
    obtain ⟨l0, ρ0, h0, h⟩ := bnd_some h
    obtain ⟨x, ρ1, h1, h⟩ := bnd_some h
    obtain ⟨l, ρ2, h2, h⟩ := bnd_some h
    obtain ⟨l', ρ2', h2', h⟩ := bnd_some h
    obtain ⟨_, ρ4, h4, h⟩ := bnd_some h
    cases h
    obtain ⟨v, ev, t0, rfl⟩ := lookL_some r0 h0
    obtain ⟨e2, rfl⟩ := look_some h2
    obtain ⟨e3, rfl⟩ := lif_some h2'
    obtain ⟨hl, rfl⟩ := setS_some h4
    obtain ⟨xs, rfl, hlen, rfl⟩ := appD_inv e3
    refine ⟨v, ev, t0, ρ0, F, x, ρ2', r0, nd, h1, fun v1 H1 F1 G1 R1 q1 nd1 st1 => ?_⟩
    obtain ⟨v', G, ev', qv, ndG, fin⟩ := slot_fin R1 e2 nd1 q1.muty
    rw [ev] at ev'; cases ev'
    obtain ⟨p, vs, G', rfl, hp', lv, rfl⟩ := qv.lst_inv
    refine ⟨p, vs, v1, rfl, rfl, hp', by rw [lv.length, ← LIM_line]; exact hlen, ?_⟩
    have np : p ∉ G' ++ G1 := (List.nodup_cons.mp ndG).1
    have r' : Rep X.K (upd H1 p (.lst (vs ++ [v1]))) (.ref p) (.lst (xs ++ [x])) (p :: (G' ++ G1)) :=
      .lst upd_same ((lv.wrote hp' trivial fun z => np (List.mem_append_left _ z)).app (RepL.one (q1.wrote hp' trivial fun z => np (List.mem_append_right _ z))))
    obtain ⟨F2, a1, a2, a3⟩ := fin _ _ _ [] r' (by simpa using ndG) (by rw [List.append_nil]; exact Step.wrote (List.mem_cons_self))
    exact k _ _ F2 [] a1 .non a2 (st1.trans a3)
theorem v_ext {j : Nat} {o : Expr} {fa : M D} (ho : PE X o (tVar j)) (ha : PE X a (tV X.K fa)) (hp : plainE a = true) (hns : noSup o = true) (hline : (apos.endLine == pos.line) = true) :
    PE X (.Call (.Attribute o "extend" apos) [a] [] pos) (tV X.K (bnd (lookL j) fun _ => bnd fa fun d => bnd (look j) fun l => bnd (lif (extD l d)) fun l' => bnd (setS j l') fun _ => pur .non)) :=
  (pe_bm PySem.F.plainAttrs_list PySem.F.slot_list_extend PySem.F.type_list_extend mt_extend ho (pa_cons ha pa_nil (star_cons hp _)) (att_base hns _ _ _) (few_ok hp _) hline (star_cons hp _) (by rfl)).weak fun σ H Q q => by
    obtain ⟨ρ, F, d, ρ3, r0, nd, h, k⟩ := q
    obtain ⟨l0, ρ0, h0, h⟩ := bnd_some h
    obtain ⟨x, ρ1, h1, h⟩ := bnd_some h
    obtain ⟨l, ρ2, h2, h⟩ := bnd_some h
    obtain ⟨l', ρ2', h2', h⟩ := bnd_some h
    obtain ⟨_, ρ4, h4, h⟩ := bnd_some h
    cases h
    obtain ⟨v, ev, t0, rfl⟩ := lookL_some r0 h0
    obtain ⟨e2, rfl⟩ := look_some h2
    obtain ⟨e3, rfl⟩ := lif_some h2'
    obtain ⟨hl, rfl⟩ := setS_some h4
    obtain ⟨xs, ys, rfl, rfl, hlen, rfl⟩ := extD_inv e3
    refine ⟨v, ev, t0, ρ0, F, _, ρ2', r0, nd, h1, fun v1 H1 F1 G1 R1 q1 nd1 st1 => ?_⟩
    obtain ⟨v', G, ev', qv, ndG, fin⟩ := slot_fin R1 e2 nd1 q1.muty
    rw [ev] at ev'; cases ev'
    obtain ⟨p, vs, G', rfl, hp', lv, rfl⟩ := qv.lst_inv
    obtain ⟨b, ws, G2, rfl, hb, lw, rfl⟩ := q1.lst_inv
    refine ⟨p, b, vs, ws, rfl, rfl, hp', hb, by rw [lv.length, lw.length, ← LIM_line]; exact hlen, ?_⟩
    have np : p ∉ G' ++ b :: G2 := (List.nodup_cons.mp ndG).1
    have r' : Rep X.K (upd H1 p (.lst (vs ++ ws))) (.ref p) (.lst (xs ++ ys)) (p :: (G' ++ G2)) :=
      .lst upd_same ((lv.wrote hp' trivial fun z => np (List.mem_append_left _ z)).app (lw.wrote hp' trivial fun z => np (List.mem_append_right _ (List.mem_cons_of_mem _ z))))
    have sb : (p :: (G' ++ G2)).Sublist (p :: G' ++ b :: G2) := (List.Sublist.append (.refl G') (List.sublist_cons_self _ _)).cons_cons p
    obtain ⟨F2, a1, a2, a3⟩ := fin _ _ _ [] r' (by rw [List.append_nil]; exact sb.nodup ndG) (by rw [List.append_nil]; exact (Step.wrote (List.mem_cons_self)).sub fun a h => sb.subset h)
    exact k _ _ F2 [] a1 .non a2 (st1.trans a3)
theorem seq_ix {n j : Nat} {i : Int} (h : VS.ixN n i = some j) : seqIndex? i n = some j := (ixN_seq (by rw [← ixN_eq]; exact h)).1
theorem ixN_bound {n j : Nat} {i : Int} (h : VS.ixN n i = some j) (hn : n ≤ sizeLine) : -(2 ^ 63) ≤ i ∧ i < 2 ^ 63 := by
  obtain ⟨_, _, a, b⟩ := ixN_seq (by rw [← ixN_eq]; exact h)
  rw [sizeLine_eq] at hn
  omega
theorem pop_nd {p : Addr} {G' G2 Gw : List Addr} (ndG : (p :: G' ++ []).Nodup) (w4 : G'.Perm (G2 ++ Gw)) : (p :: G2 ++ Gw).Nodup ∧ p ∉ G2 ∧ p ∉ Gw := by
  rw [List.append_nil] at ndG
  obtain ⟨a, b⟩ := List.nodup_cons.mp ndG
  have np2 : p ∉ G2 := fun z => a (w4.mem_iff.mpr (List.mem_append_left _ z))
  have npw : p ∉ Gw := fun z => a (w4.mem_iff.mpr (List.mem_append_right _ z))
  exact ⟨List.nodup_cons.mpr ⟨fun z => (List.mem_append.mp z).elim np2 npw, perm_nd w4 b⟩, np2, npw⟩
theorem pop_step {p : Addr} {G' G2 Gw : List Addr} {H : Hp} {o : HO} (w4 : G'.Perm (G2 ++ Gw)) : Step (p :: G' ++ []) (p :: G2 ++ Gw) H (upd H p o) :=
  (Step.wrote (List.mem_append_left _ List.mem_cons_self)).sub fun a h => by
    rw [List.append_nil]
    rcases List.mem_cons.mp h with rfl | h
    · exact List.mem_cons_self
    · exact List.mem_cons_of_mem _ (w4.mem_iff.mpr h)
theorem v_popA {j : Nat} {o : Expr} {fa : M D} (ho : PE X o (tVar j)) (ha : PE X a (tV X.K fa)) (hp : plainE a = true) (hns : noSup o = true) (hline : (apos.endLine == pos.line) = true) :
    PE X (.Call (.Attribute o "pop" apos) [a] [] pos) (tV X.K (bnd (lookL j) fun _ => bnd fa fun i => bnd (look j) fun l => bnd (lif (match i with
      | .int n => popD l n
      | _ => none)) fun p => bnd (setS j p.2) fun _ => pur p.1)) :=
  (pe_bm PySem.F.plainAttrs_list PySem.F.slot_list_pop PySem.F.type_list_pop mt_popAt ho (pa_cons ha pa_nil (star_cons hp _)) (att_base hns _ _ _) (few_ok hp _) hline (star_cons hp _) (by rfl)).weak fun σ H Q q => by
    obtain ⟨ρ, F, d, ρ3, r0, nd, h, k⟩ := q
    obtain ⟨l0, ρ0, h0, h⟩ := bnd_some h
    obtain ⟨x, ρ1, h1, h⟩ := bnd_some h
    obtain ⟨l, ρ2, h2, h⟩ := bnd_some h
    obtain ⟨pr, ρ2', h2', h⟩ := bnd_some h
    obtain ⟨_, ρ4, h4, h⟩ := bnd_some h
    cases h
    obtain ⟨v, ev, t0, rfl⟩ := lookL_some r0 h0
    obtain ⟨e2, rfl⟩ := look_some h2
    obtain ⟨e3, rfl⟩ := lif_some h2'
    obtain ⟨hl, rfl⟩ := setS_some h4
    split at e3
    · obtain ⟨xs, jj, y, rfl, hsz, hj, hy, rfl⟩ := popD_inv e3
      refine ⟨v, ev, t0, ρ0, F, _, ρ2', r0, nd, h1, fun v1 H1 F1 G1 R1 q1 nd1 st1 => ?_⟩
      obtain ⟨rfl, rfl⟩ := q1.int_inv
      obtain ⟨v', G, ev', qv, ndG, fin⟩ := slot_fin R1 e2 nd1 (fun _ z => nomatch z)
      rw [ev] at ev'; cases ev'
      obtain ⟨p, vs, G', rfl, hp', lv, rfl⟩ := qv.lst_inv
      obtain ⟨w, Gw, G2, w1, w2, w3, w4⟩ := lv.erase hy
      obtain ⟨b1, b2⟩ := ixN_bound hj (by rw [← LIM_line]; exact hsz)
      refine ⟨p, vs, _, jj, w, rfl, rfl, hp', b1, b2, seq_ix (by rw [lv.length]; exact hj), w1, ?_⟩
      obtain ⟨nd3, np, npw⟩ := pop_nd ndG w4
      have r' : Rep X.K (upd H1 p (.lst (vs.eraseIdx jj))) (.ref p) (.lst (xs.eraseIdx jj)) (p :: G2) := .lst upd_same (w3.wrote hp' trivial np)
      obtain ⟨F2, a1, a2, a3⟩ := fin _ _ _ Gw r' nd3 (pop_step w4)
      exact k _ _ F2 Gw a1 (w2.wrote hp' trivial npw) a2 (st1.trans a3)
    · cases e3
theorem v_pop {j : Nat} {o : Expr} (ho : PE X o (tVar j)) (hns : noSup o = true) (hline : (apos.endLine == pos.line) = true) :
    PE X (.Call (.Attribute o "pop" apos) [] [] pos) (tV X.K (bnd (look j) fun l => bnd (lif (popD l (-1))) fun p => bnd (setS j p.2) fun _ => pur p.1)) :=
  (pe_bm0 PySem.F.plainAttrs_list PySem.F.slot_list_pop PySem.F.type_list_pop mt_pop ho (att_base hns _ _ _) hline).weak fun σ H Q q => by
    obtain ⟨ρ, F, d, ρ3, r0, nd, h, k⟩ := q
    obtain ⟨l, ρ2, h2, h⟩ := bnd_some h
    obtain ⟨pr, ρ2', h2', h⟩ := bnd_some h
    obtain ⟨_, ρ4, h4, h⟩ := bnd_some h
    cases h
    obtain ⟨e2, rfl⟩ := look_some h2
    obtain ⟨e3, rfl⟩ := lif_some h2'
    obtain ⟨hl, rfl⟩ := setS_some h4
    obtain ⟨xs, jj, y, rfl, hsz, hj, hy, rfl⟩ := popD_inv e3
    obtain ⟨v', G, ev', qv, ndG, fin⟩ := slot_fin (Gx := []) r0 e2 (by simpa using nd) (fun _ z => nomatch z)
    obtain ⟨p, vs, G', rfl, hp', lv, rfl⟩ := qv.lst_inv
    obtain ⟨w, Gw, G2, w1, w2, w3, w4⟩ := lv.erase hy
    have ejj : jj = xs.length - 1 ∧ 0 < xs.length := by
      have := ixN_seq (n := xs.length) (i := -1) (j := jj) (by rw [← ixN_eq]; exact hj)
      unfold VS.ixN at hj
      rw [if_neg (by decide)] at hj
      split at hj
      · injection hj with hj; omega
      · cases hj
    have hd : vs.eraseIdx jj = vs.dropLast := by rw [ejj.1, ← lv.length]; exact List.eraseIdx_length_sub_one
    refine ⟨_, ev', .inl ⟨rfl, _, SqL.of hp'⟩, p, vs, w, rfl, rfl, hp', by rw [lv.length, ← ejj.1]; exact w1, ?_⟩
    rw [← hd]
    obtain ⟨nd3, np, npw⟩ := pop_nd ndG w4
    have r' : Rep X.K (upd H p (.lst (vs.eraseIdx jj))) (.ref p) (.lst (xs.eraseIdx jj)) (p :: G2) := .lst upd_same (w3.wrote hp' trivial np)
    obtain ⟨F2, a1, a2, a3⟩ := fin _ _ _ Gw r' nd3 (pop_step w4)
    exact k _ _ F2 Gw a1 (w2.wrote hp' trivial npw) a2 (by rw [List.append_nil] at a3; exact a3)
end
end VS

set_option Elab.async false
set_option linter.all false
set_option autoImplicit false
set_option maxRecDepth 100000
set_option maxHeartbeats 1000000
namespace VS
open PySem L2
open M (bnd lif pur)
section
variable {X : Cx} {a b c : Expr} {pos apos : Pos} {es : List Expr} {p : Pos}
/-! ### built-ins of one argument -/
theorem intL_inv : ∀ {xs : List D} {ns : List Int}, intL xs = some ns → xs = ns.map .int
  | [], ns, h => by cases h; rfl
  | .int i :: r, ns, h => by
    obtain ⟨ms, e1, e2⟩ := Option.map_eq_some_iff.mp (show (intL r).map (i :: ·) = some ns from h)
    subst e2
    rw [intL_inv e1] <;> rfl
  | .non :: _, _, h => by simp [intL] at h
  | .bl _ :: _, _, h => by simp [intL] at h
  | .str _ :: _, _, h => by simp [intL] at h
  | .tup _ :: _, _, h => by simp [intL] at h
  | .lst _ :: _, _, h => by simp [intL] at h
  | .rls _ :: _, _, h => by simp [intL] at h
  | .dic _ _ _ :: _, _, h => by simp [intL] at h
theorem boolL_inv : ∀ {xs : List D} {ns : List Bool}, boolL xs = some ns → xs = ns.map .bl
  | [], ns, h => by cases h; rfl
  | .bl i :: r, ns, h => by
    obtain ⟨ms, e1, e2⟩ := Option.map_eq_some_iff.mp (show (boolL r).map (i :: ·) = some ns from h)
    subst e2
    rw [boolL_inv e1] <;> rfl
  | .non :: _, _, h => by simp [boolL] at h
  | .int _ :: _, _, h => by simp [boolL] at h
  | .str _ :: _, _, h => by simp [boolL] at h
  | .tup _ :: _, _, h => by simp [boolL] at h
  | .lst _ :: _, _, h => by simp [boolL] at h
  | .rls _ :: _, _, h => by simp [boolL] at h
  | .dic _ _ _ :: _, _, h => by simp [boolL] at h
theorem repL_ints {K : PySem.W.Frag} {H : Hp} : ∀ {ns : List Int} {vs : List V} {F : List Addr}, RepL K H vs (ns.map .int) F → vs = ns.map V.int
  | [], _, _, r => by cases r; rfl
  | n :: ns, vs, F, r => by
    obtain ⟨v, ws, G1, G2, rfl, _, a, b⟩ := r.uncons
    obtain ⟨rfl, _⟩ := a.int_inv
    rw [repL_ints b] <;> rfl
theorem repL_bools {K : PySem.W.Frag} {H : Hp} : ∀ {ns : List Bool} {vs : List V} {F : List Addr}, RepL K H vs (ns.map .bl) F → vs = ns.map V.bl
  | [], _, _, r => by cases r; rfl
  | n :: ns, vs, F, r => by
    obtain ⟨v, ws, G1, G2, rfl, _, a, b⟩ := r.uncons
    obtain ⟨rfl, _⟩ := a.bl_inv
    rw [repL_bools b] <;> rfl
theorem maxI_spec : ∀ {ns : List Int} {m : Int}, maxI ns = some m → m ∈ ns ∧ ∀ y ∈ ns, y ≤ m
  | [x], m, h => by
    have : x = m := by simpa [maxI] using h
    subst this
    simp
  | x :: y :: r, m, h => by
    obtain ⟨m', e1, e2⟩ := Option.map_eq_some_iff.mp (show (maxI (y :: r)).map _ = some m from h)
    obtain ⟨h1, h2⟩ := maxI_spec e1
    split at e2
    · subst e2
      exact ⟨List.mem_cons_of_mem _ h1, fun z hz => (List.mem_cons.mp hz).elim (fun e => by omega) (h2 z)⟩
    · subst e2
      exact ⟨List.mem_cons_self, fun z hz => (List.mem_cons.mp hz).elim (fun e => by omega) (fun hz => by have := h2 z hz; omega)⟩
theorem minI_spec : ∀ {ns : List Int} {m : Int}, minI ns = some m → m ∈ ns ∧ ∀ y ∈ ns, m ≤ y
  | [x], m, h => by
    have : x = m := by simpa [minI] using h
    subst this
    simp
  | x :: y :: r, m, h => by
    obtain ⟨m', e1, e2⟩ := Option.map_eq_some_iff.mp (show (minI (y :: r)).map _ = some m from h)
    obtain ⟨h1, h2⟩ := minI_spec e1
    split at e2
    · subst e2
      exact ⟨List.mem_cons_of_mem _ h1, fun z hz => (List.mem_cons.mp hz).elim (fun e => by omega) (h2 z)⟩
    · subst e2
      exact ⟨List.mem_cons_self, fun z hz => (List.mem_cons.mp hz).elim (fun e => by omega) (fun hz => by have := h2 z hz; omega)⟩
/-- a call of a built-in with one read argument -/
theorem v_callB {x : Str} {id : String} {r : List V → Hp → VK → Prop} {f : D → Option D} {fa : M D} (hc : CallR X (.builtin id) r) (hf : OpV1 X.K (fun v => r [v]) f) (hg : Gl X x) (hm : X.mg x = none) (hv : bootBuiltins x = some (.builtin id))
    (hn : x ≠ "__name__") (hdb : (x == ("__debug__" : Str)) = false) (hp : plainE a = true) (ha : PE X a (tR X.K fa)) : PE X (.Call (.Name x p) [a] [] pos) (tV X.K (bnd fa fun x => lif (f x))) :=
  (pe_callB hc hg hm hv (pa_cons ha pa_nil (star_cons hp _)) hn hdb (star_cons hp _) (by rfl)).weak fun σ H Q q => v_read1 hf σ H Q q
theorem v_callTy {x : Str} {T : String} {r : List V → Hp → VK → Prop} {f : D → Option D} {fa : M D} (hc : CallR X (.type T) r) (hf : OpV1 X.K (fun v => r [v]) f) (hg : Gl X x) (hm : X.mg x = none) (hv : bootBuiltins x = some (.type T))
    (hn : x ≠ "__name__") (hdb : (x == ("__debug__" : Str)) = false) (hp : plainE a = true) (ha : PE X a (tR X.K fa)) : PE X (.Call (.Name x p) [a] [] pos) (tV X.K (bnd fa fun x => lif (f x))) :=
  (pe_callTy hc hg hm hv (pa_cons ha pa_nil (star_cons hp _)) hn hdb (star_cons hp _) (by rfl)).weak fun σ H Q q => v_read1 hf σ H Q q
def rLen (K : PySem.W.Frag) : List V → Hp → VK → Prop := fun xs H Q => (∃ p ys, xs = [.ref p] ∧ (SqL K H p ys ∨ SqT K H p ys) ∧ Q (.int ys.length) H) ∨ (∃ z, xs = [.str z] ∧ z.length ≤ sizeLine ∧ Q (.int z.length) H) ∨ (∃ a kvs, xs = [V.ref a] ∧ H a = some (.dK kvs) ∧ Q (.int kvs.length) H)
theorem cr_len : CallR X (.builtin "len") (rLen X.K) := call_len_seq.or (call_len_str.or call_lenD)
theorem ov_len (K : PySem.W.Frag) : OpV1 K (fun v => rLen K [v]) (builtin .len) := by
  intro H vx x d G Q r e k
  cases x with
  | lst xs =>
    cases e
    obtain ⟨a, vs, G', rfl, q1, l1, rfl⟩ := r.lst_inv
    exact .inl ⟨a, vs, rfl, .inl (SqL.of q1), by rw [l1.length]; exact k _ _ [] (.int _) List.nodup_nil Step.refl⟩
  | tup xs =>
    cases e
    obtain ⟨a, vs, rfl, q1, l1⟩ := r.tup_inv
    exact .inl ⟨a, vs, rfl, .inr q1, by rw [l1.length]; exact k _ _ [] (.int _) List.nodup_nil Step.refl⟩
  | rls xs =>
    cases e
    obtain ⟨a, vs, rfl, q1, l1⟩ := r.rls_inv
    exact .inl ⟨a, vs, rfl, .inl q1.sq, by rw [l1.length]; exact k _ _ [] (.int _) List.nodup_nil Step.refl⟩
  | str s =>
    cases e
    obtain ⟨z, rfl, rfl, rfl, hz⟩ := r.str_inv
    exact .inr (.inl ⟨z, rfl, hz, by rw [← str_len]; exact k _ _ [] (.int _) List.nodup_nil Step.refl⟩)
  | dic b ks vs =>
    cases e
    cases b with
    | true => exact r.dicN_inv.elim
    | false =>
      obtain ⟨a, kvs, G', rfl, q1, rfl, l1, rfl⟩ := r.dicK_inv
      refine .inr (.inr ⟨a, kvs, rfl, q1, ?_⟩)
      have : ((kvs.map fun p => keyD p.1).length : Int) = kvs.length := by simp
      rw [this] at k
      exact k _ _ [] (.int _) List.nodup_nil Step.refl
  | _ => cases e
def rIntC : List V → Hp → VK → Prop := fun xs H Q => (∃ i, xs = [.int i] ∧ Q (.int i) H) ∨ ∃ k, xs = [.bl k] ∧ Q (.int (if k then 1 else 0)) H
theorem ov_int (K : PySem.W.Frag) : OpV1 K (fun v => rIntC [v]) (builtin .int) := by
  intro H vx x d G Q r e k
  cases x with
  | int i =>
    cases e
    obtain ⟨rfl, rfl⟩ := r.int_inv
    exact .inl ⟨_, rfl, k _ _ [] (.int _) List.nodup_nil Step.refl⟩
  | bl i =>
    cases e
    obtain ⟨rfl, rfl⟩ := r.bl_inv
    exact .inr ⟨_, rfl, k _ _ [] (.int _) List.nodup_nil Step.refl⟩
  | _ => cases e
def rTupC (K : PySem.W.Frag) : List V → Hp → VK → Prop := fun xs H Q => ∃ p ys, xs = [.ref p] ∧ ((SqL K H p ys ∧ ∀ l, H l = none → Q (.ref l) (upd H l (.tup ys))) ∨ (SqT K H p ys ∧ Q (.ref p) H))
theorem ov_tupC (K : PySem.W.Frag) : OpV1 K (fun v => rTupC K [v]) (builtin .tuple) := by
  intro H vx x d G Q r e k
  cases x with
  | lst xs =>
    obtain ⟨hi, e⟩ : D.ims xs = true ∧ some (D.tup xs) = some d := by
      have e' : (if D.ims xs = true then some (D.tup xs) else none) = some d := e
      split at e'
      · exact ⟨by assumption, e'⟩
      · cases e'
    cases e
    obtain ⟨a, vs, G', rfl, q1, l1, rfl⟩ := r.lst_inv
    exact ⟨a, vs, rfl, .inl ⟨SqL.of q1, fun p hp => k _ _ [] (mk_tup hp (l1.free hi)) List.nodup_nil (Step.nil_laid hp)⟩⟩
  | tup xs =>
    obtain ⟨hi, e⟩ : D.ims xs = true ∧ some (D.tup xs) = some d := by
      have e' : (if D.ims xs = true then some (D.tup xs) else none) = some d := e
      split at e'
      · exact ⟨by assumption, e'⟩
      · cases e'
    cases e
    obtain ⟨a, vs, rfl, q1, l1⟩ := r.tup_inv
    exact ⟨a, vs, rfl, .inr ⟨q1, k _ _ [] (.tup q1 (l1.free hi)) List.nodup_nil Step.refl⟩⟩
  | _ => cases e
def rLstC (K : PySem.W.Frag) : List V → Hp → VK → Prop := fun xs H Q => ∃ p ys, xs = [.ref p] ∧ (SqL K H p ys ∨ SqT K H p ys) ∧ ∀ l, H l = none → Q (.ref l) (upd H l (.lst ys))
theorem ov_lstC (K : PySem.W.Frag) : OpV1 K (fun v => rLstC K [v]) (builtin .list) := by
  intro H vx x d G Q r e k
  have ite : ∀ {xs : List D}, (if D.ims xs = true then some (D.lst xs) else none) = some d → D.ims xs = true ∧ d = .lst xs := fun {xs} h => by
    split at h
    · cases h; exact ⟨by assumption, rfl⟩
    · cases h
  cases x with
  | lst xs =>
    obtain ⟨hi, rfl⟩ := ite e
    obtain ⟨a, vs, G', rfl, q1, l1, rfl⟩ := r.lst_inv
    exact ⟨a, vs, rfl, .inl (SqL.of q1), fun p hp => k _ _ [p] (mk_lst hp (l1.free hi)) (by simp) (Step.cons_laid hp)⟩
  | tup xs =>
    obtain ⟨hi, rfl⟩ := ite e
    obtain ⟨a, vs, rfl, q1, l1⟩ := r.tup_inv
    exact ⟨a, vs, rfl, .inr q1, fun p hp => k _ _ [p] (mk_lst hp (l1.free hi)) (by simp) (Step.cons_laid hp)⟩
  | rls xs =>
    obtain ⟨hi, rfl⟩ := ite e
    obtain ⟨a, vs, rfl, q1, l1⟩ := r.rls_inv
    exact ⟨a, vs, rfl, .inl q1.sq, fun p hp => k _ _ [p] (mk_lst hp (l1.free hi)) (by simp) (Step.cons_laid hp)⟩
  | _ => cases e
theorem ov_all (K : PySem.W.Frag) : OpV1 K (fun v => rAll K [v]) (builtin .all) := by
  intro H vx x d G Q r e k
  cases x with
  | lst xs =>
    obtain ⟨bs, e1, rfl⟩ := Option.map_eq_some_iff.mp (show (boolL xs).map (fun bs => D.bl (bs.all id)) = some d from e)
    have := boolL_inv e1
    subst this
    obtain ⟨a, vs, G', rfl, q1, l1, rfl⟩ := r.lst_inv
    have := repL_bools l1
    subst this
    exact ⟨a, bs, rfl, SqL.of q1, k _ _ [] (.bl _) List.nodup_nil Step.refl⟩
  | _ => cases e
theorem ov_any (K : PySem.W.Frag) : OpV1 K (fun v => rAny K [v]) (builtin .any) := by
  intro H vx x d G Q r e k
  cases x with
  | lst xs =>
    obtain ⟨bs, e1, rfl⟩ := Option.map_eq_some_iff.mp (show (boolL xs).map (fun bs => D.bl (bs.any id)) = some d from e)
    have := boolL_inv e1
    subst this
    obtain ⟨a, vs, G', rfl, q1, l1, rfl⟩ := r.lst_inv
    have := repL_bools l1
    subst this
    exact ⟨a, bs, rfl, SqL.of q1, k _ _ [] (.bl _) List.nodup_nil Step.refl⟩
  | _ => cases e
theorem ov_sum (K : PySem.W.Frag) : OpV1 K (fun v => rSum K [v]) (builtin .sum) := by
  intro H vx x d G Q r e k
  cases x with
  | lst xs =>
    obtain ⟨bs, e1, rfl⟩ := Option.map_eq_some_iff.mp (show (intL xs).map (fun bs => D.int bs.sum) = some d from e)
    have := intL_inv e1
    subst this
    obtain ⟨a, vs, G', rfl, q1, l1, rfl⟩ := r.lst_inv
    have := repL_ints l1
    subst this
    exact ⟨a, bs, rfl, SqL.of q1, k _ _ [] (.int _) List.nodup_nil Step.refl⟩
  | _ => cases e
theorem ov_max (K : PySem.W.Frag) : OpV1 K (fun v => rMax K [v]) (builtin .max) := by
  intro H vx x d G Q r e k
  cases x with
  | lst xs =>
    obtain ⟨m, e1, rfl⟩ := Option.map_eq_some_iff.mp (show ((intL xs).bind maxI).map D.int = some d from e)
    obtain ⟨ns, e2, e3⟩ := Option.bind_eq_some_iff.mp e1
    have := intL_inv e2
    subst this
    obtain ⟨a, vs, G', rfl, q1, l1, rfl⟩ := r.lst_inv
    have := repL_ints l1
    subst this
    obtain ⟨h1, h2⟩ := maxI_spec e3
    refine ⟨a, ns, rfl, SqL.of q1, List.length_pos_of_mem h1, fun m' hm hle => ?_⟩
    have : m' = m := Int.le_antisymm (h2 m' hm) (hle m h1)
    subst this
    exact k _ _ [] (.int _) List.nodup_nil Step.refl
  | _ => cases e
theorem ov_min (K : PySem.W.Frag) : OpV1 K (fun v => rMin K [v]) (builtin .min) := by
  intro H vx x d G Q r e k
  cases x with
  | lst xs =>
    obtain ⟨m, e1, rfl⟩ := Option.map_eq_some_iff.mp (show ((intL xs).bind minI).map D.int = some d from e)
    obtain ⟨ns, e2, e3⟩ := Option.bind_eq_some_iff.mp e1
    have := intL_inv e2
    subst this
    obtain ⟨a, vs, G', rfl, q1, l1, rfl⟩ := r.lst_inv
    have := repL_ints l1
    subst this
    obtain ⟨h1, h2⟩ := minI_spec e3
    refine ⟨a, ns, rfl, SqL.of q1, List.length_pos_of_mem h1, fun m' hm hle => ?_⟩
    have : m' = m := Int.le_antisymm (hle m h1) (h2 m' hm)
    subst this
    exact k _ _ [] (.int _) List.nodup_nil Step.refl
  | _ => cases e
theorem ov_abs (K : PySem.W.Frag) : OpV1 K (fun v => (fun xs H Q => ∃ i, xs = [.int i] ∧ Q (.int (if i < 0 then -i else i)) H : List V → Hp → VK → Prop) [v]) (builtin .abs) := by
  intro H vx x d G Q r e k
  cases x with
  | int i =>
    cases e
    obtain ⟨rfl, rfl⟩ := r.int_inv
    exact ⟨_, rfl, k _ _ [] (.int _) List.nodup_nil Step.refl⟩
  | _ => cases e
def biName : Bi → Str
  | .len => "len" | .int => "int" | .tuple => "tuple" | .list => "list" | .all => "all" | .any => "any" | .sum => "sum" | .max => "max" | .min => "min" | .abs => "abs"
theorem v_bi {bi : Bi} {fa : M D} (hc : X.calm = true) (hg : Gl X (biName bi)) (hm : X.mg (biName bi) = none) (hp : plainE a = true) (ha : PE X a (tR X.K fa)) : PE X (.Call (.Name (biName bi) p) [a] [] pos) (tV X.K (bnd fa fun x => lif (builtin bi x))) := by
  cases bi
  · exact v_callB cr_len (ov_len X.K) hg hm boot_len (by decide) (by decide) hp ha
  · exact v_callTy call_int1 (ov_int X.K) hg hm PyProof.Rows.boot_int (by decide) (by decide) hp ha
  · exact v_callTy call_tuple_of (ov_tupC X.K) hg hm PyProof.Rows.boot_tuple (by decide) (by decide) hp ha
  · exact v_callTy call_list_of (ov_lstC X.K) hg hm PyProof.Rows.boot_list (by decide) (by decide) hp ha
  · exact v_callB (cr_all hc) (ov_all X.K) hg hm PyProof.Rows.boot_all (by decide) (by decide) hp ha
  · exact v_callB (cr_any hc) (ov_any X.K) hg hm PyProof.Rows.boot_any (by decide) (by decide) hp ha
  · exact v_callB (cr_sum hc) (ov_sum X.K) hg hm PyProof.Rows.boot_sum (by decide) (by decide) hp ha
  · exact v_callB (cr_max hc) (ov_max X.K) hg hm PyProof.Rows.boot_max (by decide) (by decide) hp ha
  · exact v_callB (cr_min hc) (ov_min X.K) hg hm PyProof.Rows.boot_min (by decide) (by decide) hp ha
  · exact v_callB call_abs (ov_abs X.K) hg hm PyProof.Rows.boot_abs (by decide) (by decide) hp ha
end
end VS

set_option Elab.async false
set_option linter.all false
set_option autoImplicit false
set_option maxRecDepth 100000
set_option maxHeartbeats 1000000
namespace VS
open PySem L2
open M (bnd lif pur)
/-! ### slots by places -/
section
variable {K : PySem.W.Frag} {H : Hp}
theorem RepO.out : ∀ {σ : L2.St} {ρ : Rho} {F : List Addr}, RepO K H σ ρ F → ∃ Fs : List (List Addr), Fs.length = ρ.length ∧ F = Fs.flatten ∧
    (∀ (i : Nat) (d : D), ρ[i]? = some (some d) → ∃ v G, σ[i]? = some (some v) ∧ Fs[i]? = some G ∧ Rep K H v d G) ∧ ∀ i : Nat, ρ[i]? = some none → Fs[i]? = some []
  | _, _, _, .nil => ⟨[], rfl, rfl, fun i d e => by simp at e, fun i e => by simp at e⟩
  | _, _, _, .non t => by
    obtain ⟨Fs, h1, h2, h3, h4⟩ := RepO.out t
    refine ⟨[] :: Fs, by simp [h1], by simp [h2], fun i d e => ?_, fun i e => ?_⟩
    · cases i with
      | zero => simp at e
      | succ i => simpa using h3 i d (by simpa using e)
    · cases i with
      | zero => rfl
      | succ i => simpa using h4 i (by simpa using e)
  | _, _, _, .som (G := G) r t => by
    obtain ⟨Fs, h1, h2, h3, h4⟩ := RepO.out t
    refine ⟨G :: Fs, by simp [h1], by simp [h2], fun i d e => ?_, fun i e => ?_⟩
    · cases i with
      | zero => simp at e; subst e; exact ⟨_, G, rfl, rfl, r⟩
      | succ i => simpa using h3 i d (by simpa using e)
    · cases i with
      | zero => simp at e
      | succ i => simpa using h4 i (by simpa using e)
theorem RepO.mk : ∀ {σ : L2.St} {ρ : Rho} {Fs : List (List Addr)}, σ.length = ρ.length → Fs.length = ρ.length →
    (∀ (i : Nat) (d : D), ρ[i]? = some (some d) → ∃ v G, σ[i]? = some (some v) ∧ Fs[i]? = some G ∧ Rep K H v d G) → (∀ i : Nat, ρ[i]? = some none → Fs[i]? = some []) → RepO K H σ ρ Fs.flatten
  | [], [], [], _, _, _, _ => .nil
  | [], [], _ :: _, _, h, _, _ => by simp at h
  | [], _ :: _, _, h, _, _, _ => by simp at h
  | _ :: _, [], _, h, _, _, _ => by simp at h
  | _ :: _, _ :: _, [], _, h, _, _ => by simp at h
  | s :: σ, none :: ρ, G :: Fs, h, h', h1, h2 => by
    have : G = [] := by simpa using h2 0 rfl
    subst this
    have ih : RepO K H σ ρ Fs.flatten := RepO.mk (by simpa using h) (by simpa using h') (fun i d e => by simpa using h1 (i + 1) d (by simpa using e)) fun i e => by simpa using h2 (i + 1) (by simpa using e)
    exact .non ih
  | s :: σ, some d :: ρ, G :: Fs, h, h', h1, h2 => by
    obtain ⟨v, G', e1, e2, r⟩ := h1 0 d rfl
    simp at e1 e2
    subst e1 e2
    exact .som r (RepO.mk (by simpa using h) (by simpa using h') (fun i d e => by simpa using h1 (i + 1) d (by simpa using e)) fun i e => by simpa using h2 (i + 1) (by simpa using e))
theorem wipe_get (σ : L2.St) (i : Nat) : ∀ vs : List Nat, (wipe σ vs)[i]? = if i ∈ vs then σ[i]?.map (fun _ => none) else σ[i]?
  | [] => by simp [wipe]
  | v :: vs => by
    unfold wipe
    by_cases e : v = i
    · subst e
      rw [if_pos List.mem_cons_self]
      by_cases hl : v < (wipe σ vs).length
      · have hl' : v < σ.length := by rw [← wipe_length σ vs]; exact hl
        rw [List.getElem?_set_self hl, List.getElem?_eq_getElem hl']
        rfl
      · have hl' : σ.length ≤ v := by rw [← wipe_length σ vs]; omega
        rw [List.getElem?_eq_none (by simpa using hl), List.getElem?_eq_none hl']
        rfl
    · rw [List.getElem?_set_ne e, wipe_get σ i vs]
      have : (i ∈ v :: vs) ↔ i ∈ vs := ⟨fun z => (List.mem_cons.mp z).resolve_left fun q => e q.symm, List.mem_cons_of_mem _⟩
      by_cases h : i ∈ vs
      · rw [if_pos h, if_pos (this.mpr h)]
      · rw [if_neg h, if_neg fun z => h (this.mp z)]
theorem wipeS_length (ρ : Rho) : ∀ vs : List Nat, (wipeS ρ vs).length = ρ.length
  | [] => rfl
  | v :: vs => by unfold wipeS; rw [List.length_set, wipeS_length ρ vs]
theorem wipeS_get (σ : Rho) (i : Nat) : ∀ vs : List Nat, (wipeS σ vs)[i]? = if i ∈ vs then σ[i]?.map (fun _ => none) else σ[i]?
  | [] => by simp [wipeS]
  | v :: vs => by
    unfold wipeS
    by_cases e : v = i
    · subst e
      rw [if_pos List.mem_cons_self]
      by_cases hl : v < (wipeS σ vs).length
      · have hl' : v < σ.length := by rw [← wipeS_length σ vs]; exact hl
        rw [List.getElem?_set_self hl, List.getElem?_eq_getElem hl']
        rfl
      · have hl' : σ.length ≤ v := by rw [← wipeS_length σ vs]; omega
        rw [List.getElem?_eq_none (by simpa using hl), List.getElem?_eq_none hl']
        rfl
    · rw [List.getElem?_set_ne e, wipeS_get σ i vs]
      have : (i ∈ v :: vs) ↔ i ∈ vs := ⟨fun z => (List.mem_cons.mp z).resolve_left fun q => e q.symm, List.mem_cons_of_mem _⟩
      by_cases h : i ∈ vs
      · rw [if_pos h, if_pos (this.mpr h)]
      · rw [if_neg h, if_neg fun z => h (this.mp z)]
/-- the slots out of vs stay -/
def KeepS (vs : List Nat) (σ σ' : L2.St) : Prop := σ'.length = σ.length ∧ ∀ i, i ∉ vs → σ'[i]? = σ[i]?
theorem KeepS.refl (vs : List Nat) (σ : L2.St) : KeepS vs σ σ := ⟨rfl, fun _ _ => rfl⟩
theorem KeepS.trans {vs : List Nat} {a b c : L2.St} (h : KeepS vs a b) (h' : KeepS vs b c) : KeepS vs a c := ⟨h'.1.trans h.1, fun i hi => (h'.2 i hi).trans (h.2 i hi)⟩
theorem KeepS.mono {vs ws : List Nat} {a b : L2.St} (h : KeepS vs a b) (hs : ∀ i ∈ vs, i ∈ ws) : KeepS ws a b := ⟨h.1, fun i hi => h.2 i fun z => hi (hs i z)⟩
theorem KeepS.set {vs : List Nat} {σ : L2.St} {i : Nat} {o : Option V} (h : i ∈ vs) : KeepS vs σ (σ.set i o) := ⟨by simp, fun j hj => by rw [List.getElem?_set_ne fun z => hj (by rw [← z]; exact h)]⟩
theorem KeepS.wipe {vs : List Nat} {σ σ' : L2.St} (h : KeepS vs σ σ') : L2.wipe σ' vs = L2.wipe σ vs := by
  apply List.ext_getElem?
  intro i
  rw [wipe_get, wipe_get]
  by_cases hi : i ∈ vs
  · rw [if_pos hi, if_pos hi]
    by_cases hl : i < σ.length
    · rw [List.getElem?_eq_getElem hl, List.getElem?_eq_getElem (by rw [h.1]; exact hl)]
      rfl
    · have h1 := h.1
      rw [List.getElem?_eq_none (by omega), List.getElem?_eq_none (by omega)]
  · rw [if_neg hi, if_neg hi, h.2 i hi]
theorem wipe_wipe (σ : L2.St) (vs : List Nat) : L2.wipe (L2.wipe σ vs) vs = L2.wipe σ vs := by
  apply List.ext_getElem?
  intro i
  rw [wipe_get, wipe_get]
  by_cases hi : i ∈ vs
  · rw [if_pos hi, if_pos hi]; cases σ[i]? <;> rfl
  · rw [if_neg hi, if_neg hi]
theorem wipeS_wipeS (σ : Rho) (vs : List Nat) : wipeS (wipeS σ vs) vs = wipeS σ vs := by
  apply List.ext_getElem?
  intro i
  rw [wipeS_get, wipeS_get]
  by_cases hi : i ∈ vs
  · rw [if_pos hi, if_pos hi]; cases σ[i]? <;> rfl
  · rw [if_neg hi, if_neg hi]
theorem flat_sub : ∀ {Fs Gs : List (List Addr)}, (∀ (i : Nat) (G : List Addr), Gs[i]? = some G → G = [] ∨ Fs[i]? = some G) → Gs.length = Fs.length → Gs.flatten.Sublist Fs.flatten
  | [], [], _, _ => .refl _
  | [], _ :: _, _, h => by simp at h
  | _ :: _, [], _, h => by simp at h
  | F :: Fs, G :: Gs, h, hl => by
    rw [List.flatten_cons, List.flatten_cons]
    refine List.Sublist.append ?_ (flat_sub (fun i G e => by simpa using h (i + 1) G (by simpa using e)) (by simpa using hl))
    rcases h 0 G rfl with e | e
    · rw [e]; exact List.nil_sublist _
    · simp at e; rw [e]; exact .refl _
theorem RepO.wiped {σ : L2.St} {ρ : Rho} {F : List Addr} (r : RepO K H σ ρ F) (vs : List Nat) : ∃ F', RepO K H (L2.wipe σ vs) (wipeS ρ vs) F' ∧ F'.Sublist F := by
  obtain ⟨Fs, h1, h2, h3, h4⟩ := r.out
  subst h2
  have key : ∀ i : Nat, (Fs.mapIdx fun i G => if i ∈ vs then [] else G)[i]? = Fs[i]?.map fun G => if i ∈ vs then [] else G := fun i => by rw [List.getElem?_mapIdx]
  refine ⟨(Fs.mapIdx fun i G => if i ∈ vs then [] else G).flatten, RepO.mk (by rw [wipe_length, wipeS_length]; exact r.length) (by rw [List.length_mapIdx, wipeS_length]; exact h1) (fun i d e => ?_) (fun i e => ?_), flat_sub (fun i G e => ?_) (by rw [List.length_mapIdx])⟩
  · rw [wipeS_get] at e
    by_cases hi : i ∈ vs
    · rw [if_pos hi] at e
      cases q : ρ[i]? <;> rw [q] at e <;> cases e
    · rw [if_neg hi] at e
      obtain ⟨v, G, a, b, c⟩ := h3 i d e
      exact ⟨v, G, by rw [wipe_get, if_neg hi]; exact a, by rw [key, b, Option.map_some, if_neg hi], c⟩
  · rw [wipeS_get] at e
    by_cases hi : i ∈ vs
    · rw [if_pos hi] at e
      have hl : i < Fs.length := by
        rw [h1]
        cases q : ρ[i]? with
        | none => rw [q] at e; cases e
        | some o => exact (List.getElem?_eq_some_iff.mp q).1
      rw [key, List.getElem?_eq_getElem hl, Option.map_some, if_pos hi]
    · rw [if_neg hi] at e
      rw [key, h4 i e, Option.map_some, if_neg hi]
  · rw [key] at e
    cases q : Fs[i]? with
    | none => rw [q] at e; cases e
    | some G' =>
      rw [q, Option.map_some] at e
      by_cases hi : i ∈ vs
      · rw [if_pos hi] at e; injection e with e; exact .inl e.symm
      · rw [if_neg hi] at e; exact .inr e
theorem backS_length (ρ0 ρ : Rho) : ∀ vs : List Nat, (backS ρ0 ρ vs).length = ρ.length
  | [] => rfl
  | v :: vs => by
    unfold backS
    split
    · rw [List.length_set, backS_length ρ0 ρ vs]
    · exact backS_length ρ0 ρ vs
theorem backS_get (ρ0 ρ : Rho) (hl : ρ0.length = ρ.length) (i : Nat) : ∀ vs : List Nat, (backS ρ0 ρ vs)[i]? = if i ∈ vs then ρ0[i]? else ρ[i]?
  | [] => by simp [backS]
  | v :: vs => by
    unfold backS
    by_cases e : v = i
    · subst e
      rw [if_pos List.mem_cons_self]
      split
      · rename_i o ho
        have : v < (backS ρ0 ρ vs).length := by rw [backS_length, ← hl]; exact (List.getElem?_eq_some_iff.mp ho).1
        rw [List.getElem?_set_self this, ho]
      · rename_i ho
        have : ρ.length ≤ v := by rw [← hl]; exact List.getElem?_eq_none_iff.mp ho
        rw [ho, List.getElem?_eq_none (by rw [backS_length]; exact this)]
    · have hm : (i ∈ v :: vs) ↔ i ∈ vs := ⟨fun z => (List.mem_cons.mp z).resolve_left fun q => e q.symm, List.mem_cons_of_mem _⟩
      have ih := backS_get ρ0 ρ hl i vs
      split
      · rw [List.getElem?_set_ne e, ih]
        by_cases h : i ∈ vs
        · rw [if_pos h, if_pos (hm.mpr h)]
        · rw [if_neg h, if_neg fun z => h (hm.mp z)]
      · rw [ih]
        by_cases h : i ∈ vs
        · rw [if_pos h, if_pos (hm.mpr h)]
        · rw [if_neg h, if_neg fun z => h (hm.mp z)]
theorem wipeB_length (ρ : Rho) : ∀ vs : List Nat, (wipeB ρ vs).length = ρ.length
  | [] => rfl
  | v :: vs => by
    unfold wipeB
    split
    · split
      · exact wipeB_length ρ vs
      · rw [List.length_set, wipeB_length ρ vs]
    · exact wipeB_length ρ vs
/-- what is kept for behind the block is free -/
theorem wipeB_get (ρ : Rho) (i : Nat) (d : D) : ∀ vs : List Nat, (wipeB ρ vs)[i]? = some (some d) → ρ[i]? = some (some d) ∧ (i ∈ vs → D.im d = true)
  | [], h => ⟨h, fun z => nomatch z⟩
  | v :: vs, h => by
    unfold wipeB at h
    split at h
    · rename_i d' e'
      split at h
      · rename_i hi'
        obtain ⟨a, b⟩ := wipeB_get ρ i d vs h
        refine ⟨a, fun z => ?_⟩
        rcases List.mem_cons.mp z with rfl | z
        · rw [e'] at a; cases a; exact hi'
        · exact b z
      · by_cases e : v = i
        · subst e
          by_cases hl : v < (wipeB ρ vs).length
          · rw [List.getElem?_set_self hl] at h; cases h
          · rw [List.getElem?_eq_none (by simpa using hl)] at h; cases h
        · rw [List.getElem?_set_ne e] at h
          obtain ⟨a, b⟩ := wipeB_get ρ i d vs h
          exact ⟨a, fun z => (List.mem_cons.mp z).elim (fun q => absurd q.symm e) b⟩
    · rename_i hne
      obtain ⟨a, b⟩ := wipeB_get ρ i d vs h
      refine ⟨a, fun z => ?_⟩
      rcases List.mem_cons.mp z with rfl | z
      · exact absurd a (hne d)
      · exact b z
/-- behind a block -/
theorem RepO.back {σ : L2.St} {ρ0 ρ : Rho} {F : List Addr} {vs : List Nat} (r : RepO K H (L2.wipe σ vs) (wipeS ρ vs) F) (hl : ρ0.length = ρ.length)
    (h0 : ∀ i ∈ vs, ∀ d, ρ0[i]? = some (some d) → ∃ v, σ[i]? = some (some v) ∧ Rep K H v d []) : RepO K H σ (backS ρ0 ρ vs) F := by
  obtain ⟨Fs, h1, h2, h3, h4⟩ := r.out
  subst h2
  have hσ : σ.length = ρ.length := by
    have := r.length
    rwa [wipe_length, wipeS_length] at this
  have nil : ∀ i ∈ vs, i < ρ.length → Fs[i]? = some [] := fun i hi hlt => h4 i (by rw [wipeS_get, if_pos hi, List.getElem?_eq_getElem hlt]; rfl)
  refine RepO.mk (by rw [backS_length]; exact hσ) (by rw [backS_length, h1, wipeS_length]) (fun i d e => ?_) (fun i e => ?_)
  · rw [backS_get _ _ hl] at e
    by_cases hi : i ∈ vs
    · rw [if_pos hi] at e
      obtain ⟨v, a, b⟩ := h0 i hi d e
      exact ⟨v, [], a, nil i hi (by rw [← hl]; exact (List.getElem?_eq_some_iff.mp e).1), b⟩
    · rw [if_neg hi] at e
      obtain ⟨v, G, a, b, c⟩ := h3 i d (by rw [wipeS_get, if_neg hi]; exact e)
      exact ⟨v, G, by rw [wipe_get, if_neg hi] at a; exact a, b, c⟩
  · rw [backS_get _ _ hl] at e
    by_cases hi : i ∈ vs
    · rw [if_pos hi] at e
      exact nil i hi (by rw [← hl]; exact (List.getElem?_eq_some_iff.mp e).1)
    · rw [if_neg hi] at e
      exact h4 i (by rw [wipeS_get, if_neg hi]; exact e)
end
end VS

set_option Elab.async false
set_option linter.all false
set_option autoImplicit false
set_option maxRecDepth 100000
set_option maxHeartbeats 1000000
namespace VS
open PySem L2
open M (bnd lif pur)
/-! ### targets -/
section
variable {K : PySem.W.Frag}
/-- a target's reading: what is stored is free -/
def tG (K : PySem.W.Frag) (t : Tg) : TG := fun v σ H Q => ∃ d ρ F ρ', Rep K H v d [] ∧ RepO K H σ ρ F ∧ F.Nodup ∧ setT t d ρ = some ((), ρ') ∧
  ∀ σ' F', RepO K H σ' ρ' F' → F'.Nodup → (∀ a ∈ F', a ∈ F) → KeepS t.slots σ σ' → Q σ' H
def tGs (K : PySem.W.Frag) (is : List Nat) : TGs := fun vs σ H Q => ∃ ds ρ F ρ', RepL K H vs ds [] ∧ RepO K H σ ρ F ∧ F.Nodup ∧ setMany is ds ρ = some ((), ρ') ∧
  ∀ σ' F', RepO K H σ' ρ' F' → F'.Nodup → (∀ a ∈ F', a ∈ F) → KeepS is σ σ' → Q σ' H
end
theorem _root_.L2.PG.weak {X : Cx} {e : Expr} {t t' : TG} (h : PG X e t) (w : ∀ v σ H Q, t' v σ H Q → t v σ H Q) : PG X e t' := ⟨fun pins s σ H v u Q I r q => h.run pins s σ H v u Q I r (w v σ H Q q)⟩
theorem _root_.L2.PGs.weak {X : Cx} {e : List Expr} {t t' : TGs} (h : PGs X e t) (w : ∀ v σ H Q, t' v σ H Q → t v σ H Q) : PGs X e t' := ⟨fun pins s σ H v u Q I r q => h.run pins s σ H v u Q I r (w v σ H Q q)⟩
section
variable {X : Cx}
theorem g_one {i : Nat} {e : Expr} (h : PG X e (gName i)) : PG X e (tG X.K (.one i)) := h.weak fun v σ H Q q => by
  obtain ⟨d, ρ, F, ρ', r, R, nd, h, k⟩ := q
  obtain ⟨hl, rfl⟩ := setS_some h
  obtain ⟨F', a1, a2, a3⟩ := R.set r (by simpa using nd) hl
  exact k _ F' a1 a2 (fun a ha => by simpa using a3 a ha) (KeepS.set (by simp [Tg.slots]))
theorem gs_nil : PGs X [] (tGs X.K []) := pgs_nil.weak fun vs σ H Q q => by
  obtain ⟨ds, ρ, F, ρ', r, R, nd, h, k⟩ := q
  cases ds with
  | cons d ds => simp [setMany] at h
  | nil =>
    cases r
    cases h
    exact ⟨rfl, k σ F R nd (fun _ z => z) (KeepS.refl _ _)⟩
theorem repL_nil_cons {K : PySem.W.Frag} {H : Hp} {vs : List V} {d : D} {ds : List D} (r : RepL K H vs (d :: ds) []) : ∃ v ws, vs = v :: ws ∧ Rep K H v d [] ∧ RepL K H ws ds [] := by
  obtain ⟨v, ws, G1, G2, rfl, e, a, b⟩ := r.uncons
  obtain ⟨rfl, rfl⟩ := List.append_eq_nil_iff.mp e.symm
  exact ⟨v, ws, rfl, a, b⟩
theorem gs_cons {i : Nat} {is : List Nat} {e : Expr} {es : List Expr} (h1 : PG X e (gName i)) (h2 : PGs X es (tGs X.K is)) (hs : (assignEach (e :: es) X.env).map (·.2) = assign e X.env :: (assignEach es X.env).map (·.2)) : PGs X (e :: es) (tGs X.K (i :: is)) :=
  (pgs_cons (g_one h1) h2 hs).weak fun vs σ H Q q => by
    obtain ⟨ds, ρ, F, ρ', r, R, nd, h, k⟩ := q
    cases ds with
    | nil => simp [setMany] at h
    | cons d ds =>
      obtain ⟨v, ws, rfl, a, b⟩ := repL_nil_cons r
      obtain ⟨u, ρ1, h1, h⟩ := bnd_some h
      refine ⟨v, ws, rfl, d, ρ, F, ρ1, a, R, nd, h1, fun σ1 F1 R1 nd1 sb1 kp1 => ⟨ds, ρ1, F1, ρ', b, R1, nd1, h, fun σ2 F2 R2 nd2 sb2 kp2 => ?_⟩⟩
      refine k σ2 F2 R2 nd2 (fun x hx => sb1 x (sb2 x hx)) ((kp1.mono fun j hj => ?_).trans (kp2.mono fun j hj => List.mem_cons_of_mem _ hj))
      simp only [Tg.slots, List.mem_singleton] at hj
      rw [hj]
      exact List.mem_cons_self
theorem setMany_len : ∀ {is : List Nat} {ds : List D} {ρ : Rho} {r : Unit × Rho}, setMany is ds ρ = some r → ds.length = is.length
  | [], [], _, _, _ => rfl
  | [], _ :: _, _, _, h => by simp [setMany] at h
  | _ :: _, [], _, _, h => by simp [setMany] at h
  | i :: is, d :: ds, ρ, r, h => by
    obtain ⟨u, ρ1, h1, h⟩ := bnd_some (show bnd (setS i d) (fun _ => setMany is ds) ρ = some (r.1, r.2) from h)
    simp [setMany_len h]
theorem g_many {is : List Nat} {es : List Expr} {k : Nat} {pos : Pos} (hc : X.calm = true) (h : PGs X es (tGs X.K is)) (hn : (assignEach es X.env).length = is.length) (hst : (assignEach es X.env).findIdx? (·.1) = none) : PG X (.Tuple es k pos) (tG X.K (.many is)) :=
  (pg_tup hc h hn hst).weak fun v σ H Q q => by
    obtain ⟨d, ρ, F, ρ', r, R, nd, h, k⟩ := q
    unfold setT at h
    cases d with
    | tup xs =>
      obtain ⟨a, vs, rfl, q1, l1⟩ := r.tup_inv
      exact ⟨a, vs, rfl, q1, by rw [l1.length]; exact setMany_len h, xs, ρ, F, ρ', l1, R, nd, h, k⟩
    | _ => simp at h
/-! ### what is walked -/
/-- the i-th item, in a heap that has at least what was there -/
def YD (K : PySem.W.Frag) (ds : List D) : Nat → Hp → V → Hp → Prop := fun i H x H' => (∀ d, ds[i]? = some d → Rep K H' x d []) ∧ ∀ b o, H b = some o → H' b = some o
/-- what keeps the source: its own objects at Z, or the slot that it stands in -/
def Hold (K : PySem.W.Frag) (it : It) (σ : L2.St) (d : D) (Z : List Addr) (G : Hp → Prop) : Prop :=
  (∀ H1 H2, G H1 → (∀ b o, H1 b = some o → H2 b = some o) → G H2) ∧ ((∀ H1 H2, G H1 → (∀ b o, H1 b = some o → ¬ Muty o → H2 b = some o) → (∀ a ∈ Z, ∀ o, H1 a = some o → H2 a = some o) → G H2) ∨
  ∃ j v, it = .seq (.var j) ∧ σ[j]? = some (some v) ∧ ∀ H2 Zd, Rep K H2 v d Zd → G H2)
theorem Hold.own {K : PySem.W.Frag} {it : It} {σ : L2.St} {d : D} {Z : List Addr} {G : Hp → Prop} (h : ∀ H1 H2, G H1 → (∀ b o, H1 b = some o → ¬ Muty o → H2 b = some o) → (∀ a ∈ Z, ∀ o, H1 a = some o → H2 a = some o) → G H2) : Hold K it σ d Z G :=
  ⟨fun H1 H2 g k => h H1 H2 g (fun b o e _ => k b o e) fun a _ o e => k a o e, .inl h⟩
def tI (K : PySem.W.Frag) (it : It) (f : M (D × List D)) : TI := fun σ H R => ∃ ρ F d ds ρ', RepO K H σ ρ F ∧ F.Nodup ∧ f ρ = some ((d, ds), ρ') ∧
  ∀ J G H' F' Z, RepO K H' σ ρ' F' → (F' ++ Z).Nodup → MutAt H' Z → Step F (F' ++ Z) H H' → Walk J ds.length G (YD K ds) → G H' → Hold K it σ d Z G → R J H'
def iSeq (K : PySem.W.Frag) (tl : TE) : TI := fun σ H R => tl σ H fun x H1 => (∃ a, x = .ref a ∧ (∃ xs, SqL K H1 a xs) ∧ R (Itl K a) H1) ∨ (∃ a, x = .ref a ∧ (∃ xs, SqT K H1 a xs) ∧ R (Itt K a) H1)
theorem pi_seq {tg l : Expr} {tl : TE} (hl : PE X l tl) : PI X tg l (iSeq X.K tl) := by
  refine ⟨fun pins s σ H R I h => ?_⟩
  refine thn (hl.run pins s σ H _ I h) fun v s1 ⟨x, H1, I1, r1, q1⟩ => ?_
  rcases q1 with ⟨a, e, ⟨xs, hq⟩, q⟩ | ⟨a, e, ⟨xs, hq⟩, q⟩
  · subst e
    cases r1
    obtain ⟨its, rv, p, hz⟩ := I1.list hq
    refine wpAny_pyIter_list p.isList ?_
    refine ⟨s1.heap.objs.size, [s1.heap.objs.size], _, _, H1, rfl, I1.kept (t' := s1.toks) fun b o e => Heap.get?_push_of_some _ e, turn_list a _, ⟨_, Heap.get?_push_size _ rfl, rfl, rfl⟩, fun b hb => ?_, q⟩
    have e : b = s1.heap.objs.size := by simpa using hb
    subst e
    exact I1.fpOk (Nat.le_refl _) (I1.hok.fresh (Nat.le_refl _))
  · subst e
    cases r1
    obtain ⟨its, rv, p, hz⟩ := I1.tuple hq
    refine wpAny_pyIter_tuple (show s1.heap.IsTuple a its.toArray from p) ?_
    refine ⟨s1.heap.objs.size, [s1.heap.objs.size], _, _, H1, rfl, I1.kept (t' := s1.toks) fun b o e => Heap.get?_push_of_some _ e, turn_tuple a _, ⟨_, Heap.get?_push_size _ rfl, rfl, rfl⟩, fun b hb => ?_, q⟩
    have e : b = s1.heap.objs.size := by simpa using hb
    subst e
    exact I1.fpOk (Nat.le_refl _) (I1.hok.fresh (Nat.le_refl _))
theorem walkL {K : PySem.W.Frag} {a : Addr} {ds : List D} : Walk (Itl K a) ds.length (fun H => ∃ vs, SqL K H a vs ∧ RepL K H vs ds []) (YD K ds) := by
  refine ⟨fun i H hi ⟨vs, q, r⟩ => ⟨vs, vs[i]'(by rw [r.length]; exact hi), q, by simp⟩, fun H ⟨vs, q, r⟩ => ⟨vs, q, by rw [r.length]; exact Nat.le_refl _⟩, fun i H x H' hi ⟨vs, q, r⟩ y => ?_⟩
  obtain ⟨rfl, y⟩ := y
  refine ⟨fun d e => ?_, fun _ _ z => z⟩
  obtain ⟨v, e1, e2⟩ := r.getN e
  rw [y vs q] at e1; cases e1
  exact e2
theorem walkT {K : PySem.W.Frag} {a : Addr} {ds : List D} : Walk (Itt K a) ds.length (fun H => ∃ vs, SqT K H a vs ∧ RepL K H vs ds []) (YD K ds) := by
  refine ⟨fun i H hi ⟨vs, q, r⟩ => ⟨vs, vs[i]'(by rw [r.length]; exact hi), q, by simp⟩, fun H ⟨vs, q, r⟩ => ⟨vs, q, by rw [r.length]; exact Nat.le_refl _⟩, fun i H x H' hi ⟨vs, q, r⟩ y => ?_⟩
  obtain ⟨rfl, y⟩ := y
  refine ⟨fun d e => ?_, fun _ _ z => z⟩
  obtain ⟨v, e1, e2⟩ := r.getN e
  rw [y vs q] at e1; cases e1
  exact e2
theorem itemsIm_inv {d : D} {p : D × List D} (h : itemsIm d = some p) : ∃ ds, p = (d, ds) ∧ items d = some ds ∧ D.ims ds = true := by
  unfold itemsIm at h
  split at h
  · split at h
    · cases h; exact ⟨_, rfl, by assumption, by assumption⟩
    · cases h
  · cases h
theorem gl_keep {K : PySem.W.Frag} {a : Addr} {ds : List D} {Z : List Addr} (hZ : a ∈ Z) {H1 H2 : Hp} (g : ∃ vs, H1 a = some (.lst vs) ∧ RepL K H1 vs ds []) (k : ∀ b o, H1 b = some o → ¬ Muty o → H2 b = some o) (kz : ∀ a ∈ Z, ∀ o, H1 a = some o → H2 a = some o) : ∃ vs, H2 a = some (.lst vs) ∧ RepL K H2 vs ds [] := by
  obtain ⟨vs, q, r⟩ := g
  exact ⟨vs, kz a hZ _ q, r.keep k fun _ z => nomatch z⟩
theorem walkL' {K : PySem.W.Frag} {a : Addr} {ds : List D} : Walk (Itl K a) ds.length (fun H => ∃ vs, H a = some (.lst vs) ∧ RepL K H vs ds []) (YD K ds) := walkL.mono (fun H ⟨vs, q, r⟩ => ⟨vs, SqL.of q, r⟩) fun _ _ _ _ _ _ y => y
theorem walkR {K : PySem.W.Frag} {a : Addr} {ds : List D} : Walk (Itl K a) ds.length (fun H => ∃ vs, RdL K H a vs ∧ RepL K H vs ds []) (YD K ds) := walkL.mono (fun H ⟨vs, q, r⟩ => ⟨vs, q.sq, r⟩) fun _ _ _ _ _ _ y => y
theorem src_imm {K : PySem.W.Frag} {H : Hp} {v : V} {d : D} {ds : List D} {G0 Z : List Addr} {it : It} {σ : L2.St} {R : L2.It → Hp → Prop} (q : Rep K H v d G0) (e : items d = some ds) (hi : D.ims ds = true) (him : D.im d = true)
    (k : ∀ (J : L2.It) (G : Hp → Prop), Walk J ds.length G (YD K ds) → G H → Hold K it σ d Z G → R J H) : iSeq K (tC v) σ H R := by
  cases d with
  | lst xs => simp [D.im] at him
  | rls xs =>
    cases e
    obtain ⟨a, vs, rfl, q1, l1⟩ := q.rls_inv
    refine .inl ⟨a, rfl, ⟨vs, q1.sq⟩, k _ _ walkR ⟨vs, q1, l1.free hi⟩ (.own fun H1 H2 ⟨ws, a1, a2⟩ kk _ => ⟨ws, rdL_keep kk a1, a2.keep kk fun _ z => nomatch z⟩)⟩
  | tup xs =>
    cases e
    obtain ⟨a, vs, rfl, q1, l1⟩ := q.tup_inv
    exact .inr ⟨a, rfl, ⟨vs, q1⟩, k _ _ walkT ⟨vs, q1, l1.free hi⟩ (.own fun H1 H2 ⟨ws, a1, a2⟩ kk _ => ⟨ws, sqT_keep kk a1, a2.keep kk fun _ z => nomatch z⟩)⟩
  | _ => cases e
theorem v_seq {tg a : Expr} {e : E} {fa : M D} (ha : Rcv X e a fa) : PI X tg a (tI X.K (.seq e) (bnd (rd e fa) fun d => lif (itemsIm d))) := by
  rcases ha with ⟨j, rfl, h⟩ | ⟨hn, h⟩
  · refine (pi_seq h).weak fun σ H R q => ?_
    obtain ⟨ρ, F, d, ds, ρ', R0, nd, h, k⟩ := q
    obtain ⟨d1, ρ1, h1, h⟩ := bnd_some h
    obtain ⟨h2, rfl⟩ := lif_some h
    obtain ⟨e1, rfl⟩ := look_some (show look j ρ = some (d1, ρ') from h1)
    obtain ⟨ds', e2, e3, hi⟩ := itemsIm_inv h2
    cases e2
    obtain ⟨v, G0, ev, qv, _, _⟩ := R0.get e1
    refine ⟨v, ev, ?_⟩
    by_cases him : D.im d = true
    · exact src_imm (Z := []) qv e3 hi him fun J G w g hold => k J G H F [] R0 (by simpa using nd) (fun _ z => nomatch z) (by rw [List.append_nil]; exact Step.refl) w g hold
    · cases d with
      | lst xs =>
        cases e3
        obtain ⟨a', vs, G', rfl, q1, l1, rfl⟩ := qv.lst_inv
        refine .inl ⟨a', rfl, ⟨vs, SqL.of q1⟩, k _ _ H F [] R0 (by simpa using nd) (fun _ z => nomatch z) (by rw [List.append_nil]; exact Step.refl) walkL' ⟨vs, q1, l1.free hi⟩ ⟨fun H1 H2 ⟨ws, a1, a2⟩ kk => ⟨ws, kk _ _ a1, a2.keep (fun b o e _ => kk b o e) fun a _ o e => kk a o e⟩, .inr ⟨j, _, rfl, ev, fun H2 Zd r => ?_⟩⟩⟩
        obtain ⟨a2, ws, G2, ea, q2, l2, rfl⟩ := r.lst_inv
        cases ea
        exact ⟨ws, q2, l2.free hi⟩
      | tup xs => cases e3; exact absurd (by simpa [D.im] using hi) him
      | rls xs => cases e3; exact absurd (by simpa [D.im] using hi) him
      | _ => cases e3
  · refine (pi_seq h).weak fun σ H R q => ?_
    obtain ⟨ρ, F, d, ds, ρ', R0, nd, h, k⟩ := q
    obtain ⟨d1, ρ1, h1, h⟩ := bnd_some h
    obtain ⟨h2, rfl⟩ := lif_some h
    obtain ⟨ds', e2, e3, hi⟩ := itemsIm_inv h2
    cases e2
    have h1' : fa ρ = some (d, ρ') := by
      unfold rd at h1
      split at h1
      · exact absurd rfl (hn _)
      · exact h1
    refine ⟨ρ, F, d, ρ', R0, nd, h1', fun v1 H1 F1 G1 R1 q1 nd1 st1 => ?_⟩
    by_cases him : D.im d = true
    · have := q1.im him
      subst this
      exact src_imm (Z := []) (σ := σ) q1 e3 hi him fun J G w g hold => k J G H1 F1 [] R1 nd1 (fun _ z => nomatch z) st1 w g hold
    · cases d with
      | lst xs =>
        cases e3
        obtain ⟨a', vs, G', rfl, q1', l1, rfl⟩ := q1.lst_inv
        have := l1.im hi
        subst this
        exact .inl ⟨a', rfl, ⟨vs, SqL.of q1'⟩, k _ _ H1 F1 [a'] R1 nd1 q1.muty st1 walkL' ⟨vs, q1', l1⟩ (.own fun H2 H3 g kk kz => gl_keep (List.mem_singleton.mpr rfl) g kk kz)⟩
      | tup xs => cases e3; exact absurd (by simpa [D.im] using hi) him
      | rls xs => cases e3; exact absurd (by simpa [D.im] using hi) him
      | _ => cases e3
theorem rangeD_get {lo hi : Int} {i : Nat} {d : D} (h : (rangeD lo hi)[i]? = some d) : d = .int (lo + (i : Nat)) := by
  unfold rangeD at h
  rw [List.getElem?_map] at h
  cases q : (List.range (hi - lo).toNat)[i]? with
  | none => rw [q] at h; cases h
  | some j =>
    rw [q] at h
    have e := (List.getElem?_eq_some_iff.mp q).2
    rw [List.getElem_range] at e
    subst e
    exact (Option.some.inj h).symm
theorem rangeD_len (lo hi : Int) : (rangeD lo hi).length = (hi - lo).toNat := by unfold rangeD; rw [List.length_map, List.length_range]
theorem rgI_inv {ds : List D} {p : Int × Int} (h : rgI ds = some p) : (∃ j, ds = [.int j] ∧ p = (0, j)) ∨ ∃ i j, ds = [.int i, .int j] ∧ p = (i, j) := by
  unfold rgI at h
  split at h
  · cases h; exact .inl ⟨_, rfl, rfl⟩
  · cases h; exact .inr ⟨_, _, rfl, rfl⟩
  · cases h
theorem rgD_inv {ds xs : List D} (h : rgD ds = some xs) : ∃ lo hi, rgI ds = some (lo, hi) ∧ (-(2 ^ 62) ≤ lo ∧ lo < 2 ^ 62 ∧ -(2 ^ 62) ≤ hi ∧ hi < 2 ^ 62 ∧ (hi - lo).toNat ≤ LIM) ∧ xs = rangeD lo hi := by
  unfold rgD at h
  split at h
  · rename_i lo hi e
    split at h
    · rename_i hr
      cases h
      exact ⟨lo, hi, e, of_decide_eq_true hr, rfl⟩
    · cases h
  · cases h
theorem repL_int1 {K : PySem.W.Frag} {H : Hp} {vs : List V} {j : Int} {F : List Addr} (r : RepL K H vs [.int j] F) : vs = [.int j] ∧ F = [] := by
  obtain ⟨v, ws, G1, G2, rfl, rfl, a, b⟩ := r.uncons
  obtain ⟨rfl, rfl⟩ := a.int_inv
  cases b
  exact ⟨rfl, rfl⟩
theorem repL_int2 {K : PySem.W.Frag} {H : Hp} {vs : List V} {i j : Int} {F : List Addr} (r : RepL K H vs [.int i, .int j] F) : vs = [.int i, .int j] ∧ F = [] := by
  obtain ⟨v, ws, G1, G2, rfl, rfl, a, b⟩ := r.uncons
  obtain ⟨rfl, rfl⟩ := a.int_inv
  obtain ⟨rfl, rfl⟩ := repL_int1 b
  exact ⟨rfl, rfl⟩
theorem walkG {K : PySem.W.Frag} {lo hi : Int} : Walk (Itr lo (hi - lo).toNat) (rangeD lo hi).length (fun _ => True) (YD K (rangeD lo hi)) := by
  rw [rangeD_len]
  refine walk_range.mono (fun _ z => z) fun i H x H' _ _ y => ?_
  obtain ⟨rfl, rfl⟩ := y
  refine ⟨fun d e => ?_, fun _ _ z => z⟩
  rw [rangeD_get e]
  exact .int _
theorem v_rng1 {tg a : Expr} {p pos : Pos} {as : List E} {fs : M (List D)} (hg : Gl X "range") (hm : X.mg "range" = none) (hp : plainE a = true) (ha : PA X [a] (tVA X.K fs)) (hlen : ∀ ρ r, fs ρ = some r → r.1.length = 1) : PI X tg (.Call (.Name "range" p) [a] [] pos) (tI X.K (.rng as) (bnd fs fun ds => lif ((rgD ds).map fun xs => (.non, xs)))) :=
  (pi_range1 hg hm ha (star_cons hp _)).weak fun σ H R q => by
    obtain ⟨ρ, F, d, ds, ρ', R0, nd, h, k⟩ := q
    obtain ⟨xs, ρ1, h1, h⟩ := bnd_some h
    obtain ⟨h2, rfl⟩ := lif_some h
    obtain ⟨ys, e1, e2⟩ := Option.map_eq_some_iff.mp h2
    cases e2
    obtain ⟨lo, hi, e3, b, rfl⟩ := rgD_inv e1
    refine ⟨ρ, F, xs, ρ', R0, nd, h1, fun vs H1 F1 G1 R1 q1 nd1 st1 => ?_⟩
    rcases rgI_inv e3 with ⟨j, rfl, e⟩ | ⟨i, j, rfl, e⟩
    · obtain ⟨rfl, rfl⟩ := Prod.mk.inj e
      obtain ⟨rfl, rfl⟩ := repL_int1 q1
      refine ⟨_, rfl, b.2.2.1, b.2.2.2.1, ?_⟩
      have w := walkG (K := X.K) (lo := 0) (hi := hi)
      rw [Int.sub_zero] at w
      exact k _ _ H1 F1 [] R1 nd1 (fun _ z => nomatch z) st1 w trivial (.own fun _ _ _ _ _ => trivial)
    · have := hlen _ _ h1
      cases this
theorem v_rng2 {tg a b : Expr} {p pos : Pos} {as : List E} {fs : M (List D)} (hg : Gl X "range") (hm : X.mg "range" = none) (hp : plainE a = true) (hp2 : plainE b = true) (ha : PA X [a, b] (tVA X.K fs)) (hlen : ∀ ρ r, fs ρ = some r → r.1.length = 2) : PI X tg (.Call (.Name "range" p) [a, b] [] pos) (tI X.K (.rng as) (bnd fs fun ds => lif ((rgD ds).map fun xs => (.non, xs)))) :=
  (pi_range2 hg hm ha (by rw [star_cons hp, star_cons hp2] <;> rfl) (star_cons hp2 _)).weak fun σ H R q => by
    obtain ⟨ρ, F, d, ds, ρ', R0, nd, h, k⟩ := q
    obtain ⟨xs, ρ1, h1, h⟩ := bnd_some h
    obtain ⟨h2, rfl⟩ := lif_some h
    obtain ⟨ys, e1, e2⟩ := Option.map_eq_some_iff.mp h2
    cases e2
    obtain ⟨lo, hi, e3, b, rfl⟩ := rgD_inv e1
    refine ⟨ρ, F, xs, ρ', R0, nd, h1, fun vs H1 F1 G1 R1 q1 nd1 st1 => ?_⟩
    rcases rgI_inv e3 with ⟨j, rfl, e⟩ | ⟨i, j, rfl, e⟩
    · have := hlen _ _ h1
      cases this
    · obtain ⟨rfl, rfl⟩ := Prod.mk.inj e
      obtain ⟨rfl, rfl⟩ := repL_int2 q1
      exact ⟨_, _, rfl, ⟨b.1, b.2.1, b.2.2.1, b.2.2.2.1⟩, k _ _ H1 F1 [] R1 nd1 (fun _ z => nomatch z) st1 walkG trivial (.own fun _ _ _ _ _ => trivial)⟩
/-! ### a list comprehension -/
theorem wip_some {own : List Nat} {ρ ρ' : Rho} {u : Unit} (h : wip own ρ = some (u, ρ')) : ρ' = wipeS ρ own := by cases h; rfl
/-- what a block keeps of the chk behind a turn -/
theorem still_some {it : It} {d : D} {ρ ρ' : Rho} {u : Unit} (h : itChk it d ρ = some (u, ρ')) : ρ' = ρ ∧ ∀ j, it = .seq (.var j) → ρ[j]? = some (some d) := by
  cases it with
  | seq a =>
    cases a with
    | var j =>
      have h' : (if ρ[j]? = some (some d) then some ((), ρ) else none) = some (u, ρ') := h
      split at h'
      · rename_i e
        cases h'
        exact ⟨rfl, fun j' e' => by cases e'; exact e⟩
      · cases h'
    | _ =>
      cases h
      exact ⟨rfl, fun j' e' => by cases e'⟩
  | _ =>
    cases h
    exact ⟨rfl, fun j' e' => by cases e'⟩
theorem hold_step {K : PySem.W.Frag} {it : It} {σ : L2.St} {d : D} {Z : List Addr} {G : Hp → Prop} {H1 H2 : Hp} {F1 F2 : List Addr} {ρ : Rho} {σ2 : L2.St} {F3 : List Addr} (hold : Hold K it σ d Z G) (g : G H1) (m : MutAt H1 F1) (dj : ∀ a ∈ Z, a ∉ F1) (st : Step F1 F2 H1 H2)
    (R : RepO K H2 σ2 ρ F3) (hs : ∀ j, it = .seq (.var j) → σ2[j]? = σ[j]? ∧ ρ[j]? = some (some d)) : G H2 := by
  rcases hold.2 with h | ⟨j, v, e, ev, h⟩
  · exact h H1 H2 g (st.imm m) (st.off dj)
  · obtain ⟨a, b⟩ := hs j e
    obtain ⟨v', G', ev', q, _, _⟩ := R.get b
    rw [a, ev] at ev'; cases ev'
    exact h H2 G' q
theorem Step.ext {F : List Addr} {H H' : Hp} (h : ∀ b o, H b = some o → H' b = some o) : Step F F H H' := ⟨fun a o e _ => h a o e, fun _ z => .inl z⟩
theorem MutAt.ext {F : List Addr} {H H' : Hp} (m : MutAt H F) (h : ∀ a ∈ F, ∀ o, H a = some o → H' a = some o) : MutAt H' F := fun a ha => by
  obtain ⟨o, e, q⟩ := m a ha
  exact ⟨o, h a ha o e, q⟩
theorem lcL_cons {b : D → M (Option D)} {chk : M Unit} {x : D} {xs acc res : List D} {ρ ρ' : Rho} (h : lcL b chk (x :: xs) acc ρ = some (res, ρ')) :
    ∃ o ρ1 ρ2, b x ρ = some (o, ρ1) ∧ chk ρ1 = some ((), ρ2) ∧ ((o = none ∧ lcL b chk xs acc ρ2 = some (res, ρ')) ∨ ∃ d, o = some d ∧ acc.length < LIM ∧ lcL b chk xs (acc ++ [d]) ρ2 = some (res, ρ')) := by
  unfold lcL at h
  obtain ⟨o, ρ1, h1, h⟩ := bnd_some h
  obtain ⟨u, ρ2, h2, h⟩ := bnd_some h
  refine ⟨o, ρ1, ρ2, h1, h2, ?_⟩
  cases o with
  | none => exact .inl ⟨rfl, h⟩
  | some d =>
    simp only at h
    split at h
    · exact .inr ⟨d, rfl, by assumption, h⟩
    · cases h
theorem lcB_some {own : List Nat} {t : Tg} {c : M Bool} {e : M D} {x : D} {ρ ρ' : Rho} {o : Option D} (h : lcB own t c e x ρ = some (o, ρ')) :
    ∃ ρt b ρc, setT t x (wipeS ρ own) = some ((), ρt) ∧ c ρt = some (b, ρc) ∧ ((b = true ∧ ∃ d, o = some d ∧ e ρc = some (d, ρ')) ∨ (b = false ∧ o = none ∧ ρ' = ρc)) := by
  unfold lcB at h
  obtain ⟨u, ρ0, h0, h⟩ := bnd_some h
  cases h0
  obtain ⟨u, ρt, h1, h⟩ := bnd_some h
  obtain ⟨b, ρc, h2, h⟩ := bnd_some h
  refine ⟨ρt, b, ρc, h1, h2, ?_⟩
  cases b with
  | true =>
    simp only [if_true] at h
    obtain ⟨d, ρd, h3, h⟩ := bnd_some h
    cases h
    exact .inl ⟨rfl, d, rfl, h3⟩
  | false =>
    simp only [Bool.false_eq_true, if_false] at h
    cases h
    exact .inr ⟨rfl, rfl, rfl⟩
theorem drop_get {α : Type} {xs : List α} {i : Nat} (h : i < xs.length) : ∃ x, xs[i]? = some x ∧ xs.drop i = x :: xs.drop (i + 1) := ⟨xs[i], List.getElem?_eq_getElem h, List.drop_eq_getElem_cons h⟩
theorem lc_read {K : PySem.W.Frag} {it : It} {t : Tg} {own : List Nat} {fi : M (D × List D)} {fc : M Bool} {fe : M D} {tc : TT} {σ : L2.St} {H : Hp} {Q : VK} (hts : ∀ i ∈ t.slots, i ∈ own) (hj : ∀ j, it = .seq (.var j) → j ∉ own)
    (htc : ∀ σ H Q, tVT K fc σ H Q → tc σ H Q)
    (q : tV K (bnd fi fun p => blk own (bnd (lcL (lcB own t fc fe) (itChk it p.1) p.2 []) fun ds => pur (.lst ds))) σ H Q) : tLc (tI K it fi) (tG K t) tc (tV K fe) own σ H Q := by
  obtain ⟨ρ, F, d, ρ3, r0, nd, h, k⟩ := q
  obtain ⟨⟨d0, xs⟩, ρ1, h1, h⟩ := bnd_some h
  unfold blk at h
  split at h
  · cases h
  · rename_i dd ρb hb
    cases h
    obtain ⟨res, ρe, h2, h3⟩ := bnd_some hb
    obtain ⟨rfl, rfl⟩ := pur_some h3
    refine ⟨ρ, F, d0, xs, ρ1, r0, nd, h1, fun J G H1 F1 Z R1 nd1 mZ st1 w g1 hold => ?_⟩
    intro D0 hD
    have m1 : MutAt H1 (F1 ++ Z) := MutAt.app R1.muty mZ
    obtain ⟨Fw, Rw, sbw⟩ := R1.wiped own
    -- by the turn: the slots (the block's own forgotten), what is made so far, the run that is left
    let Pv : Nat → Hp → Prop := fun i H' => ∃ (ρi : Rho) (Fi : List Addr) (acc : List D) (vacc : List V) (GA : List Addr), RepO K H' (L2.wipe σ own) (wipeS ρi own) Fi ∧ ρi.length = ρ1.length ∧ H' D0 = some (.lst vacc) ∧ RepL K H' vacc acc GA ∧
      ((Fi ++ D0 :: GA) ++ Z).Nodup ∧ MutAt H' Z ∧ G H' ∧ Step (F1 ++ Z) ((Fi ++ D0 :: GA) ++ Z) H1 H' ∧ lcL (lcB own t fc fe) (itChk it d0) (xs.drop i) acc ρi = some (res, ρb)
    have hDn : D0 ∉ F1 ++ Z := m1.out hD
    have p0 : Pv 0 (upd H1 D0 (.lst [])) := by
      refine ⟨wipeS ρ1 own, Fw, [], [], [], by rw [wipeS_wipeS]; exact Rw.laid hD, wipeS_length _ _, upd_same, .nil, ?_, mZ.ext fun a _ o e => keep_laid hD a o e, hold.1 _ _ g1 (keep_laid hD), ?_, by rw [List.drop_zero]; exact h2⟩
      · have s : (Fw ++ Z).Sublist (F1 ++ Z) := List.Sublist.append sbw (.refl Z)
        have e : ((Fw ++ [D0]) ++ Z).Perm (D0 :: (Fw ++ Z)) := by rw [List.append_assoc]; exact List.perm_middle
        exact perm_nd e.symm (List.nodup_cons.mpr ⟨fun z => hDn (s.subset z), s.nodup nd1⟩)
      · refine (Step.laidO hD).sub fun a ha => ?_
        simp only [List.mem_append, List.mem_cons, List.not_mem_nil, or_false] at ha ⊢
        rcases ha with (ha | ha) | ha
        · exact .inl (.inl (sbw.subset ha))
        · exact .inr ha
        · exact .inl (.inr ha)
    refine lc_it w Pv p0 (fun i H' _ p => ?_) (fun i x H' H2 hi p y => ?_) (fun H' p => ?_)
    · obtain ⟨_, _, _, _, _, _, _, _, _, _, _, g, _⟩ := p
      exact g
    · obtain ⟨ρi, Fi, acc, vacc, GA, Ri, li, eD, qa, ndi, mz, gi, sti, hi'⟩ := p
      obtain ⟨xi, e1, e2⟩ := drop_get hi
      rw [e2] at hi'
      obtain ⟨o, ρo, ρo', hb', hck, hrest⟩ := lcL_cons hi'
      obtain ⟨rfl, hslot⟩ := still_some hck
      obtain ⟨ρt, b, ρc, hset, hc, hcase⟩ := lcB_some hb'
      obtain ⟨y1, y2⟩ := y
      -- what is held beside the slots
      have mW : MutAt H' (D0 :: GA ++ Z) := fun a ha => by
        rcases List.mem_append.mp ha with h | h
        · rcases List.mem_cons.mp h with rfl | h
          · exact ⟨_, eD, trivial⟩
          · exact qa.muty a h
        · exact mz a h
      have ndW : (Fi ++ (D0 :: GA ++ Z)).Nodup := by rw [← List.append_assoc]; exact ndi
      refine ⟨xi, wipeS ρi own, Fi, ρt, y1 xi e1, Ri.keep (fun b o e _ => y2 b o e) fun a _ o e => y2 a o e, nd_l ndW, hset, fun σ2 F2 R2 nd2 sb2 kp => ?_⟩
      have kp' : KeepS own (L2.wipe σ own) σ2 := kp.mono hts
      have ew : L2.wipe σ2 own = L2.wipe σ own := by rw [kp'.wipe, wipe_wipe]
      have slotj : ∀ j, it = .seq (.var j) → σ2[j]? = σ[j]? := fun j ej => by rw [kp'.2 j (hj j ej), wipe_get, if_neg (hj j ej)]
      refine ⟨ew, htc _ _ _ ⟨ρt, F2, b, ρc, R2, nd2, hc, fun H3 F3 R3 nd3 st3 => ?_⟩⟩
      have s3 : Step Fi F3 H' H3 := (Step.ext y2).trans (st3.sup sb2)
      rcases hcase with ⟨rfl, dd, rfl, he⟩ | ⟨rfl, rfl, rfl⟩
      · rcases hrest with ⟨z, _⟩ | ⟨d', ed, hlen, hrest⟩
        · cases z
        · cases ed
          refine iteT ⟨ρc, F3, dd, ρo', R3, nd3, he, fun v4 H4 F4 G4 R4 q4 nd4 st4 => ?_⟩
          have s4 : Step Fi (F4 ++ G4) H' H4 := s3.trans st4
          have ndH : ((F4 ++ G4) ++ (D0 :: GA ++ Z)).Nodup := held mW ndW nd4 s4
          have dj : ∀ a ∈ D0 :: GA ++ Z, a ∉ Fi := nd_out ndW
          have k4 : ∀ a ∈ D0 :: GA ++ Z, ∀ o, H' a = some o → H4 a = some o := s4.off dj
          have eD4 : H4 D0 = some (.lst vacc) := k4 D0 (List.mem_append_left _ List.mem_cons_self) _ eD
          have qa4 : RepL K H4 vacc acc GA := qa.keep (s4.imm Ri.muty) fun a ha => k4 a (List.mem_append_left _ (List.mem_cons_of_mem _ ha))
          refine ⟨vacc, eD4, by rw [qa.length, ← LIM_line]; exact hlen, ?_⟩
          have nD : D0 ∉ F4 ++ G4 := fun z => nd_out ndH D0 (List.mem_append_left _ List.mem_cons_self) z
          have nDG : D0 ∉ GA := by
            have := (List.nodup_cons.mp (nd_l (nd_r ndH))).1
            exact this
          have nDZ : D0 ∉ Z := fun z => nd_out' (nd_r ndH) D0 List.mem_cons_self z
          have R4' : RepO K (upd H4 D0 (.lst (vacc ++ [v4]))) σ2 ρo' F4 := R4.wrote eD4 trivial fun z => nD (List.mem_append_left _ z)
          obtain ⟨Fw4, Rw4, sbw4⟩ := R4'.wiped own
          have s5 : Step (Fi ++ D0 :: GA) (Fw4 ++ D0 :: (GA ++ G4)) H' (upd H4 D0 (.lst (vacc ++ [v4]))) := by
            refine ((s4.frame (D0 :: GA)).trans (Step.wrote (List.mem_append_right _ List.mem_cons_self))).sub fun a ha => ?_
            simp only [List.mem_append, List.mem_cons] at ha ⊢
            rcases ha with ha | ha | ha | ha
            · exact .inl (.inl (sbw4.subset ha))
            · exact .inr (.inl ha)
            · exact .inr (.inr ha)
            · exact .inl (.inr ha)
          have mFi : MutAt H' (Fi ++ D0 :: GA) := MutAt.app Ri.muty fun a ha => mW a (List.mem_append_left _ ha)
          have djZ : ∀ a ∈ Z, a ∉ Fi ++ D0 :: GA := nd_out ndi
          refine ⟨ρo', Fw4, acc ++ [dd], vacc ++ [v4], GA ++ G4, by rw [← ew]; exact Rw4, ?_, upd_same, ?_, ?_, ?_, ?_, ?_, hrest⟩
          · have l1 := R4.length
            rw [kp.1, wipe_length] at l1
            have l2 := R1.length
            omega
          · exact (qa4.wrote eD4 trivial nDG).app (RepL.one (q4.wrote eD4 trivial fun z => nD (List.mem_append_right _ z)))
          · have sb : ((Fw4 ++ D0 :: (GA ++ G4)) ++ Z).Sublist ((F4 ++ D0 :: (GA ++ G4)) ++ Z) := List.Sublist.append (List.Sublist.append sbw4 (.refl _)) (.refl Z)
            refine sb.nodup (perm_nd ?_ ndH)
            -- F4 ++ G4 ++ (D0 :: GA ++ Z) ~ (F4 ++ D0 :: (GA ++ G4)) ++ Z
            have : (D0 :: (GA ++ G4)) = (D0 :: GA) ++ G4 := rfl
            rw [this, List.append_assoc, List.append_assoc]
            refine List.Perm.append_left F4 ?_
            rw [← List.append_assoc]
            exact List.Perm.append_right Z List.perm_append_comm
          · exact mz.ext (s5.off djZ)
          · exact hold_step hold gi mFi djZ s5 R4' fun j ej => ⟨slotj j ej, hslot j ej⟩
          · exact sti.trans (s5.frame Z)
      · rcases hrest with ⟨_, hrest⟩ | ⟨d', ed, _⟩
        · refine iteF ?_
          have ndH : (F3 ++ (D0 :: GA ++ Z)).Nodup := held mW ndW nd3 s3
          have dj : ∀ a ∈ D0 :: GA ++ Z, a ∉ Fi := nd_out ndW
          have k4 : ∀ a ∈ D0 :: GA ++ Z, ∀ o, H' a = some o → H3 a = some o := s3.off dj
          obtain ⟨Fw4, Rw4, sbw4⟩ := R3.wiped own
          have s5 : Step (Fi ++ D0 :: GA) (Fw4 ++ D0 :: GA) H' H3 := (s3.frame (D0 :: GA)).sub fun a ha => by
            simp only [List.mem_append, List.mem_cons] at ha ⊢
            exact ha.imp_left fun z => sbw4.subset z
          have mFi : MutAt H' (Fi ++ D0 :: GA) := MutAt.app Ri.muty fun a ha => mW a (List.mem_append_left _ ha)
          have djZ : ∀ a ∈ Z, a ∉ Fi ++ D0 :: GA := nd_out ndi
          refine ⟨ρo', Fw4, acc, vacc, GA, by rw [← ew]; exact Rw4, ?_, k4 D0 (List.mem_append_left _ List.mem_cons_self) _ eD, qa.keep (s3.imm Ri.muty) fun a ha => k4 a (List.mem_append_left _ (List.mem_cons_of_mem _ ha)), ?_, mz.ext (s5.off djZ), hold_step hold gi mFi djZ s5 R3 fun j ej => ⟨slotj j ej, hslot j ej⟩, sti.trans (s5.frame Z), hrest⟩
          · have l1 := R3.length
            rw [kp.1, wipe_length] at l1
            have l2 := R1.length
            omega
          · have sb : ((Fw4 ++ D0 :: GA) ++ Z).Sublist ((F3 ++ D0 :: GA) ++ Z) := List.Sublist.append (List.Sublist.append sbw4 (.refl _)) (.refl Z)
            refine sb.nodup ?_
            rw [List.append_assoc]
            exact ndH
        · cases ed
    · obtain ⟨ρi, Fi, acc, vacc, GA, Ri, li, eD, qa, ndi, mz, gi, sti, hi'⟩ := p
      rw [List.drop_length] at hi'
      obtain ⟨rfl, rfl⟩ := pur_some (show pur acc ρi = some (res, ρb) from hi')
      refine k (.ref D0) H' Fi (D0 :: GA) (Ri.back (by rw [wipeB_length, li]) fun i hi d hd => ?_) (.lst eD qa) (nd_l ndi) ((st1.trans sti).sub fun a ha => List.mem_append_left _ ha)
      obtain ⟨e1, e2⟩ := wipeB_get ρ1 i d own hd
      obtain ⟨v, G', ev, q, _, _⟩ := R1.get e1
      have := q.im (e2 hi)
      subst this
      exact ⟨v, ev, q.keep (sti.imm m1) fun _ z => nomatch z⟩
end
end VS

set_option Elab.async false
set_option linter.all false
set_option autoImplicit false
set_option maxRecDepth 100000
set_option maxHeartbeats 1000000
namespace VS
open PySem L2
open M (bnd lif pur)
/-- what is wanted behind a statement that comes to out -/
def EndsOk (K : PySem.W.Frag) (as : List Nat) (σ : L2.St) (F : List Addr) (H : Hp) (ρ' : Rho) (E : Ends) : Out → Prop
  | .nx => ∀ σ' H' F', RepO K H' σ' ρ' F' → F'.Nodup → Step F F' H H' → KeepS as σ σ' → E.nx σ' H'
  | .brk => ∀ σ' H' F', RepO K H' σ' ρ' F' → F'.Nodup → Step F F' H H' → KeepS as σ σ' → E.bk σ' H'
  | .cnt => ∀ σ' H' F', RepO K H' σ' ρ' F' → F'.Nodup → Step F F' H H' → KeepS as σ σ' → E.ct σ' H'
  | .ret d => ∀ v σ' H' F' G, RepO K H' σ' ρ' F' → Rep K H' v d G → (F' ++ G).Nodup → Step F (F' ++ G) H H' → KeepS as σ σ' → E.rt v H'
def tS (K : PySem.W.Frag) (as : List Nat) (f : M Out) : TS := fun E σ H => ∃ ρ F out ρ', RepO K H σ ρ F ∧ F.Nodup ∧ f ρ = some (out, ρ') ∧ EndsOk K as σ F H ρ' E out
section
variable {X : Cx} {a b c e : Expr} {pos : Pos} {st : Stmt} {rest : List Stmt}
theorem s_nil : PSs X [] (tS X.K [] (pur .nx)) := pss_nil.weak fun E σ H q => by
  obtain ⟨ρ, F, out, ρ', r, nd, h, k⟩ := q
  cases h
  exact k σ H F r nd Step.refl (KeepS.refl _ _)
theorem EndsOk.after {K : PySem.W.Frag} {as bs : List Nat} {σ σ1 : L2.St} {F F1 : List Addr} {H H1 : Hp} {ρ' : Rho} {E : Ends} {out : Out} (h : EndsOk K (as ++ bs) σ F H ρ' E out) (st : Step F F1 H H1) (kp : KeepS as σ σ1) : EndsOk K bs σ1 F1 H1 ρ' E out := by
  have k1 : ∀ {σ'}, KeepS bs σ1 σ' → KeepS (as ++ bs) σ σ' := fun k2 => (kp.mono fun i hi => List.mem_append_left _ hi).trans (k2.mono fun i hi => List.mem_append_right _ hi)
  cases out with
  | nx => exact fun σ' H' F' R nd s k2 => h σ' H' F' R nd (st.trans s) (k1 k2)
  | brk => exact fun σ' H' F' R nd s k2 => h σ' H' F' R nd (st.trans s) (k1 k2)
  | cnt => exact fun σ' H' F' R nd s k2 => h σ' H' F' R nd (st.trans s) (k1 k2)
  | ret d => exact fun v σ' H' F' G R q nd s k2 => h v σ' H' F' G R q nd (st.trans s) (k1 k2)
theorem EndsOk.mono {K : PySem.W.Frag} {as bs : List Nat} {σ : L2.St} {F : List Addr} {H : Hp} {ρ' : Rho} {E : Ends} {out : Out} (h : EndsOk K bs σ F H ρ' E out) (hs : ∀ i ∈ as, i ∈ bs) : EndsOk K as σ F H ρ' E out := by
  cases out with
  | nx => exact fun σ' H' F' R nd s k2 => h σ' H' F' R nd s (k2.mono hs)
  | brk => exact fun σ' H' F' R nd s k2 => h σ' H' F' R nd s (k2.mono hs)
  | cnt => exact fun σ' H' F' R nd s k2 => h σ' H' F' R nd s (k2.mono hs)
  | ret d => exact fun v σ' H' F' G R q nd s k2 => h v σ' H' F' G R q nd s (k2.mono hs)
theorem s_cons {as bs : List Nat} {f g : M Out} (h1 : PS X st (tS X.K as f)) (h2 : PSs X rest (tS X.K bs g)) : PSs X (st :: rest) (tS X.K (as ++ bs) (bnd f fun o => match o with
    | .nx => g
    | o => pur o)) := (pss_cons h1 h2).weak fun E σ H q => by
  obtain ⟨ρ, F, out, ρ', r, nd, h, k⟩ := q
  obtain ⟨o, ρ1, h1, h⟩ := bnd_some h
  refine ⟨ρ, F, o, ρ1, r, nd, h1, ?_⟩
  cases o with
  | nx => exact fun σ1 H1 F1 R1 nd1 st1 kp1 => ⟨ρ1, F1, out, ρ', R1, nd1, h, k.after st1 kp1⟩
  | brk =>
    obtain ⟨rfl, rfl⟩ := pur_some h
    exact k.mono fun i hi => List.mem_append_left _ hi
  | cnt =>
    obtain ⟨rfl, rfl⟩ := pur_some h
    exact k.mono fun i hi => List.mem_append_left _ hi
  | ret d =>
    obtain ⟨rfl, rfl⟩ := pur_some h
    exact k.mono fun i hi => List.mem_append_left _ hi
/-! ### a name is stored -/
theorem asg_read {K : PySem.W.Frag} {i : Nat} {fe : M D} {E : Ends} {σ : L2.St} {H : Hp} (q : tS K [i] (bnd fe fun d => bnd (setS i d) fun _ => pur .nx) E σ H) : tV K fe σ H fun x H1 => gName i x σ H1 E.nx := by
  obtain ⟨ρ, F, out, ρ', r, nd, h, k⟩ := q
  obtain ⟨d, ρ1, h1, h⟩ := bnd_some h
  obtain ⟨u, ρ2, h2, h⟩ := bnd_some h
  obtain ⟨rfl, rfl⟩ := pur_some h
  obtain ⟨hl, rfl⟩ := setS_some h2
  refine ⟨ρ, F, d, ρ1, r, nd, h1, fun v H1 F1 G R1 q1 nd1 st1 => ?_⟩
  obtain ⟨F2, a1, a2, a3⟩ := R1.set q1 nd1 hl
  exact k _ H1 F2 a1 a2 (st1.sub a3) (KeepS.set (List.mem_singleton.mpr rfl))
theorem s_set {i : Nat} {x : Str} {pos' : Pos} {fe : M D} (hN : X.N.Nodup) (hi : X.N[i]? = some x) (hx : Loc X.env.scope x) (he : PE X e (tV X.K fe)) (hs : swapsWith e (some (.Name x pos')) pos.line X.env = pure false) (hf : X.fn x = true ∨ X.env.scope.names.lookup x = some .local) :
    PS X (.Assign [.Name x pos'] e pos) (tS X.K [i] (bnd fe fun d => bnd (setS i d) fun _ => pur .nx)) := (ps_set hN hi hx he hs hf).weak fun E σ H q => asg_read q
/-! ### expressions, return, if, while -/
theorem s_exp {fe : M D} (he : PE X e (tV X.K fe)) (hs : swapsWith e none pos.line X.env = pure false) : PS X (.Expr e pos) (tS X.K [] (bnd fe fun _ => pur .nx)) := (ps_expr he hs).weak fun E σ H q => by
  obtain ⟨ρ, F, out, ρ', r, nd, h, k⟩ := q
  obtain ⟨d, ρ1, h1, h⟩ := bnd_some h
  obtain ⟨rfl, rfl⟩ := pur_some h
  exact ⟨ρ, F, d, ρ', r, nd, h1, fun v H1 F1 G R1 q1 nd1 st1 => k σ H1 F1 R1 (nd_l nd1) (st1.sub fun a h => List.mem_append_left _ h) (KeepS.refl _ _)⟩
theorem s_ret {fe : M D} (he : PE X e (tV X.K fe)) : PS X (.Return (some e) pos) (tS X.K [] (bnd fe fun d => pur (.ret d))) := (ps_ret he).weak fun E σ H q => by
  obtain ⟨ρ, F, out, ρ', r, nd, h, k⟩ := q
  obtain ⟨d, ρ1, h1, h⟩ := bnd_some h
  obtain ⟨rfl, rfl⟩ := pur_some h
  exact ⟨ρ, F, d, ρ', r, nd, h1, fun v H1 F1 G R1 q1 nd1 st1 => k v σ H1 F1 G R1 q1 nd1 st1 (KeepS.refl _ _)⟩
theorem s_pass : PS X (.Pass pos) (tS X.K [] (pur .nx)) := ps_pass.weak fun E σ H q => by
  obtain ⟨ρ, F, out, ρ', r, nd, h, k⟩ := q
  obtain ⟨rfl, rfl⟩ := pur_some h
  exact k σ H F r nd Step.refl (KeepS.refl _ _)
theorem s_brk : PS X (.Break pos) (tS X.K [] (pur .brk)) := ps_break.weak fun E σ H q => by
  obtain ⟨ρ, F, out, ρ', r, nd, h, k⟩ := q
  obtain ⟨rfl, rfl⟩ := pur_some h
  exact k σ H F r nd Step.refl (KeepS.refl _ _)
theorem s_cnt : PS X (.Continue pos) (tS X.K [] (pur .cnt)) := ps_continue.weak fun E σ H q => by
  obtain ⟨ρ, F, out, ρ', r, nd, h, k⟩ := q
  obtain ⟨rfl, rfl⟩ := pur_some h
  exact k σ H F r nd Step.refl (KeepS.refl _ _)
theorem s_nev : PS X st (tS X.K [] fun _ => none) := ps_never.weak fun E σ H q => by
  obtain ⟨ρ, F, out, ρ', r, nd, h, k⟩ := q
  cases h
theorem s_if {as bs : List Nat} {fc : M Bool} {f g : M Out} {A B : List Stmt} (hc : PT X c (tVT X.K fc)) (ha : PSs X A (tS X.K as f)) (hb : PSs X B (tS X.K bs g)) : PS X (.If c A B pos) (tS X.K (as ++ bs) (bnd fc fun t => if t = true then f else g)) :=
  (ps_if hc ha hb).weak fun E σ H q => by
    obtain ⟨ρ, F, out, ρ', r, nd, h, k⟩ := q
    obtain ⟨t, ρ1, h1, h⟩ := bnd_some h
    refine ⟨ρ, F, t, ρ1, r, nd, h1, fun H1 F1 R1 nd1 st1 => ?_⟩
    cases t with
    | true =>
      simp only [if_true] at h
      exact iteT ⟨ρ1, F1, out, ρ', R1, nd1, h, (EndsOk.after (as := []) k st1 (KeepS.refl _ _)).mono fun i hi => List.mem_append_left _ hi⟩
    | false =>
      simp only [Bool.false_eq_true, if_false] at h
      exact iteF ⟨ρ1, F1, out, ρ', R1, nd1, h, (EndsOk.after (as := []) k st1 (KeepS.refl _ _)).mono fun i hi => List.mem_append_right _ hi⟩
theorem EndsOk.again {K : PySem.W.Frag} {as : List Nat} {σ σ1 : L2.St} {F F1 : List Addr} {H H1 : Hp} {ρ' : Rho} {E : Ends} {out : Out} (h : EndsOk K as σ F H ρ' E out) (st : Step F F1 H H1) (kp : KeepS as σ σ1) : EndsOk K as σ1 F1 H1 ρ' E out :=
  EndsOk.after (as := as) (bs := as) (h.mono fun i hi => (List.mem_append.mp hi).elim id id) st kp
theorem s_while {as : List Nat} {fc : M Bool} {f : M Out} {B : List Stmt} (hx : X.xe = fun _ _ => False) (hc : PT X c (tVT X.K fc)) (hb : PSs X B (tS X.K as f)) : PS X (.While c B [] pos) (tS X.K as (whL fc f FUEL)) :=
  (ps_while (by rw [hx]; exact PassesOwn.never) hc hb).weak fun E σ H q => by
    obtain ⟨ρ, F, out, ρ', r, nd, h, k⟩ := q
    refine ⟨fun n σ1 H1 => ∃ ρ1 F1, RepO X.K H1 σ1 ρ1 F1 ∧ F1.Nodup ∧ whL fc f n ρ1 = some (out, ρ') ∧ EndsOk X.K as σ1 F1 H1 ρ' E out, ⟨FUEL, ρ, F, r, nd, h, k⟩, ?_⟩
    rintro n σ1 H1 ⟨ρ1, F1, R1, nd1, h, k⟩
    cases n with
    | zero => cases h
    | succ n =>
      obtain ⟨t, ρ2, h1, h⟩ := bnd_some (show bnd fc _ ρ1 = some (out, ρ') from h)
      refine ⟨ρ1, F1, t, ρ2, R1, nd1, h1, fun H2 F2 R2 nd2 st2 => ?_⟩
      have k2 := k.again st2 (KeepS.refl _ _)
      cases t with
      | false =>
        simp only [Bool.false_eq_true, if_false] at h
        obtain ⟨rfl, rfl⟩ := pur_some h
        exact iteF (k2 σ1 H2 F2 R2 nd2 Step.refl (KeepS.refl _ _))
      | true =>
        simp only [if_true] at h
        obtain ⟨o, ρ3, h3, h⟩ := bnd_some h
        refine iteT ⟨fun σ' H' => ∃ ρ1 F1, RepO X.K H' σ' ρ1 F1 ∧ F1.Nodup ∧ whL fc f n ρ1 = some (out, ρ') ∧ EndsOk X.K as σ' F1 H' ρ' E out, fun σ' H' z => ⟨n, Nat.lt_succ_self n, z⟩, ρ2, F2, o, ρ3, R2, nd2, h3, ?_⟩
        cases o with
        | nx => exact fun σ3 H3 F3 R3 nd3 st3 kp3 => ⟨ρ3, F3, R3, nd3, h, k2.again st3 kp3⟩
        | cnt => exact fun σ3 H3 F3 R3 nd3 st3 kp3 => ⟨ρ3, F3, R3, nd3, h, k2.again st3 kp3⟩
        | brk =>
          obtain ⟨rfl, rfl⟩ := pur_some h
          exact k2
        | ret d =>
          obtain ⟨rfl, rfl⟩ := pur_some h
          exact k2
/-! ### for -/
theorem s_for {as : List Nat} {t : Tg} {tg iter : Expr} {it : It} {fi : M (D × List D)} {f : M Out} {B : List Stmt} (hx : X.xe = fun _ _ => False) (hc : X.calm = true) (hi : PI X tg iter (tI X.K it fi)) (hg : PG X tg (tG X.K t)) (hb : PSs X B (tS X.K as f))
    (hs : ∀ x, foldedSetIterable iter X.env x = pure x) (hj : ∀ j, it = .seq (.var j) → j ∉ t.slots ++ as) :
    PS X (.For tg iter B [] pos) (tS X.K (t.slots ++ as) (bnd fi fun p => frL (fun x => bnd (setT t x) fun _ => f) (itChk it p.1) p.2)) :=
  (ps_for (by rw [hx]; exact PassesOwn.never) hc hi hg hb hs).weak fun E σ H q => by
    obtain ⟨ρ, F, out, ρ', r, nd, h, k⟩ := q
    obtain ⟨⟨d0, xs⟩, ρ1, h1, h⟩ := bnd_some h
    refine ⟨ρ, F, d0, xs, ρ1, r, nd, h1, fun J G H1 F1 Z R1 nd1 mZ st1 w g1 hold => ?_⟩
    have k1 : EndsOk X.K (t.slots ++ as) σ F1 H1 ρ' E out := k.again (st1.sub fun a h => List.mem_append_left _ h) (KeepS.refl _ _)
    let Pv : Nat → L2.St → Hp → Prop := fun i σi Hi => ∃ ρi Fi, RepO X.K Hi σi ρi Fi ∧ (Fi ++ Z).Nodup ∧ MutAt Hi Z ∧ G Hi ∧ KeepS (t.slots ++ as) σ σi ∧ frL (fun x => bnd (setT t x) fun _ => f) (itChk it d0) (xs.drop i) ρi = some (out, ρ') ∧ EndsOk X.K (t.slots ++ as) σi Fi Hi ρ' E out
    refine for_it w Pv ⟨ρ1, F1, R1, nd1, mZ, g1, KeepS.refl _ _, by rw [List.drop_zero]; exact h, k1⟩ (fun i σi Hi _ p => ?_) (fun i x σi Hi H2 hi p y => ?_) (fun σi Hi p => ?_)
    · obtain ⟨_, _, _, _, _, g, _⟩ := p
      exact g
    · obtain ⟨ρi, Fi, Ri, ndi, mz, gi, kpi, hi', ki⟩ := p
      obtain ⟨xi, e1, e2⟩ := drop_get hi
      rw [e2] at hi'
      obtain ⟨o, ρo, ho, hrest⟩ := bnd_some (show bnd (bnd (setT t xi) fun _ => f) _ ρi = some (out, ρ') from hi')
      obtain ⟨u, ρt, hset, ho⟩ := bnd_some ho
      obtain ⟨y1, y2⟩ := y
      refine ⟨xi, ρi, Fi, ρt, y1 xi e1, Ri.keep (fun b o e _ => y2 b o e) fun a _ o e => y2 a o e, nd_l ndi, hset, fun σ2 F2 R2 nd2 sb2 kp2 => ⟨ρt, F2, o, ρo, R2, nd2, ho, ?_⟩⟩
      have s2 : Step Fi F2 Hi H2 := (Step.ext y2).sub sb2
      have kt : KeepS (t.slots ++ as) σi σ2 := kp2.mono fun j hj => List.mem_append_left _ hj
      have goOn : ∀ {ρ4 : Rho}, frL (fun x => bnd (setT t x) fun _ => f) (itChk it d0) (xs.drop (i + 1)) ρ4 = some (out, ρ') → itChk it d0 ρo = some ((), ρ4) → ∀ σ3 H3 F3, RepO X.K H3 σ3 ρo F3 → F3.Nodup → Step F2 F3 H2 H3 → KeepS as σ2 σ3 → Pv (i + 1) σ3 H3 := fun {ρ4} hr hck σ3 H3 F3 R3 nd3 st3 kp3 => by
        obtain ⟨rfl, hslot⟩ := still_some hck
        have s3 : Step Fi F3 Hi H3 := s2.trans st3
        have kp' : KeepS (t.slots ++ as) σi σ3 := kt.trans (kp3.mono fun j hj => List.mem_append_right _ hj)
        have kps : KeepS (t.slots ++ as) σ σ3 := kpi.trans kp'
        exact ⟨ρ4, F3, R3, held mz ndi nd3 s3, mz.ext (s3.off (nd_out ndi)), hold_step hold gi Ri.muty (nd_out ndi) s3 R3 fun j ej => ⟨kps.2 j (hj j ej), hslot j ej⟩, kps, hr, ki.again s3 kp'⟩
      cases o with
      | nx =>
        obtain ⟨u2, ρ4, hck, hr⟩ := bnd_some hrest
        exact fun σ3 H3 F3 R3 nd3 st3 kp3 => goOn hr hck σ3 H3 F3 R3 nd3 st3 kp3
      | cnt =>
        obtain ⟨u2, ρ4, hck, hr⟩ := bnd_some hrest
        exact fun σ3 H3 F3 R3 nd3 st3 kp3 => goOn hr hck σ3 H3 F3 R3 nd3 st3 kp3
      | brk =>
        obtain ⟨rfl, rfl⟩ := pur_some hrest
        exact (ki.again s2 kt).mono fun j hj => List.mem_append_right _ hj
      | ret d =>
        obtain ⟨rfl, rfl⟩ := pur_some hrest
        exact (ki.again s2 kt).mono fun j hj => List.mem_append_right _ hj
    · obtain ⟨ρi, Fi, Ri, ndi, mz, gi, kpi, hi', ki⟩ := p
      rw [List.drop_length] at hi'
      obtain ⟨rfl, rfl⟩ := pur_some (show pur Out.nx ρi = some (out, ρ') from hi')
      exact ki σi Hi Fi Ri (nd_l ndi) Step.refl (KeepS.refl _ _)
end
end VS

set_option Elab.async false
set_option linter.all false
set_option autoImplicit false
set_option maxRecDepth 100000
set_option maxHeartbeats 1000000
namespace VS
open PySem L2
open M (bnd lif pur)
/-! ### calls -/
/-- a promise by a meaning -/
def spV (K : PySem.W.Frag) (g : List D → Option (D × List (Option D))) : Sp := fun vs H Q _ => ∃ ds G d os, RepL K H vs ds G ∧ G.Nodup ∧ g ds = some (d, os) ∧
  ∀ v H' G1 Gr, RepO K H' (vs.map some) os G1 → Rep K H' v d Gr → (G1 ++ Gr).Nodup → Step G (G1 ++ Gr) H H' → Q v H'
/-- the arguments as they come: slots by the names' values, all others with what they own -/
inductive RepA (K : PySem.W.Frag) (H : Hp) (σ : L2.St) : List E → List V → List D → List Addr → Prop
  | nil : RepA K H σ [] [] [] []
  | slot {j : Nat} {v : V} {es : List E} {vs : List V} {d : D} {ds : List D} {G : List Addr} : σ[j]? = some (some v) → RepA K H σ es vs ds G → RepA K H σ (.var j :: es) (v :: vs) (d :: ds) G
  | val {e : E} {v : V} {es : List E} {vs : List V} {d : D} {ds : List D} {G1 G : List Addr} : (∀ j, e ≠ .var j) → Rep K H v d G1 → RepA K H σ es vs ds G → RepA K H σ (e :: es) (v :: vs) (d :: ds) (G1 ++ G)
def tArgs (K : PySem.W.Frag) (Γ : Gam) : List E → TA
  | [] => tNil
  | e :: es => tCons (match e with
    | .var j => tVar j
    | _ => tV K (ev Γ e)) (tArgs K Γ es)
section
variable {K : PySem.W.Frag}
theorem RepA.muty {H : Hp} {σ : L2.St} {es : List E} {vs : List V} {ds : List D} {G : List Addr} (r : RepA K H σ es vs ds G) : MutAt H G := by
  induction r with
  | nil => exact fun _ z => nomatch z
  | slot _ _ ih => exact ih
  | val _ q _ ih => exact MutAt.app q.muty ih
theorem RepA.step {H H' : Hp} {σ : L2.St} {es : List E} {vs : List V} {ds : List D} {G F F' : List Addr} (r : RepA K H σ es vs ds G) (m : MutAt H F) (dj : ∀ a ∈ G, a ∉ F) (st : Step F F' H H') : RepA K H' σ es vs ds G := by
  induction r with
  | nil => exact .nil
  | slot e _ ih => exact .slot e (ih dj)
  | val n q _ ih => exact .val n (q.step m (fun a h => dj a (List.mem_append_left _ h)) st) (ih fun a h => dj a (List.mem_append_right _ h))
theorem tArgs_cons_slot (Γ : Gam) (j : Nat) (es : List E) : tArgs K Γ (.var j :: es) = tCons (tVar j) (tArgs K Γ es) := rfl
theorem tArgs_cons {Γ : Gam} {e : E} {es : List E} (h : ∀ j, e ≠ .var j) : tArgs K Γ (e :: es) = tCons (tV K (ev Γ e)) (tArgs K Γ es) := by
  cases e <;> first | rfl | exact absurd rfl (h _)
theorem argT_val {e : E} {m : M D} (h : ∀ j, e ≠ .var j) : argT e m = m := by
  unfold argT
  split
  · exact absurd rfl (h _)
  · rfl
/-- the arguments' reading -/
theorem args_read {Γ : Gam} {σ : L2.St} : ∀ (es : List E) {H : Hp} {ρ ρ' : Rho} {F : List Addr} {ts : List D} {Q : List V → Hp → Prop}, RepO K H σ ρ F → F.Nodup → evT Γ es ρ = some (ts, ρ') →
    (∀ vs H' F' G, RepO K H' σ ρ' F' → RepA K H' σ es vs ts G → (F' ++ G).Nodup → Step F (F' ++ G) H H' → Q vs H') → tArgs K Γ es σ H Q
  | [], H, ρ, ρ', F, ts, Q, R, nd, h, k => by
    obtain ⟨rfl, rfl⟩ := pur_some (show pur [] ρ = some (ts, ρ') from h)
    exact k [] H F [] R .nil (by simpa using nd) (by rw [List.append_nil]; exact Step.refl)
  | e :: es, H, ρ, ρ', F, ts, Q, R, nd, h, k => by
    obtain ⟨d, ρ1, h1, h⟩ := bnd_some (show bnd (argT e (ev Γ e)) (fun d => bnd (evT Γ es) fun ds => pur (d :: ds)) ρ = some (ts, ρ') from h)
    obtain ⟨ts', ρ2, h2, h⟩ := bnd_some h
    obtain ⟨rfl, rfl⟩ := pur_some h
    by_cases hv : ∃ j, e = .var j
    · obtain ⟨j, rfl⟩ := hv
      obtain ⟨d0, ρ0, h0, h1b⟩ := bnd_some (show bnd (look j) (fun _ => pur D.non) ρ = some (d, ρ1) from h1)
      obtain ⟨e0, rfl⟩ := look_some h0
      obtain ⟨rfl, rfl⟩ := pur_some h1b
      obtain ⟨v, _, ev, _, _, _⟩ := R.get e0
      exact ⟨v, ev, args_read es R nd h2 fun vs H' F' G R' A nd' st => k (v :: vs) H' F' G R' (.slot ev A) nd' st⟩
    · have hn : ∀ j, e ≠ .var j := fun j z => hv ⟨j, z⟩
      rw [argT_val hn] at h1
      rw [tArgs_cons hn]
      refine ⟨ρ, F, d, ρ1, R, nd, h1, fun v H1 F1 G1 R1 q1 nd1 st1 => args_read es R1 (nd_l nd1) h2 fun vs H2 F2 G2 R2 A nd2 st2 => ?_⟩
      refine k (v :: vs) H2 F2 (G1 ++ G2) R2 (.val hn (q1.step R1.muty (nd_out nd1) st2) A) (swap3 (held q1.muty nd1 nd2 st2)) (step_swap (step_more st1 st2))
/-- the slots are lent -/
theorem argF_lend {H : Hp} {σ : L2.St} {es : List E} {vs : List V} {ts : List D} {G : List Addr} (A : RepA K H σ es vs ts G) : ∀ {ρ ρ2 : Rho} {ds : List D} {F : List Addr}, RepO K H σ ρ F → argF es ts ρ = some (ds, ρ2) →
    ∃ F2 G2, RepO K H σ ρ2 F2 ∧ RepL K H vs ds G2 ∧ (F ++ G).Perm (F2 ++ G2) := by
  induction A with
  | nil =>
    intro ρ ρ2 ds F R h
    obtain ⟨rfl, rfl⟩ := pur_some (show pur [] ρ = some (ds, ρ2) from h)
    exact ⟨F, [], R, .nil, .refl _⟩
  | @slot j v es vs d ts G e A ih =>
    intro ρ ρ2 ds F R h
    obtain ⟨x, ρ1, h1, h⟩ := bnd_some (show bnd (take j) (fun x => bnd (argF es ts) fun r => pur (x :: r)) ρ = some (ds, ρ2) from h)
    obtain ⟨r, ρ3, h2, h⟩ := bnd_some h
    obtain ⟨rfl, rfl⟩ := pur_some h
    unfold take at h1
    split at h1
    · rename_i d' e'
      by_cases hi : D.im d' = true
      · rw [if_pos hi] at h1
        cases h1
        obtain ⟨v', G', e1, r1, _, _⟩ := R.get e'
        rw [e] at e1; cases e1
        have := r1.im hi
        subst this
        obtain ⟨F2, G2, a1, a2, a3⟩ := ih R h2
        exact ⟨F2, G2, a1, .cons r1 a2, a3⟩
      · rw [if_neg hi] at h1
        cases h1
        obtain ⟨v', G', F', e1, r1, r2, p⟩ := R.take e'
        rw [e] at e1; cases e1
        obtain ⟨F2, G2, a1, a2, a3⟩ := ih r2 h2
        refine ⟨F2, G' ++ G2, a1, .cons r1 a2, ?_⟩
        refine (p.append_right G).trans ?_
        rw [List.append_assoc]
        refine (List.Perm.append_left F' List.perm_append_comm).trans ?_
        rw [← List.append_assoc]
        refine (a3.append_right G').trans ?_
        rw [List.append_assoc]
        exact List.Perm.append_left F2 List.perm_append_comm
    · cases h1
  | @val e v es vs d ts G1 G hn q A ih =>
    intro ρ ρ2 ds F R h
    have h : bnd (pur d) (fun x => bnd (argF es ts) fun r => pur (x :: r)) ρ = some (ds, ρ2) := by
      rw [← h]
      cases e <;> first | rfl | exact absurd rfl (hn _)
    obtain ⟨x, ρ1, h1, h⟩ := bnd_some h
    obtain ⟨r, ρ3, h2, h⟩ := bnd_some h
    obtain ⟨rfl, rfl⟩ := pur_some h
    obtain ⟨rfl, rfl⟩ := pur_some h1
    obtain ⟨F2, G2, a1, a2, a3⟩ := ih R h2
    refine ⟨F2, G1 ++ G2, a1, .cons q a2, ?_⟩
    refine (List.Perm.append_left F List.perm_append_comm).trans ?_
    rw [← List.append_assoc]
    refine (a3.append_right G1).trans ?_
    rw [List.append_assoc]
    exact List.Perm.append_left F2 List.perm_append_comm
/-- .. and come back -/
theorem backA_rep {H H0 : Hp} {σ : L2.St} {es : List E} {vs : List V} {ts : List D} {G : List Addr} (A : RepA K H0 σ es vs ts G) : ∀ {ρ ρ0 ρ2 : Rho} {ds : List D} {F F2 G1 : List Addr} {os : List (Option D)}, argF es ts ρ0 = some (ds, ρ2) → RepO K H σ ρ F → RepO K H (vs.map some) os G1 → (F ++ G1).Nodup → ρ.length = σ.length →
    ∃ F3, RepO K H σ (backA es ds os ρ) F3 ∧ F3.Nodup ∧ ∀ a ∈ F3, a ∈ F ++ G1 := by
  induction A with
  | nil =>
    intro ρ ρ0 ρ2 ds F F2 G1 os h R Ro nd hl
    obtain ⟨rfl, rfl⟩ := pur_some (show pur [] ρ0 = some (ds, ρ2) from h)
    exact ⟨F, R, nd_l nd, fun a h => List.mem_append_left _ h⟩
  | @slot j v es vs d ts G e A ih =>
    intro ρ ρ0 ρ2 ds F F2 G1 os h R Ro nd hl
    obtain ⟨x, ρ1, h1, h⟩ := bnd_some (show bnd (take j) (fun x => bnd (argF es ts) fun r => pur (x :: r)) ρ0 = some (ds, ρ2) from h)
    obtain ⟨r, ρ3, h2, h⟩ := bnd_some h
    obtain ⟨rfl, rfl⟩ := pur_some h
    cases Ro with
    | non Ro =>
      obtain ⟨F3, a1, a2, a3⟩ := ih (F2 := F2) h2 R Ro nd hl
      show ∃ F3, RepO K H σ (if D.im x then backA es r _ ρ else (backA es r _ ρ).set j none) F3 ∧ _
      split
      · exact ⟨F3, a1, a2, a3⟩
      · obtain ⟨F4, b1, b2⟩ := a1.lose j
        exact ⟨F4, b1, b2.nodup a2, fun a h => a3 a (b2.subset h)⟩
    | @som v' d' _ _ Gb Ga q Ro =>
      have ndb : (F ++ Gb).Nodup := by
        refine List.Sublist.nodup ?_ nd
        exact List.Sublist.append (.refl _) (List.sublist_append_right _ _)
      obtain ⟨F3, a1, a2, a3⟩ := ih (F2 := F2) h2 R Ro ndb hl
      show ∃ F3, RepO K H σ (if D.im x then backA es r _ ρ else (backA es r _ ρ).set j (some d')) F3 ∧ _
      have wid : ∀ a ∈ F3, a ∈ F ++ (Ga ++ Gb) := fun a h => by
        have := a3 a h
        simp only [List.mem_append] at this ⊢
        rcases this with h | h
        · exact .inl h
        · exact .inr (.inr h)
      split
      · exact ⟨F3, a1, a2, wid⟩
      · obtain ⟨F4, b1, b2⟩ := a1.lose j
        have nd4 : (F4 ++ Ga).Nodup := by
          refine nd_mk (b2.nodup a2) (nd_l (nd_r nd)) fun a ha hb => ?_
          have := a3 a (b2.subset hb)
          rcases List.mem_append.mp this with h | h
          · exact nd_out nd a (List.mem_append_left _ ha) h
          · exact nd_out (nd_r nd) a h ha
        obtain ⟨F5, c1, c2, c3⟩ := RepO.mod b1 e q nd4 (by
          have l1 := a1.length
          have := (List.getElem?_eq_some_iff.mp e).1
          omega)
        refine ⟨F5, c1, c2, fun a h => ?_⟩
        rcases List.mem_append.mp (c3 a h) with h | h
        · exact wid a (b2.subset h)
        · exact List.mem_append_right _ (List.mem_append_left _ h)
  | @val e v es vs d ts G1' G hn q A ih =>
    intro ρ ρ0 ρ2 ds F F2 G1 os h R Ro nd hl
    have h : bnd (pur d) (fun x => bnd (argF es ts) fun r => pur (x :: r)) ρ0 = some (ds, ρ2) := by
      rw [← h]
      cases e <;> first | rfl | exact absurd rfl (hn _)
    obtain ⟨x, ρ1, h1, h⟩ := bnd_some h
    obtain ⟨r, ρ3, h2, h⟩ := bnd_some h
    obtain ⟨rfl, rfl⟩ := pur_some h
    have eb : ∀ o os, backA (e :: es) (x :: r) (o :: os) ρ = backA es r os ρ := fun o os => by cases e <;> first | rfl | exact absurd rfl (hn _)
    cases Ro with
    | non Ro =>
      rw [eb]
      exact ih (F2 := F2) h2 R Ro nd hl
    | @som v' d' _ _ Gb Ga q Ro =>
      rw [eb]
      obtain ⟨F3, a1, a2, a3⟩ := ih (F2 := F2) h2 R Ro (List.Sublist.nodup (List.Sublist.append (.refl _) (List.sublist_append_right _ _)) nd) hl
      refine ⟨F3, a1, a2, fun a h => ?_⟩
      have := a3 a h
      simp only [List.mem_append] at this ⊢
      rcases this with h | h
      · exact .inl h
      · exact .inr (.inr h)
/-- a call's reading -/
theorem call_read {Γ : Gam} {f : Nat} {es : List E} {σ : L2.St} {H : Hp} {Q : VK} {E : XK} (q : tV K (callM Γ f es (evT Γ es)) σ H Q) : tCall (spV K (Γ f)) [] E (tArgs K Γ es) σ H Q := by
  obtain ⟨ρ, F, d, ρ', R, nd, h, k⟩ := q
  obtain ⟨ts, ρ1, h1, h⟩ := bnd_some h
  obtain ⟨ds, ρ2, h2, h⟩ := bnd_some h
  refine args_read es R nd h1 fun vs H1 F1 G1 R1 A nd1 st1 => ?_
  obtain ⟨F2, G2, R2, L2', p⟩ := argF_lend A R1 h2
  have nd2 : (F2 ++ G2).Nodup := perm_nd p nd1
  split at h
  · cases h
  · rename_i d' os hg
    cases h
    show spV K (Γ f) (vs ++ []) H1 Q E
    rw [List.append_nil]
    refine ⟨ds, G2, d, os, L2', nd_r nd2, hg, fun v H' Ga Gr Ro q nd3 st3 => ?_⟩
    have R3 : RepO K H' σ ρ2 F2 := R2.step L2'.muty (nd_out' nd2) st3
    have nd4 : (F2 ++ (Ga ++ Gr)).Nodup := by
      refine nd_mk (nd_l nd2) nd3 fun a ha hb => ?_
      rcases st3.new a ha with h | h
      · exact nd_out nd2 a h hb
      · obtain ⟨o, e, _⟩ := R2.muty a hb
        rw [h] at e; cases e
    have nd5 : (F2 ++ Ga).Nodup := List.Sublist.nodup (List.Sublist.append (.refl _) (List.sublist_append_left _ _)) nd4
    obtain ⟨F3, a1, a2, a3⟩ := backA_rep (F2 := F2) A h2 R3 Ro nd5 R3.length.symm
    refine k v H' F3 Gr a1 q ?_ ?_
    · refine nd_mk a2 (nd_r nd3) fun a ha hb => ?_
      rcases List.mem_append.mp (a3 a hb) with h | h
      · exact nd_out nd4 a (List.mem_append_right _ ha) h
      · exact nd_out nd3 a ha h
    · have s2 : Step F (F2 ++ G2) H H1 := st1.sub fun a h => p.mem_iff.mpr h
      have s3 : Step (F2 ++ G2) (F2 ++ (Ga ++ Gr)) H1 H' := by
        refine ⟨fun a o e ha => st3.keep a o e fun h => ha (List.mem_append_right _ h), fun a ha => ?_⟩
        rcases List.mem_append.mp ha with h | h
        · exact .inl (List.mem_append_left _ h)
        · exact (st3.new a h).imp_left (List.mem_append_right _)
      refine (s2.trans s3).sub fun a h => ?_
      simp only [List.mem_append] at h ⊢
      rcases h with h | h
      · have := a3 a h
        rcases List.mem_append.mp this with h | h
        · exact .inl h
        · exact .inr (.inl h)
      · exact .inr (.inr h)
end
end VS

set_option Elab.async false
set_option linter.all false
set_option autoImplicit false
set_option maxRecDepth 100000
set_option maxHeartbeats 1000000
namespace VS
open PySem L2 PyProof.Rows
open M (bnd lif pur)
/-! ### a def by its body -/
section
variable {K : PySem.W.Frag}
theorem repO_none {H : Hp} : ∀ n : Nat, RepO K H (List.replicate n none) (List.replicate n none) []
  | 0 => .nil
  | n + 1 => .non (repO_none n)
theorem repO_start {H : Hp} {n : Nat} : ∀ {vs : List V} {ds : List D} {G : List Addr}, RepL K H vs ds G → RepO K H (vs.map some ++ List.replicate n none) (ds.map some ++ List.replicate n none) G
  | _, _, _, .nil => repO_none n
  | _, _, _, .cons q r => .som q (repO_start r)
theorem outs_get (as : List Nat) : ∀ (os : List (Option D)) (i0 i : Nat), (outs as i0 os)[i]? = if as.contains (i0 + i) then os[i]?.map (fun _ => none) else os[i]?
  | [], i0, i => by simp [outs]
  | o :: os, i0, 0 => by
    simp only [outs, List.getElem?_cons_zero, Nat.add_zero, Option.map_some]
    split <;> rfl
  | o :: os, i0, i + 1 => by
    simp only [outs, List.getElem?_cons_succ]
    rw [outs_get as os (i0 + 1) i, show i0 + 1 + i = i0 + (i + 1) by omega]
theorem outs_length (as : List Nat) : ∀ (os : List (Option D)) (i0 : Nat), (outs as i0 os).length = os.length
  | [], _ => rfl
  | o :: os, i0 => by simp [outs, outs_length as os (i0 + 1)]
/-- what a body leaves of the parameters -/
theorem outs_rep {H : Hp} {vs : List V} {σ' : L2.St} {ρ' : Rho} {F' : List Addr} {as : List Nat} {n np : Nat} (R : RepO K H σ' ρ' F') (hv : vs.length = np) (kp : KeepS as (vs.map some ++ List.replicate n none) σ') :
    ∃ G1, RepO K H (vs.map some) (outs as 0 (ρ'.take np)) G1 ∧ G1.Sublist F' := by
  obtain ⟨Fs, l1, rfl, g1, g2⟩ := R.out
  have ls := R.length
  have lk := kp.1
  have hlen : σ'.length = np + n := by rw [lk]; simp [hv]
  refine ⟨((List.range np).map fun i => match (outs as 0 (ρ'.take np))[i]? with
    | some (some _) => Fs.getD i []
    | _ => []).flatten, RepO.mk ?_ ?_ ?_ ?_, ?_⟩
  · rw [List.length_map, outs_length, List.length_take]; omega
  · rw [List.length_map, List.length_range, outs_length, List.length_take]; omega
  · intro i d e
    have hi : i < np := by
      have := (List.getElem?_eq_some_iff.mp e).1
      rw [outs_length, List.length_take] at this
      omega
    have e0 := e
    rw [outs_get, Nat.zero_add, List.getElem?_take_of_lt hi] at e
    by_cases hc : as.contains i = true
    · rw [if_pos hc] at e
      cases q : ρ'[i]? <;> rw [q] at e <;> cases e
    · rw [if_neg hc] at e
      obtain ⟨v, G, a1, a2, a3⟩ := g1 i d e
      have k1 := kp.2 i (fun z => hc (List.contains_iff_mem.mpr z))
      rw [k1, List.getElem?_append_left (by simpa [hv] using hi)] at a1
      refine ⟨v, G, a1, ?_, a3⟩
      rw [List.getElem?_map, List.getElem?_range hi]
      simp only [Option.map_some, e0]
      rw [List.getD_eq_getElem?_getD, a2]
      rfl
  · intro i e
    have hi : i < np := by
      have := (List.getElem?_eq_some_iff.mp e).1
      rw [outs_length, List.length_take] at this
      omega
    rw [List.getElem?_map, List.getElem?_range hi]
    simp only [Option.map_some, e]
  · have sb : ((List.range np).map fun i => match (outs as 0 (ρ'.take np))[i]? with
      | some (some _) => Fs.getD i []
      | _ => []).flatten.Sublist (Fs.take np).flatten := by
      refine flat_sub (fun i G e => ?_) (by simp; omega)
      rw [List.getElem?_map] at e
      cases q : (List.range np)[i]? with
      | none => rw [q] at e; cases e
      | some j =>
        rw [q] at e
        obtain ⟨hi, hj⟩ := List.getElem?_eq_some_iff.mp q
        rw [List.length_range] at hi
        rw [List.getElem_range] at hj
        subst hj
        simp only [Option.map_some, Option.some.injEq] at e
        split at e
        · right
          rw [List.getElem?_take_of_lt hi, ← e, List.getD_eq_getElem?_getD]
          have : i < Fs.length := by omega
          rw [List.getElem?_eq_getElem this]
          rfl
        · exact .inl e.symm
    refine sb.trans ?_
    rw [← List.take_append_drop np Fs, List.flatten_append]
    simp
theorem runF_read {Γ : Gam} {d : Fd} {P : Program} {w : World} {mg : Str → Option Value} {base : Heap} {n : Nat} {x qual : Str} {st : Stmt} {f : Addr} {fd : FuncData} {N ps : List Str} (F : Fun K x qual st f fd) (S : FnScope N ps (defScope st)) (hN : N.length = d.ns) (hp : ps.length = d.np)
    (hbody : ∀ (cdv : Value) (A : Around) (outer : List Env) (s : Shared) (H : Hp) (E : XK), Room n (A.deeper (envOfC qual (defScope st) s.heap.objs.size f cdv)) →
      PSs (cxOf CX0 P w K mg base N qual (defScope st) f cdv A outer s H E).nox (defBody st) (tS K (asgs d.body) (exs Γ d.body))) : FnOk P w K mg base CX0 (n + 1) f fd ps (spV K (runF Γ d)) := by
  refine F.ok S (fun vs H Q E h => ?_) (fun cdv A outer s H vs Q E hr h => ⟨_, hbody cdv A outer s H E hr, ?_⟩)
  · obtain ⟨ds, G, d', os, r, nd, e, k⟩ := h
    unfold runF at e
    split at e
    · rename_i hl
      rw [r.length, hl, hp]
    · cases e
  · obtain ⟨ds, G, d', os, r, nd, e, k⟩ := h
    unfold runF at e
    split at e
    · rename_i hl
      have hv : vs.length = d.np := by rw [r.length, hl]
      have hs : L2.start N vs = vs.map some ++ List.replicate (d.ns - d.np) none := by
        unfold L2.start
        rw [hN, hv]
      rw [hs]
      split at e
      · rename_i v ρ' hx
        cases e
        refine ⟨_, G, _, ρ', repO_start r, nd, hx, fun u σ' H' F' Gr R q nd' st' kp => ?_⟩
        obtain ⟨G1, a1, a2⟩ := outs_rep R hv kp
        refine k u H' G1 Gr a1 q (List.Sublist.nodup (List.Sublist.append a2 (.refl _)) nd') (st'.sub fun a ha => ?_)
        exact (List.mem_append.mp ha).elim (fun z => List.mem_append_left _ (a2.subset z)) fun z => List.mem_append_right _ z
      · rename_i ρ' hx
        cases e
        refine ⟨_, G, _, ρ', repO_start r, nd, hx, fun σ' H' F' R nd' st' kp => ?_⟩
        obtain ⟨G1, a1, a2⟩ := outs_rep R hv kp
        refine k .non H' G1 [] a1 .non (by rw [List.append_nil]; exact a2.nodup nd') (st'.sub fun a ha => ?_)
        rw [List.append_nil] at ha
        exact a2.subset ha
      · cases e
    · cases e
/-- a table entry, as the top has made it -/
structure Ent (K : PySem.W.Frag) (mg : Str → Option Value) (x : Str) (f : Addr) (fd : FuncData) (ps : List Str) : Prop where
  mgf : mg x = some (.ref f)
  kp : PySem.W.keepIn K (.ref f) = true
  bd : Binds K fd ps []
/-- a def of the table may be called, n deep -/
structure CalV (P : Program) (w : World) (K : PySem.W.Frag) (mg : Str → Option Value) (base : Heap) (n : Nat) (x : Str) (g : List D → Option (D × List (Option D))) : Prop where
  ex : ∃ (f : Addr) (fd : FuncData) (ps : List Str), Ent K mg x f fd ps ∧ FnOk P w K mg base CX0 n f fd ps (spV K g)
end
section
variable {X : Cx} {a b c e : Expr} {pos p : Pos} {es : List Expr} {Γ : Gam} {n f : Nat} {x : Str} {as : List E}
theorem v_call (h : CalV X.prog X.w X.K X.mg X.base n x (Γ f)) (hr : Room n X.A) (hg : Gl X x) (ha : PA X (e :: es) (tArgs X.K Γ as)) (hdb : (x == ("__debug__" : Str)) = false) (hp : plainE e = true) (hps : es.all plainE = true) :
    PE X (.Call (.Name x p) (e :: es) [] pos) (tV X.K (callM Γ f as (evT Γ as))) := by
  obtain ⟨fa, fd, ps, E, F⟩ := h.ex
  exact (pe_call F hr hg E.mgf E.kp E.bd .nil pass0 ha hdb (star_cons hp _) (star_plain hps _ _)).weak fun σ H Q q => call_read q
theorem v_call0 (h : CalV X.prog X.w X.K X.mg X.base n x (Γ f)) (hr : Room n X.A) (hg : Gl X x) (hdb : (x == ("__debug__" : Str)) = false) :
    PE X (.Call (.Name x p) [] [] pos) (tV X.K (callM Γ f [] (evT Γ []))) := by
  obtain ⟨fa, fd, ps, E, F⟩ := h.ex
  exact (pe_call0 F hr hg E.mgf E.kp E.bd .nil pass0 hdb).weak fun σ H Q q => call_read (es := []) q
theorem args_nil : PA X [] (tArgs X.K Γ []) := pa_nil
theorem args_cons {e' : E} (h : Rcv X e' e (ev Γ e')) (hp : plainE e = true) (hs : PA X es (tArgs X.K Γ as)) : PA X (e :: es) (tArgs X.K Γ (e' :: as)) := by
  rcases h with ⟨j, rfl, h⟩ | ⟨hn, h⟩
  · exact pa_cons h hs (star_cons hp _)
  · rw [tArgs_cons hn]
    exact pa_cons h hs (star_cons hp _)
end
end VS

set_option Elab.async false
set_option linter.all false
set_option autoImplicit false
set_option maxRecDepth 100000
set_option maxHeartbeats 1000000
namespace VS
open PySem L2 PyProof.Rows
open M (bnd lif pur)
/-! ### targets that take over what is stored -/
section
variable {K : PySem.W.Frag}
def tGo (K : PySem.W.Frag) (t : Tg) : TG := fun v σ H Q => ∃ d ρ F G ρ', Rep K H v d G ∧ RepO K H σ ρ F ∧ (F ++ G).Nodup ∧ setT t d ρ = some ((), ρ') ∧
  ∀ σ' F', RepO K H σ' ρ' F' → F'.Nodup → (∀ a ∈ F', a ∈ F ++ G) → KeepS t.slots σ σ' → Q σ' H
def tGso (K : PySem.W.Frag) (is : List Nat) : TGs := fun vs σ H Q => ∃ ds ρ F G ρ', RepL K H vs ds G ∧ RepO K H σ ρ F ∧ (F ++ G).Nodup ∧ setMany is ds ρ = some ((), ρ') ∧
  ∀ σ' F', RepO K H σ' ρ' F' → F'.Nodup → (∀ a ∈ F', a ∈ F ++ G) → KeepS is σ σ' → Q σ' H
end
section
variable {X : Cx}
theorem go_one {i : Nat} {e : Expr} (h : PG X e (gName i)) : PG X e (tGo X.K (.one i)) := h.weak fun v σ H Q q => by
  obtain ⟨d, ρ, F, G, ρ', r, R, nd, h, k⟩ := q
  obtain ⟨hl, rfl⟩ := setS_some h
  obtain ⟨F', a1, a2, a3⟩ := R.set r nd hl
  exact k _ F' a1 a2 a3 (KeepS.set (by simp [Tg.slots]))
theorem gso_nil : PGs X [] (tGso X.K []) := pgs_nil.weak fun vs σ H Q q => by
  obtain ⟨ds, ρ, F, G, ρ', r, R, nd, h, k⟩ := q
  cases ds with
  | cons d ds => simp [setMany] at h
  | nil =>
    cases r
    cases h
    exact ⟨rfl, k σ F R (by simpa using nd) (fun _ z => List.mem_append_left _ z) (KeepS.refl _ _)⟩
theorem gso_cons {i : Nat} {is : List Nat} {e : Expr} {es : List Expr} (h1 : PG X e (gName i)) (h2 : PGs X es (tGso X.K is)) (hs : (assignEach (e :: es) X.env).map (·.2) = assign e X.env :: (assignEach es X.env).map (·.2)) : PGs X (e :: es) (tGso X.K (i :: is)) :=
  (pgs_cons (go_one h1) h2 hs).weak fun vs σ H Q q => by
    obtain ⟨ds, ρ, F, G, ρ', r, R, nd, h, k⟩ := q
    cases ds with
    | nil => simp [setMany] at h
    | cons d ds =>
      obtain ⟨v, ws, G1, G2, rfl, rfl, a, b⟩ := r.uncons
      obtain ⟨u, ρ1, h1, h⟩ := bnd_some h
      have nd1 : (F ++ G1).Nodup := List.Sublist.nodup (List.Sublist.append (.refl _) (List.sublist_append_left _ _)) nd
      refine ⟨v, ws, rfl, d, ρ, F, G1, ρ1, a, R, nd1, h1, fun σ1 F1 R1 nd1 sb1 kp1 => ⟨ds, ρ1, F1, G2, ρ', b, R1, ?_, h, fun σ2 F2 R2 nd2 sb2 kp2 => ?_⟩⟩
      · refine nd_mk nd1 (nd_r (nd_r nd)) fun x hx hy => ?_
        rcases List.mem_append.mp (sb1 x hy) with z | z
        · exact nd_out nd x (List.mem_append_right _ hx) z
        · exact nd_out (nd_r nd) x hx z
      · refine k σ2 F2 R2 nd2 (fun x hx => ?_) ((kp1.mono fun j hj => ?_).trans (kp2.mono fun j hj => List.mem_cons_of_mem _ hj))
        · have := sb2 x hx
          simp only [List.mem_append] at this ⊢
          rcases this with z | z
          · have := sb1 x z
            simp only [List.mem_append] at this
            rcases this with z | z
            · exact .inl z
            · exact .inr (.inl z)
          · exact .inr (.inr z)
        · simp only [Tg.slots, List.mem_singleton] at hj
          rw [hj]
          exact List.mem_cons_self
theorem go_many {is : List Nat} {es : List Expr} {k : Nat} {pos : Pos} (hc : X.calm = true) (h : PGs X es (tGso X.K is)) (hn : (assignEach es X.env).length = is.length) (hst : (assignEach es X.env).findIdx? (·.1) = none) : PG X (.Tuple es k pos) (tGo X.K (.many is)) :=
  (pg_tup hc h hn hst).weak fun v σ H Q q => by
    obtain ⟨d, ρ, F, G, ρ', r, R, nd, h, k⟩ := q
    unfold setT at h
    cases d with
    | tup xs =>
      obtain ⟨a, vs, rfl, q1, l1⟩ := r.tup_inv
      exact ⟨a, vs, rfl, q1, by rw [l1.length]; exact setMany_len h, xs, ρ, F, G, ρ', l1, R, nd, h, k⟩
    | _ => simp at h
/-- .. of what is free -/
theorem go_free {t : Tg} {e : Expr} (h : PG X e (tGo X.K t)) : PG X e (tG X.K t) := h.weak fun v σ H Q q => by
  obtain ⟨d, ρ, F, ρ', r, R, nd, h, k⟩ := q
  exact ⟨d, ρ, F, [], ρ', r, R, by simpa using nd, h, fun σ' F' R' nd' sb kp => k σ' F' R' nd' (fun a ha => by simpa using sb a ha) kp⟩
/-- names one by one -/
theorem asg_names {env : Env} : ∀ {xs : List (Str × Pos)}, (assignEach (xs.map fun p => Expr.Name p.1 p.2) env).map (·.2) = (xs.map fun p => assign (.Name p.1 p.2) env) ∧ (assignEach (xs.map fun p => Expr.Name p.1 p.2) env).length = xs.length ∧ (assignEach (xs.map fun p => Expr.Name p.1 p.2) env).findIdx? (·.1) = none
  | [] => ⟨rfl, rfl, rfl⟩
  | (x, p) :: xs => by
    obtain ⟨h1, h2, h3⟩ := asg_names (env := env) (xs := xs)
    refine ⟨?_, ?_, ?_⟩
    · rw [List.map_cons, List.map_cons, ← h1]
      rfl
    · rw [List.map_cons, List.length_cons, ← h2]
      rfl
    · rw [List.map_cons, show assignEach (Expr.Name x p :: xs.map fun p => Expr.Name p.1 p.2) env = (false, assign (.Name x p) env) :: assignEach (xs.map fun p => Expr.Name p.1 p.2) env from rfl, List.findIdx?_cons, h3]
      rfl
/-- a, b = e -/
theorem s_asg {t : Tg} {tg e : Expr} {fe : M D} {pos : Pos} (he : PE X e (tV X.K fe)) (hg : PG X tg (tGo X.K t)) (hs : swapsWithSole [tg] e pos.line X.env = pure false) (hw : swappedStores [tg] e X.env = pure none) (h1 : (assignEach [tg] X.env).map (·.2) = [assign tg X.env]) :
    PS X (.Assign [tg] e pos) (tS X.K t.slots (bnd fe fun d => bnd (setT t d) fun _ => pur .nx)) := (ps_asg he hg hs hw h1).weak fun E σ H q => by
  obtain ⟨ρ, F, out, ρ', r, nd, h, k⟩ := q
  obtain ⟨d, ρ1, h1, h⟩ := bnd_some h
  obtain ⟨u, ρ2, h2, h⟩ := bnd_some h
  obtain ⟨rfl, rfl⟩ := pur_some h
  refine ⟨ρ, F, d, ρ1, r, nd, h1, fun v H1 F1 G R1 q1 nd1 st1 => ⟨d, ρ1, F1, G, ρ', q1, R1, nd1, h2, fun σ' F' R' nd' sb kp => ?_⟩⟩
  exact k σ' H1 F' R' nd' (st1.sub sb) kp
/-- a, b = x, y, stored from the right -/
theorem s_par2 {i j : Nat} {x y : Str} {a b : Expr} {fs : M (List D)} {px py pt pos : Pos} {kt k2 pt2} (hc : X.calm = true) (hN : X.N.Nodup) (hi : X.N[i]? = some x) (hj : X.N[j]? = some y) (hij : i ≠ j)
    (hx : X.env.scope.names.lookup x = some .local) (hy : X.env.scope.names.lookup y = some .local) (ha : PA X [a, b] (tVA X.K fs))
    (hw : swappedStores [.Tuple [.Name x px, .Name y py] kt pt] (.Tuple [a, b] k2 pt2) X.env = pure (some [x, y])) (hs : swapsWithSole [.Tuple [.Name x px, .Name y py] kt pt] (.Tuple [a, b] k2 pt2) pos.line X.env = pure false) :
    PS X (.Assign [.Tuple [.Name x px, .Name y py] kt pt] (.Tuple [a, b] k2 pt2) pos) (tS X.K [i, j] (bnd fs fun ds => bnd (parS [i, j] ds) fun _ => pur .nx)) := (ps_par hc hN hi hj hij hx hy ha hw hs).weak fun E σ H q => by
  obtain ⟨ρ, F, out, ρ', r, nd, h, k⟩ := q
  obtain ⟨ds, ρ1, h1, h⟩ := bnd_some h
  obtain ⟨u, ρ2, h2, h⟩ := bnd_some h
  obtain ⟨rfl, rfl⟩ := pur_some h
  refine ⟨ρ, F, ds, ρ1, r, nd, h1, fun vs H1 F1 G R1 q1 nd1 st1 => ?_⟩
  match ds, h2, q1 with
  | [], h2, _ => simp [parS] at h2
  | [d1], h2, _ => simp [parS, M.bnd] at h2
  | d1 :: d2 :: d3 :: r, h2, _ => simp [parS, M.bnd] at h2
  | [d1, d2], h2, q1 =>
    obtain ⟨v, ws, G1, G2, rfl, rfl, a1, b1⟩ := q1.uncons
    obtain ⟨w, ws, G3, G4, rfl, rfl, a2, b2⟩ := b1.uncons
    cases b2
    obtain ⟨u1, ρa, e1, e2⟩ := bnd_some h2
    obtain ⟨u2, ρb, e3, e4⟩ := bnd_some e1
    obtain ⟨rfl, rfl⟩ := pur_some e3
    obtain ⟨l1, rfl⟩ := setS_some e4
    obtain ⟨l2, rfl⟩ := setS_some e2
    rw [List.append_nil] at nd1 st1
    have ndA : (F1 ++ G3).Nodup := List.Sublist.nodup (List.Sublist.append (.refl _) (List.sublist_append_right _ _)) nd1
    obtain ⟨F2, c1, c2, c3⟩ := R1.set a2 ndA l1
    have ndB : (F2 ++ G1).Nodup := nd_mk c2 (nd_l (nd_r nd1)) fun z hz hy => by
      rcases List.mem_append.mp (c3 z hy) with t | t
      · exact nd_out nd1 z (List.mem_append_left _ hz) t
      · exact nd_out (nd_r nd1) z t hz
    obtain ⟨F3, d1, d2, d3⟩ := c1.set a1 ndB l2
    refine ⟨v, w, rfl, k _ H1 F3 ?_ d2 (st1.sub fun z hz => ?_) ?_⟩
    · rw [List.set_comm _ _ hij]
      exact d1
    · have := d3 z hz
      simp only [List.mem_append] at this ⊢
      rcases this with t | t
      · have := c3 z t
        simp only [List.mem_append] at this
        rcases this with t | t
        · exact .inl t
        · exact .inr (.inr t)
      · exact .inr (.inl t)
    · exact (KeepS.set (by simp)).trans (KeepS.set (by simp))
theorem s_par3 {i j l : Nat} {x y z : Str} {a b c : Expr} {fs : M (List D)} {px py pz pt pos : Pos} {kt k2 pt2} (hc : X.calm = true) (hN : X.N.Nodup) (hi : X.N[i]? = some x) (hj : X.N[j]? = some y) (hl : X.N[l]? = some z) (hij : i ≠ j) (hil : i ≠ l) (hjl : j ≠ l)
    (hx : X.env.scope.names.lookup x = some .local) (hy : X.env.scope.names.lookup y = some .local) (hz : X.env.scope.names.lookup z = some .local) (ha : PA X [a, b, c] (tVA X.K fs))
    (hw : swappedStores [.Tuple [.Name x px, .Name y py, .Name z pz] kt pt] (.Tuple [a, b, c] k2 pt2) X.env = pure (some [x, y, z])) (hs : swapsWithSole [.Tuple [.Name x px, .Name y py, .Name z pz] kt pt] (.Tuple [a, b, c] k2 pt2) pos.line X.env = pure false) :
    PS X (.Assign [.Tuple [.Name x px, .Name y py, .Name z pz] kt pt] (.Tuple [a, b, c] k2 pt2) pos) (tS X.K [i, j, l] (bnd fs fun ds => bnd (parS [i, j, l] ds) fun _ => pur .nx)) := (ps_par3 hc hN hi hj hl hij hil hjl hx hy hz ha hw hs).weak fun E σ H q => by
  obtain ⟨ρ, F, out, ρ', r, nd, h, k⟩ := q
  obtain ⟨ds, ρ1, h1, h⟩ := bnd_some h
  obtain ⟨u, ρ2, h2, h⟩ := bnd_some h
  obtain ⟨rfl, rfl⟩ := pur_some h
  refine ⟨ρ, F, ds, ρ1, r, nd, h1, fun vs H1 F1 G R1 q1 nd1 st1 => ?_⟩
  match ds, h2, q1 with
  | [], h2, _ => simp [parS] at h2
  | [d1], h2, _ => simp [parS, M.bnd] at h2
  | [d1, d2], h2, _ => simp [parS, M.bnd] at h2
  | d1 :: d2 :: d3 :: d4 :: r, h2, _ => simp [parS, M.bnd] at h2
  | [x1, x2, x3], h2, q1 =>
    obtain ⟨v, ws, G1, G2, rfl, rfl, a1, b1⟩ := q1.uncons
    obtain ⟨w, ws, G3, G4, rfl, rfl, a2, b2⟩ := b1.uncons
    obtain ⟨y', ws, G5, G6, rfl, rfl, a3, b3⟩ := b2.uncons
    cases b3
    obtain ⟨u1, ρa, e1, e2⟩ := bnd_some h2
    obtain ⟨u2, ρb, e3, e4⟩ := bnd_some e1
    obtain ⟨u3, ρc, e5, e6⟩ := bnd_some e3
    obtain ⟨rfl, rfl⟩ := pur_some e5
    obtain ⟨l0, rfl⟩ := setS_some e6
    obtain ⟨l1, rfl⟩ := setS_some e4
    obtain ⟨l2, rfl⟩ := setS_some e2
    rw [List.append_nil] at nd1 st1
    have nd0 : (F1 ++ G5).Nodup := List.Sublist.nodup (List.Sublist.append (.refl _) ((List.sublist_append_right _ _).trans (List.sublist_append_right _ _))) nd1
    obtain ⟨F0, b1, b2, b3⟩ := R1.set a3 nd0 l0
    have ndA : (F0 ++ G3).Nodup := nd_mk b2 (nd_l (nd_r (nd_r nd1))) fun z hz hy => by
      rcases List.mem_append.mp (b3 z hy) with t | t
      · exact nd_out nd1 z (List.mem_append_right _ (List.mem_append_left _ hz)) t
      · exact nd_out (nd_r (nd_r nd1)) z t hz
    obtain ⟨F2, c1, c2, c3⟩ := b1.set a2 ndA l1
    have ndB : (F2 ++ G1).Nodup := nd_mk c2 (nd_l (nd_r nd1)) fun z hz hy => by
      rcases List.mem_append.mp (c3 z hy) with t | t
      · rcases List.mem_append.mp (b3 z t) with t | t
        · exact nd_out nd1 z (List.mem_append_left _ hz) t
        · exact nd_out (nd_r nd1) z (List.mem_append_right _ t) hz
      · exact nd_out (nd_r nd1) z (List.mem_append_left _ t) hz
    obtain ⟨F3, d1, d2, d3⟩ := c1.set a1 ndB l2
    refine ⟨v, w, y', rfl, k _ H1 F3 ?_ d2 (st1.sub fun z hz => ?_) ?_⟩
    · rw [List.set_comm _ _ hij, List.set_comm _ _ hil, List.set_comm _ _ hjl]
      exact d1
    · have := d3 z hz
      simp only [List.mem_append] at this ⊢
      rcases this with t | t
      · have := c3 z t
        simp only [List.mem_append] at this
        rcases this with t | t
        · have := b3 z t
          simp only [List.mem_append] at this
          rcases this with t | t
          · exact .inl t
          · exact .inr (.inr (.inr t))
        · exact .inr (.inr (.inl t))
      · exact .inr (.inl t)
    · exact ((KeepS.set (by simp)).trans (KeepS.set (by simp))).trans (KeepS.set (by simp))
end
end VS

set_option Elab.async false
set_option linter.all false
set_option autoImplicit false
set_option maxRecDepth 100000
set_option maxHeartbeats 1000000
namespace VS
open PySem L2 PyProof.Rows
open M (bnd lif pur)
section
variable {X : Cx} {a b c e o : Expr} {pos p apos : Pos} {es : List Expr}
/-! ### a op b op c -/
theorem chn_read {K : PySem.W.Frag} {op op' : Cm} {fa fb fc : M D} {σ : L2.St} {H : Hp} {Q : VK}
    (q : tV K (bnd fa fun x => bnd fb fun y => bnd (lif (cmpop op x y)) fun t => if t = true then bnd fc fun z => lif ((cmpop op' y z).map .bl) else pur (.bl false)) σ H Q) : tChain (rCm K op) (rCm K op') (tV K fa) (tV K fb) (tV K fc) σ H Q := by
  obtain ⟨ρ, F, d, ρ5, r0, nd, h, k⟩ := q
  obtain ⟨x, ρ1, h1, h⟩ := bnd_some h
  obtain ⟨y, ρ2, h2, h⟩ := bnd_some h
  obtain ⟨t, ρ3, h3', h⟩ := bnd_some h
  obtain ⟨h3, rfl⟩ := lif_some h3'
  refine ⟨ρ, F, x, ρ1, r0, nd, h1, fun v1 H1 F1 G1 R1 q1 nd1 st1 => ⟨ρ1, F1, y, ρ3, R1, nd_l nd1, h2, fun v2 H2 F2 G2 R2 q2 nd2 st2 => ?_⟩⟩
  have q1' := q1.step R1.muty (nd_out nd1) st2
  refine ov_cm K op H2 v1 v2 x y (.bl t) G1 G2 _ q1' q2 (congrArg (Option.map D.bl) h3) fun v H3 G3 q3 nd3 s3 => ?_
  obtain ⟨rfl, rfl⟩ := q3.bl_inv
  refine ⟨t, rfl, ?_⟩
  have stA : Step F F2 H H2 := (st1.sub fun a h => List.mem_append_left _ h).trans (st2.sub fun a h => List.mem_append_left _ h)
  have noM : MutAt H2 [] := fun _ z => nomatch z
  have R3 : RepO K H3 σ ρ3 F2 := R2.step noM (fun a _ z => nomatch z) s3
  have st3 : Step F F2 H H3 := stA.trans ⟨fun a o e _ => s3.keep a o e (fun z => nomatch z), fun a h => .inl h⟩
  cases t with
  | false =>
    simp only [Bool.false_eq_true, if_false] at h ⊢
    obtain ⟨rfl, rfl⟩ := pur_some h
    exact k _ H3 F2 [] R3 (.bl false) (by simpa using nd_l nd2) (by rw [List.append_nil]; exact st3)
  | true =>
    simp only [if_true] at h ⊢
    obtain ⟨z, ρ4, h4, h⟩ := bnd_some h
    obtain ⟨h5, rfl⟩ := lif_some h
    have q2' : Rep K H3 v2 y G2 := q2.step noM (fun a _ z => nomatch z) s3
    refine ⟨ρ3, F2, z, ρ5, R3, nd_l nd2, h4, fun v4 H4 F4 G4 R4 q4 nd4 st4 => ?_⟩
    have q2'' := q2'.step R3.muty (nd_out nd2) st4
    refine ov_cm K op' H4 v2 v4 y z d G2 G4 Q q2'' q4 h5 fun v5 H5 G5 q5 nd5 s5 => ?_
    obtain ⟨a1, a2, a3⟩ := fin2 (G1 := []) R4 (fun _ z => nomatch z) (by simpa using nd_l nd4) (by rw [List.append_nil]; exact st3.trans (st4.sub fun a h => List.mem_append_left _ h)) nd5 s5
    exact k v5 H5 F4 G5 a1 q5 a2 a3
theorem v_chn {op op' : Cm} {fa fb fc : M D} (hu : X.A.units + 100 < cLine) (ha : PE X a (tV X.K fa)) (hb : PE X b (tV X.K fb)) (hc : PE X c (tV X.K fc)) (hm : lastMarks [cmOf op, cmOf op'] [b, c] = false) :
    PE X (.Compare a [cmOf op, cmOf op'] [b, c] pos) (tV X.K (bnd fa fun x => bnd fb fun y => bnd (lif (cmpop op x y)) fun t => if t = true then bnd fc fun z => lif ((cmpop op' y z).map .bl) else pur (.bl false))) :=
  (pe_chain (op_cm hu op) (op_cm hu op') ha hb hc hm).weak fun σ H Q q => chn_read q
theorem v_ptChn {op op' : Cm} {fa fb fc : M D} (hu : X.A.units + 100 < cLine) (ha : PE X a (tV X.K fa)) (hb : PE X b (tV X.K fb)) (hc : PE X c (tV X.K fc)) (hm : lastMarks [cmOf op, cmOf op'] [b, c] = false) :
    PT X (.Compare a [cmOf op, cmOf op'] [b, c] pos) (tVT X.K (tB (bnd fa fun x => bnd fb fun y => bnd (lif (cmpop op x y)) fun t => if t = true then bnd fc fun z => lif ((cmpop op' y z).map .bl) else pur (.bl false)))) :=
  (pt_chain (op_cm hu op) (op_cm hu op') ha hb hc hm).weak fun σ H Q q => chn_read (wt q)
/-! ### is True, is not True, is None as tests -/
theorem toB_inv {x d : D} {f : Bool → D} (h : (toB x).map f = some d) : ∃ b, x = .bl b ∧ d = f b := by
  cases x <;> simp [toB] at h
  exact ⟨_, rfl, h.symm⟩
theorem isT_read {K : PySem.W.Frag} {fa : M D} {r : R2} {g : Bool → Bool} {m : Bool} (hr : ∀ (x : Bool) H Q, Q (.bl (g x)) H → r (.bl x) (.bl m) H Q) {σ : L2.St} {H : Hp} {Q : VK} (q : tV K (bnd fa fun x => lif ((toB x).map fun b => .bl (g b))) σ H Q) : tOp r (tV K fa) (tC (.bl m)) σ H Q := by
  obtain ⟨ρ, F, d, ρ3, r0, nd, h, k⟩ := q
  obtain ⟨x, ρ1, h1, h⟩ := bnd_some h
  obtain ⟨h3, rfl⟩ := lif_some h
  obtain ⟨b, rfl, rfl⟩ := toB_inv h3
  refine ⟨ρ, F, _, ρ3, r0, nd, h1, fun v1 H1 F1 G1 R1 q1 nd1 st1 => ?_⟩
  obtain ⟨rfl, rfl⟩ := q1.bl_inv
  exact hr b H1 Q (k _ H1 F1 [] R1 (.bl _) nd1 st1)
theorem v_isT {fa : M D} {j : Nat} {pos' : Pos} (ha : PE X a (tV X.K fa)) : PE X (.Compare a [.Is] [.Constant (.bool true) j pos'] pos) (tV X.K (bnd fa fun x => lif ((toB x).map .bl))) :=
  (pe_cmpR op_isBl ha pe_bl rfl).weak fun σ H Q q => isT_read (g := id) (fun x H Q h => ⟨x, true, rfl, rfl, by cases x <;> exact h⟩) q
theorem v_notT {fa : M D} {j : Nat} {pos' : Pos} (ha : PE X a (tV X.K fa)) : PE X (.Compare a [.IsNot] [.Constant (.bool true) j pos'] pos) (tV X.K (bnd fa fun x => lif ((toB x).map fun b => .bl (!b)))) :=
  (pe_cmpR op_notBl ha pe_bl rfl).weak fun σ H Q q => isT_read (g := not) (fun x H Q h => ⟨x, true, rfl, rfl, by cases x <;> exact h⟩) q
theorem v_ptIsT {fa : M D} {j : Nat} {pos' : Pos} (ha : PE X a (tV X.K fa)) : PT X (.Compare a [.Is] [.Constant (.bool true) j pos'] pos) (tVT X.K (tB (bnd fa fun x => lif ((toB x).map .bl)))) :=
  (pt_cmpR op_isBl ha pe_bl rfl).weak fun σ H Q q => isT_read (g := id) (fun x H Q h => ⟨x, true, rfl, rfl, by cases x <;> exact h⟩) (wt q)
theorem v_ptNotT {fa : M D} {j : Nat} {pos' : Pos} (ha : PE X a (tV X.K fa)) : PT X (.Compare a [.IsNot] [.Constant (.bool true) j pos'] pos) (tVT X.K (tB (bnd fa fun x => lif ((toB x).map fun b => .bl (!b))))) :=
  (pt_cmpR op_notBl ha pe_bl rfl).weak fun σ H Q q => isT_read (g := not) (fun x H Q h => ⟨x, true, rfl, rfl, by cases x <;> exact h⟩) (wt q)
theorem isN_read {K : PySem.W.Frag} {fa : M D} {g : D → Bool} {r : V → Bool} (hr : ∀ v d G H, Rep K H v d G → r v = g d) {σ : L2.St} {H : Hp} {Q : Bool → Hp → Prop} (q : tVT K (tB (bnd fa fun x => pur (.bl (g x)))) σ H Q) : tV K fa σ H fun x H' => Q (r x) H' := by
  obtain ⟨ρ, F, d, ρ3, r0, nd, h, k⟩ := q
  have h := tB_some h
  obtain ⟨x, ρ1, h1, h⟩ := bnd_some h
  cases h
  refine ⟨ρ, F, x, _, r0, nd, h1, fun v1 H1 F1 G1 R1 q1 nd1 st1 => ?_⟩
  show Q (r v1) H1
  rw [hr _ _ _ _ q1]
  exact k H1 F1 R1 (nd_l nd1) (st1.sub fun a h => List.mem_append_left _ h)
theorem non_v {K : PySem.W.Frag} {v : V} {d : D} {G : List Addr} {H : Hp} (q : Rep K H v d G) : decide (v = V.non) = decide (d = D.non) := by cases q <;> simp
theorem v_ptIsN {fa : M D} {j : Nat} {pos' : Pos} (ha : PE X a (tV X.K fa)) : PT X (.Compare a [.Is] [.Constant .none j pos'] pos) (tVT X.K (tB (bnd fa fun x => pur (.bl (decide (x = .non)))))) :=
  (pt_cmp (pc_isN ha)).weak fun σ H Q q => by
    have := isN_read (r := fun v => decide (v = V.non)) (fun v d G H q => non_v q) q
    obtain ⟨ρ, F, d, ρ3, r0, nd, h, k⟩ := this
    exact ⟨ρ, F, d, ρ3, r0, nd, h, fun v H' F' G r1 r2 nd' st => ⟨_, rfl, k v H' F' G r1 r2 nd' st⟩⟩
theorem v_ptNotN {fa : M D} {j : Nat} {pos' : Pos} (ha : PE X a (tV X.K fa)) : PT X (.Compare a [.IsNot] [.Constant .none j pos'] pos) (tVT X.K (tB (bnd fa fun x => pur (.bl (!decide (x = .non)))))) :=
  (pt_cmp (pc_notN ha)).weak fun σ H Q q => by
    have := isN_read (g := fun d => !decide (d = D.non)) (r := fun v => !decide (v = V.non)) (fun v d G H q => congrArg not (non_v q)) q
    obtain ⟨ρ, F, d, ρ3, r0, nd, h, k⟩ := this
    exact ⟨ρ, F, d, ρ3, r0, nd, h, fun v H' F' G r1 r2 nd' st => ⟨_, rfl, k v H' F' G r1 r2 nd' st⟩⟩
theorem tB_bnd {m : M Bool} {f : Bool → M D} {ρ ρ' : Rho} {b : Bool} (h : tB (bnd m f) ρ = some (b, ρ')) : ∃ x ρ1, m ρ = some (x, ρ1) ∧ tB (f x) ρ1 = some (b, ρ') := by
  have h := tB_some h
  obtain ⟨x, ρ1, h1, h2⟩ := bnd_some h
  refine ⟨x, ρ1, h1, ?_⟩
  show bnd (f x) (fun d => lif (toB d)) ρ1 = _
  unfold bnd
  rw [h2]
  rfl
theorem v_ptIfe {fc fa fb : M D} (hc : PT X c (tVT X.K (tB fc))) (ha : PT X a (tVT X.K (tB fa))) (hb : PT X b (tVT X.K (tB fb))) : PT X (.IfExp c a b pos) (tVT X.K (tB (bnd (tB fc) fun t => if t = true then fa else fb))) := by
  refine ⟨fun pins s σ H Q I q => ?_⟩
  obtain ⟨ρ, F, d, ρ3, r0, nd, h, k⟩ := q
  obtain ⟨x, ρ1, h1, h⟩ := tB_bnd h
  refine isTrue_IfExp (thn (hc.run pins s σ H (fun t H1 => if t = true then tVT X.K (tB fa) σ H1 Q else tVT X.K (tB fb) σ H1 Q) I ⟨ρ, F, x, ρ1, r0, nd, h1, fun H1 F1 R1 nd1 st1 => ?_⟩) fun t s1 ⟨H1, I1, q1⟩ => ?_)
  · cases x with
    | false =>
      simp only [Bool.false_eq_true, if_false] at h
      exact iteF ⟨ρ1, F1, d, ρ3, R1, nd1, h, fun H2 F2 R2 nd2 st2 => k H2 F2 R2 nd2 (st1.trans st2)⟩
    | true =>
      simp only [if_true] at h
      exact iteT ⟨ρ1, F1, d, ρ3, R1, nd1, h, fun H2 F2 R2 nd2 st2 => k H2 F2 R2 nd2 (st1.trans st2)⟩
  · cases t with
    | false =>
      simp only [Bool.false_eq_true, if_false] at q1
      exact iteF (hb.run pins s1 σ H1 Q I1 q1)
    | true =>
      simp only [if_true] at q1
      exact iteT (ha.run pins s1 σ H1 Q I1 q1)
/-! ### isinstance -/
def tyNm : D → String
  | .ptr _ => ""
  | .non => "NoneType"
  | .bl _ => "bool"
  | .int _ => "int"
  | .str _ => "str"
  | .tup _ => "tuple"
  | .lst _ => "list"
  | .rls _ => "list"
  | .dic _ _ _ => "dict"
def tyStr : Ty → String
  | .int => "int"
  | .bool => "bool"
  | .str => "str"
  | .tuple => "tuple"
  | .list => "list"
  | .dict => "dict"
def tyS : Ty → Str
  | .int => "int"
  | .bool => "bool"
  | .str => "str"
  | .tuple => "tuple"
  | .list => "list"
  | .dict => "dict"
theorem rep_ty {K : PySem.W.Frag} {H : Hp} {v : V} {d : D} {G : List Addr} {t : Ty} {b : Bool} (r : Rep K H v d G) (hb : isTyO t d = some b) : TyX K H v (.type (tyNm d)) := by
  cases r with
  | non => exact .base .non
  | bl b => exact .base (.bl b)
  | int i => exact .base (.int i)
  | str x h => exact .base (.str x)
  | tup q _ =>
    rcases q with (q | ⟨o, q⟩) | ⟨o, its, n, q1, q2, _⟩
    · exact .base (.tup q)
    · exact .fTuple q
    · exact .kTuple q1 q2
  | lst q _ => exact .base (.lst q)
  | rls q _ =>
    rcases q with ⟨o, q⟩ | ⟨o, its, n, q1, q2, _⟩
    · exact .base (.frz q)
    · exact .kList q1 q2
  | dicK q _ _ => exact .base (.dK q)
  | ptr a => cases hb
theorem kitB_ty (d : D) (t : Ty) {b : Bool} (h : isTyO t d = some b) : kitB (tyNm d) (tyStr t) = some b := by
  rw [← h]
  cases d <;> cases t <;> first | (cases h; done) | (simp only [tyNm, tyStr, isTyO, isTy] <;> decide +kernel)
theorem boot_ty : ∀ t : Ty, bootBuiltins (tyS t) = some (.type (tyStr t)) := by
  intro t
  cases t <;> decide +kernel
theorem tyS_ne : ∀ t : Ty, tyS t ≠ "__name__" ∧ (tyS t == ("__debug__" : Str)) = false := by
  intro t
  cases t <;> decide +kernel
theorem v_isi {t : Ty} {fa : M D} {p2 : Pos} (hg : Gl X "isinstance") (hm : X.mg "isinstance" = none) (hg2 : Gl X (tyS t)) (hm2 : X.mg (tyS t) = none) (hp : plainE a = true) (ha : PE X a (tR X.K fa)) :
    PE X (.Call (.Name "isinstance" p) [a, .Name (tyS t) p2] [] pos) (tV X.K (bnd fa fun d => lif ((isTyO t d).map .bl))) :=
  (pe_callB call_isi hg hm (by decide +kernel) (pa_cons ha (pa_cons (pe_bltn (v := .ty (tyStr t)) hg2 hm2 (boot_ty t) rfl (tyS_ne t).1 (tyS_ne t).2) pa_nil) (star_cons hp _)) (by decide +kernel) (by decide +kernel) (star_cons hp _) rfl).weak fun σ H Q q => by
    obtain ⟨ρ, F, d, ρ3, r0, nd, h, k⟩ := q
    obtain ⟨x, ρ1, h1, h⟩ := bnd_some h
    obtain ⟨h4, rfl⟩ := lif_some h
    obtain ⟨b, hb, rfl⟩ := Option.map_eq_some_iff.mp h4
    refine ⟨ρ, F, x, ρ3, r0, nd, h1, fun v1 H1 F1 G1 F2 R1 q1 sb _ _ nd2 m2 st1 => ?_⟩
    show rIsi X.K [v1, V.ty (tyStr t)] H1 Q
    refine ⟨v1, _, _, _, _, rfl, .ty _, rep_ty q1 hb, kit_ty (kitB_ty x t hb), ?_⟩
    exact k _ H1 F1 [] R1 (.bl _) (by simpa using sb.nodup nd2) (by rw [List.append_nil]; exact st1.sub fun a h => sb.subset h)
/-! ### join -/
end
theorem joinL_eq (S : List Nat) : ∀ ss : List (List Nat), VS.joinL S ss = TL.joinL S ss
  | [] => rfl
  | [_] => rfl
  | x :: y :: r => by
    show x ++ S ++ VS.joinL S (y :: r) = x ++ (S ++ TL.joinL S (y :: r))
    rw [joinL_eq S (y :: r), List.append_assoc]
theorem joinL_len (S : List Nat) : ∀ ss : List (List Nat), (VS.joinL S ss).length ≤ (ss.map (·.length)).sum + ss.length * S.length
  | [] => by simp [VS.joinL]
  | [x] => by simp [VS.joinL]
  | x :: y :: r => by
    have := joinL_len S (y :: r)
    simp only [VS.joinL, List.length_append, List.map_cons, List.sum_cons, List.length_cons] at this ⊢
    have e : (r.length + 1 + 1) * S.length = (r.length + 1) * S.length + S.length := by rw [Nat.add_mul, Nat.one_mul]
    omega
theorem strL_inv {K : PySem.W.Frag} {H : Hp} : ∀ {ds : List D} {ss : List (List Nat)} {vs : List V} {F : List Addr}, RepL K H vs ds F → strL ds = some ss → ∃ ys : List Str, vs = ys.map V.str ∧ ss = ys.map fun y => y.cps.toList
  | [], ss, vs, F, r, h => by
    cases h
    cases r
    exact ⟨[], rfl, rfl⟩
  | d :: ds, ss, vs, F, r, h => by
    obtain ⟨v, ws, G1, G2, rfl, rfl, a, b⟩ := r.uncons
    cases d <;> simp [strL] at h
    obtain ⟨ss', h1, rfl⟩ := h
    obtain ⟨ys, rfl, rfl⟩ := strL_inv b h1
    obtain ⟨x, rfl, rfl, _, _⟩ := a.str_inv
    exact ⟨x :: ys, rfl, rfl⟩
theorem join_cps (a : Str) (ys : List Str) : (Txt.join a ys).cps.toList = VS.joinL a.cps.toList (ys.map fun y => y.cps.toList) := by
  rw [TL.join_eq, joinL_eq]
  exact TL.tl_join a ys
def rJoin (K : PySem.W.Frag) : V → V → Hp → VK → Prop := fun x y H Q => ∃ a p, ∃ ys : List Str, x = .str a ∧ y = .ref p ∧ (SqL K H p (ys.map V.str) ∨ SqT K H p (ys.map V.str)) ∧ (ys.map (·.length)).sum + ys.length * a.length ≤ 16777216 ∧ Q (.str (Txt.join a ys)) H
theorem ov_join (K : PySem.W.Frag) : OpVR K (rJoin K) joinD := by
  intro H vx vy x y d G1 G2 Q r1 r2 e k
  unfold joinD at e
  split at e
  · rename_i sep
    split at e
    · rename_i xs hx
      split at e
      · rename_i ss hs
        split at e
        · rename_i hl
          cases e
          obtain ⟨a, rfl, rfl, _, _⟩ := r1.str_inv
          have key : ∀ {vs : List V} {F : List Addr} {p : Addr}, RepL K H vs xs F → (SqL K H p vs ∨ SqT K H p vs) → rJoin K (.str a) (.ref p) H Q := by
            intro vs F p r q
            obtain ⟨ys, rfl, rfl⟩ := strL_inv r hs
            have e1 : (ys.map fun y => y.cps.toList).map (·.length) = ys.map (·.length) := by rw [List.map_map]; exact List.map_congr_left fun y _ => str_len y
            rw [e1, List.length_map, str_len] at hl
            refine ⟨a, p, ys, rfl, rfl, q, hl, ?_⟩
            refine k _ H [] ?_ List.nodup_nil Step.refl
            have hlen : (Txt.join a ys).length ≤ sizeLine := by
              rw [← LIM_line, ← str_len, join_cps]
              refine Nat.le_trans (joinL_len _ _) ?_
              rw [e1, List.length_map, str_len]
              exact hl
            have := Rep.str (K := K) (H := H) (Txt.join a ys) hlen
            rwa [join_cps] at this
          cases y <;> simp [items] at hx
          · subst hx
            obtain ⟨p, vs, rfl, q, l⟩ := r2.tup_inv
            exact key l (.inr q)
          · subst hx
            obtain ⟨p, vs, G, rfl, q, l, _⟩ := r2.lst_inv
            exact key l (.inl (SqL.of q))
          · subst hx
            obtain ⟨p, vs, rfl, q, l⟩ := r2.rls_inv
            exact key l (.inl q.sq)
        · cases e
      · cases e
    · cases e
  · cases e
section
variable {X : Cx} {a b c e o : Expr} {pos p apos : Pos} {es : List Expr}
theorem v_join {fa fb : M D} (ho : PE X o (tV X.K fa)) (hb : PE X b (tR X.K fb)) (hp : plainE b = true) (hns : noSup o = true) (hline : (apos.endLine == pos.line) = true) :
    PE X (.Call (.Attribute o "join" apos) [b] [] pos) (tV X.K (bnd fa fun x => bnd fb fun y => lif (joinD x y))) :=
  (pe_join ho hb (star_cons hp _) (att_base hns _ _ _) hline).weak fun σ H Q q => by
    obtain ⟨ρ, F, d, ρ3, r0, nd, h, k⟩ := q
    obtain ⟨x, ρ1, h1, h⟩ := bnd_some h
    obtain ⟨y, ρ2, h2, h⟩ := bnd_some h
    obtain ⟨h3, rfl⟩ := lif_some h
    obtain ⟨s, rfl⟩ : ∃ s, x = .str s := by
      cases x <;> simp [joinD] at h3
      exact ⟨_, rfl⟩
    refine ⟨ρ, F, _, ρ1, r0, nd, h1, fun v1 H1 F1 G1 R1 q1 nd1 st1 => ⟨?_, ρ1, F1, y, ρ3, R1, nd_l nd1, h2, fun v2 H2 F2 G2 F3 R2 q2 sb _ _ nd3 m3 st2 => ?_⟩⟩
    · obtain ⟨z, rfl, _⟩ := q1.str_inv
      exact ⟨z, rfl⟩
    have q1' := q1.step R1.muty (nd_out nd1) st2
    obtain ⟨z, p', ys, e1, e2, e3, e4, e5⟩ := ov_join X.K H2 v1 v2 _ y d G1 G2 Q q1' q2 h3 fun v H' G q3 ndG s3 => by
      have st : Step F F2 H H2 := (st1.sub fun a h => List.mem_append_left _ h).trans (st2.sub fun a h => sb.subset h)
      obtain ⟨a1, a2, a3⟩ := fin2 (G1 := []) R2 (fun _ z => nomatch z) (by simpa using sb.nodup nd3) (by rw [List.append_nil]; exact st) ndG s3
      exact k v H' F2 G a1 q3 a2 a3
    exact ⟨z, p', ys, e1, by rw [e2], e3, e4, e5⟩
/-! ### list.index -/
theorem idxOf_some {x : D} : ∀ {xs : List D} {n j : Nat}, idxOf x xs n = some j → ∃ i y, j = n + i ∧ xs[i]? = some y ∧ y = x ∧ ∀ m z, m < i → xs[m]? = some z → z ≠ x
  | [], n, j, h => by simp [idxOf] at h
  | y :: r, n, j, h => by
    unfold idxOf at h
    split at h
    · rename_i e
      cases h
      exact ⟨0, y, rfl, rfl, e, fun m z hm => absurd hm (Nat.not_lt_zero _)⟩
    · rename_i e
      obtain ⟨i, w, rfl, h2, h3, h4⟩ := idxOf_some h
      refine ⟨i + 1, w, by omega, by simpa using h2, h3, fun m z hm hz => ?_⟩
      cases m with
      | zero => simp at hz; rw [← hz]; exact e
      | succ m => exact h4 m z (by omega) (by simpa using hz)
def rIdx (K : PySem.W.Frag) : R2 := fun x y H Q => rIndexD K x [y] H Q
theorem toPys_get : ∀ {xs : List D} {i : Nat} {z : PyData}, (toPys xs)[i]? = some z → ∃ y, xs[i]? = some y ∧ z = toPy y
  | [], i, z, h => by simp [toPys] at h
  | x :: xs, 0, z, h => by
    simp [toPys] at h
    exact ⟨x, rfl, h.symm⟩
  | x :: xs, i + 1, z, h => by
    simp only [toPys, List.getElem?_cons_succ] at h
    obtain ⟨y, h1, h2⟩ := toPys_get h
    exact ⟨y, by simpa using h1, h2⟩
theorem toPys_get' : ∀ {xs : List D} {i : Nat} {y : D}, xs[i]? = some y → (toPys xs)[i]? = some (toPy y)
  | [], i, z, h => by simp at h
  | x :: xs, 0, z, h => by
    simp at h
    simp [toPys, h]
  | x :: xs, i + 1, z, h => by
    simp only [toPys, List.getElem?_cons_succ] at h ⊢
    exact toPys_get' h
theorem okns_get {n : Nat} : ∀ {xs : List D} {i : Nat} {y : D}, D.okns n xs = true → xs[i]? = some y → D.okn n y = true
  | [], i, y, _, h => by simp at h
  | x :: xs, 0, y, o, h => by
    simp only [D.okns, Bool.and_eq_true] at o
    simp at h
    rw [← h]; exact o.1
  | x :: xs, i + 1, y, o, h => by
    simp only [D.okns, Bool.and_eq_true] at o
    exact okns_get o.2 (by simpa using h)
theorem ov_idx (K : PySem.W.Frag) : OpVR K (rIdx K) idxD := by
  intro H vx vy x y d G1 G2 Q r1 r2 e k
  unfold idxD at e
  split at e
  · rename_i xs
    split at e
    · rename_i ho
      simp only [Bool.and_eq_true] at ho
      obtain ⟨j, hj, rfl⟩ := Option.map_eq_some_iff.mp e
      obtain ⟨i, z, e1, h1, rfl, h3⟩ := idxOf_some hj
      have e1 : j = i := by omega
      subst e1
      obtain ⟨p, vs, G, rfl, q, l, _⟩ := _root_.id r1.lst_inv
      have okl : D.okn 21 (.lst xs) = true := by simpa [D.okn] using ho.2
      refine ⟨p, vy, toPy z, toPys xs, j, toPy z, rfl, rfl, ?_, rep_dp r2 ho.1, ?_, py_shaped ho.1 (by decide), toPys_get' h1, ?_, ?_, ?_⟩
      · have := rep_dp r1 okl
        simpa [toPy] using this
      · have := py_shaped okl (by decide)
        simpa [toPy] using this
      · rw [py_eqv z z 20 20 ho.1 ho.1]
        exact decide_eq_true rfl
      · intro m z' hm hz'
        obtain ⟨w, hw, rfl⟩ := toPys_get hz'
        rw [py_eqv w z 20 20 (okns_get ho.2 hw) ho.1]
        exact decide_eq_false (h3 m w hm hw)
      · exact k _ H [] (.int _) List.nodup_nil Step.refl
    · cases e
  · cases e
end
end VS

set_option Elab.async false
set_option linter.all false
set_option autoImplicit false
set_option maxRecDepth 100000
set_option maxHeartbeats 1000000
namespace VS
open PySem L2 PyProof.Rows
open M (bnd lif pur)
section
variable {X : Cx} {a b c e o : Expr} {pos p apos : Pos} {es : List Expr}
theorem idxD_lst {d x y : D} (h : idxD d x = some y) : ∃ xs, d = .lst xs := by
  unfold idxD at h
  split at h
  · exact ⟨_, rfl⟩
  · cases h
theorem v_idx {e : E} {fa fb : M D} (hu : X.A.units + 100 < cLine) (ho : Rcv X e o fa) (hb : PE X b (tV X.K fb)) (hp : plainE b = true) (hns : noSup o = true) (hline : (apos.endLine == pos.line) = true) :
    PE X (.Call (.Attribute o "index" apos) [b] [] pos) (tV X.K (rcvL e fa fb fun d x => lif (idxD d x))) := by
  have key : ∀ {ta : TE}, PE X o ta → PE X (.Call (.Attribute o "index" apos) [b] [] pos) (tBM X.K "list" (rIndexD X.K) ta (tCons (tV X.K fb) tNil)) := fun h =>
    pe_bm F.plainAttrs_list F.slot_list_index F.type_list_index (mt_indexD (by omega)) h (pa_cons hb pa_nil (star_cons hp _)) (att_base hns _ _ _) (few_ok hp _) hline (star_cons hp _) rfl
  rcases ho with ⟨j, rfl, h⟩ | ⟨hn, h⟩
  · refine (key h).weak fun σ H Q q => ?_
    obtain ⟨ρ, F, d, ρ3, r0, nd, h, k⟩ := q
    obtain ⟨u, ρ1, h1, h⟩ := bnd_some (show bnd (lookL j) (fun _ => bnd fb fun k => bnd (look j) fun d => lif (idxD d k)) ρ = some (d, ρ3) from h)
    obtain ⟨x, ρ2, h2, h⟩ := bnd_some h
    obtain ⟨l, ρ4, h4, h⟩ := bnd_some h
    obtain ⟨h5, rfl⟩ := lif_some h
    obtain ⟨e4, rfl⟩ := look_some h4
    obtain ⟨v, ev, ty, rfl⟩ := lookL_some r0 h1
    refine ⟨v, ev, ty, ρ1, F, x, ρ3, r0, nd, h2, fun v2 H2 F2 G2 R2 q2 nd2 st2 => ?_⟩
    obtain ⟨v', G1, ev', q1, _, _⟩ := R2.get e4
    rw [ev] at ev'; cases ev'
    refine ov_idx X.K H2 v v2 l x d G1 G2 Q q1 q2 h5 fun v' H' G q3 ndG s3 => ?_
    obtain ⟨a1, a2, a3⟩ := fin2 (G1 := []) R2 (fun _ z => nomatch z) (by simpa using nd_l nd2) (by rw [List.append_nil]; exact st2.sub fun a h => List.mem_append_left _ h) ndG s3
    exact k v' H' F2 G a1 q3 a2 a3
  · refine (key h).weak fun σ H Q q => ?_
    obtain ⟨ρ, F, d, ρ3, r0, nd, h, k⟩ := q
    have h : bnd fa (fun d => bnd fb fun k => lif (idxD d k)) ρ = some (d, ρ3) := by
      rw [← h]
      unfold rcvL
      split
      · exact absurd rfl (hn _)
      · rfl
    obtain ⟨l, ρ1, h1, h⟩ := bnd_some h
    obtain ⟨x, ρ2, h2, h⟩ := bnd_some h
    obtain ⟨h5, rfl⟩ := lif_some h
    obtain ⟨xs, rfl⟩ := idxD_lst h5
    refine ⟨ρ, F, _, ρ1, r0, nd, h1, fun v1 H1 F1 G1 R1 q1 nd1 st1 => ⟨?_, ρ1, F1, x, ρ3, R1, nd_l nd1, h2, fun v2 H2 F2 G2 R2 q2 nd2 st2 => ?_⟩⟩
    · obtain ⟨p, vs, G', rfl, hp', lv, rfl⟩ := q1.lst_inv
      exact .inl ⟨rfl, _, SqL.of hp'⟩
    have q1' := q1.step R1.muty (nd_out nd1) st2
    refine ov_idx X.K H2 v1 v2 _ x d G1 G2 Q q1' q2 h5 fun v' H' G q3 ndG s3 => ?_
    have st : Step F F2 H H2 := (st1.sub fun a h => List.mem_append_left _ h).trans (st2.sub fun a h => List.mem_append_left _ h)
    obtain ⟨a1, a2, a3⟩ := fin2 (G1 := []) R2 (fun _ z => nomatch z) (by simpa using nd_l nd2) (by rw [List.append_nil]; exact st) ndG s3
    exact k v' H' F2 G a1 q3 a2 a3
/-! ### texts, sign by sign -/
theorem v_txt {tg a : Expr} {e : E} {fa : M D} (ha : PE X a (tV X.K fa)) : PI X tg a (tI X.K (.txt e) (bnd fa fun d => lif (match d with
      | .str s => some (.non, s.map fun c => .str [c])
      | _ => none))) := (pi_str ha).weak fun σ H R q => by
  obtain ⟨ρ, F, d, ds, ρ', R0, nd, h, k⟩ := q
  obtain ⟨x, ρ1, h1, h⟩ := bnd_some h
  obtain ⟨h2, rfl⟩ := lif_some h
  cases x <;> simp at h2
  obtain ⟨rfl, rfl⟩ := h2
  refine ⟨ρ, F, _, ρ', R0, nd, h1, fun v1 H1 F1 G1 R1 q1 nd1 st1 => ?_⟩
  obtain ⟨z, rfl, rfl, rfl, _⟩ := q1.str_inv
  refine ⟨z, rfl, k _ (fun _ => True) H1 F1 [] R1 (by simpa using nd1) (fun _ z => nomatch z) (by simpa using st1) ?_ trivial (.own fun _ _ _ _ _ => trivial)⟩
  have e : (z.cps.toList.map fun c => D.str [c]).length = z.cps.size := by simp
  rw [e]
  refine walk_str.mono (fun _ z => z) fun i H x H' _ _ y => ?_
  obtain ⟨rfl, c, hc, rfl⟩ := y
  refine ⟨fun d e => ?_, fun _ _ z => z⟩
  rw [List.getElem?_map] at e
  have hc' : z.cps.toList[i]? = some c := by simpa using hc
  rw [hc'] at e
  cases e
  exact Rep.str (⟨#[c]⟩ : Str) one_line
/-! ### a comprehension -/
theorem v_lc {tg iter elt : Expr} {ifs : List Expr} {scope : Scope} {own : List (Str × Nat)} {it : It} {t : Tg} {fi : M (D × List D)} {fc : M Bool} {fe : M D} {tc : TT} (hc : X.calm = true) (hN : X.N.Nodup) (hi : PI X tg iter (tI X.K it fi)) (ok : BlkOk X.N X.env.scope scope own)
    (hg : ∀ (s : Shared) (H : Hp) (C : Addr) (cl : List (Str × Addr)) (fp : List Addr), PG (X.blk s H scope (compEnvC scope cl C X.env) fp) tg (tG X.K t)) (ht : ∀ (s : Shared) (H : Hp) (C : Addr) (cl : List (Str × Addr)) (fp : List Addr), PTs (X.blk s H scope (compEnvC scope cl C X.env) fp) ifs tc)
    (he : ∀ (s : Shared) (H : Hp) (C : Addr) (cl : List (Str × Addr)) (fp : List Addr), PE (X.blk s H scope (compEnvC scope cl C X.env) fp) elt (tV X.K fe)) (hs : ∀ x, foldedSetIterable iter X.env x = pure x)
    (hts : ∀ i ∈ t.slots, i ∈ own.map (·.2)) (hj : ∀ j, it = .seq (.var j) → j ∉ own.map (·.2)) (htc : ∀ σ H Q, tVT X.K fc σ H Q → tc σ H Q) :
    PE X (.ListComp elt [⟨tg, iter, ifs, 0⟩] scope pos) (tV X.K (bnd fi fun p => blk (own.map (·.2)) (bnd (lcL (lcB (own.map (·.2)) t fc fe) (itChk it p.1) p.2 []) fun ds => pur (.lst ds)))) :=
  (pe_lc hc hN hi ok hg ht he hs).weak fun σ H Q q => lc_read hts hj htc q
theorem yes_read {K : PySem.W.Frag} (σ : L2.St) (H : Hp) (Q : Bool → Hp → Prop) (q : tVT K (tB (pur (.bl true))) σ H Q) : tYes σ H Q := by
  obtain ⟨ρ, F, d, ρ', r0, nd, h, k⟩ := q
  cases h
  exact k H F r0 nd Step.refl
/-- name = [..] on one line, a local name -/
theorem s_setLc {i : Nat} {y : Str} {py spos : Pos} {tg iter elt : Expr} {ifs : List Expr} {scope : Scope} {own : List (Str × Nat)} {it : It} {t : Tg} {fi : M (D × List D)} {fc : M Bool} {fe : M D} {tc : TT} (hc : X.calm = true) (hN : X.N.Nodup) (hy : X.N[i]? = some y) (hyl : X.env.scope.names.lookup y = some .local)
    (hsw : swapsWith (.ListComp elt [⟨tg, iter, ifs, 0⟩] scope pos) (some (.Name y py)) spos.line X.env = pure true) (hi : PI X tg iter (tI X.K it fi)) (ok : BlkOk X.N X.env.scope scope own)
    (hg : ∀ (s : Shared) (H : Hp) (C : Addr) (cl : List (Str × Addr)) (fp : List Addr), PG (X.blk s H scope (compEnvC scope cl C X.env) fp) tg (tG X.K t)) (ht : ∀ (s : Shared) (H : Hp) (C : Addr) (cl : List (Str × Addr)) (fp : List Addr), PTs (X.blk s H scope (compEnvC scope cl C X.env) fp) ifs tc)
    (he : ∀ (s : Shared) (H : Hp) (C : Addr) (cl : List (Str × Addr)) (fp : List Addr), PE (X.blk s H scope (compEnvC scope cl C X.env) fp) elt (tV X.K fe)) (hs : ∀ x, foldedSetIterable iter X.env x = pure x)
    (hts : ∀ i ∈ t.slots, i ∈ own.map (·.2)) (hj : ∀ j, it = .seq (.var j) → j ∉ own.map (·.2)) (htc : ∀ σ H Q, tVT X.K fc σ H Q → tc σ H Q) :
    PS X (.Assign [.Name y py] (.ListComp elt [⟨tg, iter, ifs, 0⟩] scope pos) spos) (tS X.K [i] (bnd (bnd fi fun p => blk (own.map (·.2)) (bnd (lcL (lcB (own.map (·.2)) t fc fe) (itChk it p.1) p.2 []) fun ds => pur (.lst ds))) fun d => bnd (setS i d) fun _ => pur .nx)) :=
  (ps_setLc hc hN hy hyl hsw hi ok hg ht he hs).weak fun E σ H q => lc_read hts hj htc (asg_read q)
/-! ### o[k] = e -/
theorem dput_any (x y : D) : ∀ (ks vs : List D), ks.length = vs.length → dhas ks x = false → dput ks vs x y = (ks ++ [x], vs ++ [y])
  | [], [], _, _ => rfl
  | k :: ks, v :: vs, hl, h => by
    unfold dhas at h
    rw [List.any_cons, Bool.or_eq_false_iff, decide_eq_false_iff_not] at h
    show (if k = x then _ else _) = _
    rw [if_neg h.1, dput_any x y ks vs (by simpa using hl) h.2]
    rfl
theorem dput_rep {K : PySem.W.Frag} {H : Hp} {k : Key} {w : V} {y : D} {G : List Addr} (q : Rep K H w y G) : ∀ {kvs : List (Key × V)} {ds : List D} {F : List Addr}, RepL K H (kvs.map (·.2)) ds F → (kvs.map (·.1)).Nodup → (F ++ G).Nodup →
    ∃ F', (dput (kvs.map fun p => keyD p.1) ds (keyD k) y).1 = (putK kvs k w).map (fun p => keyD p.1) ∧ RepL K H ((putK kvs k w).map (·.2)) (dput (kvs.map fun p => keyD p.1) ds (keyD k) y).2 F' ∧ ((putK kvs k w).map (·.1)).Nodup ∧ F'.Nodup ∧ ∀ a ∈ F', a ∈ F ++ G
  | [], ds, F, r, nd, ndF => by
    cases r
    refine ⟨G, rfl, ?_, by simp [putK], by simpa using ndF, fun a h => by simpa using h⟩
    have := RepL.one q
    simpa [putK, dput] using this
  | (k1, v1) :: kvs, ds, F, r, nd, ndF => by
    obtain ⟨d1, ds', F1, F2, rfl, rfl, a1, b1⟩ : ∃ d1 ds' F1 F2, ds = d1 :: ds' ∧ F = F1 ++ F2 ∧ Rep K H v1 d1 F1 ∧ RepL K H (kvs.map (·.2)) ds' F2 := by
      cases r with
      | cons a b => exact ⟨_, _, _, _, rfl, rfl, a, b⟩
    rw [List.map_cons, List.nodup_cons] at nd
    by_cases e : k1 = k
    · subst e
      have hn : (kvs.any fun kv => decide (kv.1 = k1)) = false := by
        rw [List.any_eq_false]
        intro p hp
        rw [decide_eq_true_eq]
        exact fun z => nd.1 (List.mem_map.mpr ⟨p, hp, z⟩)
      have e1 : putK ((k1, v1) :: kvs) k1 w = (k1, w) :: kvs := by
        unfold putK
        rw [if_pos (by simp), List.map_cons, if_pos rfl]
        congr 1
        conv => rhs; rw [← List.map_id kvs]
        refine List.map_congr_left fun p hp => ?_
        rw [List.any_eq_false] at hn
        have := hn p hp
        rw [decide_eq_true_eq] at this
        rw [if_neg this]
        rfl
      rw [e1]
      have e2 : dput (((k1, v1) :: kvs).map fun p => keyD p.1) (d1 :: ds') (keyD k1) y = (((k1, w) :: kvs).map (fun p => keyD p.1), y :: ds') := by
        show (if keyD k1 = keyD k1 then _ else _) = _
        rw [if_pos rfl]
        rfl
      rw [e2]
      refine ⟨G ++ F2, rfl, .cons q b1, by rw [List.map_cons]; exact List.nodup_cons.mpr nd, ?_, fun a h => ?_⟩
      · have : (F2 ++ G).Nodup := List.Sublist.nodup (List.Sublist.append (List.sublist_append_right _ _) (.refl _)) ndF
        exact perm_nd List.perm_append_comm this
      · simp only [List.mem_append] at h ⊢
        rcases h with h | h
        · exact .inr h
        · exact .inl (.inr h)
    · have e1 : putK ((k1, v1) :: kvs) k w = (k1, v1) :: putK kvs k w := by
        unfold putK
        rw [List.any_cons, decide_eq_false e, Bool.false_or]
        split
        · rw [List.map_cons, if_neg e]
        · rfl
      have e2 : dput (((k1, v1) :: kvs).map fun p => keyD p.1) (d1 :: ds') (keyD k) y = (keyD k1 :: (dput (kvs.map fun p => keyD p.1) ds' (keyD k) y).1, d1 :: (dput (kvs.map fun p => keyD p.1) ds' (keyD k) y).2) := by
        show (if keyD k1 = keyD k then _ else _) = _
        rw [if_neg (fun z => e (keyD_inj z))]
      have ndB : (F2 ++ G).Nodup := List.Sublist.nodup (List.Sublist.append (List.sublist_append_right _ _) (.refl _)) ndF
      obtain ⟨F', c1, c2, c3, c4, c5⟩ := dput_rep q b1 nd.2 ndB
      rw [e1, e2]
      refine ⟨F1 ++ F', by rw [List.map_cons, c1], .cons a1 c2, ?_, ?_, fun a h => ?_⟩
      · rw [List.map_cons]
        refine List.nodup_cons.mpr ⟨fun z => ?_, c3⟩
        obtain ⟨p, hp, ep⟩ := List.mem_map.mp z
        have hp' : p ∈ kvs ∨ p.1 = k := by
          unfold putK at hp
          split at hp
          · obtain ⟨p0, h0, h1⟩ := List.mem_map.mp hp
            split at h1
            · rename_i hk
              right
              rw [← h1]
              exact hk
            · left; rw [← h1]; exact h0
          · rcases List.mem_append.mp hp with h | h
            · exact .inl h
            · right
              rw [List.mem_singleton] at h
              rw [h]
        rcases hp' with h | h
        · exact nd.1 (List.mem_map.mpr ⟨p, h, ep⟩)
        · exact e (ep.symm.trans h)
      · refine nd_mk (nd_l (nd_l ndF)) c4 fun a ha hb => ?_
        rcases List.mem_append.mp (c5 a ha) with h | h
        · exact nd_out (nd_l ndF) a h hb
        · exact nd_out ndF a h (List.mem_append_left _ hb)
      · simp only [List.mem_append] at h ⊢
        rcases h with h | h
        · exact .inl (.inl h)
        · have := c5 a h
          simp only [List.mem_append] at this
          rcases this with h | h
          · exact .inl (.inr h)
          · exact .inr h
def rPut : TSet := fun o i v H Q => rSetL o i v H Q ∨ rSetD o i v H Q
theorem PSet.or {t t' : TSet} (h : PSet X t) (h' : PSet X t') : PSet X (fun o i v H Q => t o i v H Q ∨ t' o i v H Q) := by
  intro pins s σ H o i v ov iv u Q I ro ri rv q
  rcases q with q | q
  · exact h pins s σ H o i v ov iv u Q I ro ri rv q
  · exact h' pins s σ H o i v ov iv u Q I ro ri rv q
theorem set_put (hu : X.A.units + 100 < cLine) : PSet X rPut := PSet.or set_list (set_dict (by omega))
theorem ixN_lt {n j : Nat} {i : Int} (h : VS.ixN n i = some j) : j < n := by
  unfold VS.ixN at h
  split at h
  · split at h
    · cases h; omega
    · cases h
  · split at h
    · cases h; omega
    · cases h
/-- a slot's list or dict is written -/
theorem put_r {K : PySem.W.Frag} {H : Hp} {vo vk vx : V} {o k x o' : D} {Go Gk Gx : List Addr} {Q : Hp → Prop} (ro : Rep K H vo o Go) (rk : Rep K H vk k Gk) (rx : Rep K H vx x Gx) (nd : (Go ++ Gx).Nodup) (h : putD o k x = some o')
    (q : ∀ H' G', Rep K H' vo o' G' → G'.Nodup → Step (Go ++ Gx) G' H H' → Q H') : rPut vo vk vx H Q := by
  unfold putD at h
  split at h
  · rename_i xs
    split at h
    · rename_i i
      split at h
      · rename_i j hj
        cases h
        obtain ⟨rfl, rfl⟩ := rk.int_inv
        obtain ⟨p, vs, G, rfl, hp, l, rfl⟩ := ro.lst_inv
        have hjl : j < xs.length := ixN_lt hj
        have ndp : (p :: (G ++ Gx)).Nodup := nd
        obtain ⟨np, ndG⟩ := List.nodup_cons.mp ndp
        obtain ⟨F', s1, s2, s3'⟩ := RepL.set l rx ndG hjl
        have s3 : ∀ a ∈ F', a ∈ G ++ Gx := fun a h => List.mem_append.mpr (s3' a h)
        refine .inl ⟨p, vs, i, j, rfl, rfl, hp, by rw [l.length, ← ixN_eq]; exact hj, q _ (p :: F') ?_ ?_ ?_⟩
        · have hpF : p ∉ F' := fun z => np (s3 p z)
          exact .lst upd_same (s1.wrote hp trivial hpF)
        · exact List.nodup_cons.mpr ⟨fun z => np (s3 p z), s2⟩
        · refine (Step.wrote (F := p :: G ++ Gx) (by simp)).sub fun a h => ?_
          rcases List.mem_cons.mp h with rfl | h
          · simp
          · have := s3 a h
            simp only [List.cons_append, List.mem_cons]
            exact .inr this
      · cases h
    · cases h
  · rename_i b ks vs
    split at h
    · rename_i hc
      simp only [Bool.and_eq_true, decide_eq_true_eq] at hc
      cases h
      cases b with
      | true => exact absurd ro.dicN_inv id
      | false =>
        obtain ⟨kk, rfl, rfl⟩ := keyK_inv rk (by simpa [D.key] using hc.1.1)
        obtain ⟨p, kvs, G, rfl, hp, rfl, l, rfl⟩ := _root_.id ro.dicK_inv
        have ndk := ro.dicK_nd hp
        have ndp : (p :: (G ++ Gx)).Nodup := nd
        obtain ⟨np, ndG⟩ := List.nodup_cons.mp ndp
        obtain ⟨F', c1, c2, c3, c4, c5⟩ := dput_rep (k := kk) rx l ndk ndG
        refine .inr ⟨p, _, rfl, DPut.k hp (by have := hc.1.2; rw [List.length_map] at this; rw [← LIM_line]; exact this), q _ (p :: F') ?_ ?_ ?_⟩
        · have hpF : p ∉ F' := fun z => np (c5 p z)
          exact .dicK upd_same ⟨c3, c1⟩ (c2.wrote hp trivial hpF)
        · exact List.nodup_cons.mpr ⟨fun z => np (c5 p z), c4⟩
        · refine (Step.wrote (F := p :: G ++ Gx) (by simp)).sub fun a h => ?_
          rcases List.mem_cons.mp h with rfl | h
          · simp
          · have := c5 a h
            simp only [List.cons_append, List.mem_cons]
            exact .inr this
    · cases h
  · cases h
/-- what is left behind a store into a slot's container -/
theorem slot_put {K : PySem.W.Frag} {H : Hp} {σ : L2.St} {ρ : Rho} {F Gx Gk : List Addr} {j : Nat} {o k x o' : D} {vo vk vx : V} (R : RepO K H σ ρ F) (e : ρ[j]? = some (some o)) (ev : σ[j]? = some (some vo)) (nd : (F ++ Gx).Nodup) (rk : Rep K H vk k Gk) (rx : Rep K H vx x Gx) (h : putD o k x = some o') {Q : Hp → Prop}
    (q : ∀ H' F', RepO K H' σ (ρ.set j (some o')) F' → F'.Nodup → Step (F ++ Gx) F' H H' → Q H') : rPut vo vk vx H Q := by
  obtain ⟨v, G, ev', r, ndG, fin⟩ := slot_fin R e nd rx.muty
  rw [ev] at ev'; cases ev'
  refine put_r r rk rx ndG h fun H' G' r' nd' st => ?_
  obtain ⟨F2, a1, a2, a3⟩ := fin H' o' G' [] r' (by simpa using nd') (by simpa using st)
  exact q H' F2 a1 (by simpa using a2) (by simpa using a3)
theorem s_put {j : Nat} {i : Expr} {pos' : Pos} {fe fk : M D} (hu : X.A.units + 100 < cLine) (ho : PE X o (tVar j)) (hi : PE X i (tV X.K fk)) (he : PE X e (tV X.K fe))
    (ha : ∀ v, assign (.Subscript o i pos') X.env v = (do
      let ov ← holding [v] (eval o X.env)
      let iv ← holding [v, ov] (eval i X.env)
      standAt pos'
      holding [v, ov, iv] (setItem ov iv v)
      release [v, ov, iv] []))
    (hs : swapsWithSole [.Subscript o i pos'] e pos.line X.env = pure false) :
    PS X (.Assign [.Subscript o i pos'] e pos) (tS X.K [] (bnd fe fun d => bnd (look j) fun _ => bnd fk fun i => bnd (look j) fun c => bnd (lif (putD c i d)) fun c' => bnd (setS j c') fun _ => pur .nx)) :=
  (ps_asg he (pg_sub ho hi (set_put hu) ha) hs rfl rfl).weak fun E σ H q => by
    obtain ⟨ρ, F, out, ρ', r, nd, h, k⟩ := q
    obtain ⟨d, ρ1, h1, h⟩ := bnd_some h
    obtain ⟨c0, ρ2, h2, h⟩ := bnd_some h
    obtain ⟨i, ρ3, h3, h⟩ := bnd_some h
    obtain ⟨c, ρ4, h4, h⟩ := bnd_some h
    obtain ⟨c', ρ5, h5', h⟩ := bnd_some h
    obtain ⟨u, ρ6, h6, h⟩ := bnd_some h
    obtain ⟨rfl, rfl⟩ := pur_some h
    obtain ⟨e2, rfl⟩ := look_some h2
    obtain ⟨e4, rfl⟩ := look_some h4
    obtain ⟨h5, rfl⟩ := lif_some h5'
    obtain ⟨hl, rfl⟩ := setS_some h6
    refine ⟨ρ, F, d, ρ2, r, nd, h1, fun v H1 F1 G R1 q1 nd1 st1 => ?_⟩
    obtain ⟨vo, _, ev, _, _, _⟩ := R1.get e2
    refine ⟨vo, ev, ρ2, F1, i, _, R1, nd_l nd1, h3, fun vk H2 F2 G2 R2 q2 nd2 st2 => ?_⟩
    have q1' := q1.step R1.muty (nd_out nd1) st2
    have ndA : (F2 ++ G).Nodup := List.Sublist.nodup (List.Sublist.append (List.sublist_append_left _ _) (.refl _)) (held q1.muty nd1 nd2 st2)
    refine slot_put R2 e4 ev ndA q2 q1' h5 fun H' F' R' nd' st' => ?_
    refine k σ H' F' R' nd' ?_ (KeepS.refl _ _)
    have := (step_more st1 st2).sub (F2 := F2 ++ G) fun a h => by
      simp only [List.mem_append] at h ⊢
      rcases h with h | h
      · exact .inl (.inl h)
      · exact .inr h
    exact this.trans st'
end
end VS

set_option Elab.async false
set_option linter.all false
set_option autoImplicit false
set_option maxRecDepth 100000
set_option maxHeartbeats 1000000
namespace VS
open PySem L2 PyProof.Rows
open M (bnd lif pur)
def swR (c1 c2 c3 c4 c5 : Bool) (n : List Str) : Option (Option (List Str)) :=
  if c1 then some none else if c2 then some none else if c3 then some none else if c4 then some none else if c5 then none else some (some n)
def swN (ts : List Expr) (sc : Scope) : List Str := ts.filterMap fun
      | .Name id pos => if sc.names.lookup id == some .local && pos.line == (ts.head?.map (·.pos.line)).getD 0 then some id else none
      | _ => none
def swQ (ts vs : List Expr) (sc : Scope) : Option (Option (List Str)) := swR (!(ts.length == 2 || ts.length == 3) || vs.length != ts.length || (if sc.kind.isAnnotationScope then ScopeKind.function else sc.kind) != .function)
    (vs.any fun | .Starred .. => true | _ => false) ((swN ts sc).length != ts.length || (swN ts sc).eraseDups.length != (swN ts sc).length) (vs.all (foldedForSure 8)) (vs.all (constantsAlone 8)) (swN ts sc)
theorem swQ_ok {ts vs : List Expr} {kt k2 : Nat} {pt pt2 : Pos} {env : Env} {r : Option (List Str)} (h : swQ ts vs env.scope = some r) : swappedStores [.Tuple ts kt pt] (.Tuple vs k2 pt2) env = pure r := by
  unfold swQ at h
  unfold swappedStores
  simp only [Env.blockKind]
  generalize hn : List.filterMap _ ts = n
  have e1 : swN ts env.scope = n := by rw [← hn]; rfl
  rw [e1] at h
  generalize h2 : vs.any _ = c2
  have e2 : (vs.any fun | .Starred .. => true | _ => false) = c2 := by rw [← h2]; rfl
  rw [e2] at h
  revert h
  generalize (!(ts.length == 2 || ts.length == 3) || vs.length != ts.length || (if env.scope.kind.isAnnotationScope then ScopeKind.function else env.scope.kind) != .function) = c1
  generalize (n.length != ts.length || n.eraseDups.length != n.length) = c3
  generalize vs.all (foldedForSure 8) = c4
  generalize vs.all (constantsAlone 8) = c5
  intro h
  cases c1 <;> cases c2 <;> cases c3 <;> cases c4 <;> cases c5 <;> simp only [swR, Bool.false_eq_true, if_true, if_false] at h ⊢ <;> cases h <;> rfl
theorem sw_no {ts : List Expr} {v : Expr} {kt : Nat} {pt : Pos} {env : Env} (h : ∀ vs k p, v ≠ .Tuple vs k p) : swappedStores [.Tuple ts kt pt] v env = pure none := by
  cases v <;> first | rfl | exact absurd rfl (h _ _ _)

/-! ### the checker -/
structure Cc where
  N : List Str
  sc : Scope
  T : List Str
  G : List (Str × D)
def bnames : List Str := ["len", "int", "tuple", "list", "all", "any", "sum", "max", "min", "abs", "isinstance", "range", "bool", "str", "dict", "sorted", "enumerate", "zip", "set"]
def visB (sc : Scope) (x : Str) : Bool := decide (sc.names.lookup x = some .local) || decide (sc.names.lookup x = some .cell) || decide (sc.names.lookup x = some .free)
def lclB (sc : Scope) (x : Str) : Bool := decide (sc.names.lookup x = some .local)
def glB (sc : Scope) (x : Str) : Bool := decide (sc.names.lookup x = some .globalImplicit)
def okN (c : Cc) (i : Nat) (x : Str) : Bool := decide (c.N[i]? = some x) && visB c.sc x && !(x == ("__debug__" : Str)) && !(x == ("__classdict__" : Str))
def relS (sc scope : Scope) : Scope := { scope with names := scope.names.map fun (n, k) => if (k == .free && sc.kind == .function && sc.names.lookup n == some .cell) then (n, .cell) else (n, k) }
def Cc.blk (c : Cc) (scope : Scope) : Cc := { c with sc := relS c.sc scope }
def noSet : Expr → Bool
  | .Set _ _ _ => false
  | _ => true
def ixB : Expr → Bool
  | .Slice _ _ _ _ => false
  | _ => true
def noComp : Expr → Bool
  | .ListComp _ _ _ _ => false
  | .SetComp _ _ _ _ => false
  | .DictComp _ _ _ _ _ => false
  | _ => true
def okGs (c : Cc) : List Nat → List Expr → Bool
  | [], [] => true
  | i :: is, .Name x _ :: es => decide (c.N[i]? = some x) && lclB c.sc x && okGs c is es
  | _, _ => false
def okG (c : Cc) (t : Tg) (e : Expr) : Bool := match t with
  | .one i => match e with
    | .Name x _ => decide (c.N[i]? = some x) && lclB c.sc x
    | _ => false
  | .many is => match e with
    | .Tuple es _ _ => okGs c is es
    | _ => false
def ownP (c : Cc) (own : List Nat) : List (Str × Nat) := own.map fun i => (c.N.getD i "", i)
def srcB (it : It) (own : List Nat) : Bool := match it with
  | .seq (.var j) => !(own.contains j)
  | _ => true
/-- which expressions are tested by their value -/
def tstB : Expr → Bool
  | .UnaryOp .Not _ _ => false
  | .BoolOp _ _ _ => false
  | .IfExp _ _ _ _ => false
  | .Compare _ _ _ _ => false
  | _ => true
mutual
def okE (c : Cc) : E → Expr → Bool
  | .var i, x => match x with
    | .Name y _ => okN c i y
    | _ => false
  | .cst d, x => match x with
    | .Constant k _ _ => match k, d with
      | .none, .non => true
      | .bool b, .bl b' => decide (b = b')
      | .int i, .int i' => decide (i = i')
      | .str s, .str s' => decide (s.cps.toList = s') && decide (s.length ≤ 1000)
      | _, _ => false
    | _ => false
  | .glb j d, x => match x with
    | .Name y _ => glB c.sc y && decide (c.G[j]? = some (y, d)) && !(y == ("__debug__" : Str))
    | _ => false
  | .bin op a b, x => match x with
    | .BinOp a' op' b' _ => decide (op' = opOf op) && okE c a a' && okE c b b'
    | _ => false
  | .neg a, x => match x with
    | .UnaryOp .USub a' _ => okE c a a'
    | _ => false
  | .cmp op a b, x => match x with
    | .Compare a' [op'] [b'] _ => decide (op' = cmOf op) && !(behindInMarks (cmOf op) b') && okE c a a' && okE c b b'
    | _ => false
  | .chn op op' a b d, x => match x with
    | .Compare a' [q, q'] [b', d'] _ => decide (q = cmOf op) && decide (q' = cmOf op') && !(lastMarks [cmOf op, cmOf op'] [b', d']) && okE c a a' && okE c b b' && okE c d d'
    | _ => false
  | .isN a, x => match x with
    | .Compare a' [.Is] [.Constant .none _ _] _ => okE c a a'
    | _ => false
  | .notN a, x => match x with
    | .Compare a' [.IsNot] [.Constant .none _ _] _ => okE c a a'
    | _ => false
  | .isT a, x => match x with
    | .Compare a' [.Is] [.Constant (.bool true) _ _] _ => okE c a a'
    | _ => false
  | .notT a, x => match x with
    | .Compare a' [.IsNot] [.Constant (.bool true) _ _] _ => okE c a a'
    | _ => false
  | .one a, x => match x with
    | .BoolOp _ [a'] _ => okE c a a'
    | _ => false
  | .and a b, x => match x with
    | .BoolOp .And (a' :: b' :: r) p => okE c a a' && okE c b (.BoolOp .And (b' :: r) p)
    | _ => false
  | .or a b, x => match x with
    | .BoolOp .Or (a' :: b' :: r) p => okE c a a' && okE c b (.BoolOp .Or (b' :: r) p)
    | _ => false
  | .not a, x => match x with
    | .UnaryOp .Not a' _ => okE c a a'
    | _ => false
  | .ife t a b, x => match x with
    | .IfExp t' a' b' _ => okE c t t' && okE c a a' && okE c b b'
    | _ => false
  | .tup es, x => match x with
    | .Tuple xs _ _ => okEs c es xs
    | _ => false
  | .lst es, x => match x with
    | .List xs _ => okEs c es xs
    | _ => false
  | .dnew k, x => match x with
    | .Dict [] [] _ => !k
    | _ => false
  | .dic1 k a b, x => match x with
    | .Dict [some a'] [b'] _ => !k && okE c a a' && okE c b b'
    | _ => false
  | .ix a i, x => match x with
    | .Subscript a' i' _ => ixB i' && okE c a a' && okE c i i'
    | _ => false
  | .sl a lo hi, x => match x with
    | .Subscript a' (.Slice lo' hi' none _) _ => okE c a a' && okO c lo lo' && okO c hi hi'
    | _ => false
  | .bi b a, x => match x with
    | .Call (.Name f _) [a'] [] _ => decide (f = biName b) && glB c.sc f && plainE a' && okE c a a'
    | _ => false
  | .isi a t, x => match x with
    | .Call (.Name f _) [a', .Name T _] [] _ => decide (f = "isinstance") && decide (T = tyS t) && glB c.sc "isinstance" && glB c.sc (tyS t) && plainE a' && okE c a a'
    | _ => false
  | .rgl _ _, _ => false
  | .join a b, x => match x with
    | .Call (.Attribute o m apos) [b'] [] pos => decide (m = "join") && noSup o && (apos.endLine == pos.line) && plainE b' && okE c a o && okE c b b'
    | _ => false
  | .app j a, x => match x with
    | .Call (.Attribute (.Name y _) m apos) [a'] [] pos => decide (m = "append") && (apos.endLine == pos.line) && plainE a' && okN c j y && okE c a a'
    | _ => false
  | .ext j a, x => match x with
    | .Call (.Attribute (.Name y _) m apos) [a'] [] pos => decide (m = "extend") && (apos.endLine == pos.line) && plainE a' && okN c j y && okE c a a'
    | _ => false
  | .popA j a, x => match x with
    | .Call (.Attribute (.Name y _) m apos) [a'] [] pos => decide (m = "pop") && (apos.endLine == pos.line) && plainE a' && okN c j y && okE c a a'
    | _ => false
  | .pop j, x => match x with
    | .Call (.Attribute (.Name y _) m apos) [] [] pos => decide (m = "pop") && (apos.endLine == pos.line) && okN c j y
    | _ => false
  | .idx a b, x => match x with
    | .Call (.Attribute o m apos) [b'] [] pos => decide (m = "index") && noSup o && (apos.endLine == pos.line) && plainE b' && okE c a o && okE c b b'
    | _ => false
  | .call f as, x => match x with
    | .Call (.Name y _) xs [] _ => decide (c.T[f]? = some y) && glB c.sc y && !(y == ("__debug__" : Str)) && xs.all plainE && okEs c as xs
    | _ => false
  | .callK _ _ _, _ => false
  | .lc t own it cd e, x => match x with
    | .ListComp e' [⟨tg, iter, ifs, 0⟩] scope _ => okI c it iter && blkC c.N c.sc scope (ownP c own) && okG (c.blk scope) t tg && okC (c.blk scope) cd ifs && okE (c.blk scope) e e' && noSet iter && t.slots.all (own.contains ·) && srcB it own
    | _ => false
  | .lc2 _ _ _ _ _ _ _, _ => false
  | .dc _ _ _ _ _ _, _ => false
  | .mx _ _ _, _ => false
def okEs (c : Cc) : List E → List Expr → Bool
  | [], xs => match xs with
    | [] => true
    | _ => false
  | e :: es, xs => match xs with
    | x :: xs => plainE x && okE c e x && okEs c es xs
    | [] => false
def okO (c : Cc) : Option E → Option Expr → Bool
  | none, x => match x with
    | none => true
    | some _ => false
  | some e, x => match x with
    | some x => okE c e x
    | none => false
def okC (c : Cc) : Option E → List Expr → Bool
  | none, xs => match xs with
    | [] => true
    | _ => false
  | some e, xs => match xs with
    | [x] => okE c e x
    | _ => false
def okI (c : Cc) : It → Expr → Bool
  | .seq a, x => okE c a x
  | .rng as, x => match x with
    | .Call (.Name f _) xs [] _ => decide (f = "range") && glB c.sc "range" && (decide (xs.length = 1) || decide (xs.length = 2)) && okEs c as xs
    | _ => false
  | .enum _, _ => false
  | .zip _ _, _ => false
  | .keys _, _ => false
  | .items _, _ => false
  | .txt a, x => okE c a x
end
def okPar (c : Cc) (is : List Nat) (ts : List Expr) (vs : List Expr) : Bool := okGs c is ts && decide (swQ ts vs c.sc = some (some (is.map fun i => c.N.getD i ""))) && decide is.Nodup
mutual
def okS (c : Cc) : S → Stmt → Bool
  | .set i e, st => match st with
    | .Assign [.Name x p] v _ => decide (c.N[i]? = some x) && lclB c.sc x && okE c e v && (noComp v || (match v with
        | .ListComp _ _ scope vp => (p.line == vp.line) && !(scope.names.any fun (n, k) => n == x && (k == .local || k == .cell)) && decide (c.sc.kind = .function)
        | _ => false))
    | _ => false
  | .par is es, st => match st with
    | .Assign [.Tuple ts _ _] (.Tuple vs _ _) _ => okPar c is ts vs && okEs c es vs && (decide (is.length = 2) || decide (is.length = 3)) && decide (vs.length = is.length)
    | _ => false
  | .unp is e, st => match st with
    | .Assign [.Tuple ts _ _] v _ => okGs c is ts && okE c e v && (match v with
        | .Tuple vs _ _ => decide (swQ ts vs c.sc = some none)
        | _ => true)
    | _ => false
  | .put j k e, st => match st with
    | .Assign [.Subscript (.Name y _) i _] v _ => okN c j y && ixB i && okE c k i && okE c e v
    | _ => false
  | .aug _ _ _, _ => false
  | .augx _ _ _ _, _ => false
  | .exp e, st => match st with
    | .Expr v _ => noComp v && okE c e v
    | _ => false
  | .ret e, st => match st with
    | .Return (some v) _ => okE c e v
    | _ => false
  | .ife t a b, st => match st with
    | .If t' a' b' _ => okE c t t' && okSs c a a' && okSs c b b'
    | _ => false
  | .whl t b, st => match st with
    | .While t' b' [] _ => okE c t t' && okSs c b b'
    | _ => false
  | .for_ t it b, st => match st with
    | .For tg iter b' [] _ => okI c it iter && okG c t tg && okSs c b b' && noSet iter && srcB it (t.slots ++ asgs b)
    | _ => false
  | .brk, st => match st with
    | .Break _ => true
    | _ => false
  | .cnt, st => match st with
    | .Continue _ => true
    | _ => false
  | .pass, st => match st with
    | .Pass _ => true
    | _ => false
  | .nev, _ => true
def okSs (c : Cc) : List S → List Stmt → Bool
  | [], xs => match xs with
    | [] => true
    | _ => false
  | s :: ss, xs => match xs with
    | x :: xs => okS c s x && okSs c ss xs
    | [] => false
end
end VS

set_option Elab.async false
set_option linter.all false
set_option autoImplicit false
set_option maxRecDepth 100000
set_option maxHeartbeats 2000000
namespace VS
open PySem L2 PyProof.Rows
open M (bnd lif pur)
/-- what the checker rests on -/
structure Cond (c : Cc) (Γ : Gam) (n : Nat) (X : Cx) : Prop where
  calm : X.calm = true
  hN : X.N = c.N
  nd : X.N.Nodup
  sc : X.env.scope = c.sc
  room : Room n X.A
  bl : ∀ x ∈ bnames, X.mg x = none
  fns : ∀ (j : Nat) (x : Str), c.T[j]? = some x → CalV X.prog X.w X.K X.mg X.base n x (Γ j)
  gl : ∀ (j : Nat) (x : Str) (d : D), c.G[j]? = some (x, d) → ∃ (v : V) (u : Value), X.mg x = some u ∧ RelV v u ∧ D.im d = true ∧ ∀ H, Rep X.K H v d []
section
variable {c : Cc} {Γ : Gam} {n : Nat} {X : Cx}
theorem Cond.hu (C : Cond c Γ n X) : X.A.units + 100 < cLine := by have := C.room.un; omega
theorem Cond.glob (C : Cond c Γ n X) {x : Str} (h : glB c.sc x = true) : Gl X x := by
  show X.env.scope.names.lookup x = _
  rw [C.sc]
  exact of_decide_eq_true h
theorem Cond.lcl (C : Cond c Γ n X) {x : Str} (h : lclB c.sc x = true) : X.env.scope.names.lookup x = some .local := by
  rw [C.sc]
  exact of_decide_eq_true h
theorem Cond.vis (C : Cond c Γ n X) {x : Str} (h : visB c.sc x = true) : Vis X.env.scope x := by
  unfold Vis
  rw [C.sc]
  unfold visB at h
  simp only [Bool.or_eq_true, decide_eq_true_eq] at h
  rcases h with (h | h) | h
  · exact .inl h
  · exact .inr (.inl h)
  · exact .inr (.inr h)
theorem Cond.name (C : Cond c Γ n X) {i : Nat} {x : Str} {p : Pos} (h : okN c i x = true) : PE X (.Name x p) (tVar i) := by
  unfold okN at h
  simp only [Bool.and_eq_true, decide_eq_true_eq, Bool.not_eq_true'] at h
  obtain ⟨⟨⟨h1, h2⟩, h3⟩, h4⟩ := h
  exact pe_var (by rw [C.hN]; exact h1) (C.vis h2) h3 h4
theorem Cond.blk (C : Cond c Γ n X) (scope : Scope) (s : Shared) (H : Hp) (D : Addr) (cl : List (Str × Addr)) (fp : List Addr) : Cond (c.blk scope) Γ n (X.blk s H scope (compEnvC scope cl D X.env) fp) where
  calm := C.calm
  hN := C.hN
  nd := C.nd
  sc := by
    show relabel scope X.env = relS c.sc scope
    unfold relabel relS Env.kindOf
    rw [C.sc]
  room := C.room
  bl := C.bl
  fns := C.fns
  gl := C.gl
theorem Rcv.own {e : E} {x : Expr} (h : Rcv X e x (ev Γ e)) : PE X x (tV X.K (ev Γ e)) := by
  rcases h with ⟨j, rfl, h⟩ | ⟨_, h⟩
  · exact v_take h
  · exact h
theorem rd_val {e : E} {m : M D} (h : ∀ j, e ≠ .var j) : rd e m = m := by
  unfold rd
  split
  · exact absurd rfl (h _)
  · rfl
theorem Rcv.rdd {e : E} {x : Expr} (h : Rcv X e x (ev Γ e)) : PE X x (tR X.K (rd e (ev Γ e))) := by
  rcases h with ⟨j, rfl, h⟩ | ⟨hn, h⟩
  · exact v_look h
  · rw [rd_val hn]
    exact v_own h
/-- an expression's rule, as a value, as a test -/
structure Good (X : Cx) (Γ : Gam) (e : E) (x : Expr) : Prop where
  rcv : Rcv X e x (ev Γ e)
  pt : PT X x (tVT X.K (tB (ev Γ e)))
  pw : (∃ op l p, x = .BoolOp op l p) → PW X x (tVT X.K (tB (ev Γ e)))
theorem tst_ok {x : Expr} (h : tstB x = true) (env : Env) : ∀ whole, isTrue x env whole = (do let v ← whole; standAt x.pos; holding [v] (truthy v)) := by
  intro whole
  cases x with
  | UnaryOp op a p => cases op <;> first | rfl | simp [tstB] at h
  | BoolOp _ _ _ => simp [tstB] at h
  | IfExp _ _ _ _ => simp [tstB] at h
  | Compare _ _ _ _ => simp [tstB] at h
  | _ => rfl
theorem tst_bool {x : Expr} (h : tstB x = true) : ¬ ∃ op l p, x = Expr.BoolOp op l p := by
  rintro ⟨op, l, p, rfl⟩
  simp [tstB] at h
theorem Good.val {e : E} {x : Expr} (h : PE X x (tV X.K (ev Γ e))) (hn : ∀ j, e ≠ .var j) (ht : tstB x = true) : Good X Γ e x :=
  ⟨.inr ⟨hn, h⟩, v_pt h (tst_ok ht _), fun z => absurd z (tst_bool ht)⟩
theorem Good.cmp {e : E} {x : Expr} (h : PE X x (tV X.K (ev Γ e))) (hn : ∀ j, e ≠ .var j) (ht : PT X x (tVT X.K (tB (ev Γ e)))) (hb : ∀ op l p, x ≠ Expr.BoolOp op l p) : Good X Γ e x :=
  ⟨.inr ⟨hn, h⟩, ht, fun ⟨op, l, p, z⟩ => absurd z (hb op l p)⟩
theorem Good.bop {e : E} {x : Expr} (h : PE X x (tV X.K (ev Γ e))) (hn : ∀ j, e ≠ .var j) (ht : PW X x (tVT X.K (tB (ev Γ e)))) : Good X Γ e x :=
  ⟨.inr ⟨hn, h⟩, ht.pt, fun _ => ht⟩
theorem bi_mem (b : Bi) : biName b ∈ bnames := by cases b <;> simp [biName, bnames]
theorem ty_mem (t : Ty) : tyS t ∈ bnames := by cases t <;> simp [tyS, bnames]
theorem isi_mem : ("isinstance" : Str) ∈ bnames := by simp [bnames]
theorem range_mem : ("range" : Str) ∈ bnames := by simp [bnames]
theorem ixB_ok {b : Expr} (h : ixB b = true) : PlainIx b := by
  intro o i
  cases b <;> first | rfl | simp [ixB] at h
theorem noSet_ok {b : Expr} (h : noSet b = true) (env : Env) : ∀ x, foldedSetIterable b env x = pure x := by
  intro x
  cases b <;> first | rfl | simp [noSet] at h
theorem okGs_names : ∀ {is : List Nat} {es : List Expr}, okGs c is es = true → ∃ xs : List (Str × Pos), es = xs.map fun p => Expr.Name p.1 p.2
  | [], [], _ => ⟨[], rfl⟩
  | [], _ :: _, h => by simp [okGs] at h
  | i :: is, es, h => by
    cases es with
    | nil => simp [okGs] at h
    | cons e es =>
      cases e <;> simp only [okGs, Bool.false_eq_true] at h
      rename_i x p
      simp only [Bool.and_eq_true] at h
      obtain ⟨xs, rfl⟩ := okGs_names h.2
      exact ⟨(x, p) :: xs, rfl⟩
theorem okGs_len : ∀ {is : List Nat} {es : List Expr}, okGs c is es = true → es.length = is.length
  | [], [], _ => rfl
  | [], _ :: _, h => by simp [okGs] at h
  | i :: is, es, h => by
    cases es with
    | nil => simp [okGs] at h
    | cons e es =>
      cases e <;> simp only [okGs, Bool.false_eq_true] at h
      simp only [Bool.and_eq_true] at h
      simp [okGs_len h.2]
theorem okGs_ok (C : Cond c Γ n X) : ∀ {is : List Nat} {es : List Expr}, okGs c is es = true → PGs X es (tGso X.K is)
  | [], [], _ => gso_nil
  | [], _ :: _, h => by simp [okGs] at h
  | i :: is, es, h => by
    cases es with
    | nil => simp [okGs] at h
    | cons e es =>
      cases e <;> simp only [okGs, Bool.false_eq_true] at h
      rename_i x p
      simp only [Bool.and_eq_true, decide_eq_true_eq] at h
      have hl := C.lcl h.1.2
      exact gso_cons (pg_name C.nd (by rw [C.hN]; exact h.1.1) (.inl hl) (.inr hl)) (okGs_ok C h.2) rfl
theorem okG_ok (C : Cond c Γ n X) {t : Tg} {e : Expr} (h : okG c t e = true) : PG X e (tGo X.K t) := by
  unfold okG at h
  split at h
  · split at h
    · simp only [Bool.and_eq_true, decide_eq_true_eq] at h
      have hl := C.lcl h.2
      exact go_one (pg_name C.nd (by rw [C.hN]; exact h.1) (.inl hl) (.inr hl))
    · cases h
  · split at h
    · obtain ⟨xs, rfl⟩ := okGs_names h
      have hl := okGs_len h
      obtain ⟨h1, h2, h3⟩ := asg_names (env := X.env) (xs := xs)
      exact go_many C.calm (okGs_ok C h) (by rw [h2, ← hl, List.length_map]) h3
    · cases h
theorem srcB_ok {it : It} {own : List Nat} (h : srcB it own = true) : ∀ j, it = .seq (.var j) → j ∉ own := by
  rintro j rfl hj
  simp only [srcB, Bool.not_eq_true', ← Bool.not_eq_true, List.contains_iff_mem] at h
  exact h hj
theorem ownP_snd (own : List Nat) : (ownP c own).map (·.2) = own := by
  unfold ownP
  rw [List.map_map]
  exact List.map_id' own
theorem evs_len : ∀ {es : List E} {ρ : Rho} {r : List D × Rho}, evs Γ es ρ = some r → r.1.length = es.length
  | [], ρ, r, h => by cases h; rfl
  | e :: es, ρ, r, h => by
    obtain ⟨d, ρ1, h1, h⟩ := bnd_some (show bnd (ev Γ e) (fun d => bnd (evs Γ es) fun ds => pur (d :: ds)) ρ = some (r.1, r.2) from h)
    obtain ⟨ds, ρ2, h2, h⟩ := bnd_some h
    obtain ⟨h3, h4⟩ := pur_some h
    rw [h3, List.length_cons, List.length_cons, evs_len h2]
theorem okEs_len : ∀ {es : List E} {xs : List Expr}, okEs c es xs = true → es.length = xs.length
  | [], xs, h => by cases xs <;> simp [okEs] at h; rfl
  | e :: es, xs, h => by
    cases xs with
    | nil => simp [okEs] at h
    | cons x xs =>
      simp only [okEs, Bool.and_eq_true] at h
      simp [okEs_len h.2]
end
end VS

set_option Elab.async false
set_option linter.all false
set_option autoImplicit false
set_option maxRecDepth 100000
set_option maxHeartbeats 4000000
namespace VS
open PySem L2 PyProof.Rows
open M (bnd lif pur)
section
variable {Γ : Gam} {n : Nat}
theorem one_tst {op : BoolOp} {X : Cx} {a : Expr} {p : Pos} {f : M D} (h : PT X a (tVT X.K (tB f))) : PW X (.BoolOp op [a] p) (tVT X.K (tB f)) := by
  cases op with
  | And => exact pw_and1 h
  | Or => exact pw_or1 h
structure LcP (X : Cx) (Γ : Gam) (it : It) (t : Tg) (own : List (Str × Nat)) (cd : Option E) (e : E) (tg iter elt : Expr) (ifs : List Expr) (scope : Scope) : Prop where
  hi : PI X tg iter (tI X.K it (evI Γ it))
  ok : BlkOk X.N X.env.scope scope own
  hg : ∀ (s : Shared) (H : Hp) (C : Addr) (cl : List (Str × Addr)) (fp : List Addr), PG (X.blk s H scope (compEnvC scope cl C X.env) fp) tg (tG X.K t)
  ht : ∃ tc : TT, (∀ (s : Shared) (H : Hp) (C : Addr) (cl : List (Str × Addr)) (fp : List Addr), PTs (X.blk s H scope (compEnvC scope cl C X.env) fp) ifs tc) ∧ ∀ σ H Q, tVT X.K (tB (evc Γ cd)) σ H Q → tc σ H Q
  he : ∀ (s : Shared) (H : Hp) (C : Addr) (cl : List (Str × Addr)) (fp : List Addr), PE (X.blk s H scope (compEnvC scope cl C X.env) fp) elt (tV X.K (ev Γ e))
  hs : ∀ x, foldedSetIterable iter X.env x = pure x
  hts : ∀ i ∈ t.slots, i ∈ own.map (·.2)
  hj : ∀ j, it = .seq (.var j) → j ∉ own.map (·.2)
theorem lc_mk {t : Tg} {own : List Nat} {it : It} {cd : Option E} {e : E} {c : Cc} {X : Cx} (C : Cond c Γ n X) {x : Expr}
    (ihI : ∀ (c : Cc) (X : Cx) (C : Cond c Γ n X) (tg x : Expr), okI c it x = true → PI X tg x (tI X.K it (evI Γ it)))
    (ihC : ∀ (c : Cc) (X : Cx) (C : Cond c Γ n X) (scope : Scope) (ifs : List Expr), okC (c.blk scope) cd ifs = true → ∃ tc : TT, (∀ (s : Shared) (H : Hp) (D : Addr) (cl : List (Str × Addr)) (fp : List Addr), PTs (X.blk s H scope (compEnvC scope cl D X.env) fp) ifs tc) ∧ ∀ σ H Q, tVT X.K (tB (evc Γ cd)) σ H Q → tc σ H Q)
    (ihE : ∀ (c : Cc) (X : Cx) (C : Cond c Γ n X) (x : Expr), okE c e x = true → Good X Γ e x) (h : okE c (.lc t own it cd e) x = true) :
    ∃ e' tg iter ifs scope p, x = .ListComp e' [⟨tg, iter, ifs, 0⟩] scope p ∧ LcP X Γ it t (ownP c own) cd e tg iter e' ifs scope := by
  unfold okE at h
  split at h
  · rename_i e' tg iter ifs scope p
    simp only [Bool.and_eq_true, List.all_eq_true, List.contains_iff_mem] at h
    obtain ⟨⟨⟨⟨⟨⟨⟨h1, h2⟩, h3⟩, h4⟩, h5⟩, h6⟩, h7⟩, h8⟩ := h
    refine ⟨e', tg, iter, ifs, scope, p, rfl, ihI c X C tg iter h1, ?_, fun s H D cl fp => go_free (okG_ok (C.blk scope s H D cl fp) h3), ?_, fun s H D cl fp => (ihE _ _ (C.blk scope s H D cl fp) _ h5).rcv.own, noSet_ok h6 _, ?_, ?_⟩
    · have := blkOk_by h2
      rw [C.hN, C.sc]
      exact this
    · exact ihC c X C scope ifs h4
    · rw [ownP_snd]; exact h7
    · rw [ownP_snd]; exact srcB_ok h8
  · cases h
mutual
theorem okE_ok : ∀ (e : E) (c : Cc) (X : Cx) (C : Cond c Γ n X) (x : Expr), okE c e x = true → Good X Γ e x
  | .var i, c, X, C, x, h => by
    unfold okE at h
    split at h
    · have q := C.name (p := ‹Pos›) h
      exact ⟨.inl ⟨i, rfl, q⟩, v_pt (v_take q) (tst_ok rfl _), fun z => absurd z (tst_bool rfl)⟩
    · cases h
  | .cst d, c, X, C, x, h => by
    unfold okE at h
    split at h
    · split at h
      · exact Good.val (v_const pe_non fun H => .non) (fun _ z => nomatch z) rfl
      · rename_i b b'
        cases of_decide_eq_true h
        exact Good.val (v_const pe_bl fun H => .bl _) (fun _ z => nomatch z) rfl
      · rename_i b b'
        cases of_decide_eq_true h
        exact Good.val (v_const pe_int fun H => .int _) (fun _ z => nomatch z) rfl
      · rename_i s s'
        simp only [Bool.and_eq_true, decide_eq_true_eq] at h
        obtain ⟨rfl, hl⟩ := h
        exact Good.val (v_const pe_str fun H => .str s (Nat.le_trans hl (by rw [sizeLine_eq]; decide))) (fun _ z => nomatch z) rfl
      · cases h
    · cases h
  | .glb j d, c, X, C, x, h => by
    unfold okE at h
    split at h
    · simp only [Bool.and_eq_true, decide_eq_true_eq, Bool.not_eq_true'] at h
      obtain ⟨v, u, h1, h2, _, h3⟩ := C.gl j _ d h.1.2
      exact Good.val (v_const (pe_glob (C.glob h.1.1) h1 h2 h.2) h3) (fun _ z => nomatch z) rfl
    · cases h
  | .bin op a b, c, X, C, x, h => by
    unfold okE at h
    split at h
    · simp only [Bool.and_eq_true, decide_eq_true_eq] at h
      obtain ⟨⟨rfl, h1⟩, h2⟩ := h
      exact Good.val (v_binop (okE_ok a c X C _ h1).rcv.own (okE_ok b c X C _ h2).rcv.own) (fun _ z => nomatch z) rfl
    · cases h
  | .neg a, c, X, C, x, h => by
    unfold okE at h
    split at h
    · exact Good.val (v_neg (okE_ok a c X C _ h).rcv.own) (fun _ z => nomatch z) rfl
    · cases h
  | .cmp op a b, c, X, C, x, h => by
    unfold okE at h
    split at h
    · simp only [Bool.and_eq_true, decide_eq_true_eq, Bool.not_eq_true'] at h
      obtain ⟨⟨⟨rfl, hm⟩, h1⟩, h2⟩ := h
      have ra := (okE_ok a c X C _ h1).rcv
      have rb := (okE_ok b c X C _ h2).rcv.rdd
      exact Good.cmp (v_cmp C.hu ra rb hm) (fun _ z => nomatch z) (v_ptCmp C.hu ra rb hm) (fun _ _ _ z => nomatch z)
    · cases h
  | .chn op op' a b d, c, X, C, x, h => by
    unfold okE at h
    split at h
    · simp only [Bool.and_eq_true, decide_eq_true_eq, Bool.not_eq_true'] at h
      obtain ⟨⟨⟨⟨⟨rfl, rfl⟩, hm⟩, h1⟩, h2⟩, h3⟩ := h
      have ra := (okE_ok a c X C _ h1).rcv.own
      have rb := (okE_ok b c X C _ h2).rcv.own
      have rc := (okE_ok d c X C _ h3).rcv.own
      exact Good.cmp (v_chn C.hu ra rb rc hm) (fun _ z => nomatch z) (v_ptChn C.hu ra rb rc hm) (fun _ _ _ z => nomatch z)
    · cases h
  | .isN a, c, X, C, x, h => by
    unfold okE at h
    split at h
    · have ra := (okE_ok a c X C _ h).rcv.own
      exact Good.cmp (v_isN ra) (fun _ z => nomatch z) (v_ptIsN ra) (fun _ _ _ z => nomatch z)
    · cases h
  | .notN a, c, X, C, x, h => by
    unfold okE at h
    split at h
    · have ra := (okE_ok a c X C _ h).rcv.own
      exact Good.cmp (v_notN ra) (fun _ z => nomatch z) (v_ptNotN ra) (fun _ _ _ z => nomatch z)
    · cases h
  | .isT a, c, X, C, x, h => by
    unfold okE at h
    split at h
    · have ra := (okE_ok a c X C _ h).rcv.own
      exact Good.cmp (v_isT ra) (fun _ z => nomatch z) (v_ptIsT ra) (fun _ _ _ z => nomatch z)
    · cases h
  | .notT a, c, X, C, x, h => by
    unfold okE at h
    split at h
    · have ra := (okE_ok a c X C _ h).rcv.own
      exact Good.cmp (v_notT ra) (fun _ z => nomatch z) (v_ptNotT ra) (fun _ _ _ z => nomatch z)
    · cases h
  | .one a, c, X, C, x, h => by
    unfold okE at h
    split at h
    · have g := okE_ok a c X C _ h
      exact Good.bop (pe_one g.rcv.own) (fun _ z => nomatch z) (one_tst g.pt)
    · cases h
  | .and a b, c, X, C, x, h => by
    unfold okE at h
    split at h
    · simp only [Bool.and_eq_true] at h
      have ga := okE_ok a c X C _ h.1
      have gb := okE_ok b c X C _ h.2
      exact Good.bop (v_peAnd ga.rcv.own gb.rcv.own) (fun _ z => nomatch z) (v_pwAnd ga.pt (gb.pw ⟨_, _, _, rfl⟩))
    · cases h
  | .or a b, c, X, C, x, h => by
    unfold okE at h
    split at h
    · simp only [Bool.and_eq_true] at h
      have ga := okE_ok a c X C _ h.1
      have gb := okE_ok b c X C _ h.2
      exact Good.bop (v_peOr ga.rcv.own gb.rcv.own) (fun _ z => nomatch z) (v_pwOr ga.pt (gb.pw ⟨_, _, _, rfl⟩))
    · cases h
  | .not a, c, X, C, x, h => by
    unfold okE at h
    split at h
    · have g := okE_ok a c X C _ h
      exact Good.cmp (v_not g.rcv.own) (fun _ z => nomatch z) (v_ptNot g.pt) (fun _ _ _ z => nomatch z)
    · cases h
  | .ife t a b, c, X, C, x, h => by
    unfold okE at h
    split at h
    · simp only [Bool.and_eq_true] at h
      have gt := okE_ok t c X C _ h.1.1
      have ga := okE_ok a c X C _ h.1.2
      have gb := okE_ok b c X C _ h.2
      exact Good.cmp (v_ife gt.pt ga.rcv.own gb.rcv.own) (fun _ z => nomatch z) (v_ptIfe gt.pt ga.pt gb.pt) (fun _ _ _ z => nomatch z)
    · cases h
  | .tup es, c, X, C, x, h => by
    unfold okE at h
    split at h
    · exact Good.val (v_tup (okEs_ok es c X C _ h).1) (fun _ z => nomatch z) rfl
    · cases h
  | .lst es, c, X, C, x, h => by
    unfold okE at h
    split at h
    · exact Good.val (v_lst (okEs_ok es c X C _ h).1) (fun _ z => nomatch z) rfl
    · cases h
  | .dnew k, c, X, C, x, h => by
    unfold okE at h
    split at h
    · simp only [Bool.not_eq_true'] at h
      subst h
      exact Good.val v_dnew (fun _ z => nomatch z) rfl
    · cases h
  | .dic1 k a b, c, X, C, x, h => by
    unfold okE at h
    split at h
    · simp only [Bool.and_eq_true, Bool.not_eq_true'] at h
      obtain ⟨⟨rfl, h1⟩, h2⟩ := h
      exact Good.val (v_dic1 (okE_ok a c X C _ h1).rcv.own (okE_ok b c X C _ h2).rcv.own) (fun _ z => nomatch z) rfl
    · cases h
  | .ix a i, c, X, C, x, h => by
    unfold okE at h
    split at h
    · simp only [Bool.and_eq_true] at h
      exact Good.val (v_ix C.hu (okE_ok a c X C _ h.1.2).rcv (okE_ok i c X C _ h.2).rcv.own (ixB_ok h.1.1)) (fun _ z => nomatch z) rfl
    · cases h
  | .sl a lo hi, c, X, C, x, h => by
    unfold okE at h
    split at h
    · simp only [Bool.and_eq_true] at h
      exact Good.val (v_sl (okE_ok a c X C _ h.1.1).rcv ((okO_ok lo).1 c X C _ h.1.2) ((okO_ok hi).1 c X C _ h.2)) (fun _ z => nomatch z) rfl
    · cases h
  | .bi b a, c, X, C, x, h => by
    unfold okE at h
    split at h
    · simp only [Bool.and_eq_true, decide_eq_true_eq] at h
      obtain ⟨⟨⟨rfl, h1⟩, h2⟩, h3⟩ := h
      exact Good.val (v_bi C.calm (C.glob h1) (C.bl _ (bi_mem b)) h2 (okE_ok a c X C _ h3).rcv.rdd) (fun _ z => nomatch z) rfl
    · cases h
  | .isi a t, c, X, C, x, h => by
    unfold okE at h
    split at h
    · simp only [Bool.and_eq_true, decide_eq_true_eq] at h
      obtain ⟨⟨⟨⟨⟨rfl, rfl⟩, h1⟩, h2⟩, h3⟩, h4⟩ := h
      exact Good.val (v_isi (C.glob h1) (C.bl _ isi_mem) (C.glob h2) (C.bl _ (ty_mem t)) h3 (okE_ok a c X C _ h4).rcv.rdd) (fun _ z => nomatch z) rfl
    · cases h
  | .rgl _ _, c, X, C, x, h => by simp [okE] at h
  | .join a b, c, X, C, x, h => by
    unfold okE at h
    split at h
    · simp only [Bool.and_eq_true, decide_eq_true_eq] at h
      obtain ⟨⟨⟨⟨⟨rfl, h1⟩, h2⟩, h3⟩, h4⟩, h5⟩ := h
      exact Good.val (v_join (okE_ok a c X C _ h4).rcv.own (okE_ok b c X C _ h5).rcv.rdd h3 h1 h2) (fun _ z => nomatch z) rfl
    · cases h
  | .app j a, c, X, C, x, h => by
    unfold okE at h
    split at h
    · simp only [Bool.and_eq_true, decide_eq_true_eq] at h
      obtain ⟨⟨⟨⟨rfl, h1⟩, h2⟩, h3⟩, h4⟩ := h
      exact Good.val (v_app (C.name h3) (okE_ok a c X C _ h4).rcv.own h2 rfl h1) (fun _ z => nomatch z) rfl
    · cases h
  | .ext j a, c, X, C, x, h => by
    unfold okE at h
    split at h
    · simp only [Bool.and_eq_true, decide_eq_true_eq] at h
      obtain ⟨⟨⟨⟨rfl, h1⟩, h2⟩, h3⟩, h4⟩ := h
      exact Good.val (v_ext (C.name h3) (okE_ok a c X C _ h4).rcv.own h2 rfl h1) (fun _ z => nomatch z) rfl
    · cases h
  | .popA j a, c, X, C, x, h => by
    unfold okE at h
    split at h
    · simp only [Bool.and_eq_true, decide_eq_true_eq] at h
      obtain ⟨⟨⟨⟨rfl, h1⟩, h2⟩, h3⟩, h4⟩ := h
      exact Good.val (v_popA (C.name h3) (okE_ok a c X C _ h4).rcv.own h2 rfl h1) (fun _ z => nomatch z) rfl
    · cases h
  | .pop j, c, X, C, x, h => by
    unfold okE at h
    split at h
    · simp only [Bool.and_eq_true, decide_eq_true_eq] at h
      obtain ⟨⟨rfl, h1⟩, h2⟩ := h
      exact Good.val (v_pop (C.name h2) rfl h1) (fun _ z => nomatch z) rfl
    · cases h
  | .idx a b, c, X, C, x, h => by
    unfold okE at h
    split at h
    · simp only [Bool.and_eq_true, decide_eq_true_eq] at h
      obtain ⟨⟨⟨⟨⟨rfl, h1⟩, h2⟩, h3⟩, h4⟩, h5⟩ := h
      exact Good.val (v_idx C.hu (okE_ok a c X C _ h4).rcv (okE_ok b c X C _ h5).rcv.own h3 h1 h2) (fun _ z => nomatch z) rfl
    · cases h
  | .call f as, c, X, C, x, h => by
    unfold okE at h
    split at h
    · rename_i y _ xs _
      simp only [Bool.and_eq_true, decide_eq_true_eq, Bool.not_eq_true'] at h
      obtain ⟨⟨⟨⟨h1, h2⟩, h3⟩, h4⟩, h5⟩ := h
      have ca := C.fns f y h1
      have ha := (okEs_ok as c X C _ h5).2
      cases xs with
      | nil =>
        cases as with
        | nil => exact Good.val (v_call0 ca C.room (C.glob h2) h3) (fun _ z => nomatch z) rfl
        | cons _ _ => simp [okEs] at h5
      | cons x0 xs =>
        rw [List.all_cons, Bool.and_eq_true] at h4
        exact Good.val (v_call ca C.room (C.glob h2) ha h3 h4.1 h4.2) (fun _ z => nomatch z) rfl
    · cases h
  | .callK _ _ _, c, X, C, x, h => by simp [okE] at h
  | .lc t own it cd e, c, X, C, x, h => by
    obtain ⟨e', tg, iter, ifs, scope, p, rfl, L⟩ := lc_mk C (okI_ok it) (okO_ok cd).2 (okE_ok e) h
    obtain ⟨tc, ht, htc⟩ := L.ht
    have := v_lc C.calm C.nd L.hi L.ok L.hg ht L.he L.hs L.hts L.hj htc (pos := p)
    rw [ownP_snd] at this
    exact Good.val this (fun _ z => nomatch z) rfl
  | .lc2 _ _ _ _ _ _ _, c, X, C, x, h => by simp [okE] at h
  | .dc _ _ _ _ _ _, c, X, C, x, h => by simp [okE] at h
  | .mx _ _ _, c, X, C, x, h => by simp [okE] at h
theorem okEs_ok : ∀ (es : List E) (c : Cc) (X : Cx) (C : Cond c Γ n X) (xs : List Expr), okEs c es xs = true → PA X xs (tVA X.K (evs Γ es)) ∧ PA X xs (tArgs X.K Γ es)
  | [], c, X, C, xs, h => by
    unfold okEs at h
    split at h
    · exact ⟨v_nil, args_nil⟩
    · cases h
  | e :: es, c, X, C, xs, h => by
    unfold okEs at h
    split at h
    · simp only [Bool.and_eq_true] at h
      have g := okE_ok e c X C _ h.1.2
      have r := okEs_ok es c X C _ h.2
      exact ⟨v_cons h.1.1 g.rcv.own r.1, args_cons g.rcv h.1.1 r.2⟩
    · cases h
theorem okO_ok : ∀ (o : Option E), (∀ (c : Cc) (X : Cx) (C : Cond c Γ n X) (x : Option Expr), okO c o x = true → PO X x (tVO X.K (evo Γ o))) ∧
    ∀ (c : Cc) (X : Cx) (C : Cond c Γ n X) (scope : Scope) (ifs : List Expr), okC (c.blk scope) o ifs = true →
    ∃ tc : TT, (∀ (s : Shared) (H : Hp) (D : Addr) (cl : List (Str × Addr)) (fp : List Addr), PTs (X.blk s H scope (compEnvC scope cl D X.env) fp) ifs tc) ∧ ∀ σ H Q, tVT X.K (tB (evc Γ o)) σ H Q → tc σ H Q
  | none => by
    refine ⟨fun c X C x h => ?_, fun c X C scope ifs h => ?_⟩
    · unfold okO at h
      split at h
      · exact v_none
      · cases h
    · unfold okC at h
      split at h
      · exact ⟨_, fun s H D cl fp => pts_nil, yes_read⟩
      · cases h
  | some e => by
    refine ⟨fun c X C x h => ?_, fun c X C scope ifs h => ?_⟩
    · unfold okO at h
      split at h
      · exact v_some (okE_ok e c X C _ h).rcv.own
      · cases h
    · unfold okC at h
      split at h
      · exact ⟨_, fun s H D cl fp => pts_one (okE_ok e _ _ (C.blk scope s H D cl fp) _ h).pt, fun _ _ _ q => q⟩
      · cases h
theorem okI_ok : ∀ (it : It) (c : Cc) (X : Cx) (C : Cond c Γ n X) (tg x : Expr), okI c it x = true → PI X tg x (tI X.K it (evI Γ it))
  | .seq a, c, X, C, tg, x, h => by
    unfold okI at h
    exact v_seq (okE_ok a c X C _ h).rcv
  | .rng as, c, X, C, tg, x, h => by
    unfold okI at h
    split at h
    · rename_i f _ xs _
      simp only [Bool.and_eq_true, decide_eq_true_eq, Bool.or_eq_true] at h
      obtain ⟨⟨⟨rfl, h1⟩, h2⟩, h3⟩ := h
      have ha := (okEs_ok as c X C _ h3).1
      have hl := okEs_len h3
      match xs, h2, h3, ha, hl with
      | [], h2, _, _, _ => simp at h2
      | [a], h2, h3, ha, hl =>
        have hp : plainE a = true := by
          cases as with
          | nil => simp at hl
          | cons _ _ => simp only [okEs, Bool.and_eq_true] at h3; exact h3.1.1
        exact v_rng1 (C.glob h1) (C.bl _ range_mem) hp ha fun ρ r hr => by rw [evs_len hr, hl]; rfl
      | [a, b], h2, h3, ha, hl =>
        match as, hl, h3, ha with
        | [], hl, _, _ => simp at hl
        | [_], hl, _, _ => simp at hl
        | _ :: _ :: _ :: _, hl, _, _ => simp at hl
        | [e1, e2], hl, h3, ha =>
          simp only [okEs, Bool.and_eq_true] at h3
          exact v_rng2 (C.glob h1) (C.bl _ range_mem) h3.1.1 h3.2.1.1 ha fun ρ r hr => by rw [evs_len hr, hl]; rfl
      | _ :: _ :: _ :: _, h2, _, _, _ => simp at h2
    · cases h
  | .enum _, c, X, C, tg, x, h => by simp [okI] at h
  | .zip _ _, c, X, C, tg, x, h => by simp [okI] at h
  | .keys _, c, X, C, tg, x, h => by simp [okI] at h
  | .items _, c, X, C, tg, x, h => by simp [okI] at h
  | .txt a, c, X, C, tg, x, h => by
    unfold okI at h
    exact v_txt (okE_ok a c X C _ h).rcv.own
end
end
end VS

set_option Elab.async false
set_option linter.all false
set_option autoImplicit false
set_option maxRecDepth 100000
set_option maxHeartbeats 4000000
namespace VS
open PySem L2 PyProof.Rows
open M (bnd lif pur)
section
variable {Γ : Gam} {n : Nat} {c : Cc} {X : Cx}
theorem noComp_sw {v : Expr} (h : noComp v = true) (t : Option Expr) (l : Nat) (env : Env) : swapsWith v t l env = pure false := by
  cases v <;> first | rfl | simp [noComp] at h
theorem sw_tup {ts : List Expr} {k : Nat} {p : Pos} {v : Expr} (l : Nat) (env : Env) : swapsWithSole [.Tuple ts k p] v l env = pure false := by
  cases v <;> rfl
theorem sw_sub {o i : Expr} {p : Pos} {v : Expr} (l : Nat) (env : Env) : swapsWithSole [.Subscript o i p] v l env = pure false := by
  cases v <;> rfl
theorem okGs_cons {i : Nat} {is : List Nat} {es : List Expr} (h : okGs c (i :: is) es = true) : ∃ x p es', es = .Name x p :: es' ∧ c.N[i]? = some x ∧ lclB c.sc x = true ∧ okGs c is es' = true := by
  cases es with
  | nil => simp [okGs] at h
  | cons e es =>
    cases e <;> simp only [okGs, Bool.false_eq_true] at h
    simp only [Bool.and_eq_true, decide_eq_true_eq] at h
    exact ⟨_, _, _, rfl, h.1.1, h.1.2, h.2⟩
theorem okGs_nil {es : List Expr} (h : okGs c [] es = true) : es = [] := by
  cases es with
  | nil => rfl
  | cons _ _ => simp [okGs] at h
theorem getD_N {i : Nat} {x : Str} (h : c.N[i]? = some x) : c.N.getD i "" = x := by rw [List.getD_eq_getElem?_getD, h]; rfl
mutual
theorem okS_ok (C : Cond c Γ n X) (hx : X.xe = fun _ _ => False) : ∀ (s : S) (st : Stmt), okS c s st = true → PS X st (tS X.K (asg s) (ex Γ s))
  | .set i e, st, h => by
    unfold okS at h
    split at h
    · rename_i x p v pos
      simp only [Bool.and_eq_true, decide_eq_true_eq, Bool.or_eq_true] at h
      obtain ⟨⟨⟨h1, h2⟩, h3⟩, h4⟩ := h
      have hl := C.lcl h2
      rcases h4 with h4 | h4
      · exact s_set C.nd (by rw [C.hN]; exact h1) (.inl hl) (okE_ok e c X C v h3).rcv.own (noComp_sw h4 _ _ _) (.inr hl)
      · split at h4
        · rename_i elt gs scope vp
          simp only [Bool.and_eq_true, Bool.not_eq_true', decide_eq_true_eq] at h4
          cases e with
          | lc t own it cd e =>
            obtain ⟨e', tg, iter, ifs, sc', p', hxx, L⟩ := lc_mk C (okI_ok it) (okO_ok cd).2 (okE_ok e) h3
            cases hxx
            obtain ⟨tc, ht, htc⟩ := L.ht
            have hsw := sw_true (elt := elt) (gs := [⟨tg, iter, ifs, 0⟩]) (scope := scope) (pos := vp) (py := p) (y := x) (l := pos.line) (env := X.env) (by rw [C.sc]; exact h4.2) hl h4.1.1 h4.1.2
            have := s_setLc (spos := pos) C.calm C.nd (by rw [C.hN]; exact h1) hl hsw L.hi L.ok L.hg ht L.he L.hs L.hts L.hj htc
            rw [ownP_snd] at this
            exact this
          | _ => simp [okE] at h3
        · cases h4
    · cases h
  | .par is es, st, h => by
    unfold okS at h
    split at h
    · rename_i ts kt pt vs k2 pt2 pos
      simp only [Bool.and_eq_true, decide_eq_true_eq, Bool.or_eq_true, okPar] at h
      obtain ⟨⟨⟨⟨⟨h1, h2⟩, h3⟩, h4⟩, h5⟩, h6⟩ := h
      have ha := (okEs_ok es c X C vs h4).1
      have hw := swQ_ok (kt := kt) (k2 := k2) (pt := pt) (pt2 := pt2) (env := X.env) (by rw [C.sc]; exact h2)
      match is, h5 with
      | [i, j], _ =>
        obtain ⟨x, px, es1, rfl, a1, a2, b⟩ := okGs_cons h1
        obtain ⟨y, py, es2, rfl, a3, a4, b⟩ := okGs_cons b
        cases okGs_nil b
        match vs, h6, ha, hw with
        | [a, b], _, ha, hw =>
          simp only [List.map_cons, List.map_nil, getD_N a1, getD_N a3] at hw
          exact s_par2 C.calm C.nd (by rw [C.hN]; exact a1) (by rw [C.hN]; exact a3) (by simpa using h3) (C.lcl a2) (C.lcl a4) ha hw (sw_tup _ _)
      | [i, j, l], _ =>
        obtain ⟨x, px, es1, rfl, a1, a2, b⟩ := okGs_cons h1
        obtain ⟨y, py, es2, rfl, a3, a4, b⟩ := okGs_cons b
        obtain ⟨z, pz, es3, rfl, a5, a6, b⟩ := okGs_cons b
        cases okGs_nil b
        match vs, h6, ha, hw with
        | [a, b, d], _, ha, hw =>
          simp only [List.map_cons, List.map_nil, getD_N a1, getD_N a3, getD_N a5] at hw
          have h3' : (i ≠ j ∧ i ≠ l) ∧ j ≠ l := by simpa [not_or] using h3
          exact s_par3 C.calm C.nd (by rw [C.hN]; exact a1) (by rw [C.hN]; exact a3) (by rw [C.hN]; exact a5) h3'.1.1 h3'.1.2 h3'.2 (C.lcl a2) (C.lcl a4) (C.lcl a6) ha hw (sw_tup _ _)
    · cases h
  | .unp is e, st, h => by
    unfold okS at h
    split at h
    · rename_i ts kt pt v pos
      simp only [Bool.and_eq_true] at h
      obtain ⟨⟨h1, h2⟩, h3⟩ := h
      have hw : swappedStores [.Tuple ts kt pt] v X.env = pure none := by
        split at h3
        · exact swQ_ok (by rw [C.sc]; exact of_decide_eq_true h3)
        · rename_i hne
          exact sw_no fun vs k p z => hne vs k p z
      have hg : okG c (.many is) (.Tuple ts kt pt) = true := h1
      exact s_asg (okE_ok e c X C v h2).rcv.own (okG_ok C hg) (sw_tup _ _) hw rfl
    · cases h
  | .put j k e, st, h => by
    unfold okS at h
    split at h
    · rename_i y p i p' v pos
      simp only [Bool.and_eq_true] at h
      obtain ⟨⟨⟨h1, h2⟩, h3⟩, h4⟩ := h
      refine s_put C.hu (C.name h1) (okE_ok k c X C i h3).rcv.own (okE_ok e c X C v h4).rcv.own (fun v => ?_) (sw_sub _ _)
      cases i <;> first | rfl | simp [ixB] at h2
    · cases h
  | .aug _ _ _, st, h => by simp [okS] at h
  | .augx _ _ _ _, st, h => by simp [okS] at h
  | .exp e, st, h => by
    unfold okS at h
    split at h
    · simp only [Bool.and_eq_true] at h
      exact s_exp (okE_ok e c X C _ h.2).rcv.own (noComp_sw h.1 _ _ _)
    · cases h
  | .ret e, st, h => by
    unfold okS at h
    split at h
    · exact s_ret (okE_ok e c X C _ h).rcv.own
    · cases h
  | .ife t a b, st, h => by
    unfold okS at h
    split at h
    · simp only [Bool.and_eq_true] at h
      exact s_if (okE_ok t c X C _ h.1.1).pt (okSs_ok C hx a _ h.1.2) (okSs_ok C hx b _ h.2)
    · cases h
  | .whl t b, st, h => by
    unfold okS at h
    split at h
    · simp only [Bool.and_eq_true] at h
      exact s_while hx (okE_ok t c X C _ h.1).pt (okSs_ok C hx b _ h.2)
    · cases h
  | .for_ t it b, st, h => by
    unfold okS at h
    split at h
    · simp only [Bool.and_eq_true] at h
      obtain ⟨⟨⟨⟨h1, h2⟩, h3⟩, h4⟩, h5⟩ := h
      exact s_for hx C.calm (okI_ok it c X C _ _ h1) (go_free (okG_ok C h2)) (okSs_ok C hx b _ h3) (noSet_ok h4 _) (srcB_ok h5)
    · cases h
  | .brk, st, h => by
    unfold okS at h
    split at h
    · exact s_brk
    · cases h
  | .cnt, st, h => by
    unfold okS at h
    split at h
    · exact s_cnt
    · cases h
  | .pass, st, h => by
    unfold okS at h
    split at h
    · exact s_pass
    · cases h
  | .nev, st, h => s_nev
theorem okSs_ok (C : Cond c Γ n X) (hx : X.xe = fun _ _ => False) : ∀ (ss : List S) (xs : List Stmt), okSs c ss xs = true → PSs X xs (tS X.K (asgs ss) (exs Γ ss))
  | [], xs, h => by
    unfold okSs at h
    split at h
    · exact s_nil
    · cases h
  | s :: ss, xs, h => by
    unfold okSs at h
    split at h
    · simp only [Bool.and_eq_true] at h
      exact s_cons (okS_ok C hx s _ h.1) (okSs_ok C hx ss _ h.2)
    · cases h
end
end
/-! ### the whole table -/
/-- a def of the table: its name, its text, its names, its parameters' names -/
structure Row where
  x : Str
  st : Stmt
  N : List Str
  ps : List Str
/-- what the top has made of a def -/
structure Made (K : PySem.W.Frag) (mg : Str → Option Value) (x : Str) (st : Stmt) (ps : List Str) (f : Addr) (fd : FuncData) : Prop where
  fn : Fun K x x st f fd
  ent : Ent K mg x f fd ps
/-- the look at a row -/
def rowB (T : List Str) (G : List (Str × D)) (r : Row) (d : Fd) : Bool :=
  C8.scC r.N r.ps (defScope r.st) && decide (r.N.length = d.ns) && decide (r.ps.length = d.np) && okSs ⟨r.N, defScope r.st, T, G⟩ d.body (defBody r.st)
theorem walk_all {P : Program} {w : World} {K : PySem.W.Frag} {mg : Str → Option Value} {base : Heap} {rows : List Row} {tab : List Fn} {G : List (Str × D)}
    (hbl : ∀ x ∈ bnames, mg x = none) (hgl : ∀ (j : Nat) (x : Str) (d : D), G[j]? = some (x, d) → ∃ (v : V) (u : Value), mg x = some u ∧ RelV v u ∧ D.im d = true ∧ ∀ H, Rep K H v d [])
    (hmade : ∀ (j : Nat) (r : Row), rows[j]? = some r → ∃ f fd, Made K mg r.x r.st r.ps f fd)
    (hcode : ∀ (j : Nat) (r : Row) (d : Fd), rows[j]? = some r → tab[j]? = some (.code d) → rowB (rows.map (·.x)) G r d = true)
    (hnat : ∀ (j : Nat) (r : Row) (g : List D → Option (D × List (Option D))), rows[j]? = some r → tab[j]? = some (.nat g) → ∀ f fd n, Made K mg r.x r.st r.ps f fd → FnOk P w K mg base CX0 (n + 1) f fd r.ps (spV K g))
    (hlen : tab.length = rows.length) :
    ∀ (n j : Nat) (r : Row), rows[j]? = some r → ∀ f fd, Made K mg r.x r.st r.ps f fd → FnOk P w K mg base CX0 n f fd r.ps (spV K (sem tab n j))
  | 0, j, r, hr, f, fd, m => by
    refine ⟨fun vs H Q E h => ?_, fun A outer s H args us vs Q E _ _ _ _ h => ?_⟩
    · obtain ⟨ds, G, d, os, _, _, e, _⟩ := h
      cases e
    · obtain ⟨ds, G, d, os, _, _, e, _⟩ := h
      cases e
  | n + 1, j, r, hr, f, fd, m => by
    have hj : j < tab.length := by
      have := (List.getElem?_eq_some_iff.mp hr).1
      omega
    have et : tab[j]? = some tab[j] := List.getElem?_eq_getElem hj
    cases q : tab[j] with
    | nat g =>
      rw [q] at et
      have e : sem tab (n + 1) j = g := by funext ds; simp only [sem, et]
      rw [e]
      exact hnat j r g hr et f fd n m
    | code d =>
      rw [q] at et
      have e : sem tab (n + 1) j = runF (sem tab n) d := by funext ds; simp only [sem, et]
      rw [e]
      have hb := hcode j r d hr et
      unfold rowB at hb
      simp only [Bool.and_eq_true, decide_eq_true_eq] at hb
      obtain ⟨⟨⟨h1, h2⟩, h3⟩, h4⟩ := hb
      have S := C8.fnScope_by h1
      refine runF_read m.fn S h2 h3 fun cdv A outer s H E hroom => ?_
      refine okSs_ok (c := ⟨r.N, defScope r.st, rows.map (·.x), G⟩) (n := n) ⟨rfl, rfl, S.nd, rfl, hroom, hbl, fun j' x hx => ?_, hgl⟩ rfl d.body _ h4
      rw [List.getElem?_map] at hx
      cases q' : rows[j']? with
      | none => rw [q'] at hx; cases hx
      | some r' =>
        rw [q'] at hx
        cases hx
        obtain ⟨f', fd', m'⟩ := hmade j' r' q'
        exact ⟨f', fd', r'.ps, m'.ent, walk_all hbl hgl hmade hcode hnat hlen n j' r' q' f' fd' m'⟩
end VS

set_option Elab.async false
set_option linter.all false
set_option autoImplicit false
set_option maxRecDepth 100000
set_option maxHeartbeats 4000000
namespace VS
open PySem L2 PyProof.Rows
open M (bnd lif pur)
/-! ### the draw -/
def takeN : List Str := ["purse", "many", "cells", "at", "cell", "mixed"]
def takeP : List Str := ["purse", "many"]
/-- the look at the draw's text -/
def takeB (st : Stmt) : Bool := C8.scC takeN takeP (defScope st) && (match defBody st with
  | .Assign [.Name c _] (.Subscript (.Name p _) (.Constant (.int 0) _ _) _) _ :: rest => decide (c = "cells") && decide (p = "purse") && lclB (defScope st) "cells" && visB (defScope st) "purse" && okSs ⟨takeN, defScope st, [], []⟩ tkRest rest
  | _ => false)
theorem ims_ints : ∀ ns : List Int, D.ims (ns.map D.int) = true
  | [] => rfl
  | n :: ns => by simp [D.ims, D.im, ims_ints ns]
theorem plain_const {k : Const} {j : Nat} {p : Pos} : PlainIx (.Constant k j p) := fun _ _ => rfl
theorem take_ok {P : Program} {w : World} {K : PySem.W.Frag} {mg : Str → Option Value} {base : Heap} {n : Nat} {x : Str} {st : Stmt} {f : Addr} {fd : FuncData} (F : Fun K x x st f fd) (hb : takeB st = true) (hbl : ∀ x ∈ bnames, mg x = none) :
    FnOk P w K mg base CX0 (n + 1) f fd takeP (spV K takeD) := by
  unfold takeB at hb
  rw [Bool.and_eq_true] at hb
  obtain ⟨hs, hb⟩ := hb
  have S := C8.fnScope_by hs
  refine F.ok S (fun vs H Q E h => ?_) (fun cdv A outer s H vs Q E hr h => ?_)
  · obtain ⟨ds, G, d', os, r, nd, e, k⟩ := h
    unfold takeD at e
    split at e
    · exact r.length
    · cases e
  · obtain ⟨ds, G, d', os, r, nd, e, k⟩ := h
    split at hb
    · rename_i c p1 p p2 j p3 p4 p5 rest hbody
      simp only [Bool.and_eq_true, decide_eq_true_eq] at hb
      obtain ⟨⟨⟨⟨rfl, rfl⟩, h1⟩, h2⟩, h3⟩ := hb
      rw [hbody]
      let X := (cxOf CX0 P w K mg base takeN x (defScope st) f cdv A outer s H E).nox
      have C : Cond ⟨takeN, defScope st, [], []⟩ (fun _ _ => none) n X := ⟨rfl, rfl, S.nd, rfl, hr, hbl, fun j x h => by simp at h, fun j x d h => by simp at h⟩
      have hpv : PE X (.Name "purse" p2) (tVar 0) := pe_var rfl (C.vis h2) (by decide +kernel) (by decide +kernel)
      have hl : X.env.scope.names.lookup ("cells" : Str) = some NameKind.local := C.lcl h1
      refine ⟨_, pss_cons (ps_set (i := 2) S.nd rfl (.inl hl) (pe_ix ix_list hpv pe_int plain_const) rfl (.inr hl)) (okSs_ok C rfl tkRest rest h3), ?_⟩
      unfold takeD at e
      split at e
      · rename_i cells a n' m
        split at e
        · rename_i ns hns
          split at e
          · rename_i rr ns' a' ht
            cases e
            have := intL_inv hns
            subst this
            obtain ⟨v1, ws, G1, G2, rfl, rfl, r1, r2⟩ := r.uncons
            obtain ⟨v2, ws2, G3, G4, rfl, rfl, r3, r4⟩ := r2.uncons
            cases r4
            obtain ⟨rfl, rfl⟩ := r3.int_inv
            obtain ⟨pp, vs1, G5, rfl, hp, l1, rfl⟩ := r1.lst_inv
            obtain ⟨w1, ws1, G6, G7, rfl, rfl, q1, l2⟩ := l1.uncons
            obtain ⟨w2, ws2, G8, G9, rfl, rfl, q2, l3⟩ := l2.uncons
            obtain ⟨w3, ws3, G10, G11, rfl, rfl, q3, l4⟩ := l3.uncons
            cases l4
            obtain ⟨rfl, rfl⟩ := q2.int_inv
            obtain ⟨rfl, rfl⟩ := q3.int_inv
            obtain ⟨qq, vs2, G12, rfl, hq, l5, rfl⟩ := q1.lst_inv
            have e5 : G12 = [] := l5.im (ims_ints ns)
            subst e5
            simp only [List.append_nil, List.nil_append] at nd k ⊢
            have ndpq : pp ≠ qq := fun z => by
              have := (List.nodup_cons.mp nd).1
              rw [z] at this
              exact this (List.mem_singleton.mpr rfl)
            obtain ⟨x3, x4, x5, hrun⟩ := tk_run (Γ := fun _ _ => none) (q := qq) ht
            refine ⟨_, rfl, pp, _, 0, V.ref qq, rfl, rfl, SqL.of hp, rfl, ?_⟩
            have hR : RepO K H (some (V.ref pp) :: some (V.int m) :: some (V.ref qq) :: [none, none, none]) (R0 qq ns a n' m none none none) [pp, qq] := by
              have c1 : Rep K H (.ref pp) (.lst [.ptr qq, .int a, .int n']) [pp] := .lst hp (.cons (.ptr qq) (.cons (.int a) (.cons (.int n') .nil)))
              have c2 : Rep K H (.ref qq) (.lst (ns.map .int)) [qq] := .lst hq l5
              exact .som c1 (.som (.int m) (.som c2 (.non (.non (.non .nil)))))
            refine ⟨_, [pp, qq], _, _, hR, nd, hrun, fun v σ' H' F' G R qv nd' st' kp => ?_⟩
            have k0 := kp.2 0 (by decide)
            have k2 := kp.2 2 (by decide)
            unfold R0 at R
            cases R with
            | @som v0 _ σa _ Fa G0 r0 R =>
              cases R with
              | @som v1 _ σb _ Fb G1 r1 R =>
                cases R with
                | @som v2 _ σc _ Fc G2 r2 R =>
                  have e0 : v0 = V.ref pp := Option.some.inj (Option.some.inj k0)
                  have e2 : v2 = V.ref qq := Option.some.inj (Option.some.inj k2)
                  subst e0 e2
                  obtain ⟨p', us, Ga, ea, hp', la, rfl⟩ := r0.lst_inv
                  cases ea
                  obtain ⟨y1, us1, g1, g2, rfl, rfl, s1, la1⟩ := la.uncons
                  obtain ⟨y2, us2, g3, g4, rfl, rfl, s2, la2⟩ := la1.uncons
                  obtain ⟨y3, us3, g5, g6, rfl, rfl, s3, la3⟩ := la2.uncons
                  cases la3
                  obtain ⟨rfl, rfl⟩ := s2.int_inv
                  obtain ⟨rfl, rfl⟩ := s3.int_inv
                  cases s1
                  obtain ⟨q', us4, Gb, eb, hq', lb, rfl⟩ := r2.lst_inv
                  cases eb
                  have e6 : Gb = [] := lb.im (ims_ints ns')
                  subst e6
                  have cc : Rep K H' (.ref qq) (.lst (ns'.map .int)) [qq] := .lst hq' lb
                  have dd : Rep K H' (.ref pp) (.lst [.lst (ns'.map .int), .int a', .int (n' + 1)]) [pp, qq] := .lst hp' (.cons cc (.cons (.int a') (.cons (.int (n' + 1)) .nil)))
                  have mp : pp ∈ [pp] ++ (G1 ++ ([qq] ++ Fc)) := by simp
                  have mq : qq ∈ [pp] ++ (G1 ++ ([qq] ++ Fc)) := by simp
                  refine k v H' [pp, qq] G (.som dd (.non .nil)) qv (nd_mk nd (nd_r nd') fun z hz hy => ?_) ⟨st'.keep, fun z hz => ?_⟩
                  · simp only [List.mem_cons, List.not_mem_nil, or_false] at hy
                    rcases hy with rfl | rfl
                    · exact nd_out nd' _ hz mp
                    · exact nd_out nd' _ hz mq
                  · rcases List.mem_append.mp hz with hz | hz
                    · exact .inl hz
                    · exact st'.new z (List.mem_append_right _ hz)
          · cases e
        · cases e
      · cases e
    · cases hb
end VS

set_option Elab.async false
set_option linter.all false
set_option autoImplicit false
set_option maxRecDepth 100000
set_option maxHeartbeats 4000000
namespace VS
open PySem L2 PyProof.Rows
open M (bnd lif pur)
/-- the look at all defs -/
def allB (rows : List Row) (G : List (Str × D)) : List Row → List (Option Fd) → Bool
  | [], [] => true
  | r :: rs, some d :: ds => rowB (rows.map (·.x)) G r d && allB rows G rs ds
  | r :: rs, none :: ds => decide (r.ps = takeP) && takeB r.st && allB rows G rs ds
  | _, _ => false
theorem allB_len {rows : List Row} {G : List (Str × D)} : ∀ {rs : List Row} {ds : List (Option Fd)}, allB rows G rs ds = true → ds.length = rs.length
  | [], [], _ => rfl
  | [], d :: ds, h => by cases d <;> simp [allB] at h
  | r :: rs, [], h => by simp [allB] at h
  | r :: rs, d :: ds, h => by
    cases d <;> simp only [allB, Bool.and_eq_true] at h <;> simp [allB_len h.2]
theorem allB_code {rows : List Row} {G : List (Str × D)} : ∀ {rs : List Row} {ds : List (Option Fd)} {j : Nat} {r : Row} {d : Fd}, allB rows G rs ds = true → rs[j]? = some r → ds[j]? = some (some d) → rowB (rows.map (·.x)) G r d = true
  | [], [], j, r, d, _, h, _ => by simp at h
  | [], d :: ds, _, _, _, h, _, _ => by cases d <;> simp [allB] at h
  | r :: rs, [], _, _, _, h, _, _ => by simp [allB] at h
  | r :: rs, d :: ds, 0, r', d', h, h1, h2 => by
    simp at h1 h2
    subst h1 h2
    simp only [allB, Bool.and_eq_true] at h
    exact h.1
  | r :: rs, d :: ds, j + 1, r', d', h, h1, h2 => by
    have h' : allB rows G rs ds = true := by cases d <;> simp only [allB, Bool.and_eq_true] at h <;> exact h.2
    exact allB_code h' (by simpa using h1) (by simpa using h2)
theorem allB_nat {rows : List Row} {G : List (Str × D)} : ∀ {rs : List Row} {ds : List (Option Fd)} {j : Nat} {r : Row}, allB rows G rs ds = true → rs[j]? = some r → ds[j]? = some none → r.ps = takeP ∧ takeB r.st = true
  | [], [], j, r, _, h, _ => by simp at h
  | [], d :: ds, _, _, h, _, _ => by cases d <;> simp [allB] at h
  | r :: rs, [], _, _, h, _, _ => by simp [allB] at h
  | r :: rs, d :: ds, 0, r', h, h1, h2 => by
    simp at h1 h2
    subst h1 h2
    simp only [allB, Bool.and_eq_true, decide_eq_true_eq] at h
    exact h.1
  | r :: rs, d :: ds, j + 1, r', h, h1, h2 => by
    have h' : allB rows G rs ds = true := by cases d <;> simp only [allB, Bool.and_eq_true] at h <;> exact h.2
    exact allB_nat h' (by simpa using h1) (by simpa using h2)
def MadeAll (K : PySem.W.Frag) (mg : Str → Option Value) : List Row → Prop
  | [] => True
  | r :: rs => (∃ f fd, Made K mg r.x r.st r.ps f fd) ∧ MadeAll K mg rs
theorem MadeAll.get {K : PySem.W.Frag} {mg : Str → Option Value} : ∀ {rs : List Row}, MadeAll K mg rs → ∀ (j : Nat) (r : Row), rs[j]? = some r → ∃ f fd, Made K mg r.x r.st r.ps f fd
  | [], _, j, r, h => by simp at h
  | r :: rs, m, 0, r', h => by simp at h; subst h; exact m.1
  | r :: rs, m, j + 1, r', h => MadeAll.get m.2 j r' (by simpa using h)
def BltAll (mg : Str → Option Value) : List Str → Prop
  | [] => True
  | x :: xs => mg x = none ∧ BltAll mg xs
theorem BltAll.get {mg : Str → Option Value} : ∀ {xs : List Str}, BltAll mg xs → ∀ x ∈ xs, mg x = none
  | [], _, x, h => by cases h
  | y :: ys, m, x, h => by
    rcases List.mem_cons.mp h with rfl | h
    · exact m.1
    · exact BltAll.get m.2 x h
def GlAll (K : PySem.W.Frag) (mg : Str → Option Value) : List (Str × D) → Prop
  | [] => True
  | g :: gs => (∃ (v : V) (u : Value), mg g.1 = some u ∧ RelV v u ∧ D.im g.2 = true ∧ ∀ H, Rep K H v g.2 []) ∧ GlAll K mg gs
theorem GlAll.get {K : PySem.W.Frag} {mg : Str → Option Value} : ∀ {gs : List (Str × D)}, GlAll K mg gs → ∀ (j : Nat) (x : Str) (d : D), gs[j]? = some (x, d) → ∃ (v : V) (u : Value), mg x = some u ∧ RelV v u ∧ D.im d = true ∧ ∀ H, Rep K H v d []
  | [], _, j, x, d, h => by simp at h
  | g :: gs, m, 0, x, d, h => by simp at h; subst h; exact m.1
  | g :: gs, m, j + 1, x, d, h => GlAll.get m.2 j x d (by simpa using h)
theorem gl_int {K : PySem.W.Frag} {mg : Str → Option Value} {x : Str} {i : Int} {t : Tok} (h : mg x = some (.int i t)) : ∃ (v : V) (u : Value), mg (x, D.int i).1 = some u ∧ RelV v u ∧ D.im (x, D.int i).2 = true ∧ ∀ H, Rep K H v (x, D.int i).2 [] :=
  ⟨.int i, _, h, ⟨t, rfl⟩, rfl, fun _ => .int i⟩
theorem made_mk {K : PySem.W.Frag} {mg : Str → Option Value} {x : Str} {st : Stmt} {ps : List Str} {f : Addr} {oc : Value} {od an : Option Addr} {osl : Array (Option Value)} {kV doc pm cdv ct : Value} (m : mg x = some (.ref f))
    (l : K.lookup f = some ⟨oc, od, .func (PySem.W.fnOf x x (defArgs st) (defBody st) (defScope st) .none kV doc pm an cdv ct), osl⟩) (c : PySem.W.codeIn K cdv x = true) (k : PySem.W.keepIn K (.ref f) = true)
    (hb : ∀ (kV doc pm : Value) (an : Option Addr) (cdv ct : Value) (us : List Value), us.length = ps.length → bindArgs (PySem.W.fnOf x x (defArgs st) (defBody st) (defScope st) .none kV doc pm an cdv ct) ⟨us, []⟩ = pure (ps.zip us)) :
    Made K mg x st ps f (PySem.W.fnOf x x (defArgs st) (defBody st) (defScope st) .none kV doc pm an cdv ct) :=
  have F := fun_mk (st := st) l c k
  ⟨F, m, k, F.binds hb⟩
theorem tab_ok {P : Program} {w : World} {K : PySem.W.Frag} {mg : Str → Option Value} {base : Heap} {rows : List Row} {fds : List (Option Fd)} {G : List (Str × D)}
    (hB : allB rows G rows fds = true) (hbl : BltAll mg bnames) (hgl : GlAll K mg G) (hm : MadeAll K mg rows) (n j : Nat) (r : Row) (hr : rows[j]? = some r) (f : Addr) (fd : FuncData) (m : Made K mg r.x r.st r.ps f fd) :
    FnOk P w K mg base CX0 n f fd r.ps (spV K (sem (mkTab fds) n j)) := by
  refine walk_all (rows := rows) (tab := mkTab fds) (G := G) hbl.get hgl.get hm.get (fun j r d h1 h2 => ?_) (fun j r g h1 h2 f fd n m => ?_) (by unfold mkTab; rw [List.length_map]; exact allB_len hB) n j r hr f fd m
  · unfold mkTab at h2
    rw [List.getElem?_map] at h2
    cases q : fds[j]? with
    | none => rw [q] at h2; cases h2
    | some o =>
      rw [q] at h2
      cases o with
      | none => cases h2
      | some d' => cases h2; exact allB_code hB h1 q
  · unfold mkTab at h2
    rw [List.getElem?_map] at h2
    cases q : fds[j]? with
    | none => rw [q] at h2; cases h2
    | some o =>
      rw [q] at h2
      cases o with
      | some d' => cases h2
      | none =>
        cases h2
        obtain ⟨e, hb⟩ := allB_nat hB h1 q
        have := take_ok (P := P) (w := w) (base := base) (n := n) m.fn hb hbl.get
        rw [e]
        exact this
/-- law's own promise -/
def spLaw (K : PySem.W.Frag) : Sp := fun vs H Q _ => ∃ (a : Addr) (ns : List Int), vs = [.ref a] ∧ RdL K H a (ns.map V.int) ∧ ns.length ≤ 63 ∧ ∀ H', Q (.bl true) H'
theorem repL_of_ints {K : PySem.W.Frag} {H : Hp} : ∀ ns : List Int, RepL K H (ns.map V.int) (ns.map D.int) []
  | [] => .nil
  | n :: ns => by
    have := RepL.cons (.int n) (repL_of_ints (K := K) (H := H) ns)
    simpa using this
theorem law_ok {P : Program} {w : World} {K : PySem.W.Frag} {mg : Str → Option Value} {base : Heap} {n : Nat} {f : Addr} {fd : FuncData} {ps : List Str} {g : List D → Option (D × List (Option D))} (F : FnOk P w K mg base CX0 n f fd ps (spV K g))
    (hg : ∀ ns : List Int, ns.length ≤ 63 → ∃ os, g [.rls (ns.map .int)] = some (.bl true, os)) : FnOk P w K mg base CX0 n f fd ps (spLaw K) := F.imp fun vs H Q E h => by
  obtain ⟨a, ns, rfl, hr, hl, k⟩ := h
  obtain ⟨os, e⟩ := hg ns hl
  have hrep : Rep K H (.ref a) (.rls (ns.map .int)) [] := .rls hr (repL_of_ints ns)
  refine ⟨_, [], _, os, RepL.one hrep, List.nodup_nil, e, fun v H' G1 Gr _ q _ _ => ?_⟩
  obtain ⟨rfl, _⟩ := q.bl_inv
  exact k H'
theorem walk {l : PySem.W.OpenLaw} {q : Program} {loose : List Str} {XP : (Str → Option Value) → Heap → Prop} {YP : World → Heap → Prop} {d : DefRec} {K : Params → PySem.W.Frag} {k : Nat} (hn : l.most = some 63) (hdf : d.params.defaults = []) (hr : Room k callerA)
    (hY : ∀ (w : World) (h : Heap), YP w h → (K w.params).In h)
    (F : ∀ (w : World) (mg : Str → Option Value) (fa : Addr) (h : Heap), (K w.params).In h → h.Ns mainGlobals mg → mg d.name = some (.ref fa) →
      ∃ fd : FuncData, (∀ (s : Shared) (u : Value), BindsTo s fd ⟨[u], []⟩ [("script", u)]) ∧ ∀ base : Heap, (K w.params).In base → base.Ns mainGlobals mg → FnOk l.prog w (K w.params) mg base CX0 k fa fd ["script"] (spLaw (K w.params))) :
    PySem.W.WalkO q loose XP YP l.row.toRowW d [] (fun f vs => PySem.call f vs) :=
  L2.walk_of (n := 63) (k := k) (x := "script") (CX := fun _ => CX0) (sp := fun w => spLaw (K w.params)) hn (by decide) hdf hr hY F (fun _ H a ns hl hO hS => ⟨a, ns, rfl, (by
    rcases hS with (h | ⟨o, h⟩) | h
    · exact absurd h (by
        intro h
        rcases hO a with e | ⟨o, xs, e⟩
        · rw [e] at h; cases h
        · rw [e] at h; cases h)
    · exact .inl ⟨o, h⟩
    · exact .inr h), hl, fun _ => rfl⟩) fun _ _ _ _ _ z => z
end VS

set_option Elab.async false
set_option linter.all false
set_option autoImplicit false
set_option maxRecDepth 100000
set_option maxHeartbeats 4000000
namespace K64
open PySem L2 VS PyProof.Rows
def top (i : Nat) : Stmt := PySem.Challenge.pw_wholenuclei_k64_whole_kneadings_of_fract.main.body.getD i (.Pass ⟨0, 0, 0, 0⟩)
def rows : List Row := [
  ⟨"is_integer", top 6, ["value"], ["value"]⟩,
  ⟨"is_natural", top 7, ["value"], ["value"]⟩,
  ⟨"are_below", top 8, ["value", "many", "own"], ["value", "many"]⟩,
  ⟨"check_from", top 9, ["value", "least"], ["value", "least"]⟩,
  ⟨"check_word", top 10, ["k", "word"], ["k", "word"]⟩,
  ⟨"check_again", top 11, ["k", "again"], ["k", "again"]⟩,
  ⟨"root_of", top 13, ["again", "many"], ["again"]⟩,
  ⟨"short_form", top 14, ["word", "again"], ["word", "again"]⟩,
  ⟨"round_form", top 15, ["word", "again"], ["word", "again"]⟩,
  ⟨"are_plain_signs", top 17, ["value", "sign"], ["value"]⟩,
  ⟨"are_signs", top 18, ["first", "again"], ["first", "again"]⟩,
  ⟨"kneading_of", top 19, ["m", "n", "at", "met", "signs", "first", "again"], ["m", "n"]⟩,
  ⟨"is_signs", top 20, ["value"], ["value"]⟩,
  ⟨"kneading", top 21, ["m", "n"], ["m", "n"]⟩,
  ⟨"_law_purse", top 23, ["script", "cell"], ["script"]⟩,
  ⟨"_law_take", top 24, ["purse", "many", "cells", "at", "cell", "mixed"], ["purse", "many"]⟩,
  ⟨"_law_like", top 25, ["told", "due", "at"], ["told", "due"]⟩,
  ⟨"_law_signs", top 26, ["m", "n", "many", "turn", "at", "signs", "numbers", "away"], ["m", "n", "many"]⟩,
  ⟨"_law_is_short", top 27, ["first", "again", "size"], ["first", "again"]⟩,
  ⟨"_law_holds", top 28, ["told", "m", "n", "at", "first", "again", "signs", "numbers"], ["told", "m", "n"]⟩,
  ⟨"law", top 29, ["script", "purse", "make", "n", "m", "told", "word", "again", "times", "sign"], ["script"]⟩]
def G : List (Str × D) := [("MOST_LETTERS", (.int 4))]
theorem all_ok : allB rows G rows fds = true := by decide +kernel
theorem all_mk {l : PySem.W.OpenLaw} {w : World} {K : PySem.W.Frag} {h : Heap} {mg : Str → Option Value} {fa f0 f1 f2 f3 f4 f5 f6 f7 f8 f9 f10 f11 f12 f13 f14 f15 f16 f17 f18 f19 f20 : Addr} (X : K.In h) (GG : h.Ns mainGlobals mg) (hfa : mg "law" = some (.ref fa))
    {od0 od1 od2 od3 od4 od5 od6 od7 od8 od9 od10 od11 od12 od13 od14 od15 od16 od17 od18 od19 od20 an0 an1 an2 an3 an4 an5 an6 an7 an8 an9 an10 an11 an12 an13 an14 an15 an16 an17 an18 an19 an20 : Option Addr} {sl0 sl1 sl2 sl3 sl4 sl5 sl6 sl7 sl8 sl9 sl10 sl11 sl12 sl13 sl14 sl15 sl16 sl17 sl18 sl19 sl20 : Array (Option Value)} {oc0 oc1 oc2 oc3 oc4 oc5 oc6 oc7 oc8 oc9 oc10 oc11 oc12 oc13 oc14 oc15 oc16 oc17 oc18 oc19 oc20 kV0 kV1 kV2 kV3 kV4 kV5 kV6 kV7 kV8 kV9 kV10 kV11 kV12 kV13 kV14 kV15 kV16 kV17 kV18 kV19 kV20 dc0 dc1 dc2 dc3 dc4 dc5 dc6 dc7 dc8 dc9 dc10 dc11 dc12 dc13 dc14 dc15 dc16 dc17 dc18 dc19 dc20 pm0 pm1 pm2 pm3 pm4 pm5 pm6 pm7 pm8 pm9 pm10 pm11 pm12 pm13 pm14 pm15 pm16 pm17 pm18 pm19 pm20 cd0 cd1 cd2 cd3 cd4 cd5 cd6 cd7 cd8 cd9 cd10 cd11 cd12 cd13 cd14 cd15 cd16 cd17 cd18 cd19 cd20 ct0 ct1 ct2 ct3 ct4 ct5 ct6 ct7 ct8 ct9 ct10 ct11 ct12 ct13 ct14 ct15 ct16 ct17 ct18 ct19 ct20 : Value} {t0 : Tok}
    (a0 : PySem.W.nsIn K mainGlobals "is_integer" = some (some (.ref f0))) (l0 : K.lookup f0 = some ⟨oc0, od0, .func (PySem.W.fnOf "is_integer" "is_integer" (defArgs (top 6)) (defBody (top 6)) (defScope (top 6)) .none kV0 dc0 pm0 an0 cd0 ct0), sl0⟩) (c0 : PySem.W.codeIn K cd0 "is_integer" = true) (k0 : PySem.W.keepIn K (.ref f0) = true)
    (a1 : PySem.W.nsIn K mainGlobals "is_natural" = some (some (.ref f1))) (l1 : K.lookup f1 = some ⟨oc1, od1, .func (PySem.W.fnOf "is_natural" "is_natural" (defArgs (top 7)) (defBody (top 7)) (defScope (top 7)) .none kV1 dc1 pm1 an1 cd1 ct1), sl1⟩) (c1 : PySem.W.codeIn K cd1 "is_natural" = true) (k1 : PySem.W.keepIn K (.ref f1) = true)
    (a2 : PySem.W.nsIn K mainGlobals "are_below" = some (some (.ref f2))) (l2 : K.lookup f2 = some ⟨oc2, od2, .func (PySem.W.fnOf "are_below" "are_below" (defArgs (top 8)) (defBody (top 8)) (defScope (top 8)) .none kV2 dc2 pm2 an2 cd2 ct2), sl2⟩) (c2 : PySem.W.codeIn K cd2 "are_below" = true) (k2 : PySem.W.keepIn K (.ref f2) = true)
    (a3 : PySem.W.nsIn K mainGlobals "check_from" = some (some (.ref f3))) (l3 : K.lookup f3 = some ⟨oc3, od3, .func (PySem.W.fnOf "check_from" "check_from" (defArgs (top 9)) (defBody (top 9)) (defScope (top 9)) .none kV3 dc3 pm3 an3 cd3 ct3), sl3⟩) (c3 : PySem.W.codeIn K cd3 "check_from" = true) (k3 : PySem.W.keepIn K (.ref f3) = true)
    (a4 : PySem.W.nsIn K mainGlobals "check_word" = some (some (.ref f4))) (l4 : K.lookup f4 = some ⟨oc4, od4, .func (PySem.W.fnOf "check_word" "check_word" (defArgs (top 10)) (defBody (top 10)) (defScope (top 10)) .none kV4 dc4 pm4 an4 cd4 ct4), sl4⟩) (c4 : PySem.W.codeIn K cd4 "check_word" = true) (k4 : PySem.W.keepIn K (.ref f4) = true)
    (a5 : PySem.W.nsIn K mainGlobals "check_again" = some (some (.ref f5))) (l5 : K.lookup f5 = some ⟨oc5, od5, .func (PySem.W.fnOf "check_again" "check_again" (defArgs (top 11)) (defBody (top 11)) (defScope (top 11)) .none kV5 dc5 pm5 an5 cd5 ct5), sl5⟩) (c5 : PySem.W.codeIn K cd5 "check_again" = true) (k5 : PySem.W.keepIn K (.ref f5) = true)
    (a6 : PySem.W.nsIn K mainGlobals "root_of" = some (some (.ref f6))) (l6 : K.lookup f6 = some ⟨oc6, od6, .func (PySem.W.fnOf "root_of" "root_of" (defArgs (top 13)) (defBody (top 13)) (defScope (top 13)) .none kV6 dc6 pm6 an6 cd6 ct6), sl6⟩) (c6 : PySem.W.codeIn K cd6 "root_of" = true) (k6 : PySem.W.keepIn K (.ref f6) = true)
    (a7 : PySem.W.nsIn K mainGlobals "short_form" = some (some (.ref f7))) (l7 : K.lookup f7 = some ⟨oc7, od7, .func (PySem.W.fnOf "short_form" "short_form" (defArgs (top 14)) (defBody (top 14)) (defScope (top 14)) .none kV7 dc7 pm7 an7 cd7 ct7), sl7⟩) (c7 : PySem.W.codeIn K cd7 "short_form" = true) (k7 : PySem.W.keepIn K (.ref f7) = true)
    (a8 : PySem.W.nsIn K mainGlobals "round_form" = some (some (.ref f8))) (l8 : K.lookup f8 = some ⟨oc8, od8, .func (PySem.W.fnOf "round_form" "round_form" (defArgs (top 15)) (defBody (top 15)) (defScope (top 15)) .none kV8 dc8 pm8 an8 cd8 ct8), sl8⟩) (c8 : PySem.W.codeIn K cd8 "round_form" = true) (k8 : PySem.W.keepIn K (.ref f8) = true)
    (a9 : PySem.W.nsIn K mainGlobals "are_plain_signs" = some (some (.ref f9))) (l9 : K.lookup f9 = some ⟨oc9, od9, .func (PySem.W.fnOf "are_plain_signs" "are_plain_signs" (defArgs (top 17)) (defBody (top 17)) (defScope (top 17)) .none kV9 dc9 pm9 an9 cd9 ct9), sl9⟩) (c9 : PySem.W.codeIn K cd9 "are_plain_signs" = true) (k9 : PySem.W.keepIn K (.ref f9) = true)
    (a10 : PySem.W.nsIn K mainGlobals "are_signs" = some (some (.ref f10))) (l10 : K.lookup f10 = some ⟨oc10, od10, .func (PySem.W.fnOf "are_signs" "are_signs" (defArgs (top 18)) (defBody (top 18)) (defScope (top 18)) .none kV10 dc10 pm10 an10 cd10 ct10), sl10⟩) (c10 : PySem.W.codeIn K cd10 "are_signs" = true) (k10 : PySem.W.keepIn K (.ref f10) = true)
    (a11 : PySem.W.nsIn K mainGlobals "kneading_of" = some (some (.ref f11))) (l11 : K.lookup f11 = some ⟨oc11, od11, .func (PySem.W.fnOf "kneading_of" "kneading_of" (defArgs (top 19)) (defBody (top 19)) (defScope (top 19)) .none kV11 dc11 pm11 an11 cd11 ct11), sl11⟩) (c11 : PySem.W.codeIn K cd11 "kneading_of" = true) (k11 : PySem.W.keepIn K (.ref f11) = true)
    (a12 : PySem.W.nsIn K mainGlobals "is_signs" = some (some (.ref f12))) (l12 : K.lookup f12 = some ⟨oc12, od12, .func (PySem.W.fnOf "is_signs" "is_signs" (defArgs (top 20)) (defBody (top 20)) (defScope (top 20)) .none kV12 dc12 pm12 an12 cd12 ct12), sl12⟩) (c12 : PySem.W.codeIn K cd12 "is_signs" = true) (k12 : PySem.W.keepIn K (.ref f12) = true)
    (a13 : PySem.W.nsIn K mainGlobals "kneading" = some (some (.ref f13))) (l13 : K.lookup f13 = some ⟨oc13, od13, .func (PySem.W.fnOf "kneading" "kneading" (defArgs (top 21)) (defBody (top 21)) (defScope (top 21)) .none kV13 dc13 pm13 an13 cd13 ct13), sl13⟩) (c13 : PySem.W.codeIn K cd13 "kneading" = true) (k13 : PySem.W.keepIn K (.ref f13) = true)
    (a14 : PySem.W.nsIn K mainGlobals "_law_purse" = some (some (.ref f14))) (l14 : K.lookup f14 = some ⟨oc14, od14, .func (PySem.W.fnOf "_law_purse" "_law_purse" (defArgs (top 23)) (defBody (top 23)) (defScope (top 23)) .none kV14 dc14 pm14 an14 cd14 ct14), sl14⟩) (c14 : PySem.W.codeIn K cd14 "_law_purse" = true) (k14 : PySem.W.keepIn K (.ref f14) = true)
    (a15 : PySem.W.nsIn K mainGlobals "_law_take" = some (some (.ref f15))) (l15 : K.lookup f15 = some ⟨oc15, od15, .func (PySem.W.fnOf "_law_take" "_law_take" (defArgs (top 24)) (defBody (top 24)) (defScope (top 24)) .none kV15 dc15 pm15 an15 cd15 ct15), sl15⟩) (c15 : PySem.W.codeIn K cd15 "_law_take" = true) (k15 : PySem.W.keepIn K (.ref f15) = true)
    (a16 : PySem.W.nsIn K mainGlobals "_law_like" = some (some (.ref f16))) (l16 : K.lookup f16 = some ⟨oc16, od16, .func (PySem.W.fnOf "_law_like" "_law_like" (defArgs (top 25)) (defBody (top 25)) (defScope (top 25)) .none kV16 dc16 pm16 an16 cd16 ct16), sl16⟩) (c16 : PySem.W.codeIn K cd16 "_law_like" = true) (k16 : PySem.W.keepIn K (.ref f16) = true)
    (a17 : PySem.W.nsIn K mainGlobals "_law_signs" = some (some (.ref f17))) (l17 : K.lookup f17 = some ⟨oc17, od17, .func (PySem.W.fnOf "_law_signs" "_law_signs" (defArgs (top 26)) (defBody (top 26)) (defScope (top 26)) .none kV17 dc17 pm17 an17 cd17 ct17), sl17⟩) (c17 : PySem.W.codeIn K cd17 "_law_signs" = true) (k17 : PySem.W.keepIn K (.ref f17) = true)
    (a18 : PySem.W.nsIn K mainGlobals "_law_is_short" = some (some (.ref f18))) (l18 : K.lookup f18 = some ⟨oc18, od18, .func (PySem.W.fnOf "_law_is_short" "_law_is_short" (defArgs (top 27)) (defBody (top 27)) (defScope (top 27)) .none kV18 dc18 pm18 an18 cd18 ct18), sl18⟩) (c18 : PySem.W.codeIn K cd18 "_law_is_short" = true) (k18 : PySem.W.keepIn K (.ref f18) = true)
    (a19 : PySem.W.nsIn K mainGlobals "_law_holds" = some (some (.ref f19))) (l19 : K.lookup f19 = some ⟨oc19, od19, .func (PySem.W.fnOf "_law_holds" "_law_holds" (defArgs (top 28)) (defBody (top 28)) (defScope (top 28)) .none kV19 dc19 pm19 an19 cd19 ct19), sl19⟩) (c19 : PySem.W.codeIn K cd19 "_law_holds" = true) (k19 : PySem.W.keepIn K (.ref f19) = true)
    (a20 : PySem.W.nsIn K mainGlobals "law" = some (some (.ref f20))) (l20 : K.lookup f20 = some ⟨oc20, od20, .func (PySem.W.fnOf "law" "law" (defArgs (top 29)) (defBody (top 29)) (defScope (top 29)) .none kV20 dc20 pm20 an20 cd20 ct20), sl20⟩) (c20 : PySem.W.codeIn K cd20 "law" = true) (k20 : PySem.W.keepIn K (.ref f20) = true)
    (glo0 : PySem.W.nsIn K mainGlobals "MOST_LETTERS" = some (some (.int 4 t0)))
    (z0 : PySem.W.nsIn K mainGlobals "len" = some none)
    (z1 : PySem.W.nsIn K mainGlobals "int" = some none)
    (z2 : PySem.W.nsIn K mainGlobals "tuple" = some none)
    (z3 : PySem.W.nsIn K mainGlobals "list" = some none)
    (z4 : PySem.W.nsIn K mainGlobals "all" = some none)
    (z5 : PySem.W.nsIn K mainGlobals "any" = some none)
    (z6 : PySem.W.nsIn K mainGlobals "sum" = some none)
    (z7 : PySem.W.nsIn K mainGlobals "max" = some none)
    (z8 : PySem.W.nsIn K mainGlobals "min" = some none)
    (z9 : PySem.W.nsIn K mainGlobals "abs" = some none)
    (z10 : PySem.W.nsIn K mainGlobals "isinstance" = some none)
    (z11 : PySem.W.nsIn K mainGlobals "range" = some none)
    (z12 : PySem.W.nsIn K mainGlobals "bool" = some none)
    (z13 : PySem.W.nsIn K mainGlobals "str" = some none)
    (z14 : PySem.W.nsIn K mainGlobals "dict" = some none)
    (z15 : PySem.W.nsIn K mainGlobals "sorted" = some none)
    (z16 : PySem.W.nsIn K mainGlobals "enumerate" = some none)
    (z17 : PySem.W.nsIn K mainGlobals "zip" = some none)
    (z18 : PySem.W.nsIn K mainGlobals "set" = some none)
    (hlaw : ∀ ns : List Int, ns.length ≤ 63 → ∃ os, sem (mkTab fds) 12 20 [.rls (ns.map .int)] = some (.bl true, os)) :
    ∃ fd : FuncData, (∀ (s : Shared) (v : Value), BindsTo s fd ⟨[v], []⟩ [("script", v)]) ∧ ∀ base : Heap, K.In base → base.Ns mainGlobals mg → FnOk l.prog w K mg base CX0 12 fa fd ["script"] (VS.spLaw K) := by
  have e := hfa.symm.trans (PySem.W.mg_of X GG a20)
  cases e
  have m0 := made_mk (st := top 6) (ps := ["value"]) (PySem.W.mg_of X GG a0) l0 c0 k0 fun _ _ _ _ _ _ us hl => match us, hl with | [_], _ => rfl
  have m1 := made_mk (st := top 7) (ps := ["value"]) (PySem.W.mg_of X GG a1) l1 c1 k1 fun _ _ _ _ _ _ us hl => match us, hl with | [_], _ => rfl
  have m2 := made_mk (st := top 8) (ps := ["value", "many"]) (PySem.W.mg_of X GG a2) l2 c2 k2 fun _ _ _ _ _ _ us hl => match us, hl with | [_, _], _ => rfl
  have m3 := made_mk (st := top 9) (ps := ["value", "least"]) (PySem.W.mg_of X GG a3) l3 c3 k3 fun _ _ _ _ _ _ us hl => match us, hl with | [_, _], _ => rfl
  have m4 := made_mk (st := top 10) (ps := ["k", "word"]) (PySem.W.mg_of X GG a4) l4 c4 k4 fun _ _ _ _ _ _ us hl => match us, hl with | [_, _], _ => rfl
  have m5 := made_mk (st := top 11) (ps := ["k", "again"]) (PySem.W.mg_of X GG a5) l5 c5 k5 fun _ _ _ _ _ _ us hl => match us, hl with | [_, _], _ => rfl
  have m6 := made_mk (st := top 13) (ps := ["again"]) (PySem.W.mg_of X GG a6) l6 c6 k6 fun _ _ _ _ _ _ us hl => match us, hl with | [_], _ => rfl
  have m7 := made_mk (st := top 14) (ps := ["word", "again"]) (PySem.W.mg_of X GG a7) l7 c7 k7 fun _ _ _ _ _ _ us hl => match us, hl with | [_, _], _ => rfl
  have m8 := made_mk (st := top 15) (ps := ["word", "again"]) (PySem.W.mg_of X GG a8) l8 c8 k8 fun _ _ _ _ _ _ us hl => match us, hl with | [_, _], _ => rfl
  have m9 := made_mk (st := top 17) (ps := ["value"]) (PySem.W.mg_of X GG a9) l9 c9 k9 fun _ _ _ _ _ _ us hl => match us, hl with | [_], _ => rfl
  have m10 := made_mk (st := top 18) (ps := ["first", "again"]) (PySem.W.mg_of X GG a10) l10 c10 k10 fun _ _ _ _ _ _ us hl => match us, hl with | [_, _], _ => rfl
  have m11 := made_mk (st := top 19) (ps := ["m", "n"]) (PySem.W.mg_of X GG a11) l11 c11 k11 fun _ _ _ _ _ _ us hl => match us, hl with | [_, _], _ => rfl
  have m12 := made_mk (st := top 20) (ps := ["value"]) (PySem.W.mg_of X GG a12) l12 c12 k12 fun _ _ _ _ _ _ us hl => match us, hl with | [_], _ => rfl
  have m13 := made_mk (st := top 21) (ps := ["m", "n"]) (PySem.W.mg_of X GG a13) l13 c13 k13 fun _ _ _ _ _ _ us hl => match us, hl with | [_, _], _ => rfl
  have m14 := made_mk (st := top 23) (ps := ["script"]) (PySem.W.mg_of X GG a14) l14 c14 k14 fun _ _ _ _ _ _ us hl => match us, hl with | [_], _ => rfl
  have m15 := made_mk (st := top 24) (ps := ["purse", "many"]) (PySem.W.mg_of X GG a15) l15 c15 k15 fun _ _ _ _ _ _ us hl => match us, hl with | [_, _], _ => rfl
  have m16 := made_mk (st := top 25) (ps := ["told", "due"]) (PySem.W.mg_of X GG a16) l16 c16 k16 fun _ _ _ _ _ _ us hl => match us, hl with | [_, _], _ => rfl
  have m17 := made_mk (st := top 26) (ps := ["m", "n", "many"]) (PySem.W.mg_of X GG a17) l17 c17 k17 fun _ _ _ _ _ _ us hl => match us, hl with | [_, _, _], _ => rfl
  have m18 := made_mk (st := top 27) (ps := ["first", "again"]) (PySem.W.mg_of X GG a18) l18 c18 k18 fun _ _ _ _ _ _ us hl => match us, hl with | [_, _], _ => rfl
  have m19 := made_mk (st := top 28) (ps := ["told", "m", "n"]) (PySem.W.mg_of X GG a19) l19 c19 k19 fun _ _ _ _ _ _ us hl => match us, hl with | [_, _, _], _ => rfl
  have m20 := made_mk (st := top 29) (ps := ["script"]) (PySem.W.mg_of X GG a20) l20 c20 k20 fun _ _ _ _ _ _ us hl => match us, hl with | [_], _ => rfl
  have hm : MadeAll K mg rows := ⟨⟨_, _, m0⟩, ⟨_, _, m1⟩, ⟨_, _, m2⟩, ⟨_, _, m3⟩, ⟨_, _, m4⟩, ⟨_, _, m5⟩, ⟨_, _, m6⟩, ⟨_, _, m7⟩, ⟨_, _, m8⟩, ⟨_, _, m9⟩, ⟨_, _, m10⟩, ⟨_, _, m11⟩, ⟨_, _, m12⟩, ⟨_, _, m13⟩, ⟨_, _, m14⟩, ⟨_, _, m15⟩, ⟨_, _, m16⟩, ⟨_, _, m17⟩, ⟨_, _, m18⟩, ⟨_, _, m19⟩, ⟨_, _, m20⟩, trivial⟩
  have hb : BltAll mg bnames := ⟨PySem.W.mg_none_of X GG z0, PySem.W.mg_none_of X GG z1, PySem.W.mg_none_of X GG z2, PySem.W.mg_none_of X GG z3, PySem.W.mg_none_of X GG z4, PySem.W.mg_none_of X GG z5, PySem.W.mg_none_of X GG z6, PySem.W.mg_none_of X GG z7, PySem.W.mg_none_of X GG z8, PySem.W.mg_none_of X GG z9, PySem.W.mg_none_of X GG z10, PySem.W.mg_none_of X GG z11, PySem.W.mg_none_of X GG z12, PySem.W.mg_none_of X GG z13, PySem.W.mg_none_of X GG z14, PySem.W.mg_none_of X GG z15, PySem.W.mg_none_of X GG z16, PySem.W.mg_none_of X GG z17, PySem.W.mg_none_of X GG z18, trivial⟩
  have hg : GlAll K mg G := ⟨gl_int (PySem.W.mg_of X GG glo0), trivial⟩
  exact ⟨_, fun s v => .of_eq rfl, fun base _ _ => law_ok (tab_ok all_ok hb hg hm 12 20 _ rfl _ _ m20) hlaw⟩
end K64
open PySem PySem.W PyProof.Rows
set_option maxRecDepth 100000 in
set_option maxHeartbeats 0 in
theorem PySem.Challenge.cw_wholenuclei_k64_whole_kneadings_of_fract_holds : PySem.Challenge.rw_wholenuclei_k64_whole_kneadings_of_fract.Holds := by
  w_on; o_law; k_head; (case hw => w_witness2)
  k_fill
  refine VS.walk (k := 12) (l := PySem.Challenge.rw_wholenuclei_k64_whole_kneadings_of_fract) rfl rfl ⟨rfl, by decide, by decide⟩ (fun w h Y => PySem.W.kIn_of Y) ?F
  case F =>
    intro w mg fa h KX G hmg
    refine' K64.all_mk KX G hmg ?a0 ?l0 ?c0 ?k0 ?a1 ?l1 ?c1 ?k1 ?a2 ?l2 ?c2 ?k2 ?a3 ?l3 ?c3 ?k3 ?a4 ?l4 ?c4 ?k4 ?a5 ?l5 ?c5 ?k5 ?a6 ?l6 ?c6 ?k6 ?a7 ?l7 ?c7 ?k7 ?a8 ?l8 ?c8 ?k8 ?a9 ?l9 ?c9 ?k9 ?a10 ?l10 ?c10 ?k10 ?a11 ?l11 ?c11 ?k11 ?a12 ?l12 ?c12 ?k12 ?a13 ?l13 ?c13 ?k13 ?a14 ?l14 ?c14 ?k14 ?a15 ?l15 ?c15 ?k15 ?a16 ?l16 ?c16 ?k16 ?a17 ?l17 ?c17 ?k17 ?a18 ?l18 ?c18 ?k18 ?a19 ?l19 ?c19 ?k19 ?a20 ?l20 ?c20 ?k20 ?glo0 ?z0 ?z1 ?z2 ?z3 ?z4 ?z5 ?z6 ?z7 ?z8 ?z9 ?z10 ?z11 ?z12 ?z13 ?z14 ?z15 ?z16 ?z17 ?z18 K64.law_true
    (case a0 => k_is); (case l0 => k_is); (case c0 => k_is); (case k0 => k_is); (case a1 => k_is); (case l1 => k_is); (case c1 => k_is); (case k1 => k_is); (case a2 => k_is); (case l2 => k_is); (case c2 => k_is); (case k2 => k_is); (case a3 => k_is); (case l3 => k_is); (case c3 => k_is); (case k3 => k_is); (case a4 => k_is); (case l4 => k_is); (case c4 => k_is); (case k4 => k_is); (case a5 => k_is); (case l5 => k_is); (case c5 => k_is); (case k5 => k_is); (case a6 => k_is); (case l6 => k_is); (case c6 => k_is); (case k6 => k_is); (case a7 => k_is); (case l7 => k_is); (case c7 => k_is); (case k7 => k_is); (case a8 => k_is); (case l8 => k_is); (case c8 => k_is); (case k8 => k_is); (case a9 => k_is); (case l9 => k_is); (case c9 => k_is); (case k9 => k_is); (case a10 => k_is); (case l10 => k_is); (case c10 => k_is); (case k10 => k_is); (case a11 => k_is); (case l11 => k_is); (case c11 => k_is); (case k11 => k_is); (case a12 => k_is); (case l12 => k_is); (case c12 => k_is); (case k12 => k_is); (case a13 => k_is); (case l13 => k_is); (case c13 => k_is); (case k13 => k_is); (case a14 => k_is); (case l14 => k_is); (case c14 => k_is); (case k14 => k_is); (case a15 => k_is); (case l15 => k_is); (case c15 => k_is); (case k15 => k_is); (case a16 => k_is); (case l16 => k_is); (case c16 => k_is); (case k16 => k_is); (case a17 => k_is); (case l17 => k_is); (case c17 => k_is); (case k17 => k_is); (case a18 => k_is); (case l18 => k_is); (case c18 => k_is); (case k18 => k_is); (case a19 => k_is); (case l19 => k_is); (case c19 => k_is); (case k19 => k_is); (case a20 => k_is); (case l20 => k_is); (case c20 => k_is); (case k20 => k_is); (case glo0 => k_is); (case z0 => k_is); (case z1 => k_is); (case z2 => k_is); (case z3 => k_is); (case z4 => k_is); (case z5 => k_is); (case z6 => k_is); (case z7 => k_is); (case z8 => k_is); (case z9 => k_is); (case z10 => k_is); (case z11 => k_is); (case z12 => k_is); (case z13 => k_is); (case z14 => k_is); (case z15 => k_is); (case z16 => k_is); (case z17 => k_is); (case z18 => k_is)
