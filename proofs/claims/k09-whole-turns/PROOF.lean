import PyProof.Rows.All
import HandS.ForMost
import HandS.ForExc
import HandS.Walk
import HandS.Style
import HandS.Wide
import HandS.Conv
import HandS.IsInst
import HandS.RevRange
import HandS.Rev
import HandS.Zip
import KE.SortData
import HandS.RevTup
import PyProof.Rows.StrCountLaw
import HandS.ExcIs
import HandS.Replace
import HandS.More
import PyProof.StrLawsFirst
import HandS.EndBits
import PySem.Challenge.RW_bracketnumbers_k09_whole_turns
/-! BkPure -/
section
/-! BkPure: values without a heap, answers, states of a def, and what expressions and statements give; core Lean alone -/
set_option linter.all false
set_option maxRecDepth 100000
namespace Bk
/-- the refusals -/
inductive Cls where
  | noPlace | noRow
  deriving DecidableEq
/-- data -/
inductive D where
  | none | bool (b : Bool) | int (i : Int) | str (s : List Nat) | tup (xs : List D) | lst (xs : List D) | dic (kvs : List (D × D))
inductive Res (α : Type) where
  | ok (a : α) | raise (c : Cls) | bad
def Res.bind {α β : Type} (m : Res α) (k : α → Res β) : Res β := match m with
  | .ok a => k a
  | .raise c => .raise c
  | .bad => .bad
@[simp] theorem bind_ok {α β : Type} (a : α) (k : α → Res β) : (Res.ok a).bind k = k a := id rfl
@[simp] theorem bind_raise {α β : Type} (c : Cls) (k : α → Res β) : (Res.raise c).bind k = .raise c := id rfl
@[simp] theorem bind_bad {α β : Type} (k : α → Res β) : (Res.bad : Res α).bind k = .bad := id rfl
/-- no refusal may come here -/
def Res.calm {α : Type} : Res α → Res α
  | .ok a => .ok a
  | _ => .bad
@[simp] theorem calm_ok {α : Type} (a : α) : (Res.ok a).calm = .ok a := id rfl
def Res.Sat {α : Type} (m : Res α) (P : α → Prop) (R : Cls → Prop) : Prop := match m with
  | .ok a => P a
  | .raise c => R c
  | .bad => False
theorem Sat.mono {α : Type} {m : Res α} {P P' : α → Prop} {R R' : Cls → Prop} (h : m.Sat P R) (hp : ∀ a, P a → P' a) (hr : ∀ c, R c → R' c) : m.Sat P' R' := by
  cases m with
  | ok a => exact hp a h
  | raise c => exact hr c h
  | bad => exact h
theorem sat_bind {α β : Type} {m : Res α} {k : α → Res β} {P : β → Prop} {R : Cls → Prop} (h : (m.bind k).Sat P R) : m.Sat (fun a => (k a).Sat P R) R := by
  cases m with
  | ok a => exact h
  | raise c => exact h
  | bad => exact h
theorem sat_calm {α : Type} {m : Res α} {P : α → Prop} {R R' : Cls → Prop} (h : m.calm.Sat P R) : m.Sat P R' := by
  cases m with
  | ok a => exact h
  | raise c => exact h.elim
  | bad => exact h

/-- what a slot holds: data; a list, a dict of the def's own that still grows -/
inductive S where
  | dat (d : D) | own (ds : List D) | dic (kvs : List (D × D))
abbrev Env := List (Option S)
abbrev E := Env → Res D
abbrev T := Env → Res Bool
abbrev I := Env → Res (List D)
abbrev G := D → Env → Res Env

/-- the most that a list, a text may hold -/
abbrev lim : Nat := 16777216

/-! ### places -/
def ix (n : Nat) (i : Int) : Option Nat := if 0 ≤ i then (if i < n then some i.toNat else Option.none) else if -(n : Int) ≤ i then some (i + n).toNat else Option.none
def at? {α : Type} (xs : List α) (i : Int) : Option α := (ix xs.length i).bind fun j => xs[j]?
def sl (n d : Nat) : Option Int → Nat
  | Option.none => d
  | some v => if v < 0 then (v + (n : Int)).toNat else min v.toNat n
def cut {α : Type} (xs : List α) (lo hi : Option Int) : List α := (xs.drop (sl xs.length 0 lo)).take (sl xs.length xs.length hi - sl xs.length 0 lo)

/-! ### equality -/
mutual
def D.eqv : D → D → Bool
  | .none, .none => true
  | .bool a, .bool b => a == b
  | .bool a, .int j => (if a then 1 else 0) == j
  | .int i, .bool b => i == (if b then 1 else 0)
  | .int i, .int j => i == j
  | .str x, .str y => x == y
  | .lst xs, .lst ys => D.eqvAll xs ys
  | .tup xs, .tup ys => D.eqvAll xs ys
  | _, _ => false
def D.eqvAll : List D → List D → Bool
  | [], [] => true
  | x :: xs, y :: ys => D.eqv x y && D.eqvAll xs ys
  | _, _ => false
end
/-- a text that may be compared: signs from the blank to ~ -/
def plainS (s : List Nat) : Bool := s.all fun c => decide (c < 128)
mutual
/-- may be compared to a depth -/
def D.cmp : Nat → D → Bool
  | _, .none => true
  | _, .bool _ => true
  | _, .int _ => true
  | _, .str s => plainS s && decide (s.length ≤ lim)
  | 0, .tup _ => false
  | 0, .lst _ => false
  | n + 1, .tup xs => D.cmpAll n xs
  | n + 1, .lst xs => D.cmpAll n xs
  | _, .dic _ => false
def D.cmpAll : Nat → List D → Bool
  | _, [] => true
  | n, x :: xs => D.cmp n x && D.cmpAll n xs
end
def dEq (a b : D) : Res D := if D.cmp 64 a && D.cmp 64 b then .ok (.bool (D.eqv a b)) else .bad
def dNe (a b : D) : Res D := if D.cmp 64 a && D.cmp 64 b then .ok (.bool (!D.eqv a b)) else .bad

/-! ### operators -/
def dAdd : D → D → Res D
  | .int a, .int b => .ok (.int (a + b))
  | .str a, .str b => if a.length + b.length ≤ lim then .ok (.str (a ++ b)) else .bad
  | .lst a, .lst b => if a.length + b.length ≤ lim then .ok (.lst (a ++ b)) else .bad
  | .tup a, .tup b => if a.length + b.length ≤ lim ∧ a ≠ [] then .ok (.tup (a ++ b)) else .bad
  | _, _ => .bad
def dSub : D → D → Res D
  | .int a, .int b => .ok (.int (a - b))
  | _, _ => .bad
/-- two whole numbers, of less than so many bits -/
def small (n : Int) : Prop := -(2 ^ 64) < n ∧ n < 2 ^ 64
instance (n : Int) : Decidable (small n) := inferInstanceAs (Decidable (_ ∧ _))
def dMul : D → D → Res D
  | .int a, .int b => if small a ∨ small b ∨ a.natAbs.log2 + b.natAbs.log2 < 100000000 then .ok (.int (a * b)) else .bad
  | .str a, .int b => if 0 ≤ b ∧ b ≤ lim ∧ a.length * b.toNat ≤ lim then .ok (.str (List.replicate b.toNat a).flatten) else .bad
  | _, _ => .bad
def dPow : D → D → Res D
  | .int a, .int b => if 0 ≤ b ∧ b ≤ 1000000 ∧ a.natAbs < 2 ^ 64 then .ok (.int (a ^ b.toNat)) else .bad
  | _, _ => .bad
def dDiv : D → D → Res D
  | .int a, .int b => if 0 < b ∧ b < 1073741824 then .ok (.int (a / b)) else .bad
  | _, _ => .bad
def dMod : D → D → Res D
  | .int a, .int b => if 0 < b then .ok (.int (a % b)) else .bad
  | _, _ => .bad
def dNeg : D → Res D
  | .int a => .ok (.int (-a))
  | _ => .bad
def dLt : D → D → Res D
  | .int a, .int b => .ok (.bool (decide (a < b)))
  | .str a, .str b => .ok (.bool (decide (a < b)))
  | _, _ => .bad
def dLe : D → D → Res D
  | .int a, .int b => .ok (.bool (decide (a ≤ b)))
  | _, _ => .bad
def dGt : D → D → Res D
  | .int a, .int b => .ok (.bool (decide (b < a)))
  | _, _ => .bad
def dGe : D → D → Res D
  | .int a, .int b => .ok (.bool (decide (b ≤ a)))
  | _, _ => .bad
/-- x is None, is not None -/
def dIsN : D → D → Res D
  | .none, .none => .ok (.bool true)
  | _, .none => .ok (.bool false)
  | _, _ => .bad
def dNotN : D → D → Res D
  | .none, .none => .ok (.bool false)
  | _, .none => .ok (.bool true)
  | _, _ => .bad
/-- x is True, False; its not -/
def dIsB : D → D → Res D
  | .bool a, .bool b => .ok (.bool (a == b))
  | _, _ => .bad
def dNotB : D → D → Res D
  | .bool a, .bool b => .ok (.bool (!(a == b)))
  | _, _ => .bad
/-- one sign in a text -/
def dInS : D → D → Res D
  | .str [c], .str s => .ok (.bool (decide (c ∈ s)))
  | _, _ => .bad
def dIdx : D → D → Res D
  | .lst xs, .int i => match at? xs i with
    | some d => .ok d
    | Option.none => .bad
  | .tup xs, .int i => match at? xs i with
    | some d => .ok d
    | Option.none => .bad
  | .str s, .int i => if s.length ≤ lim then (match at? s i with
    | some c => .ok (.str [c])
    | Option.none => .bad) else .bad
  | _, _ => .bad
def dTruth : D → Res Bool
  | .none => .ok false
  | .bool b => .ok b
  | .int i => .ok (i != 0)
  | .str s => if s.length ≤ lim then .ok (!s.isEmpty) else .bad
  | .lst xs => .ok (!xs.isEmpty)
  | .tup xs => .ok (!xs.isEmpty)
  | .dic _ => .bad
def asBool : D → Res Bool
  | .bool b => .ok b
  | _ => .bad

/-! ### built-ins of one thing -/
def numsL : List D → Option (List Int)
  | [] => some []
  | .int i :: r => (numsL r).map (i :: ·)
  | _ => Option.none
def strsL : List D → Option (List (List Nat))
  | [] => some []
  | .str i :: r => (strsL r).map (i :: ·)
  | _ => Option.none
def boolsL : List D → Option (List Bool)
  | [] => some []
  | .bool i :: r => (boolsL r).map (i :: ·)
  | _ => Option.none
def bLen : D → Res D
  | .str s => if s.length ≤ lim then .ok (.int s.length) else .bad
  | .lst xs => .ok (.int xs.length)
  | .tup xs => .ok (.int xs.length)
  | _ => .bad
def bInt : D → Res D
  | .bool b => .ok (.int (if b then 1 else 0))
  | .int i => .ok (.int i)
  | _ => .bad
def least : Int → List Int → Int
  | m, [] => m
  | m, x :: r => least (if x < m then x else m) r
def most : Int → List Int → Int
  | m, [] => m
  | m, x :: r => most (if m < x then x else m) r
def bMin : D → Res D
  | .lst xs => match numsL xs with
    | some (x :: r) => .ok (.int (least x r))
    | _ => .bad
  | _ => .bad
def bMax : D → Res D
  | .lst xs => match numsL xs with
    | some (x :: r) => .ok (.int (most x r))
    | _ => .bad
  | _ => .bad
def bSum : D → Res D
  | .lst xs => match numsL xs with
    | some ns => .ok (.int ns.sum)
    | _ => .bad
  | _ => .bad
def bAll : D → Res D
  | .lst xs => match boolsL xs with
    | some bs => .ok (.bool (bs.all id))
    | _ => .bad
  | _ => .bad
def bList : D → Res D
  | .lst xs => .ok (.lst xs)
  | .tup xs => .ok (.lst xs)
  | _ => .bad
def bTuple : D → Res D
  | .lst xs => .ok (.tup xs)
  | .tup xs => .ok (.tup xs)
  | _ => .bad
def bRev : D → Res D
  | .lst xs => .ok (.lst xs.reverse)
  | _ => .bad
/-! the order that sorting goes by -/
mutual
def D.alike : D → D → Bool
  | .none, .none => true
  | .bool _, .bool _ => true
  | .int _, .int _ => true
  | .str _, .str _ => true
  | .lst xs, .lst ys => D.alikeAll xs ys
  | .tup xs, .tup ys => D.alikeAll xs ys
  | _, _ => false
def D.alikeAll : List D → List D → Bool
  | x :: xs, y :: ys => D.alike x y && D.alikeAll xs ys
  | [], _ => true
  | _ :: _, [] => true
end
mutual
def D.lt : D → D → Bool
  | .bool a, .bool b => !a && b
  | .int a, .int b => decide (a < b)
  | .str a, .str b => decide (a < b)
  | .lst a, .lst b => D.ltAll a b
  | .tup a, .tup b => D.ltAll a b
  | _, _ => false
def D.ltAll : List D → List D → Bool
  | [], [] => false
  | [], _ :: _ => true
  | _ :: _, [] => false
  | x :: xs, y :: ys => if D.eqv x y then D.ltAll xs ys else D.lt x y
end
def D.le (a b : D) : Bool := !(D.lt b a)
/-- all tuples with an item, or none a tuple, None -/
def D.row1 : D → Bool
  | .tup (_ :: _) => true
  | _ => false
def D.row0 : D → Bool
  | .tup _ => false
  | .none => false
  | _ => true
def sortable (xs : List D) : Bool := (xs.all fun a => xs.all fun b => D.alike a b) && (xs.all D.row1 || xs.all D.row0) && xs.all (D.cmp 8) && decide (xs.length ≤ lim)
def bSorted : D → Res D
  | .lst xs => if sortable xs then .ok (.lst (xs.mergeSort D.le)) else .bad
  | .tup xs => if sortable xs then .ok (.lst (xs.mergeSort D.le)) else .bad
  | _ => .bad
def dMin2 : D → D → Res D
  | .int a, .int b => .ok (.int (if b < a then b else a))
  | _, _ => .bad
/-- the text's kinds that isinstance is asked of -/
inductive Ty where
  | str | int | bool | tuple
  deriving DecidableEq
def isTy : Ty → D → Bool
  | .str, .str _ => true
  | .int, .int _ => true
  | .int, .bool _ => true
  | .bool, .bool _ => true
  | .tuple, .tup _ => true
  | _, _ => false
def bIs (t : Ty) (d : D) : Res D := match d with
  | .dic _ => .bad
  | d => .ok (.bool (isTy t d))
/-- sep.join(list) -/
def joinS (sep : List Nat) : List (List Nat) → List Nat
  | [] => []
  | [x] => x
  | x :: y :: r => x ++ sep ++ joinS sep (y :: r)
def lenSum : List (List Nat) → Nat
  | [] => 0
  | x :: r => x.length + lenSum r
def dJoin : D → D → Res D
  | .str sep, .lst xs => match strsL xs with
    | some ss => if lenSum ss + ss.length * sep.length ≤ lim then .ok (.str (joinS sep ss)) else .bad
    | _ => .bad
  | _, _ => .bad
/-- s.count(one sign) -/
def dCount : D → D → Res D
  | .str s, .str [c] => if s.length ≤ lim then .ok (.int (s.count c : Nat)) else .bad
  | _, _ => .bad

/-! ### expressions -/
def eVar (i : Nat) : E := fun η => match η[i]? with
  | some (some (.dat d)) => .ok d
  | _ => .bad
def eC (d : D) : E := fun _ => .ok d
def eUn (u : D → Res D) (f : E) : E := fun η => (f η).bind fun x => (u x).calm
def eBin (b : D → D → Res D) (f g : E) : E := fun η => (f η).bind fun x => (g η).bind fun y => (b x y).calm
def eAnd (f g : E) : E := fun η => (f η).bind fun x => match x with
  | .bool true => g η
  | .bool false => .ok (.bool false)
  | _ => .bad
def eOr (f g : E) : E := fun η => (f η).bind fun x => match x with
  | .bool true => .ok (.bool true)
  | .bool false => g η
  | _ => .bad
def eNot (f : E) : E := fun η => (f η).bind fun x => match x with
  | .bool b => .ok (.bool (!b))
  | _ => .bad
/-- a < b < c -/
def eChain (r r' : D → D → Res D) (f g h : E) : E := fun η => (f η).bind fun x => (g η).bind fun y => (r x y).calm.bind fun z => match z with
  | .bool true => (h η).bind fun w => (r' y w).calm
  | .bool false => .ok (.bool false)
  | _ => .bad
def evals : List E → Env → Res (List D)
  | [], _ => .ok []
  | f :: r, η => (f η).bind fun x => (evals r η).bind fun xs => .ok (x :: xs)
def eTup (fs : List E) : E := fun η => (evals fs η).bind fun ds => .ok (.tup ds)
def eLst (fs : List E) : E := fun η => (evals fs η).bind fun ds => .ok (.lst ds)
def eCall (φ : List D → Res D) (fs : List E) : E := fun η => (evals fs η).bind φ
/-- a part of a slice -/
def ePart : Option E → Env → Res (Option Int)
  | Option.none, _ => .ok Option.none
  | some f, η => (f η).bind fun x => match x with
    | .int i => .ok (some i)
    | _ => .bad
def dCut (d : D) (lo hi : Option Int) : Res D := match d with
  | .str s => if s.length ≤ lim then .ok (.str (cut s lo hi)) else .bad
  | .lst xs => .ok (.lst (cut xs lo hi))
  | .tup xs => if ¬ (sl xs.length 0 lo = 0 ∧ sl xs.length xs.length hi = xs.length) then .ok (.tup (cut xs lo hi)) else .bad
  | _ => .bad
def eSlice (f : E) (lo hi : Option E) : E := fun η => (f η).bind fun x => (ePart lo η).bind fun a => (ePart hi η).bind fun b => (dCut x a b).calm
/-- a built-in of the def's own list in slot i -/
def eOwn (u : D → Res D) (i : Nat) : E := fun η => match η[i]? with
  | some (some (.own ds)) => (u (.lst ds)).calm
  | _ => .bad
def eOwnB (b : D → D → Res D) (i : Nat) (g : E) : E := fun η => match η[i]? with
  | some (some (.own ds)) => (g η).bind fun y => (b (.lst ds) y).calm
  | _ => .bad

/-! ### tests -/
def tE (f : E) : T := fun η => (f η).bind asBool
def tV (f : E) : T := fun η => (f η).bind dTruth
def tAnd (t u : T) : T := fun η => (t η).bind fun b => if b then u η else .ok false
def tOr (t u : T) : T := fun η => (t η).bind fun b => if b then .ok true else u η
def tNot (t : T) : T := fun η => (t η).bind fun b => .ok (!b)
def tYes : T := fun _ => .ok true
def tOwn (i : Nat) : T := fun η => match η[i]? with
  | some (some (.own ds)) => .ok (!ds.isEmpty)
  | _ => .bad
def eIf (t : T) (f g : E) : E := fun η => (t η).bind fun b => if b then f η else g η

/-! ### what is walked -/
def signs (s : List Nat) : List D := s.map fun c => .str [c]
def items : D → Res (List D)
  | .lst xs => .ok xs
  | .tup xs => .ok xs
  | .str s => .ok (signs s)
  | _ => .bad
def iAny (f : E) : I := fun η => (f η).bind items
def numbers (lo : Int) (n : Nat) : List D := (List.range n).map fun k : Nat => D.int (lo + (k : Int))
def rngOk (i : Int) : Bool := decide (-(2 ^ 62) ≤ i) && decide (i < 2 ^ 62)
def rng1 : D → Res (List D)
  | .int n => if rngOk n then .ok (numbers 0 n.toNat) else .bad
  | _ => .bad
def rng2 : D → D → Res (List D)
  | .int a, .int b => if rngOk a && rngOk b then .ok (numbers a (b - a).toNat) else .bad
  | _, _ => .bad
def iRange1 (f : E) : I := fun η => (f η).bind rng1
def iRange2 (f g : E) : I := fun η => (f η).bind fun a => (g η).bind fun b => rng2 a b
def iRevRange1 (f : E) : I := fun η => (f η).bind fun a => (rng1 a).bind fun xs => .ok xs.reverse
def enumL (k : Nat) : List D → List D
  | [] => []
  | d :: r => .tup [.int k, d] :: enumL (k + 1) r
def iEnum (f : E) : I := fun η => (f η).bind fun x => match x with
  | .lst xs => .ok (enumL 0 xs)
  | .str s => .ok (enumL 0 (signs s))
  | _ => .bad
def iRev (f : E) : I := fun η => (f η).bind fun x => match x with
  | .lst xs => .ok xs.reverse
  | .tup xs => .ok xs.reverse
  | .str s => .ok (signs s.reverse)
  | _ => .bad
/-- reversed(text) -/
def iRevS (f : E) : I := fun η => (f η).bind fun x => match x with
  | .str s => if s.length ≤ lim then .ok (signs s.reverse) else .bad
  | _ => .bad
def zipL : List D → List D → List D
  | x :: xs, y :: ys => .tup [x, y] :: zipL xs ys
  | _, _ => []
def iZip (f g : E) : I := fun η => (f η).bind fun x => (g η).bind fun y => match x, y with
  | .lst xs, .lst ys => .ok (zipL xs ys)
  | _, _ => .bad

/-! ### targets -/
def gName (i : Nat) : G := fun d η => .ok (η.set i (some (.dat d)))
def gPair (i j : Nat) : G := fun d η => match d with
  | .tup [x, y] => .ok ((η.set i (some (.dat x))).set j (some (.dat y)))
  | _ => .bad
def gTri (i j k : Nat) : G := fun d η => match d with
  | .tup [x, y, z] => .ok (((η.set i (some (.dat x))).set j (some (.dat y))).set k (some (.dat z)))
  | _ => .bad
/-- from a list of two -/
def gPairL (i j : Nat) : G := fun d η => match d with
  | .lst [x, y] => .ok ((η.set i (some (.dat x))).set j (some (.dat y)))
  | _ => .bad

/-! ### comprehensions -/
def wipes (η : Env) : List Nat → Env
  | [] => η
  | v :: vs => (wipes η vs).set v Option.none
def comp (g : G) (t : T) (e : E) (η : Env) : List D → Res (List D)
  | [] => .ok []
  | d :: ds => (g d η).calm.bind fun η1 => (t η1).bind fun b => if b then (e η1).bind fun y => (comp g t e η ds).bind fun ys => .ok (y :: ys) else comp g t e η ds
def eComp (own : List Nat) (fi : I) (g : G) (t : T) (e : E) : E := fun η => (fi η).bind fun ds => if ds.length ≤ lim then ((comp g t e (wipes η own) ds).bind fun ys => .ok (.lst ys)).calm else .bad

/-! ### statements -/
inductive Out where
  | next (η : Env) | brk (η : Env) | ct (η : Env) | ret (d : D) | raise (c : Cls) | bad
abbrev St := Env → Out
def Out.andThen (o : Out) (k : St) : Out := match o with
  | .next η => k η
  | .brk η => .brk η
  | .ct η => .ct η
  | .ret d => .ret d
  | .raise c => .raise c
  | .bad => .bad
@[simp] theorem andThen_next (η : Env) (k : St) : (Out.next η).andThen k = k η := id rfl
@[simp] theorem andThen_ret (d : D) (k : St) : (Out.ret d).andThen k = .ret d := id rfl
@[simp] theorem andThen_brk (η : Env) (k : St) : (Out.brk η).andThen k = .brk η := id rfl
@[simp] theorem andThen_ct (η : Env) (k : St) : (Out.ct η).andThen k = .ct η := id rfl
@[simp] theorem andThen_raise (c : Cls) (k : St) : (Out.raise c).andThen k = .raise c := id rfl
@[simp] theorem andThen_bad (k : St) : Out.bad.andThen k = .bad := id rfl
def outOf {α : Type} (m : Res α) (k : α → Out) : Out := match m with
  | .ok a => k a
  | .raise c => .raise c
  | .bad => .bad
@[simp] theorem outOf_ok {α : Type} (a : α) (k : α → Out) : outOf (.ok a) k = k a := id rfl
@[simp] theorem outOf_raise {α : Type} (c : Cls) (k : α → Out) : outOf (.raise c) k = .raise c := id rfl
@[simp] theorem outOf_bad {α : Type} (k : α → Out) : outOf (.bad : Res α) k = .bad := id rfl
def sSkip : St := fun η => .next η
def sSeq (a b : St) : St := fun η => (a η).andThen b
def sAsg (f : E) (g : G) : St := fun η => outOf (f η) fun d => outOf (g d η).calm fun η' => .next η'
def sSet (i : Nat) (f : E) : St := sAsg f (gName i)
def sDrop (f : E) : St := fun η => outOf (f η) fun _ => .next η
def sRet (f : E) : St := fun η => outOf (f η) fun d => .ret d
def sIf (t : T) (a b : St) : St := fun η => outOf (t η) fun c => if c then a η else b η
def sRaise (c : Cls) : St := fun _ => .raise c
def sBrk : St := fun η => .brk η
def sCont : St := fun η => .ct η
def loop (g : G) (b : St) : List D → St
  | [], η => .next η
  | d :: ds, η => outOf (g d η).calm fun η1 => match b η1 with
    | .next η' => loop g b ds η'
    | .ct η' => loop g b ds η'
    | .brk η' => .next η'
    | o => o
def sFor (fi : I) (g : G) (b : St) : St := fun η => outOf (fi η) fun ds => loop g b ds η
def whil (t : T) (b : St) : Nat → St
  | 0, _ => .bad
  | n + 1, η => outOf (t η) fun c => if c then (match b η with
    | .next η' => whil t b n η'
    | .ct η' => whil t b n η'
    | .brk η' => .next η'
    | o => o) else .next η
def sWhile (n : Nat) (t : T) (b : St) : St := fun η => whil t b n η
/-- x = [a, b, ..], a list that will grow -/
def sNew (i : Nat) (fs : List E) : St := fun η => outOf (evals fs η) fun ds => .next (η.set i (some (.own ds)))
def sNewD (i : Nat) : St := fun η => .next (η.set i (some (.dic [])))
/-- x.append(e) -/
def appTo (i : Nat) (d : D) : St := fun η => match η[i]? with
  | some (some (.own ds)) => if ds.length < lim then .next (η.set i (some (.own (ds ++ [d])))) else .bad
  | _ => .bad
def sApp (i : Nat) (f : E) : St := fun η => match η[i]? with
  | some (some (.own _)) => outOf (f η) fun d => appTo i d η
  | _ => .bad
/-- x.extend(e) -/
def seqOf : D → Res (List D)
  | .lst xs => .ok xs
  | .tup xs => .ok xs
  | _ => .bad
def extTo (i : Nat) (d : D) : St := fun η => match η[i]? with
  | some (some (.own ds)) => outOf (seqOf d) fun xs => if ds.length + xs.length ≤ lim then .next (η.set i (some (.own (ds ++ xs)))) else .bad
  | _ => .bad
def sExt (i : Nat) (f : E) : St := fun η => match η[i]? with
  | some (some (.own _)) => outOf (f η) fun d => extTo i d η
  | _ => .bad
/-- the own list's last -/
def popOf (j : Nat) (η : Env) : Res (D × Env) := match η[j]? with
  | some (some (.own ds)) => match ds[ds.length - 1]? with
    | some d => .ok (d, η.set j (some (.own ds.dropLast)))
    | Option.none => .bad
  | _ => .bad
/-- x.append(y.pop()) -/
def sAppPop (i j : Nat) : St := fun η => match η[i]? with
  | some (some (.own _)) => outOf (popOf j η).calm fun p => appTo i p.1 p.2
  | _ => .bad
/-- dicts -/
def keyD : D → Bool
  | .int _ => true
  | .str _ => true
  | _ => false
def sameKey : D → D → Bool
  | .int a, .int b => a == b
  | .str a, .str b => a == b
  | _, _ => false
def dget (kvs : List (D × D)) (k : D) : Option D := (kvs.find? fun kv => sameKey kv.1 k).map (·.2)
def dput (kvs : List (D × D)) (k v : D) : List (D × D) := if kvs.any (fun kv => sameKey kv.1 k) then kvs.map fun kv => if sameKey kv.1 k then (kv.1, v) else kv else kvs ++ [(k, v)]
def putTo (i : Nat) (k v : D) : St := fun η => match η[i]? with
  | some (some (.dic kvs)) => if kvs.length < lim ∧ keyD k then .next (η.set i (some (.dic (dput kvs k v)))) else .bad
  | _ => .bad
/-- x[k] = v -/
def sPut (i : Nat) (fk fv : E) : St := fun η => outOf (fv η) fun v => match η[i]? with
  | some (some (.dic _)) => outOf (fk η) fun k => putTo i k v η
  | _ => .bad
/-- x[k] = y.pop() -/
def sPutPop (i : Nat) (fk : E) (j : Nat) : St := fun η => outOf (popOf j η).calm fun p => match p.2[i]? with
  | some (some (.dic _)) => outOf (fk p.2) fun k => putTo i k p.1 p.2
  | _ => .bad
/-- x[k], x.get(k, d) of the def's own dict -/
def eDGet (i : Nat) (fk : E) : E := fun η => match η[i]? with
  | some (some (.dic kvs)) => (fk η).bind fun k => if keyD k then (match dget kvs k with
    | some v => .ok v
    | Option.none => .bad) else .bad
  | _ => .bad
def eDGet2 (i : Nat) (fk fd : E) : E := fun η => match η[i]? with
  | some (some (.dic kvs)) => (fk η).bind fun k => (fd η).bind fun d => if keyD k then .ok ((dget kvs k).getD d) else .bad
  | _ => .bad
/-- {'(': 1, ')': -1}.get(e, d) -/
def dSign (x z : D) : Res D := match x with
  | .str s => .ok (if s = [40] then .int 1 else if s = [41] then .int (-1) else z)
  | _ => .bad
def eSign (fk fd : E) : E := eBin dSign fk fd
/-- return of the def's own list -/
def sRetOwn (i : Nat) : St := fun η => match η[i]? with
  | some (some (.own ds)) => .ret (.lst ds)
  | _ => .bad
/-! two signs in a text; items of a list or tuple; own dicts and lists; a < b < c < d -/
def findTwo (a b : Nat) (s : List Nat) : Option Nat := (List.range s.length).find? fun i => s[i]? == some a && s[i + 1]? == some b
def dInT : D → D → Res D
  | .str [a, b], .str s => .ok (.bool (findTwo a b s).isSome)
  | _, _ => .bad
def dFind : D → D → Res D
  | .str s, .str [a, b] => match findTwo a b s with
    | some i => .ok (.int (i : Nat))
    | Option.none => .bad
  | _, _ => .bad
def flatD : D → Bool
  | .none => true
  | .bool _ => true
  | .int _ => true
  | .str _ => true
  | _ => false
def inL (x : D) (ys : List D) : Bool := ys.any fun y => D.eqv y x
def dInL (x : D) : D → Res D
  | .lst ys => if flatD x && ys.all flatD then .ok (.bool (inL x ys)) else .bad
  | .tup ys => if flatD x && ys.all flatD then .ok (.bool (inL x ys)) else .bad
  | _ => .bad
def dNInL (x : D) : D → Res D
  | .lst ys => if flatD x && ys.all flatD then .ok (.bool (!inL x ys)) else .bad
  | .tup ys => if flatD x && ys.all flatD then .ok (.bool (!inL x ys)) else .bad
  | _ => .bad
/-- x op the def's own list -/
def eBinO (b : D → D → Res D) (f : E) (i : Nat) : E := fun η => (f η).bind fun x => match η[i]? with
  | some (some (.own ds)) => (b x (.lst ds)).calm
  | _ => .bad
def eDLen (i : Nat) : E := fun η => match η[i]? with
  | some (some (.dic kvs)) => .ok (.int kvs.length)
  | _ => .bad
/-- sorted(own dict), the keys texts -/
def eDSorted (i : Nat) : E := fun η => match η[i]? with
  | some (some (.dic kvs)) => match strsL (kvs.map (·.1)) with
    | some ks => if ks.length < 64 then .ok (.lst ((ks.mergeSort fun a b => !decide (b < a)).map D.str)) else .bad
    | Option.none => .bad
  | _ => .bad
def eChain3 (r1 r2 r3 : D → D → Res D) (f g h k : E) : E := fun η => (f η).bind fun x => (g η).bind fun y => (r1 x y).calm.bind fun z => match z with
  | .bool true => (h η).bind fun w => (r2 y w).calm.bind fun z2 => match z2 with
    | .bool true => (k η).bind fun v => (r3 w v).calm
    | .bool false => .ok (.bool false)
    | _ => .bad
  | .bool false => .ok (.bool false)
  | _ => .bad
/-- list.count of a tuple of two numbers -/
def pairNum : D → Bool
  | .tup [.int _, .int _] => true
  | _ => false
def dCountL : D → D → Res D
  | .lst xs, y => if pairNum y && xs.all pairNum then .ok (.int (xs.countP fun x => D.eqv x y : Nat)) else .bad
  | _, _ => .bad
/-! a call that may be refused, in a try -/
def eCallT (φ : List D → Res D) (fs : List E) : E := fun η => (evals fs η).calm.bind φ
def sIfC (t : T) (a b : St) : St := fun η => outOf (t η).calm fun c => if c then a η else b η
def sTryAs (i : Nat) (b : St) (h : Cls → St) : St := fun η => match b η with
  | .next η' => .next η'
  | .raise c => if i < η.length then (match h c (η.set i Option.none) with
    | .next η' => .next (η'.set i Option.none)
    | _ => .bad) else .bad
  | _ => .bad
/-- [x.pop(e) for .. in ..], x the own list in slot i -/
def pops (i : Nat) (own : List Nat) (g : G) (fe : E) : List D → Env → Res (List D)
  | [], _ => .ok []
  | d :: ds, η => (g d (wipes η own)).calm.bind fun η1 => match η[i]? with
    | some (some (.own xs)) => (fe η1).calm.bind fun y => match y with
      | .int k => if 0 ≤ k ∧ k < xs.length ∧ k < 1000000 then (match xs[k.toNat]? with
        | some v => (pops i own g fe ds (η.set i (some (.own (xs.eraseIdx k.toNat))))).bind fun r => .ok (v :: r)
        | Option.none => .bad) else .bad
      | _ => .bad
    | _ => .bad
def sRetPops (i : Nat) (own : List Nat) (fi : I) (g : G) (fe : E) : St := fun η => outOf (fi η) fun ds => if ds.length ≤ lim ∧ i ∉ own then outOf (pops i own g fe ds η).calm fun ys => outOf (dJoin (.str []) (.lst ys)).calm fun r => .ret r else .bad
/-- x = a + b, a list that will change -/
def sNewCat (i : Nat) (f g : E) : St := fun η => outOf (f η) fun x => outOf (g η) fun y => match x, y with
  | .lst xs, .lst ys => if xs.length + ys.length ≤ lim then .next (η.set i (some (.own (xs ++ ys)))) else .bad
  | _, _ => .bad
/-- list * int -/
def dRepL : D → D → Res D
  | .lst xs, .int k => if 0 ≤ k ∧ k ≤ lim ∧ xs.length * k.toNat ≤ lim then .ok (.lst (List.replicate k.toNat xs).flatten) else .bad
  | _, _ => .bad
/-- a def: n slots, its body -/
def runDef (n : Nat) (g : St) (ds : List D) : Res D := match g (ds.map (fun d => some (S.dat d)) ++ List.replicate (n - ds.length) Option.none) with
  | .ret d => .ok d
  | .next _ => .ok .none
  | .raise c => .raise c
  | _ => .bad
end Bk
end
/-! BkBase -/
section
set_option Elab.async false
set_option linter.all false
set_option autoImplicit false
set_option maxRecDepth 100000
set_option maxHeartbeats 4000000
/-! BkBase: what stands in the heap for data and states; the readings of expressions and statements by what they give -/
namespace Bk
open PySem PySem.Spec PyProof.Rows L2
/-- a text by its signs -/
abbrev Sx (l : List Nat) : Str := ⟨l.toArray⟩
theorem sx_tl (x : Str) : Sx x.cps.toList = x := by
  obtain ⟨c⟩ := x
  rfl
theorem sx_len (l : List Nat) : (Sx l).length = l.length := by simp [Sx, Str.length]
theorem sx_inj {a b : List Nat} (h : Sx a = Sx b) : a = b := by
  have h1 := congrArg (fun z : Str => z.cps.toList) h
  simpa using h1
theorem sx_app (a b : List Nat) : Sx a ++ Sx b = Sx (a ++ b) := by
  have h := TL.tl_append (Sx a) (Sx b)
  rw [← sx_tl (Sx a ++ Sx b)]
  show Sx (TL.tl (Sx a ++ Sx b)) = _
  rw [h]
def keyV : D → Option Key
  | .int i => some (.inl i)
  | .str s => some (.inr (Sx s))
  | _ => Option.none
mutual
/-- v stands for d, by what the heap G holds -/
inductive Rp (K : PySem.W.Frag) (G : Hp) : V → D → Prop
  | none : Rp K G .non .none
  | bool (b : Bool) : Rp K G (.bl b) (.bool b)
  | int (i : Int) : Rp K G (.int i) (.int i)
  | str (s : List Nat) : Rp K G (.str (Sx s)) (.str s)
  | lst {a : Addr} {xs : List V} {ds : List D} : SqL K G a xs → RpAll K G xs ds → Rp K G (.ref a) (.lst ds)
  | tup {a : Addr} {xs : List V} {ds : List D} : SqT K G a xs → RpAll K G xs ds → Rp K G (.ref a) (.tup ds)
  | dic {a : Addr} {kvs : List (Key × V)} {ks : List (D × D)} : G a = some (.dK kvs) → RpKV K G kvs ks → Rp K G (.ref a) (.dic ks)
inductive RpAll (K : PySem.W.Frag) (G : Hp) : List V → List D → Prop
  | nil : RpAll K G [] []
  | cons {v : V} {vs : List V} {d : D} {ds : List D} : Rp K G v d → RpAll K G vs ds → RpAll K G (v :: vs) (d :: ds)
inductive RpKV (K : PySem.W.Frag) (G : Hp) : List (Key × V) → List (D × D) → Prop
  | nil : RpKV K G [] []
  | cons {k : Key} {v : V} {r : List (Key × V)} {kd d : D} {rs : List (D × D)} : keyV kd = some k → Rp K G v d → RpKV K G r rs → RpKV K G ((k, v) :: r) ((kd, d) :: rs)
end
/-- all that H holds stands in H' -/
abbrev Ex (H H' : Hp) : Prop := ∀ a o, H a = some o → H' a = some o
theorem Ex.refl (H : Hp) : Ex H H := fun _ _ h => h
theorem Ex.trans {H H1 H2 : Hp} (a : Ex H H1) (b : Ex H1 H2) : Ex H H2 := fun x o h => b x o (a x o h)
theorem Ex.new {H : Hp} {p : Addr} {o : HO} (h : H p = none) : Ex H (upd H p o) := fun a u e => by
  rw [upd_ne (ne_of_none e h)]
  exact e
theorem Ex.none {H H' : Hp} {p : Addr} (e : Ex H H') (h : H' p = Option.none) : H p = Option.none := by
  cases q : H p with
  | none => rfl
  | some o =>
    rw [e p o q] at h
    cases h
theorem Ex.l {K : PySem.W.Frag} {H H' : Hp} {a : Addr} {xs : List V} (e : Ex H H') (h : SqL K H a xs) : SqL K H' a xs := by
  rcases h with (h | ⟨o, h⟩) | h
  · exact .inl (.inl (e _ _ h))
  · exact .inl (.inr ⟨o, e _ _ h⟩)
  · exact .inr h
theorem Ex.t {K : PySem.W.Frag} {H H' : Hp} {a : Addr} {xs : List V} (e : Ex H H') (h : SqT K H a xs) : SqT K H' a xs := by
  rcases h with (h | ⟨o, h⟩) | h
  · exact .inl (.inl (e _ _ h))
  · exact .inl (.inr ⟨o, e _ _ h⟩)
  · exact .inr h
section
variable {K : PySem.W.Frag} {G G' : Hp}
mutual
theorem Rp.mono (e : Ex G G') : ∀ {v : V} {d : D}, Rp K G v d → Rp K G' v d
  | _, _, .none => .none
  | _, _, .bool b => .bool b
  | _, _, .int i => .int i
  | _, _, .str s => .str s
  | _, _, .lst h r => .lst (e.l h) (RpAll.mono e r)
  | _, _, .tup h r => .tup (e.t h) (RpAll.mono e r)
  | _, _, .dic h r => .dic (e _ _ h) (RpKV.mono e r)
theorem RpAll.mono (e : Ex G G') : ∀ {vs : List V} {ds : List D}, RpAll K G vs ds → RpAll K G' vs ds
  | _, _, .nil => .nil
  | _, _, .cons h r => .cons (Rp.mono e h) (RpAll.mono e r)
theorem RpKV.mono (e : Ex G G') : ∀ {vs : List (Key × V)} {ds : List (D × D)}, RpKV K G vs ds → RpKV K G' vs ds
  | _, _, .nil => .nil
  | _, _, .cons k h r => .cons k (Rp.mono e h) (RpKV.mono e r)
end
theorem RpAll.length : ∀ {vs : List V} {ds : List D}, RpAll K G vs ds → vs.length = ds.length
  | _, _, .nil => rfl
  | _, _, .cons _ r => congrArg (· + 1) (RpAll.length r)
theorem RpAll.get : ∀ {vs : List V} {ds : List D} {i : Nat} {d : D}, RpAll K G vs ds → ds[i]? = some d → ∃ v, vs[i]? = some v ∧ Rp K G v d
  | _, _, _, _, .nil, e => by simp at e
  | _, _, 0, _, .cons h _, e => by
    simp at e
    subst e
    exact ⟨_, rfl, h⟩
  | _, _, i + 1, d, .cons _ r, e => by
    obtain ⟨v, h1, h2⟩ := RpAll.get (i := i) (d := d) r (by simpa using e)
    exact ⟨v, by simpa using h1, h2⟩
theorem RpAll.append : ∀ {xs ys : List V} {as bs : List D}, RpAll K G xs as → RpAll K G ys bs → RpAll K G (xs ++ ys) (as ++ bs)
  | _, _, _, _, .nil, s => s
  | _, _, _, _, .cons h r, s => .cons h (RpAll.append r s)
theorem RpAll.take : ∀ {xs : List V} {as : List D} (n : Nat), RpAll K G xs as → RpAll K G (xs.take n) (as.take n)
  | _, _, 0, _ => .nil
  | _, _, _ + 1, .nil => .nil
  | _, _, n + 1, .cons h r => .cons h (RpAll.take n r)
theorem RpAll.drop : ∀ {xs : List V} {as : List D} (n : Nat), RpAll K G xs as → RpAll K G (xs.drop n) (as.drop n)
  | _, _, 0, h => h
  | _, _, _ + 1, .nil => .nil
  | _, _, n + 1, .cons _ r => RpAll.drop n r
theorem RpAll.reverse {xs : List V} {as : List D} (h : RpAll K G xs as) : RpAll K G xs.reverse as.reverse := by
  have aux : ∀ {xs : List V} {as : List D}, RpAll K G xs as → RpAll K G xs.reverse as.reverse := by
    intro xs as h
    induction xs generalizing as with
    | nil =>
      cases h
      exact .nil
    | cons v r ih =>
      cases h with
      | cons h1 h2 =>
        rw [List.reverse_cons, List.reverse_cons]
        exact (ih h2).append (.cons h1 .nil)
  exact aux h
theorem RpAll.dropLast {xs : List V} {as : List D} (h : RpAll K G xs as) : RpAll K G xs.dropLast as.dropLast := by
  rw [List.dropLast_eq_take, List.dropLast_eq_take, h.length]
  exact h.take _
theorem RpAll.snoc {xs : List V} {as : List D} {v : V} {d : D} (h : RpAll K G xs as) (r : Rp K G v d) : RpAll K G (xs ++ [v]) (as ++ [d]) := h.append (.cons r .nil)
theorem RpAll.nums : ∀ {xs : List V} {as : List D} {ns : List Int}, RpAll K G xs as → numsL as = some ns → xs = ns.map V.int
  | _, _, _, .nil, e => by
    cases e
    rfl
  | _, _, ns, .cons (d := d) h r, e => by
    cases h with
    | int i =>
      rename_i vs ds
      cases q : Bk.numsL ds with
      | none =>
        simp [Bk.numsL, q] at e
      | some ms =>
        simp [Bk.numsL, q] at e
        subst e
        rw [RpAll.nums r q] <;> rfl
    | none => simp [Bk.numsL] at e
    | bool b => simp [Bk.numsL] at e
    | str s => simp [Bk.numsL] at e
    | lst _ _ => simp [Bk.numsL] at e
    | tup _ _ => simp [Bk.numsL] at e
    | dic _ _ => simp [Bk.numsL] at e
theorem RpAll.txts : ∀ {xs : List V} {as : List D} {ns : List (List Nat)}, RpAll K G xs as → strsL as = some ns → xs = (ns.map Sx).map V.str
  | _, _, _, .nil, e => by
    cases e
    rfl
  | _, _, ns, .cons (d := d) h r, e => by
    cases h with
    | str i =>
      rename_i vs ds
      cases q : Bk.strsL ds with
      | none => simp [Bk.strsL, q] at e
      | some ms =>
        simp [Bk.strsL, q] at e
        subst e
        rw [RpAll.txts r q] <;> rfl
    | none => simp [Bk.strsL] at e
    | bool b => simp [Bk.strsL] at e
    | int s => simp [Bk.strsL] at e
    | lst _ _ => simp [Bk.strsL] at e
    | tup _ _ => simp [Bk.strsL] at e
    | dic _ _ => simp [Bk.strsL] at e
theorem RpAll.bools : ∀ {xs : List V} {as : List D} {ns : List Bool}, RpAll K G xs as → boolsL as = some ns → xs = ns.map V.bl
  | _, _, _, .nil, e => by
    cases e
    rfl
  | _, _, ns, .cons (d := d) h r, e => by
    cases h with
    | bool i =>
      rename_i vs ds
      cases q : Bk.boolsL ds with
      | none => simp [Bk.boolsL, q] at e
      | some ms =>
        simp [Bk.boolsL, q] at e
        subst e
        rw [RpAll.bools r q] <;> rfl
    | none => simp [Bk.boolsL] at e
    | str b => simp [Bk.boolsL] at e
    | int s => simp [Bk.boolsL] at e
    | lst _ _ => simp [Bk.boolsL] at e
    | tup _ _ => simp [Bk.boolsL] at e
    | dic _ _ => simp [Bk.boolsL] at e
theorem RpAll.ofInts : ∀ ns : List Int, RpAll K G (ns.map V.int) (ns.map D.int)
  | [] => .nil
  | n :: r => .cons (.int n) (RpAll.ofInts r)
theorem RpAll.ofStrs : ∀ ns : List (List Nat), RpAll K G ((ns.map Sx).map V.str) (ns.map D.str)
  | [] => .nil
  | n :: r => .cons (.str n) (RpAll.ofStrs r)
end

/-! ### growing heaps: G what is known for good, H all -/
structure Ext (G H G' H' : Hp) : Prop where
  g : Ex G G'
  gh : Ex G' H'
  h : Ex H H'
  fr : ∀ a, G a = none → H a ≠ none → G' a = none
theorem Ext.refl {G H : Hp} (e : Ex G H) : Ext G H G H := ⟨Ex.refl G, e, Ex.refl H, fun _ h _ => h⟩
theorem Ext.trans {G H G1 H1 G2 H2 : Hp} (a : Ext G H G1 H1) (b : Ext G1 H1 G2 H2) : Ext G H G2 H2 :=
  ⟨a.g.trans b.g, b.gh, a.h.trans b.h, fun x h1 h2 => b.fr x (a.fr x h1 h2) fun z => h2 (a.h.none z)⟩
/-- a new object, known for good -/
theorem Ext.new {G H : Hp} {p : Addr} {o : HO} (e : Ex G H) (h : H p = none) : Ext G H (upd G p o) (upd H p o) := by
  have hg : G p = none := e.none h
  refine ⟨Ex.new hg, fun a u z => ?_, Ex.new h, fun a h1 h2 => ?_⟩
  · by_cases ha : a = p
    · subst ha
      rw [upd_same] at z ⊢
      exact z
    · rw [upd_ne ha] at z ⊢
      exact e a u z
  · by_cases ha : a = p
    · subst ha
      exact absurd h h2
    · rw [upd_ne ha]
      exact h1
/-- a new object that is forgotten -/
theorem Ext.drop {G H : Hp} {p : Addr} {o : HO} (e : Ex G H) (h : H p = none) : Ext G H G (upd H p o) :=
  ⟨Ex.refl G, e.trans (Ex.new h), Ex.new h, fun _ h1 _ => h1⟩

/-! ### states -/
/-- a slot -/
def RpS (K : PySem.W.Frag) (H0 G H : Hp) (v : V) : S → Prop
  | .dat d => Rp K G v d
  | .own ds => ∃ a vs, v = .ref a ∧ H0 a = none ∧ G a = none ∧ H a = some (.lst vs) ∧ RpAll K G vs ds
  | .dic ks => ∃ a kvs, v = .ref a ∧ H0 a = none ∧ G a = none ∧ H a = some (.dK kvs) ∧ RpKV K G kvs ks
def isOwn : S → Bool
  | .dat _ => false
  | _ => true
structure RpE (K : PySem.W.Frag) (G0 H0 G H : Hp) (σ : L2.St) (η : Env) : Prop where
  ext : Ext G0 H0 G H
  len : σ.length = η.length
  slot : ∀ (i : Nat) s, η[i]? = some (some s) → ∃ v, σ[i]? = some (some v) ∧ RpS K H0 G H v s
  apart : ∀ (i j : Nat) s t v, i ≠ j → η[i]? = some (some s) → η[j]? = some (some t) → isOwn s = true → isOwn t = true → σ[i]? = some (some v) → σ[j]? ≠ some (some v)
section
variable {K : PySem.W.Frag} {G0 H0 G H G' H' : Hp} {σ : L2.St} {η : Env}
theorem RpS.ext (x : Ext G H G' H') {v : V} : ∀ {s : S}, RpS K H0 G H v s → RpS K H0 G' H' v s
  | .dat _, h => Rp.mono x.g h
  | .own _, ⟨a, vs, e, h0, hg, hh, r⟩ => ⟨a, vs, e, h0, x.fr a hg (by rw [hh]; exact fun z => nomatch z), x.h _ _ hh, r.mono x.g⟩
  | .dic _, ⟨a, vs, e, h0, hg, hh, r⟩ => ⟨a, vs, e, h0, x.fr a hg (by rw [hh]; exact fun z => nomatch z), x.h _ _ hh, r.mono x.g⟩
theorem RpE.extd (r : RpE K G0 H0 G H σ η) (x : Ext G H G' H') : RpE K G0 H0 G' H' σ η :=
  ⟨r.ext.trans x, r.len, fun i s e => let ⟨v, h1, h2⟩ := r.slot i s e; ⟨v, h1, h2.ext x⟩, r.apart⟩
theorem RpE.exg (r : RpE K G0 H0 G H σ η) : Ex G H := r.ext.gh
theorem RpE.dat (r : RpE K G0 H0 G H σ η) {i : Nat} {d : D} (e : η[i]? = some (some (.dat d))) : ∃ v, σ[i]? = some (some v) ∧ Rp K G v d := r.slot i _ e
/-- data stored -/
theorem RpE.set (r : RpE K G0 H0 G H σ η) (i : Nat) {v : V} {d : D} (h : Rp K G v d) : RpE K G0 H0 G H (σ.set i (some v)) (η.set i (some (.dat d))) := by
  refine ⟨r.ext, by rw [List.length_set, List.length_set]; exact r.len, fun j s e => ?_, fun j k s t w hjk e1 e2 o1 o2 w1 => ?_⟩
  · by_cases hj : i = j
    · subst hj
      have hl : i < η.length := by
        by_cases z : i < η.length
        · exact z
        · rw [List.getElem?_eq_none (by simpa using z)] at e
          cases e
      rw [List.getElem?_set_self hl] at e
      cases e
      exact ⟨v, List.getElem?_set_self (by rw [r.len]; exact hl), h⟩
    · rw [List.getElem?_set_ne hj] at e ⊢
      exact r.slot j s e
  · by_cases hj : i = j
    · subst hj
      have hl : i < η.length := by
        by_cases z : i < η.length
        · exact z
        · rw [List.getElem?_eq_none (by simpa using z)] at e1
          cases e1
      rw [List.getElem?_set_self hl] at e1
      cases e1
      cases o1
    · by_cases hk : i = k
      · subst hk
        have hl : i < η.length := by
          by_cases z : i < η.length
          · exact z
          · rw [List.getElem?_eq_none (by simpa using z)] at e2
            cases e2
        rw [List.getElem?_set_self hl] at e2
        cases e2
        cases o2
      · rw [List.getElem?_set_ne hj] at e1 w1
        rw [List.getElem?_set_ne hk] at e2 ⊢
        exact r.apart j k s t w hjk e1 e2 o1 o2 w1
theorem lt_of_get {α : Type} {l : List α} {i : Nat} {x : α} (h : l[i]? = some x) : i < l.length := by
  by_cases z : i < l.length
  · exact z
  · rw [List.getElem?_eq_none (by simpa using z)] at h
    cases h
/-- an own thing at a new place -/
theorem RpE.setNew (r : RpE K G0 H0 G H σ η) (i : Nat) {p : Addr} {o : HO} {s : S} (hp : H p = none) (h : RpS K H0 G (upd H p o) (.ref p) s) : RpE K G0 H0 G (upd H p o) (σ.set i (some (.ref p))) (η.set i (some s)) := by
  have x : Ext G H G (upd H p o) := Ext.drop r.exg hp
  have r1 := r.extd x
  have far : ∀ (j : Nat) t w, η[j]? = some (some t) → isOwn t = true → σ[j]? = some (some w) → w ≠ .ref p := fun j t w e1 o1 w1 z => by
    obtain ⟨w', h1, h2⟩ := r.slot j t e1
    rw [w1] at h1
    cases h1
    subst z
    cases t with
    | dat d => cases o1
    | own ds =>
      obtain ⟨a, vs, e, _, _, hh, _⟩ := h2
      cases e
      rw [hp] at hh
      cases hh
    | dic ds =>
      obtain ⟨a, vs, e, _, _, hh, _⟩ := h2
      cases e
      rw [hp] at hh
      cases hh
  refine ⟨r1.ext, by rw [List.length_set, List.length_set]; exact r.len, fun j t e => ?_, fun j k t u w hjk e1 e2 o1 o2 w1 w2 => ?_⟩
  · by_cases hj : i = j
    · subst hj
      have hl : i < η.length := by simpa using lt_of_get e
      rw [List.getElem?_set_self hl] at e
      cases e
      exact ⟨.ref p, List.getElem?_set_self (by rw [r.len]; exact hl), h⟩
    · rw [List.getElem?_set_ne hj] at e ⊢
      exact r1.slot j t e
  · by_cases hj : i = j
    · subst hj
      have hl : i < σ.length := by simpa using lt_of_get w1
      rw [List.getElem?_set_self hl] at w1
      cases w1
      have hk : i ≠ k := hjk
      rw [List.getElem?_set_ne hk] at e2 w2
      exact far k u _ e2 o2 w2 rfl
    · rw [List.getElem?_set_ne hj] at e1 w1
      by_cases hk : i = k
      · subst hk
        have hl : i < σ.length := by simpa using lt_of_get w2
        rw [List.getElem?_set_self hl] at w2
        cases w2
        exact far j t _ e1 o1 w1 rfl
      · rw [List.getElem?_set_ne hk] at e2 w2
        exact r.apart j k t u w hjk e1 e2 o1 o2 w1 w2
/-- an own thing changed where it stands -/
theorem RpE.mut (r : RpE K G0 H0 G H σ η) {i : Nat} {a : Addr} {o : HO} {s t : S} (e : η[i]? = some (some s)) (hs : isOwn s = true) (ht : isOwn t = true) (w : σ[i]? = some (some (.ref a))) (h0 : H0 a = none) (hg : G a = none) (h : RpS K H0 G (upd H a o) (.ref a) t) :
    RpE K G0 H0 G (upd H a o) σ (η.set i (some t)) := by
  have hl : i < η.length := lt_of_get e
  refine ⟨⟨r.ext.g, fun b u z => ?_, fun b u z => ?_, r.ext.fr⟩, by rw [List.length_set]; exact r.len, fun j u e1 => ?_, fun j k u v x hjk e1 e2 o1 o2 w1 => ?_⟩
  · rw [upd_ne (ne_of_none z hg)]
    exact r.ext.gh b u z
  · rw [upd_ne (ne_of_none z h0)]
    exact r.ext.h b u z
  · by_cases hj : i = j
    · subst hj
      rw [List.getElem?_set_self hl] at e1
      cases e1
      exact ⟨.ref a, w, h⟩
    · rw [List.getElem?_set_ne hj] at e1
      obtain ⟨v, h1, h2⟩ := r.slot j u e1
      refine ⟨v, h1, ?_⟩
      cases u with
      | dat d => exact h2
      | own ds =>
        obtain ⟨b, vs, q, g0, gg, hh, rr⟩ := h2
        subst q
        have nb : b ≠ a := fun z => by
          subst z
          exact r.apart i j s _ _ hj e e1 hs rfl w h1
        exact ⟨b, vs, rfl, g0, gg, by rw [upd_ne nb]; exact hh, rr⟩
      | dic ds =>
        obtain ⟨b, vs, q, g0, gg, hh, rr⟩ := h2
        subst q
        have nb : b ≠ a := fun z => by
          subst z
          exact r.apart i j s _ _ hj e e1 hs rfl w h1
        exact ⟨b, vs, rfl, g0, gg, by rw [upd_ne nb]; exact hh, rr⟩
  · have own1 : ∀ {m : Nat} {z : S}, (η.set i (some t))[m]? = some (some z) → isOwn z = true → ∃ z', η[m]? = some (some z') ∧ isOwn z' = true := fun {m z} q oz => by
      by_cases hm : i = m
      · subst hm
        exact ⟨s, e, hs⟩
      · rw [List.getElem?_set_ne hm] at q
        exact ⟨z, q, oz⟩
    obtain ⟨u', f1, p1⟩ := own1 e1 o1
    obtain ⟨v', f2, p2⟩ := own1 e2 o2
    exact r.apart j k u' v' x hjk f1 f2 p1 p2 w1
/-- slots forgotten -/
theorem wipe_rel (r : RpE K G0 H0 G H σ η) : ∀ vs : List Nat, RpE K G0 H0 G H (wipe σ vs) (wipes η vs)
  | [] => r
  | v :: vs => by
    have ih := wipe_rel r vs
    show RpE K G0 H0 G H ((wipe σ vs).set v Option.none) ((wipes η vs).set v Option.none)
    have un : ∀ {j : Nat} {s : S}, ((wipes η vs).set v Option.none)[j]? = some (some s) → v ≠ j ∧ (wipes η vs)[j]? = some (some s) := fun {j s} e => by
      by_cases hj : v = j
      · subst hj
        have hl : v < (wipes η vs).length := by simpa using lt_of_get e
        rw [List.getElem?_set_self hl] at e
        cases e
      · rw [List.getElem?_set_ne hj] at e
        exact ⟨hj, e⟩
    refine ⟨ih.ext, by rw [List.length_set, List.length_set]; exact ih.len, fun j s e => ?_, fun j k s t w hjk e1 e2 o1 o2 w1 => ?_⟩
    · obtain ⟨hj, e⟩ := un e
      rw [List.getElem?_set_ne hj]
      exact ih.slot j s e
    · obtain ⟨hj, e1⟩ := un e1
      obtain ⟨hk, e2⟩ := un e2
      rw [List.getElem?_set_ne hj] at w1
      rw [List.getElem?_set_ne hk]
      exact ih.apart j k s t w hjk e1 e2 o1 o2 w1
end

/-! ### the readings -/
/-- what a def starts from, what it wishes of refusals -/
structure Bs where
  G0 : Hp
  H0 : Hp
  cl : Cls → Addr
  ex : XK
abbrev Bs.calm (B : Bs) : Bs := { B with ex := fun _ _ _ => False }
def Rz (B : Bs) (c : Cls) : Prop := ∀ H', Ex B.H0 H' → B.ex (.ref (B.cl c)) Option.none H'
def tX (K : PySem.W.Frag) (B : Bs) (f : E) : TE := fun σ H Q => ∃ G η, RpE K B.G0 B.H0 G H σ η ∧ (f η).Sat (fun d => ∀ G' H' v, Ext G H G' H' → Rp K G' v d → Q v H') (Rz B)
def tT (K : PySem.W.Frag) (B : Bs) (f : T) : TT := fun σ H Q => ∃ G η, RpE K B.G0 B.H0 G H σ η ∧ (f η).Sat (fun d => ∀ G' H', Ext G H G' H' → Q d H') (Rz B)
def tA (K : PySem.W.Frag) (B : Bs) (fs : List E) : TA := fun σ H Q => ∃ G η, RpE K B.G0 B.H0 G H σ η ∧ (evals fs η).Sat (fun ds => ∀ G' H' vs, Ext G H G' H' → RpAll K G' vs ds → Q vs H') (Rz B)
def tG (K : PySem.W.Frag) (B : Bs) (g : G) : TG := fun v σ H Q => ∃ G η d, RpE K B.G0 B.H0 G H σ η ∧ Rp K G v d ∧ (g d η).Sat (fun η' => ∀ G' H' σ', Ext G H G' H' → RpE K B.G0 B.H0 G' H' σ' η' → Q σ' H') (fun _ => False)
/-- the end of a statement -/
def Fin (K : PySem.W.Frag) (B : Bs) (D : Ends) (G : Hp) : Out → Prop
  | .next η' => ∀ G' H' σ', Ex G G' → RpE K B.G0 B.H0 G' H' σ' η' → D.nx σ' H'
  | .brk η' => ∀ G' H' σ', Ex G G' → RpE K B.G0 B.H0 G' H' σ' η' → D.bk σ' H'
  | .ct η' => ∀ G' H' σ', Ex G G' → RpE K B.G0 B.H0 G' H' σ' η' → D.ct σ' H'
  | .ret d => ∀ G' H' v, Ex G G' → Ext B.G0 B.H0 G' H' → Rp K G' v d → D.rt v H'
  | .raise c => Rz B c
  | .bad => False
def tS (K : PySem.W.Frag) (B : Bs) (g : St) : TS := fun D σ H => ∃ G η, RpE K B.G0 B.H0 G H σ η ∧ Fin K B D G (g η)
theorem Fin.up {K : PySem.W.Frag} {B : Bs} {D : Ends} {G G1 : Hp} (e : Ex G G1) : ∀ {o : Out}, Fin K B D G o → Fin K B D G1 o
  | .next _, h => fun G' H' σ' x r => h G' H' σ' (e.trans x) r
  | .brk _, h => fun G' H' σ' x r => h G' H' σ' (e.trans x) r
  | .ct _, h => fun G' H' σ' x r => h G' H' σ' (e.trans x) r
  | .ret _, h => fun G' H' v x r q => h G' H' v (e.trans x) r q
  | .raise _, h => h
  | .bad, h => h
theorem Fin.ofRes {K : PySem.W.Frag} {B : Bs} {D : Ends} {G : Hp} {α : Type} {m : Res α} {k : α → Out} (h : Fin K B D G (outOf m k)) : m.Sat (fun a => Fin K B D G (k a)) (Rz B) := by
  cases m with
  | ok a => exact h
  | raise c => exact h
  | bad => exact h
theorem Fin.andThen {K : PySem.W.Frag} {B : Bs} {D : Ends} {G : Hp} {o : Out} {k : St} (h : Fin K B D G (o.andThen k)) : Fin K B { D with nx := tS K B k D } G o := by
  cases o with
  | next η => exact fun G' H' σ' x r => ⟨G', η, r, Fin.up x h⟩
  | brk η => exact h
  | ct η => exact h
  | ret d => exact h
  | raise c => exact h
  | bad => exact h

/-! ### the judgements -/
section
variable {X : Cx} {B : Bs}
theorem pe_weak {e : Expr} {t t' : TE} (h : PE X e t) (w : ∀ σ H Q, t' σ H Q → t σ H Q) : PE X e t' := ⟨fun pins s σ H Q I q => h.run pins s σ H Q I (w σ H Q q)⟩
theorem pt_weak {e : Expr} {t t' : TT} (h : PT X e t) (w : ∀ σ H Q, t' σ H Q → t σ H Q) : PT X e t' := ⟨fun pins s σ H Q I q => h.run pins s σ H Q I (w σ H Q q)⟩
theorem pw_weak {e : Expr} {t t' : TT} (h : PW X e t) (w : ∀ σ H Q, t' σ H Q → t σ H Q) : PW X e t' := ⟨fun wh pins s σ H Q I q => h.run wh pins s σ H Q I (w σ H Q q)⟩
theorem ps_weak {e : Stmt} {t t' : TS} (h : PS X e t) (w : ∀ D σ H, t' D σ H → t D σ H) : PS X e t' := ⟨fun pins s σ H D I q => h.run pins s σ H D I (w D σ H q)⟩
theorem pss_weak {e : List Stmt} {t t' : TS} (h : PSs X e t) (w : ∀ D σ H, t' D σ H → t D σ H) : PSs X e t' := ⟨fun pins s σ H D I q => h.run pins s σ H D I (w D σ H q)⟩
theorem pa_weak {es : List Expr} {t t' : TA} (h : PA X es t) (w : ∀ σ H Q, t' σ H Q → t σ H Q) : PA X es t' := ⟨fun pos pins s σ H Q I q => h.run pos pins s σ H Q I (w σ H Q q)⟩
theorem pg_weak {e : Expr} {t t' : TG} (h : PG X e t) (w : ∀ v σ H Q, t' v σ H Q → t v σ H Q) : PG X e t' := ⟨fun pins s σ H v u Q I r q => h.run pins s σ H v u Q I r (w v σ H Q q)⟩
/-- run: the reading of a part, from what it gives -/
theorem tX.of {K : PySem.W.Frag} {f : E} {σ : L2.St} {H G : Hp} {η : Env} {Q : VK} (r : RpE K B.G0 B.H0 G H σ η) {P : D → Prop} (h : (f η).Sat P (Rz B)) (q : ∀ d, P d → ∀ G' H' v, Ext G H G' H' → Rp K G' v d → Q v H') : tX K B f σ H Q :=
  ⟨G, η, r, Sat.mono h (fun d p => q d p) fun _ z => z⟩
theorem tA.of {K : PySem.W.Frag} {f : List E} {σ : L2.St} {H G : Hp} {η : Env} {Q : List V → Hp → Prop} (r : RpE K B.G0 B.H0 G H σ η) {P : List D → Prop} (h : (evals f η).Sat P (Rz B)) (q : ∀ d, P d → ∀ G' H' v, Ext G H G' H' → RpAll K G' v d → Q v H') : tA K B f σ H Q :=
  ⟨G, η, r, Sat.mono h (fun d p => q d p) fun _ z => z⟩
theorem tT.of {K : PySem.W.Frag} {f : T} {σ : L2.St} {H G : Hp} {η : Env} {Q : Bool → Hp → Prop} (r : RpE K B.G0 B.H0 G H σ η) {P : Bool → Prop} (h : (f η).Sat P (Rz B)) (q : ∀ d, P d → ∀ G' H', Ext G H G' H' → Q d H') : tT K B f σ H Q :=
  ⟨G, η, r, Sat.mono h (fun d p => q d p) fun _ z => z⟩
end
end Bk
end
/-! BkOps -/
section
set_option Elab.async false
set_option linter.all false
set_option autoImplicit false
set_option maxRecDepth 100000
set_option maxHeartbeats 4000000
/-! BkOps: operators, comparisons, places, truth, slices: what they give of data -/
namespace Bk
open PySem PySem.Spec PyProof.Rows L2
/-! ### data as the library has it -/
mutual
def toPy : D → PyData
  | .none => .none
  | .bool b => .bool b
  | .int i => .int i
  | .str s => .str (Sx s)
  | .tup xs => .tuple (toPys xs)
  | .lst xs => .list (toPys xs)
  | .dic _ => .dict []
def toPys : List D → List PyData
  | [] => []
  | x :: xs => toPy x :: toPys xs
end
theorem toPys_map : ∀ xs : List D, toPys xs = xs.map toPy
  | [] => by rw [toPys] <;> rfl
  | x :: xs => by rw [toPys, toPys_map xs] <;> rfl
theorem sx_beq (x y : List Nat) : ((Sx x == Sx y) : Bool) = (x == y) := by
  by_cases h : x = y
  · subst h
    simp
  · have h' : ¬ Sx x = Sx y := fun e => h (sx_inj e)
    rw [beq_eq_false_iff_ne.mpr h', beq_eq_false_iff_ne.mpr h]
mutual
theorem eqv_py : ∀ d e : D, D.eqv d e = PyData.eqv (toPy d) (toPy e)
  | .none, e => by cases e <;> simp [D.eqv, toPy, PyData.eqv]
  | .bool b, e => by cases e <;> simp [D.eqv, toPy, PyData.eqv]
  | .int b, e => by cases e <;> simp [D.eqv, toPy, PyData.eqv]
  | .str b, e => by cases e <;> simp [D.eqv, toPy, PyData.eqv, sx_beq]
  | .tup xs, e => by
    cases e with
    | tup ys => simp only [D.eqv, toPy, PyData.eqv]; exact eqv_pys xs ys
    | _ => simp [D.eqv, toPy, PyData.eqv]
  | .lst xs, e => by
    cases e with
    | lst ys => simp only [D.eqv, toPy, PyData.eqv]; exact eqv_pys xs ys
    | _ => simp [D.eqv, toPy, PyData.eqv]
  | .dic _, e => by cases e <;> simp [D.eqv, toPy, PyData.eqv]
theorem eqv_pys : ∀ xs ys : List D, D.eqvAll xs ys = PyData.eqvAll (toPys xs) (toPys ys)
  | [], [] => by simp [D.eqvAll, toPys, PyData.eqvAll]
  | [], _ :: _ => by simp [D.eqvAll, toPys, PyData.eqvAll]
  | _ :: _, [] => by simp [D.eqvAll, toPys, PyData.eqvAll]
  | x :: xs, y :: ys => by
    rw [D.eqvAll, toPys, toPys, PyData.eqvAll, eqv_py x y, eqv_pys xs ys]
end
theorem strOk_of {s : List Nat} (h : plainS s = true) : PyData.strOk (Sx s) = true := by
  unfold PyData.strOk
  unfold plainS at h
  rw [← Array.all_toList]
  show (s.all fun c => decide (c < 0x110000)) = true
  rw [List.all_eq_true] at h ⊢
  intro c hc
  have := h c hc
  simp only [decide_eq_true_eq] at this ⊢
  omega
mutual
theorem cmp_shape : ∀ (n : Nat) (d : D), D.cmp n d = true → (toPy d).canLay0 = true ∧ (toPy d).depth ≤ n
  | _, .none, _ => by simp [toPy, PyData.canLay0, PyData.depth]
  | _, .bool _, _ => by simp [toPy, PyData.canLay0, PyData.depth]
  | _, .int _, _ => by simp [toPy, PyData.canLay0, PyData.depth]
  | n, .str s, h => by
    have h' : plainS s = true := by
      cases n <;> (simp only [D.cmp, Bool.and_eq_true] at h; exact h.1)
    exact ⟨by rw [toPy, PyData.canLay0]; exact strOk_of h', by rw [toPy, PyData.depth]; exact Nat.zero_le _⟩
  | 0, .tup _, h => by simp [D.cmp] at h
  | 0, .lst _, h => by simp [D.cmp] at h
  | n + 1, .tup xs, h => by
    simp only [D.cmp] at h
    obtain ⟨h1, h2⟩ := cmp_shapes n xs h
    exact ⟨by rw [toPy, PyData.canLay0]; exact h1, by rw [toPy, PyData.depth]; omega⟩
  | n + 1, .lst xs, h => by
    simp only [D.cmp] at h
    obtain ⟨h1, h2⟩ := cmp_shapes n xs h
    exact ⟨by rw [toPy, PyData.canLay0]; exact h1, by rw [toPy, PyData.depth]; omega⟩
  | n, .dic _, h => by cases n <;> simp [D.cmp] at h
theorem cmp_shapes : ∀ (n : Nat) (ds : List D), D.cmpAll n ds = true → PyData.canLayAll0 (toPys ds) = true ∧ PyData.depthAll (toPys ds) ≤ n
  | _, [], _ => by simp [toPys, PyData.canLayAll0, PyData.depthAll]
  | n, x :: xs, h => by
    simp only [D.cmpAll, Bool.and_eq_true] at h
    obtain ⟨h1, h2⟩ := cmp_shape n x h.1
    obtain ⟨h3, h4⟩ := cmp_shapes n xs h.2
    refine ⟨by rw [toPys, PyData.canLayAll0, h1, h3]; rfl, ?_⟩
    rw [toPys, PyData.depthAll]
    omega
end
theorem cmp_shaped {d : D} (h : D.cmp 64 d = true) : SeqAt.shaped (toPy d) = true := by
  obtain ⟨h1, h2⟩ := cmp_shape 64 d h
  unfold SeqAt.shaped
  rw [h1, decide_eq_true h2]
  rfl
section
variable {K : PySem.W.Frag} {G : Hp}
mutual
theorem dp_of : ∀ {n : Nat} {d : D} {v : V}, D.cmp n d = true → Rp K G v d → Dp K G v (toPy d)
  | _, .none, _, _, .none => by rw [toPy]; exact .non
  | _, .bool _, _, _, .bool b => by rw [toPy]; exact .bl b
  | _, .int _, _, _, .int b => by rw [toPy]; exact .int b
  | _, .str _, _, _, .str b => by rw [toPy]; exact .str _
  | 0, .tup _, _, h, _ => by simp [D.cmp] at h
  | 0, .lst _, _, h, _ => by simp [D.cmp] at h
  | n + 1, .tup _, _, h, .tup s r => by rw [toPy]; exact .tup s (dp_all (n := n) (by simpa [D.cmp] using h) r)
  | n + 1, .lst _, _, h, .lst s r => by rw [toPy]; exact .lst s (dp_all (n := n) (by simpa [D.cmp] using h) r)
  | n, .dic _, _, h, _ => by cases n <;> simp [D.cmp] at h
theorem dp_all : ∀ {n : Nat} {ds : List D} {vs : List V}, D.cmpAll n ds = true → RpAll K G vs ds → DpAll K G vs (toPys ds)
  | _, [], _, _, .nil => by rw [toPys]; exact .nil
  | n, _ :: _, _, h, .cons a r => by
    simp only [D.cmpAll, Bool.and_eq_true] at h
    rw [toPys]
    exact .cons (dp_of h.1 a) (dp_all h.2 r)
end
end
section
variable {K : PySem.W.Frag} {H H' : Hp}
end
/-! ### operators on two data -/
def RD (K : PySem.W.Frag) (b : D → D → Res D) : R2 := fun x y H Q => ∃ G d e, Ex G H ∧ Rp K G x d ∧ Rp K G y e ∧ (b d e).Sat (fun r => ∀ G' H' v, Ext G H G' H' → Rp K G' v r → Q v H') (fun _ => False)
def OpD (X : Cx) (f : Value → Value → Sem Value) (b : D → D → Res D) : Prop := OpR X f (RD X.K b)
theorem sat_if {α : Type} {c : Prop} [Decidable c] {m : Res α} {P : α → Prop} {R : Cls → Prop} (h : (if c then m else .bad).Sat P R) : c ∧ m.Sat P R := by
  by_cases hc : c
  · rw [if_pos hc] at h
    exact ⟨hc, h⟩
  · rw [if_neg hc] at h
    exact h.elim
theorem line_eq : sizeLine = lim := by rw [sizeLine_eq]
section
variable {X : Cx}
/-- of two flat things, that give a flat one -/
theorem OpD.flat {f : Value → Value → Sem Value} {b : D → D → Res D} {r : R2} (o : OpR X f r) (h : ∀ x y H Q, RD X.K b x y H Q → r x y H Q) : OpD X f b := fun pins s σ H x y v u Q I rx ry q => o pins s σ H x y v u Q I rx ry (h x y H Q q)

theorem list_sum {l b : Addr} {xs zs : List V} {Q : VK} {pins : List (Addr × Obj)} {s : Shared} {σ : L2.St} {H : Hp} (I : Inv X pins σ H s) (hl : SqL X.K H l xs) (hb : SqL X.K H b zs) (hz : xs.length + zs.length ≤ sizeLine)
    (q : ∀ p, H p = none → Q (.ref p) (upd H p (.lst (xs ++ zs)))) : wpAny (model X.prog X.w) X.A (binaryOp .Add (.ref l) (.ref b)) (EP X pins σ Q) X.xe s := by
  obtain ⟨its, r, ⟨⟨cls, dd, data, sl⟩, n, ho, hc, hdd, hd⟩, z1⟩ := I.list hl
  obtain ⟨its2, r2, ⟨⟨cls2, dd2, data2, sl2⟩, n2, ho2, hc2, hdd2, hd2⟩, z2⟩ := I.list hb
  simp only at hc hd hc2 hd2
  subst hc hd hc2 hd2
  have l1 := r.length
  have l2 := r2.length
  refine concat_meets ⟨_, ho, rfl⟩ ⟨_, ho2, rfl⟩ noFill_list_add seq_list_add PySem.F.slot_list_add PySem.F.entry_list_add (PySem.F.args_list_add_2 _ _) (list_addW l b its.toArray its2.toArray n n2 dd dd2 sl sl2 (by rw [List.size_toArray, List.size_toArray]; omega)) ⟨ho, ho2, ?_⟩
  have ea : its.toArray ++ its2.toArray = (its ++ its2).toArray := by simp
  rw [ea]
  exact ⟨.ref _, _, I.lnew (t' := s.toks) (r.append r2) (by rw [List.length_append]; exact hz), rfl, q _ I.fresh⟩
theorem od_add : OpD X (binaryOp .Add) dAdd := by
  intro pins s σ H x y v u Q I rx ry h
  obtain ⟨G, d, e, ex, rd, re, h⟩ := h
  cases rd with
  | int i =>
    cases re with
    | int j => exact op_add pins s σ H _ _ v u Q I rx ry ⟨i, j, rfl, rfl, h G H _ (Ext.refl ex) (.int _)⟩
    | _ => exact h.elim
  | str i =>
    cases re with
    | str j =>
      obtain ⟨hl, h⟩ := sat_if h
      refine op_add_str pins s σ H _ _ v u Q I rx ry ⟨_, _, rfl, rfl, ?_, ?_⟩
      · rw [sx_len, sx_len, line_eq]
        exact hl
      · rw [sx_app]
        exact h G H _ (Ext.refl ex) (.str _)
    | _ => exact h.elim
  | lst hs r =>
    cases re with
    | lst hs2 r2 =>
      obtain ⟨hl, h⟩ := sat_if h
      cases rx
      cases ry
      rename_i a1 xs1 ds1 a2 xs2 ds2 h0
      refine list_sum I (ex.l hs) (ex.l hs2) (by rw [r.length, r2.length, line_eq]; exact hl) fun p hp => ?_
      have hn : Ext G H (upd G p (.lst (xs1 ++ xs2))) (upd H p (.lst (xs1 ++ xs2))) := Ext.new ex hp
      exact h _ _ _ hn (.lst (.inl (.inl upd_same)) ((r.append r2).mono hn.g))
    | _ => exact h.elim
  | tup hs r =>
    cases re with
    | tup hs2 r2 =>
      obtain ⟨⟨hl, hn⟩, h⟩ := sat_if h
      rename_i a1 xs1 ds1 a2 xs2 ds2 h0
      refine op_catT pins s σ H _ _ v u Q I rx ry ⟨_, _, _, _, rfl, rfl, ex.t hs, ex.t hs2, ?_, ?_, fun z => ?_, fun z p hp => ?_⟩
      · intro z
        subst z
        cases r
        exact hn rfl
      · rw [r.length, r2.length, line_eq]
        exact hl
      · subst z
        cases r2
        refine h G H _ (Ext.refl ex) ?_
        rw [List.append_nil]
        exact .tup hs r
      · have hn : Ext G H (upd G p (.tup (xs1 ++ xs2))) (upd H p (.tup (xs1 ++ xs2))) := Ext.new ex hp
        exact h _ _ _ hn (.tup (.inl (.inl upd_same)) ((r.append r2).mono hn.g))
    | _ => exact h.elim
  | _ => cases re <;> exact h.elim
theorem od_sub : OpD X (binaryOp .Sub) dSub := by
  intro pins s σ H x y v u Q I rx ry h
  obtain ⟨G, d, e, ex, rd, re, h⟩ := h
  cases rd with
  | int i =>
    cases re with
    | int j => exact op_sub pins s σ H _ _ v u Q I rx ry ⟨i, j, rfl, rfl, h G H _ (Ext.refl ex) (.int _)⟩
    | _ => exact h.elim
  | _ => cases re <;> exact h.elim
theorem mul_ok {a b : Int} (h : small a ∨ small b ∨ a.natAbs.log2 + b.natAbs.log2 < 100000000) : IntMulOk a b := by
  rcases h with h | h | h
  · exact .of_left (intBits_le_64 h.1 h.2)
  · exact .of_right (intBits_le_64 h.1 h.2)
  · have bd : ∀ x : Int, Builtin.Int.intBits x ≤ x.natAbs.log2 + 1 := fun x => by
      unfold Builtin.Int.intBits
      split <;> omega
    have h1 := bd a
    have h2 := bd b
    have e : bitsLine = 134217728 := by decide
    unfold IntMulOk
    intro z
    rw [Bool.and_eq_true] at z
    have z2 := z.2
    unfold Builtin.Int.intTooBig at z2
    have z3 := of_decide_eq_true z2
    rw [e] at z3
    omega
theorem fold_rep (c : Array Nat) : ∀ (n : Nat) (acc : Array Nat), ((List.replicate n c).foldl (· ++ ·) acc).toList = acc.toList ++ (List.replicate n c.toList).flatten
  | 0, acc => by simp
  | n + 1, acc => by
    rw [List.replicate_succ, List.foldl_cons, fold_rep c n, List.replicate_succ, List.flatten_cons, Array.toList_append, List.append_assoc]
theorem rep_len (a : List Nat) : ∀ n : Nat, (List.replicate n a).flatten.length = a.length * n
  | 0 => by simp
  | n + 1 => by rw [List.replicate_succ, List.flatten_cons, List.length_append, rep_len a n, Nat.mul_succ, Nat.add_comm]
theorem od_mul : OpD X (binaryOp .Mult) dMul := by
  intro pins s σ H x y v u Q I rx ry h
  obtain ⟨G, d, e, ex, rd, re, h⟩ := h
  cases rd with
  | int i =>
    cases re with
    | int j =>
      obtain ⟨hm, h⟩ := sat_if h
      obtain ⟨t, rfl⟩ := rx
      obtain ⟨t', rfl⟩ := ry
      exact mul_int ⟨.int _, H, I.tok _, ⟨_, rfl⟩, h G H _ (Ext.refl ex) (.int _)⟩ (mul_ok hm)
    | _ => exact h.elim
  | str i =>
    cases re with
    | int n =>
      obtain ⟨⟨hm1, hm2, hl⟩, h⟩ := sat_if h
      obtain ⟨t, rfl⟩ := rx
      obtain ⟨t', rfl⟩ := ry
      have q := h G H _ (Ext.refl ex) (.str _)
      have le : sizeLine = 16777216 := sizeLine_eq
      have hm2' : n ≤ 16777216 := hm2
      have hl' : i.length * n.toNat ≤ 16777216 := hl
      have el := sx_len i
      have ok : MulOk (Sx i) n := by
        refine ⟨?_, fun h1 h2 => ?_, fun h1 h2 => ?_⟩
        · rw [decide_eq_false (by omega), decide_eq_false (by omega)]
          rfl
        · rw [el]
          have hn : 0 < n := by omega
          have h3 : (i.length : Int) * n ≤ 16777216 := by
            have e1 : ((n.toNat : Nat) : Int) = n := Int.toNat_of_nonneg (by omega)
            rw [← e1, ← Int.natCast_mul]
            omega
          have h4 : (i.length : Int) ≤ (2 ^ 63 - 1) / n := by
            refine (Int.le_ediv_iff_mul_le hn).mpr ?_
            omega
          omega
        · unfold Builtin.Str.tooLong
          rw [el, decide_eq_false (by omega)]
      refine SB.mul ok fun tk k => ?_
      have e : Txt.mul (Sx i) n = Sx (List.replicate n.toNat i).flatten := by
        unfold Txt.mul
        by_cases hn : n < 1
        · have e0 : n.toNat = 0 := by omega
          rw [if_pos hn, e0]
          rfl
        · rw [if_neg hn]
          by_cases h1 : (n == 1 || (Sx i).length == 0) = true
          · rw [if_pos h1]
            rw [Bool.or_eq_true, beq_iff_eq, beq_iff_eq, sx_len] at h1
            have e : (List.replicate n.toNat i).flatten = i := by
              rcases h1 with h1 | h1
              · have e1 : n.toNat = 1 := by omega
                rw [e1]
                simp
              · have e1 : i = [] := List.length_eq_zero_iff.mp h1
                subst e1
                simp
            rw [e]
          · rw [if_neg h1]
            refine Str.ext' (Array.toList_inj.mp ?_)
            show ((List.replicate n.toNat i.toArray).foldl (· ++ ·) #[]).toList = (List.replicate n.toNat i).flatten
            rw [fold_rep]
            rfl
      rw [e]
      exact ⟨.str _, H, I.tok k, ⟨tk, rfl⟩, q⟩
    | _ => exact h.elim
  | _ => cases re <;> exact h.elim
theorem od_div : OpD X (binaryOp .FloorDiv) dDiv := by
  intro pins s σ H x y v u Q I rx ry h
  obtain ⟨G, d, e, ex, rd, re, h⟩ := h
  cases rd with
  | int i =>
    cases re with
    | int j =>
      obtain ⟨hc, h⟩ := sat_if h
      exact op_fdiv pins s σ H _ _ v u Q I rx ry ⟨i, j, rfl, rfl, hc, h G H _ (Ext.refl ex) (.int _)⟩
    | _ => exact h.elim
  | _ => cases re <;> exact h.elim
theorem od_mod : OpD X (binaryOp .Mod) dMod := by
  intro pins s σ H x y v u Q I rx ry h
  obtain ⟨G, d, e, ex, rd, re, h⟩ := h
  cases rd with
  | int i =>
    cases re with
    | int j =>
      obtain ⟨hc, h⟩ := sat_if h
      exact op_mod pins s σ H _ _ v u Q I rx ry ⟨i, j, rfl, rfl, hc, h G H _ (Ext.refl ex) (.int _)⟩
    | _ => exact h.elim
  | _ => cases re <;> exact h.elim
theorem od_pow : OpD X (binaryOp .Pow) dPow := by
  intro pins s σ H x y v u Q I rx ry h
  obtain ⟨G, d, e, ex, rd, re, h⟩ := h
  cases rd with
  | int i =>
    cases re with
    | int j =>
      obtain ⟨hc, h⟩ := sat_if h
      exact op_pow pins s σ H _ _ v u Q I rx ry ⟨i, j, rfl, rfl, hc, h G H _ (Ext.refl ex) (.int _)⟩
    | _ => exact h.elim
  | _ => cases re <;> exact h.elim
/-! ### comparisons -/
theorem od_eq (hu : X.A.units + 64 < cLine) : OpD X (compareOp .Eq) dEq := by
  intro pins s σ H x y v u Q I rx ry h
  obtain ⟨G, d, e, ex, rd, re, h⟩ := h
  obtain ⟨hc, h⟩ := sat_if h
  rw [Bool.and_eq_true] at hc
  refine op_eqD hu pins s σ H x y v u Q I rx ry ⟨_, _, dp_of hc.1 (rd.mono ex), dp_of hc.2 (re.mono ex), cmp_shaped hc.1, cmp_shaped hc.2, ?_⟩
  rw [← eqv_py]
  exact h G H _ (Ext.refl ex) (.bool _)
theorem od_ne (hu : X.A.units + 64 < cLine) : OpD X (compareOp .NotEq) dNe := by
  intro pins s σ H x y v u Q I rx ry h
  obtain ⟨G, d, e, ex, rd, re, h⟩ := h
  obtain ⟨hc, h⟩ := sat_if h
  rw [Bool.and_eq_true] at hc
  refine op_neD hu pins s σ H x y v u Q I rx ry ⟨_, _, dp_of hc.1 (rd.mono ex), dp_of hc.2 (re.mono ex), cmp_shaped hc.1, cmp_shaped hc.2, ?_⟩
  rw [← eqv_py]
  exact h G H _ (Ext.refl ex) (.bool _)
theorem od_lt : OpD X (compareOp .Lt) dLt := by
  intro pins s σ H x y v u Q I rx ry h
  obtain ⟨G, d, e, ex, rd, re, h⟩ := h
  cases rd with
  | int i =>
    cases re with
    | int j => exact op_lt pins s σ H _ _ v u Q I rx ry ⟨i, j, rfl, rfl, h G H _ (Ext.refl ex) (.bool _)⟩
    | _ => exact h.elim
  | str i =>
    cases re with
    | str j => exact op_lt_str pins s σ H _ _ v u Q I rx ry ⟨_, _, rfl, rfl, h G H _ (Ext.refl ex) (.bool _)⟩
    | _ => exact h.elim
  | _ => cases re <;> exact h.elim
theorem od_le : OpD X (compareOp .LtE) dLe := by
  intro pins s σ H x y v u Q I rx ry h
  obtain ⟨G, d, e, ex, rd, re, h⟩ := h
  cases rd with
  | int i =>
    cases re with
    | int j => exact op_le pins s σ H _ _ v u Q I rx ry ⟨i, j, rfl, rfl, h G H _ (Ext.refl ex) (.bool _)⟩
    | _ => exact h.elim
  | _ => cases re <;> exact h.elim
theorem od_gt : OpD X (compareOp .Gt) dGt := by
  intro pins s σ H x y v u Q I rx ry h
  obtain ⟨G, d, e, ex, rd, re, h⟩ := h
  cases rd with
  | int i =>
    cases re with
    | int j => exact op_gt pins s σ H _ _ v u Q I rx ry ⟨i, j, rfl, rfl, h G H _ (Ext.refl ex) (.bool _)⟩
    | _ => exact h.elim
  | _ => cases re <;> exact h.elim
theorem od_ge : OpD X (compareOp .GtE) dGe := by
  intro pins s σ H x y v u Q I rx ry h
  obtain ⟨G, d, e, ex, rd, re, h⟩ := h
  cases rd with
  | int i =>
    cases re with
    | int j => exact op_ge pins s σ H _ _ v u Q I rx ry ⟨i, j, rfl, rfl, h G H _ (Ext.refl ex) (.bool _)⟩
    | _ => exact h.elim
  | _ => cases re <;> exact h.elim
theorem od_isN : OpD X (compareOp .Is) dIsN := by
  intro pins s σ H x y v u Q I rx ry h
  obtain ⟨G, d, e, ex, rd, re, h⟩ := h
  cases re with
  | none =>
    refine op_isN pins s σ H x _ v u Q I rx ry ⟨rfl, ?_⟩
    cases rd <;> exact h G H _ (Ext.refl ex) (.bool _)
  | _ => cases rd <;> exact h.elim
theorem od_notN : OpD X (compareOp .IsNot) dNotN := by
  intro pins s σ H x y v u Q I rx ry h
  obtain ⟨G, d, e, ex, rd, re, h⟩ := h
  cases re with
  | none =>
    refine op_notN pins s σ H x _ v u Q I rx ry ⟨rfl, ?_⟩
    cases rd <;> exact h G H _ (Ext.refl ex) (.bool _)
  | _ => cases rd <;> exact h.elim
theorem od_isB : OpD X (compareOp .Is) dIsB := by
  intro pins s σ H x y v u Q I rx ry h
  obtain ⟨G, d, e, ex, rd, re, h⟩ := h
  cases rd with
  | bool i =>
    cases re with
    | bool j =>
      refine op_isBl pins s σ H _ _ v u Q I rx ry ⟨i, j, rfl, rfl, ?_⟩
      have q := h G H _ (Ext.refl ex) (.bool _)
      rw [Bool.beq_eq_decide_eq] at q
      exact q
    | _ => exact h.elim
  | _ => cases re <;> exact h.elim
theorem od_notB : OpD X (compareOp .IsNot) dNotB := by
  intro pins s σ H x y v u Q I rx ry h
  obtain ⟨G, d, e, ex, rd, re, h⟩ := h
  cases rd with
  | bool i =>
    cases re with
    | bool j =>
      refine op_notBl pins s σ H _ _ v u Q I rx ry ⟨i, j, rfl, rfl, ?_⟩
      have q := h G H _ (Ext.refl ex) (.bool _)
      rw [Bool.beq_eq_decide_eq] at q
      exact q
    | _ => exact h.elim
  | _ => cases re <;> exact h.elim
theorem od_inS : OpD X (compareOp .In) dInS := by
  intro pins s σ H x y v u Q I rx ry h
  obtain ⟨G, d, e, ex, rd, re, h⟩ := h
  cases rd with
  | str i =>
    cases re with
    | str j =>
      match i, h with
      | [c], h => exact op_in_sign pins s σ H _ _ v u Q I rx ry ⟨c, _, rfl, rfl, h G H _ (Ext.refl ex) (.bool _)⟩
      | [], h => exact h.elim
      | _ :: _ :: _, h => exact h.elim
    | _ => rcases i with _ | ⟨c, _ | ⟨c2, r⟩⟩ <;> exact h.elim
  | _ => cases re <;> exact h.elim
/-! ### places -/
theorem at_rp {K : PySem.W.Frag} {G : Hp} {vs : List V} {ds : List D} {i : Int} {d : D} (r : RpAll K G vs ds) (h : at? ds i = some d) : ∃ v, atI vs i = some v ∧ Rp K G v d := by
  unfold at? at h
  cases q : ix ds.length i with
  | none =>
    rw [q] at h
    cases h
  | some j =>
    rw [q] at h
    obtain ⟨v, h1, h2⟩ := r.get (i := j) h
    refine ⟨v, ?_, h2⟩
    have e : ixN vs.length i = some j := by
      rw [r.length]
      exact q
    show (ixN vs.length i).bind (fun j => vs[j]?) = some v
    rw [e]
    exact h1
theorem at_str {s : List Nat} {i : Int} {c : Nat} (h : at? s i = some c) : atI (Sx s).cps.toList i = some c := h
theorem ix_data : IxR X (RD X.K dIdx) := by
  intro value slice pins s σ H x y v u Q I rx ry h hsub
  obtain ⟨G, d, e, ex, rd, re, h⟩ := h
  cases re with
  | int i =>
    cases rd with
    | lst hs r =>
      rename_i a xs ds
      cases q : at? ds i with
      | none => simp [dIdx, q, Res.Sat] at h
      | some z =>
        simp only [dIdx, q] at h
        obtain ⟨w', h1, h2⟩ := at_rp r q
        refine ix_list value slice pins s σ H _ _ v u Q I rx ry ?_ hsub
        exact ⟨_, xs, i, w', rfl, rfl, ex.l hs, h1, h G H _ (Ext.refl ex) h2⟩
    | tup hs r =>
      rename_i a xs ds
      cases q : at? ds i with
      | none => simp [dIdx, q, Res.Sat] at h
      | some z =>
        simp only [dIdx, q] at h
        obtain ⟨w', h1, h2⟩ := at_rp r q
        refine ix_tup value slice pins s σ H _ _ v u Q I rx ry ?_ hsub
        exact ⟨_, xs, i, w', rfl, rfl, ex.t hs, h1, h G H _ (Ext.refl ex) h2⟩
    | str t =>
      obtain ⟨hl, h⟩ := sat_if h
      cases q : at? t i with
      | none => simp [q, Res.Sat] at h
      | some z =>
        simp only [q] at h
        refine ix_str value slice pins s σ H _ _ v u Q I rx ry ?_ hsub
        exact ⟨_, i, z, rfl, rfl, by rw [sx_len, line_eq]; exact hl, q, h G H _ (Ext.refl ex) (.str [z])⟩
    | _ => exact h.elim
  | _ => cases rd <;> exact h.elim
end
end Bk
end
/-! BkSort -/
section
set_option Elab.async false
set_option linter.all false
set_option autoImplicit false
set_option maxRecDepth 100000
set_option maxHeartbeats 4000000
/-! BkSort: sorted of lists, tuples, dicts of data -/
namespace Bk
open PySem PySem.Spec PyProof.Rows L2
/-! ### the order -/
mutual
theorem alike_py : ∀ d e : D, PySem.W.alike (toPy d) (toPy e) = D.alike d e
  | .none, e => by cases e <;> simp [D.alike, toPy, PySem.W.alike]
  | .bool b, e => by cases e <;> simp [D.alike, toPy, PySem.W.alike]
  | .int b, e => by cases e <;> simp [D.alike, toPy, PySem.W.alike]
  | .str b, e => by cases e <;> simp [D.alike, toPy, PySem.W.alike]
  | .tup xs, e => by
    cases e with
    | tup ys => simp only [D.alike, toPy, PySem.W.alike]; exact alike_pys xs ys
    | _ => simp [D.alike, toPy, PySem.W.alike]
  | .lst xs, e => by
    cases e with
    | lst ys => simp only [D.alike, toPy, PySem.W.alike]; exact alike_pys xs ys
    | _ => simp [D.alike, toPy, PySem.W.alike]
  | .dic _, e => by cases e <;> simp [D.alike, toPy, PySem.W.alike]
theorem alike_pys : ∀ xs ys : List D, PySem.W.alikeAll (toPys xs) (toPys ys) = D.alikeAll xs ys
  | [], [] => by simp [D.alikeAll, toPys, PySem.W.alikeAll]
  | [], _ :: _ => by simp [D.alikeAll, toPys, PySem.W.alikeAll]
  | _ :: _, [] => by simp [D.alikeAll, toPys, PySem.W.alikeAll]
  | x :: xs, y :: ys => by
    rw [D.alikeAll, toPys, toPys, PySem.W.alikeAll, alike_py x y, alike_pys xs ys]
end
mutual
theorem lt_py : ∀ d e : D, D.alike d e = true → PySem.W.dataLt (toPy d) (toPy e) = D.lt d e
  | .none, e, h => by
    cases e with
    | none => simp [D.lt, toPy, PySem.W.dataLt, PySem.W.keyToks]; rfl
    | _ => simp [D.alike] at h
  | .bool b, e, h => by
    cases e with
    | bool c =>
      rw [toPy, toPy, PySem.W.dataLt_bool, D.lt]
      cases b <;> cases c <;> rfl
    | _ => simp [D.alike] at h
  | .int b, e, h => by
    cases e with
    | int c => rw [toPy, toPy, PySem.W.dataLt_int, D.lt]
    | _ => simp [D.alike] at h
  | .str b, e, h => by
    cases e with
    | str c => rw [toPy, toPy, PySem.W.dataLt_str, D.lt]
    | _ => simp [D.alike] at h
  | .tup xs, e, h => by
    cases e with
    | tup ys =>
      rw [toPy, toPy, PySem.W.dataLt_tuple, D.lt]
      exact lt_pys xs ys (by simpa [D.alike] using h)
    | _ => simp [D.alike] at h
  | .lst xs, e, h => by
    cases e with
    | lst ys =>
      rw [toPy, toPy, PySem.W.dataLt_list, D.lt]
      exact lt_pys xs ys (by simpa [D.alike] using h)
    | _ => simp [D.alike] at h
  | .dic _, e, h => by cases e <;> simp [D.alike] at h
theorem lt_pys : ∀ xs ys : List D, D.alikeAll xs ys = true → PyProof.Rows.lexLt itemOrd (PySem.W.keyToksAll (toPys xs)) (PySem.W.keyToksAll (toPys ys)) = D.ltAll xs ys
  | [], [], _ => by
    rw [toPys, D.ltAll]
    simp [PySem.W.keyToksAll]
    decide
  | [], y :: ys, _ => by
    rw [toPys, toPys, D.ltAll, PySem.W.keyToksAll, PySem.W.keyToksAll]
    rfl
  | x :: xs, [], _ => by
    rw [toPys, toPys, D.ltAll, PySem.W.keyToksAll, PySem.W.keyToksAll]
    rfl
  | x :: xs, y :: ys, h => by
    rw [D.alikeAll, Bool.and_eq_true] at h
    have ha : PySem.W.alike (toPy x) (toPy y) = true := by rw [alike_py]; exact h.1
    rw [toPys, toPys, D.ltAll, eqv_py]
    by_cases e : PyData.eqv (toPy x) (toPy y) = true
    · rw [PySem.W.dataLt_all_yes ha e, if_pos e]
      exact lt_pys xs ys h.2
    · rw [PySem.W.dataLt_all_no ha (by simpa using e), if_neg e]
      exact lt_py x y h.1
end
theorem merge_congr {α : Type} {f g : α → α → Bool} {xs : List α} (h : ∀ a ∈ xs, ∀ b ∈ xs, f a b = g a b) : xs.mergeSort f = xs.mergeSort g := by
  have e := List.map_mergeSort (r := f) (s := g) (f := id) (l := xs) h
  rw [List.map_id, List.map_id] at e
  exact e
theorem sort_eq {xs : List D} (h : (xs.all fun a => xs.all fun b => D.alike a b) = true) : xs.mergeSort (PySem.W.dataLe false toPy) = xs.mergeSort D.le := by
  refine merge_congr fun a ha b hb => ?_
  have hab : D.alike b a = true := List.all_eq_true.mp (List.all_eq_true.mp h b hb) a ha
  show (!PySem.W.dataLt (toPy b) (toPy a)) = (!D.lt b a)
  rw [lt_py b a hab]

/-! ### the call -/
section
variable {prog : Program} {w : World} {A : Around} {E : Value → Shared → Prop} {s : Shared}
open PySem.W in
theorem sorted_gen {v : Value} {vs : List Value} {ds : List D} {R : Value → D → Prop} {Q : Value → Shared → Prop} (ha : argsOk "sorted" ⟨[v], []⟩)
    (hc : ∀ Q' : List Value → Shared → Prop, (∀ (h' : Heap) (tk : Nat), (∀ b o, s.heap.get? b = some o → h'.get? b = some o) → Q' vs { s with heap := h', toks := tk }) → wpAny (model prog w) A.in1 (collect v) Q' (fun _ _ => False) s)
    (e : EachIs R vs ds) (er : EachIs (fun v d => ∃ as, Reads s.heap v (toPy d) as) vs ds) (hs : sortable ds = true) (hu : A.units + 12 < cLine)
    (h : ∀ (h1 h' : Heap) (tk n : Nat) (out : List Value), (∀ b o, s.heap.get? b = some o → h1.get? b = some o) → (∀ b o, h1.get? b = some o → h'.get? b = some o) → h'.get? h1.objs.size = some (seqObj "list" out.toArray n) → EachIs R out (ds.mergeSort D.le) → Q (.ref h1.objs.size) { s with heap := h', toks := tk }) :
    wpAny (model prog w) A (call (.builtin "sorted") [v]) Q E s := by
  unfold sortable at hs
  simp only [Bool.and_eq_true, decide_eq_true_eq] at hs
  obtain ⟨⟨⟨h1', h2⟩, h3⟩, h4⟩ := hs
  have hal : AllAlike (ds.map toPy) := by
    intro d hd d' hd'
    obtain ⟨b, hb, rfl⟩ := List.mem_map.mp hd
    obtain ⟨b', hb', rfl⟩ := List.mem_map.mp hd'
    rw [alike_py]
    exact List.all_eq_true.mp (List.all_eq_true.mp h1' b hb) b' hb'
  have hk : Sortable (ds.map toPy) := by
    rw [Bool.or_eq_true, List.all_eq_true, List.all_eq_true] at h2
    rcases h2 with h2 | h2
    · refine .inl fun d hd => ?_
      obtain ⟨b, hb, rfl⟩ := List.mem_map.mp hd
      have q := h2 b hb
      cases b with
      | tup xs =>
        cases xs with
        | nil => simp [D.row1] at q
        | cons x r => exact ⟨toPy x, toPys r, by rw [toPy, toPys]⟩
      | _ => simp [D.row1] at q
    · refine .inr fun d hd => ?_
      obtain ⟨b, hb, rfl⟩ := List.mem_map.mp hd
      have q := h2 b hb
      cases b with
      | tup xs => simp [D.row0] at q
      | none => simp [D.row0] at q
      | _ => simp [toPy]
  have hL : vs.length ≤ sizeLine := by rw [er.length, line_eq]; exact h4
  refine call_function_entry_kw (kw := []) kind_sorted plain_sorted entry_sorted ha ?_
  unfold Builtin.«sorted»
  refine wpAny_bind (m := checkCount "sorted" 1 1 _) (wpAny_pure ?_)
  refine wpAny_bind (wpAny_mono (hc _ fun h1 tk k1 => ?_) (fun _ _ z => z) (fun _ _ z => z.elim))
  refine wpAny_bind (wpAny_newList ?_ hL)
  generalize hB : h1.objs.size = B
  have hat : (h1.push { cls := .type "list", data := .seq vs.toArray }).get? B = some (seqObj "list" vs.toArray 0) := by
    rw [← hB]
    exact Heap.get?_push_size _ rfl
  have k2 : ∀ b o, s.heap.get? b = some o → (h1.push { cls := .type "list", data := .seq vs.toArray }).get? b = some o := fun b o q => Heap.get?_push_of_some _ (k1 b o q)
  have hlt : ∀ b o, h1.get? b = some o → b ≠ B := fun b o q => by
    rw [← hB]
    exact Nat.ne_of_lt (Heap.lt_size q)
  have kS : ∀ b o, s.heap.get? b = some o → (sortingHeap (h1.push { cls := .type "list", data := .seq vs.toArray }) B vs).get? b = some o := fun b o q =>
    sortingHeap_old (hlt b o (k1 b o q)) (k2 b o q)
  have er' : EachIs (fun v d => ∃ as, Reads (sortingHeap (h1.push { cls := .type "list", data := .seq vs.toArray }) B vs) v (toPy d) as) vs ds := er.mono fun _ _ ⟨as, r⟩ => ⟨as, PyProof.Rows.Reads.keeps kS r⟩
  refine wpAny_bind (wpAny_holding (wpAny_call_entry_kw slot_list_sort ⟨_, hat, rfl⟩ entry_list_sort ?body (args_list_sort _)))
  case body =>
    have S : SortsAt prog w A.in1.in1 { s with heap := sortingHeap (h1.push { cls := .type "list", data := .seq vs.toArray }) B vs, toks := tk } (dataKind (sortingHeap (h1.push { cls := .type "list", data := .seq vs.toArray }) B vs) (ds.map toPy)) vs :=
      SortsAt.data (s := { s with heap := sortingHeap (h1.push { cls := .type "list", data := .seq vs.toArray }) B vs, toks := tk }) (each_map (R := fun v d => ∃ as, Reads (sortingHeap (h1.push { cls := .type "list", data := .seq vs.toArray }) B vs) v d as) toPy er') hal hk (fun d hd => by
        obtain ⟨b, hb, rfl⟩ := List.mem_map.mp hd
        have q := (cmp_shape 8 b (List.all_eq_true.mp h3 b hb)).2
        show A.units + 1 + 1 + _ < cLine
        omega)
    show wpAny (model prog w) A.in1.in1 (Builtin.«list.sort» ⟨[.ref B], []⟩) _ _ _
    refine wpAny_mono (list_sort_vals (P := fun f s' => f = .done (.ret .none) ∧ s' = { s with heap := sortedHeap (h1.push { cls := .type "list", data := .seq vs.toArray }) B vs (sortVals (dataKind (sortingHeap (h1.push { cls := .type "list", data := .seq vs.toArray }) B vs) (ds.map toPy)) false vs vs).toArray, toks := tk }) hat S hL ⟨rfl, rfl⟩) (fun f s' hf => ?_) fun _ _ e => e
    obtain ⟨rfl, rfl⟩ := hf
    refine ⟨_, rfl, wpAny_pure ⟨_, rfl, ?_⟩⟩
    obtain ⟨n, hn⟩ := sortedHeap_at (out := (sortVals (dataKind (sortingHeap (h1.push { cls := .type "list", data := .seq vs.toArray }) B vs) (ds.map toPy)) false vs vs).toArray) hat
    have fin := sortVals_data (enc := toPy) false e er' hal
    rw [sort_eq h1'] at fin
    subst hB
    refine h h1 _ tk n _ k1 (fun b o q => ?_) hn ?_
    · have q2 := Heap.get?_push_of_some ({ cls := .type "list", data := .seq vs.toArray } : Obj) q
      rw [sortedHeap_old (Nat.ne_of_lt (Heap.lt_size q)) (Heap.lt_size q2)]
      exact q2
    · exact fin
end

/-! ### over the layer -/
theorem each_of {K : PySem.W.Frag} {G : Hp} : ∀ {vs : List V} {us : List Value} {ds : List D}, Vals vs us → RpAll K G vs ds → PySem.W.EachIs (fun u d => ∃ v, RelV v u ∧ Rp K G v d) us ds
  | _, _, _, .nil, .nil => .nil
  | _, _, _, .cons r t, .cons a b => .cons ⟨_, r, a⟩ (each_of t b)
theorem of_each {K : PySem.W.Frag} {G : Hp} : ∀ {us : List Value} {ds : List D}, PySem.W.EachIs (fun u d => ∃ v, RelV v u ∧ Rp K G v d) us ds → ∃ vs, Vals vs us ∧ RpAll K G vs ds
  | _, _, .nil => ⟨[], .nil, .nil⟩
  | _, _, .cons ⟨v, r, a⟩ t =>
    let ⟨vs, h1, h2⟩ := of_each t
    ⟨v :: vs, .cons r h1, .cons a h2⟩
section
variable {X : Cx} {pins : List (Addr × Obj)} {σ : L2.St} {H G : Hp} {s : Shared}
theorem reads_of (I : Inv X pins σ H s) (ex : Ex G H) {n : Nat} {us : List Value} {ds : List D} (h : (ds.all (D.cmp n)) = true) (e : PySem.W.EachIs (fun u d => ∃ v, RelV v u ∧ Rp X.K G v d) us ds) : PySem.W.EachIs (fun u d => ∃ as, Reads s.heap u (toPy d) as) us ds := by
  induction e with
  | nil => exact .nil
  | cons a t ih =>
    rw [List.all_cons, Bool.and_eq_true] at h
    obtain ⟨v, r, q⟩ := a
    exact .cons (Dp.reads I _ _ _ (dp_of h.1 (q.mono ex)) r) (ih h.2)
/-- sorted(v), v walked by collect -/
theorem sorted_lay {v : Value} {vs : List Value} {ds : List D} {Q : VK} (I : Inv X pins σ H s) (ex : Ex G H) (hr : X.A.units + 12 < cLine) (ha : argsOk "sorted" ⟨[v], []⟩)
    (hc : ∀ Q' : List Value → Shared → Prop, (∀ (h' : Heap) (tk : Nat), (∀ b o, s.heap.get? b = some o → h'.get? b = some o) → Q' vs { s with heap := h', toks := tk }) → wpAny (model X.prog X.w) X.A.in1 (collect v) Q' (fun _ _ => False) s)
    (e : PySem.W.EachIs (fun u d => ∃ v, RelV v u ∧ Rp X.K G v d) vs ds) (hs : sortable ds = true) (q : ∀ G' H' p, Ext G H G' H' → Rp X.K G' p (.lst (ds.mergeSort D.le)) → Q p H') :
    wpAny (model X.prog X.w) X.A (call (.builtin "sorted") [v]) (EP X pins σ Q) X.xe s := by
  have hs' := hs
  unfold sortable at hs'
  simp only [Bool.and_eq_true, decide_eq_true_eq] at hs'
  refine sorted_gen ha hc e (reads_of I ex hs'.1.2 e) hs hr fun h1 h' tk n out k1 k2 hat eo => ?_
  obtain ⟨ws, rv, ra⟩ := of_each eo
  have I1 : Inv X pins σ H { s with heap := h1, toks := tk } := I.kept k1
  have hf : H h1.objs.size = none := I1.hok.fresh (Nat.le_refl _)
  have hz : ws.length ≤ sizeLine := by
    rw [ra.length, List.length_mergeSort, line_eq]
    exact hs'.2
  have I2 : Inv X pins σ (upd H h1.objs.size (.lst ws)) { s with heap := h', toks := tk } := I1.laid (t' := tk) k2 (Nat.le_refl _) ⟨hz, out, n, rv, hat⟩
  have hn : Ext G H (upd G h1.objs.size (.lst ws)) (upd H h1.objs.size (.lst ws)) := Ext.new ex hf
  exact ⟨.ref h1.objs.size, _, I2, rfl, q _ _ _ hn (.lst (.inl (.inl upd_same)) (ra.mono hn.g))⟩
end
end Bk
end
/-! BkFns -/
section
set_option Elab.async false
set_option linter.all false
set_option autoImplicit false
set_option maxRecDepth 100000
set_option maxHeartbeats 4000000
/-! BkFns: truth, slices, the built-ins of one and of two things -/
namespace Bk
open PySem PySem.Spec PyProof.Rows L2
/-- v stands for d, known for good, or as a list of the def's own -/
inductive Src (K : PySem.W.Frag) (G H : Hp) : V → D → Prop
  | of {v : V} {d : D} : Rp K G v d → Src K G H v d
  | own {a : Addr} {vs : List V} {ds : List D} : SqL K H a vs → RpAll K G vs ds → Src K G H (.ref a) (.lst ds)
section
variable {K : PySem.W.Frag} {G H : Hp}
theorem Src.lst (ex : Ex G H) {v : V} {ds : List D} (h : Src K G H v (.lst ds)) : ∃ a vs, v = .ref a ∧ SqL K H a vs ∧ RpAll K G vs ds := by
  cases h with
  | of r =>
    cases r with
    | lst hs r => exact ⟨_, _, rfl, ex.l hs, r⟩
  | own hs r => exact ⟨_, _, rfl, hs, r⟩
theorem Src.tup {v : V} {ds : List D} (h : Src K G H v (.tup ds)) : ∃ a vs, v = .ref a ∧ SqT K G a vs ∧ RpAll K G vs ds := by
  cases h with
  | of r =>
    cases r with
    | tup hs r => exact ⟨_, _, rfl, hs, r⟩
theorem Src.str {v : V} {s : List Nat} (h : Src K G H v (.str s)) : v = .str (Sx s) := by
  cases h with
  | of r =>
    cases r
    rfl
theorem Src.bool {v : V} {s : Bool} (h : Src K G H v (.bool s)) : v = .bl s := by
  cases h with
  | of r =>
    cases r
    rfl
theorem Src.int {v : V} {s : Int} (h : Src K G H v (.int s)) : v = .int s := by
  cases h with
  | of r =>
    cases r
    rfl
theorem Src.none {v : V} (h : Src K G H v .none) : v = .non := by
  cases h with
  | of r =>
    cases r
    rfl
end
/-- a call of one thing -/
def RU (K : PySem.W.Frag) (u : D → Res D) : List V → Hp → VK → Prop := fun xs H Q => ∃ x G d, xs = [x] ∧ Ex G H ∧ Src K G H x d ∧ (u d).Sat (fun r => ∀ G' H' v, Ext G H G' H' → Rp K G' v r → Q v H') (fun _ => False)
def CallU (X : Cx) (f : Value) (u : D → Res D) : Prop := CallR X f (RU X.K u)
theorem nat_str (s : List Nat) : (Sx s).length = s.length := sx_len s
section
variable {X : Cx}
theorem cu_len : CallU X (.builtin "len") bLen := by
  intro pins s σ H xs us Q I r h
  obtain ⟨x, G, d, rfl, ex, sr, h⟩ := h
  cases d with
  | str t =>
    obtain ⟨hl, h⟩ := sat_if h
    obtain rfl := sr.str
    refine call_len_str pins s σ H _ us Q I r ⟨_, rfl, by rw [sx_len, line_eq]; exact hl, ?_⟩
    rw [sx_len]
    exact h G H _ (Ext.refl ex) (.int _)
  | lst ds =>
    obtain ⟨a, vs, rfl, hs, ra⟩ := sr.lst ex
    refine call_len_seq pins s σ H _ us Q I r ⟨a, vs, rfl, .inl hs, ?_⟩
    rw [ra.length]
    exact h G H _ (Ext.refl ex) (.int _)
  | tup ds =>
    obtain ⟨a, vs, rfl, hs, ra⟩ := sr.tup
    refine call_len_seq pins s σ H _ us Q I r ⟨a, vs, rfl, .inr (ex.t hs), ?_⟩
    rw [ra.length]
    exact h G H _ (Ext.refl ex) (.int _)
  | _ => exact h.elim
theorem cu_int : CallU X (.type "int") bInt := by
  intro pins s σ H xs us Q I r h
  obtain ⟨x, G, d, rfl, ex, sr, h⟩ := h
  cases d with
  | bool b =>
    obtain rfl := sr.bool
    exact call_int1 pins s σ H _ us Q I r (.inr ⟨b, rfl, h G H _ (Ext.refl ex) (.int _)⟩)
  | int i =>
    obtain rfl := sr.int
    exact call_int1 pins s σ H _ us Q I r (.inl ⟨i, rfl, h G H _ (Ext.refl ex) (.int _)⟩)
  | _ => exact h.elim
theorem least_spec : ∀ (r : List Int) (m : Int), least m r ∈ m :: r ∧ ∀ y ∈ m :: r, least m r ≤ y
  | [], m => by simp [least]
  | x :: r, m => by
    rw [least]
    obtain ⟨h1, h2⟩ := least_spec r (if x < m then x else m)
    refine ⟨?_, fun y hy => ?_⟩
    · rcases List.mem_cons.mp h1 with e | e
      · rw [e]
        split <;> simp
      · simp [e]
    · have h3 := h2 _ List.mem_cons_self
      rcases List.mem_cons.mp hy with e | e
      · subst e
        refine Int.le_trans h3 ?_
        split <;> omega
      · rcases List.mem_cons.mp e with e | e
        · subst e
          refine Int.le_trans h3 ?_
          split <;> omega
        · exact h2 y (List.mem_cons_of_mem _ e)
theorem most_spec : ∀ (r : List Int) (m : Int), most m r ∈ m :: r ∧ ∀ y ∈ m :: r, y ≤ most m r
  | [], m => by simp [most]
  | x :: r, m => by
    rw [most]
    obtain ⟨h1, h2⟩ := most_spec r (if m < x then x else m)
    refine ⟨?_, fun y hy => ?_⟩
    · rcases List.mem_cons.mp h1 with e | e
      · rw [e]
        split <;> simp
      · simp [e]
    · have h3 := h2 _ List.mem_cons_self
      rcases List.mem_cons.mp hy with e | e
      · subst e
        refine Int.le_trans ?_ h3
        split <;> omega
      · rcases List.mem_cons.mp e with e | e
        · subst e
          refine Int.le_trans ?_ h3
          split <;> omega
        · exact h2 y (List.mem_cons_of_mem _ e)
theorem cu_min (hc : X.calm = true) : CallU X (.builtin "min") bMin := by
  intro pins s σ H xs us Q I r h
  obtain ⟨x, G, d, rfl, ex, sr, h⟩ := h
  cases d with
  | lst ds =>
    obtain ⟨a, vs, rfl, hs, ra⟩ := sr.lst ex
    cases q : numsL ds with
    | none => simp [bMin, q, Res.Sat] at h
    | some ns =>
      cases ns with
      | nil => simp [bMin, q, Res.Sat] at h
      | cons m t =>
        simp only [bMin, q] at h
        have e := ra.nums q
        subst e
        refine cr_min hc pins s σ H _ us Q I r ⟨a, _, rfl, hs, by simp, fun k hk hle => ?_⟩
        obtain ⟨s1, s2⟩ := least_spec t m
        have ek : k = least m t := Int.le_antisymm (hle _ s1) (s2 _ hk)
        rw [ek]
        exact h G H _ (Ext.refl ex) (.int _)
  | _ => exact h.elim
theorem cu_max (hc : X.calm = true) : CallU X (.builtin "max") bMax := by
  intro pins s σ H xs us Q I r h
  obtain ⟨x, G, d, rfl, ex, sr, h⟩ := h
  cases d with
  | lst ds =>
    obtain ⟨a, vs, rfl, hs, ra⟩ := sr.lst ex
    cases q : numsL ds with
    | none => simp [bMax, q, Res.Sat] at h
    | some ns =>
      cases ns with
      | nil => simp [bMax, q, Res.Sat] at h
      | cons m t =>
        simp only [bMax, q] at h
        have e := ra.nums q
        subst e
        refine cr_max hc pins s σ H _ us Q I r ⟨a, _, rfl, hs, by simp, fun k hk hle => ?_⟩
        obtain ⟨s1, s2⟩ := most_spec t m
        have ek : k = most m t := Int.le_antisymm (s2 _ hk) (hle _ s1)
        rw [ek]
        exact h G H _ (Ext.refl ex) (.int _)
  | _ => exact h.elim
theorem cu_sum (hc : X.calm = true) : CallU X (.builtin "sum") bSum := by
  intro pins s σ H xs us Q I r h
  obtain ⟨x, G, d, rfl, ex, sr, h⟩ := h
  cases d with
  | lst ds =>
    obtain ⟨a, vs, rfl, hs, ra⟩ := sr.lst ex
    cases q : numsL ds with
    | none => simp [bSum, q, Res.Sat] at h
    | some ns =>
      simp only [bSum, q] at h
      have e := ra.nums q
      subst e
      exact cr_sum hc pins s σ H _ us Q I r ⟨a, _, rfl, hs, h G H _ (Ext.refl ex) (.int _)⟩
  | _ => exact h.elim
theorem cu_all (hc : X.calm = true) : CallU X (.builtin "all") bAll := by
  intro pins s σ H xs us Q I r h
  obtain ⟨x, G, d, rfl, ex, sr, h⟩ := h
  cases d with
  | lst ds =>
    obtain ⟨a, vs, rfl, hs, ra⟩ := sr.lst ex
    cases q : boolsL ds with
    | none => simp [bAll, q, Res.Sat] at h
    | some ns =>
      simp only [bAll, q] at h
      have e := ra.bools q
      subst e
      exact cr_all hc pins s σ H _ us Q I r ⟨a, _, rfl, hs, h G H _ (Ext.refl ex) (.bool _)⟩
  | _ => exact h.elim
theorem newL {G H : Hp} {vs : List V} {ds : List D} {Q : VK} {K : PySem.W.Frag} (ex : Ex G H) (ra : RpAll K G vs ds) (h : ∀ G' H' v, Ext G H G' H' → Rp K G' v (.lst ds) → Q v H') : ∀ p, H p = Option.none → Q (.ref p) (upd H p (.lst vs)) := fun p hp =>
  have hn : Ext G H (upd G p (.lst vs)) (upd H p (.lst vs)) := Ext.new ex hp
  h _ _ _ hn (.lst (.inl (.inl upd_same)) (ra.mono hn.g))
theorem newT {G H : Hp} {vs : List V} {ds : List D} {Q : VK} {K : PySem.W.Frag} (ex : Ex G H) (ra : RpAll K G vs ds) (h : ∀ G' H' v, Ext G H G' H' → Rp K G' v (.tup ds) → Q v H') : ∀ p, H p = Option.none → Q (.ref p) (upd H p (.tup vs)) := fun p hp =>
  have hn : Ext G H (upd G p (.tup vs)) (upd H p (.tup vs)) := Ext.new ex hp
  h _ _ _ hn (.tup (.inl (.inl upd_same)) (ra.mono hn.g))
theorem cu_list : CallU X (.type "list") bList := by
  intro pins s σ H xs us Q I r h
  obtain ⟨x, G, d, rfl, ex, sr, h⟩ := h
  cases d with
  | lst ds =>
    obtain ⟨a, vs, rfl, hs, ra⟩ := sr.lst ex
    exact call_list_of pins s σ H _ us Q I r ⟨a, vs, rfl, .inl hs, newL ex ra h⟩
  | tup ds =>
    obtain ⟨a, vs, rfl, hs, ra⟩ := sr.tup
    exact call_list_of pins s σ H _ us Q I r ⟨a, vs, rfl, .inr (ex.t hs), newL ex ra h⟩
  | _ => exact h.elim
theorem cu_tuple : CallU X (.type "tuple") bTuple := by
  intro pins s σ H xs us Q I r h
  obtain ⟨x, G, d, rfl, ex, sr, h⟩ := h
  cases d with
  | lst ds =>
    obtain ⟨a, vs, rfl, hs, ra⟩ := sr.lst ex
    exact call_tuple_of pins s σ H _ us Q I r ⟨a, vs, rfl, .inl ⟨hs, newT ex ra h⟩⟩
  | tup ds =>
    obtain ⟨a, vs, rfl, hs, ra⟩ := sr.tup
    exact call_tuple_of pins s σ H _ us Q I r ⟨a, vs, rfl, .inr ⟨ex.t hs, h G H _ (Ext.refl ex) (.tup hs ra)⟩⟩
  | _ => exact h.elim
theorem cu_sorted (hu : X.A.units + 12 < cLine) : CallU X (.builtin "sorted") bSorted := by
  intro pins s σ H xs us Q I r h
  obtain ⟨x, G, d, rfl, ex, sr, h⟩ := h
  cases d with
  | lst ds =>
    obtain ⟨hs', h⟩ := sat_if h
    obtain ⟨a, vs, rfl, hs, ra⟩ := sr.lst ex
    obtain ⟨u, rfl, ru⟩ := vals1 r
    cases ru
    obtain ⟨its, rv, ⟨o, n, ho, hcl, hdd, hd⟩, hz⟩ := I.list hs
    exact sorted_lay I ex hu (args_sorted1 _) (fun Q' k => wpAny_collect_seq a (.inl rfl) ho hcl hd (fun h' hk => k h' s.toks hk) (by rw [List.size_toArray, ← rv.length]; exact hz)) (each_of rv ra) hs' h
  | tup ds =>
    obtain ⟨hs', h⟩ := sat_if h
    obtain ⟨a, vs, rfl, hs, ra⟩ := sr.tup
    obtain ⟨u, rfl, ru⟩ := vals1 r
    cases ru
    obtain ⟨its, rv, ⟨o, ho, hcl, n, hd⟩, hz⟩ := I.tuple (ex.t hs)
    exact sorted_lay I ex hu (args_sorted1 _) (fun Q' k => wpAny_collect_seq a (.inr rfl) ho hcl hd (fun h' hk => k h' s.toks hk) (by rw [List.size_toArray, ← rv.length]; exact hz)) (each_of rv ra) hs' h
  | _ => exact h.elim
/-- isinstance, a written type -/
def tyN : Ty → String
  | .str => "str"
  | .int => "int"
  | .bool => "bool"
  | .tuple => "tuple"
theorem isi_run {t : Ty} {d : D} {x : V} {H G : Hp} {pins : List (Addr × Obj)} {σ : L2.St} {s : Shared} {us : List Value} {Q : VK} (I : Inv X pins σ H s) (ex : Ex G H) (rp : Rp X.K G x d) (r : Vals [x, .ty (tyN t)] us) (h : (bIs t d).Sat (fun r => ∀ G' H' v, Ext G H G' H' → Rp X.K G' v r → Q v H') (fun _ => False)) :
    wpAny (model X.prog X.w) X.A (call (.builtin "isinstance") us) (EP X pins σ Q) X.xe s := by
  have go : ∀ (T : String) (b : Bool), TyX X.K H x (.type T) → kitB T (tyN t) = some b → Q (.bl b) H → wpAny (model X.prog X.w) X.A (call (.builtin "isinstance") us) (EP X pins σ Q) X.xe s := fun T b ty hk q =>
    call_isi pins s σ H _ us Q I r ⟨x, .ty (tyN t), .type T, .type (tyN t), b, rfl, .ty _, ty, kit_ty hk, q⟩
  cases rp with
  | none => cases t <;> exact go "NoneType" false (.base .non) (by decide +kernel) (h G H _ (Ext.refl ex) (.bool _))
  | bool b =>
    cases t with
    | str => exact go "bool" false (.base (.bl b)) (by decide +kernel) (h G H _ (Ext.refl ex) (.bool _))
    | int => exact go "bool" true (.base (.bl b)) (by decide +kernel) (h G H _ (Ext.refl ex) (.bool _))
    | bool => exact go "bool" true (.base (.bl b)) (by decide +kernel) (h G H _ (Ext.refl ex) (.bool _))
    | tuple => exact go "bool" false (.base (.bl b)) (by decide +kernel) (h G H _ (Ext.refl ex) (.bool _))
  | int b =>
    cases t with
    | str => exact go "int" false (.base (.int b)) (by decide +kernel) (h G H _ (Ext.refl ex) (.bool _))
    | int => exact go "int" true (.base (.int b)) (by decide +kernel) (h G H _ (Ext.refl ex) (.bool _))
    | bool => exact go "int" false (.base (.int b)) (by decide +kernel) (h G H _ (Ext.refl ex) (.bool _))
    | tuple => exact go "int" false (.base (.int b)) (by decide +kernel) (h G H _ (Ext.refl ex) (.bool _))
  | str b =>
    cases t with
    | str => exact go "str" true (.base (.str _)) (by decide +kernel) (h G H _ (Ext.refl ex) (.bool _))
    | int => exact go "str" false (.base (.str _)) (by decide +kernel) (h G H _ (Ext.refl ex) (.bool _))
    | bool => exact go "str" false (.base (.str _)) (by decide +kernel) (h G H _ (Ext.refl ex) (.bool _))
    | tuple => exact go "str" false (.base (.str _)) (by decide +kernel) (h G H _ (Ext.refl ex) (.bool _))
  | lst hs ra =>
    rename_i a0 _ _
    have ty : TyX X.K H (.ref a0) (.type "list") := by
      rcases ex.l hs with (z | ⟨o, z⟩) | ⟨o, its, n, hk, hc, _⟩
      · exact .base (.lst z)
      · exact .base (.frz z)
      · exact .kList hk hc
    cases t <;> exact go "list" false ty (by decide +kernel) (h G H _ (Ext.refl ex) (.bool _))
  | tup hs ra =>
    rename_i a0 _ _
    have ty : TyX X.K H (.ref a0) (.type "tuple") := by
      rcases ex.t hs with (z | ⟨o, z⟩) | ⟨o, its, n, hk, hc, _⟩
      · exact .base (.tup z)
      · exact .fTuple z
      · exact .kTuple hk hc
    cases t with
    | tuple => exact go "tuple" true ty (by decide +kernel) (h G H _ (Ext.refl ex) (.bool _))
    | str => exact go "tuple" false ty (by decide +kernel) (h G H _ (Ext.refl ex) (.bool _))
    | int => exact go "tuple" false ty (by decide +kernel) (h G H _ (Ext.refl ex) (.bool _))
    | bool => exact go "tuple" false ty (by decide +kernel) (h G H _ (Ext.refl ex) (.bool _))
  | dic _ _ => exact h.elim
/-! ### of two things -/
def RB (K : PySem.W.Frag) (b : D → D → Res D) : List V → Hp → VK → Prop := fun xs H Q => ∃ x y G d e, xs = [x, y] ∧ Ex G H ∧ Rp K G x d ∧ Rp K G y e ∧ (b d e).Sat (fun r => ∀ G' H' v, Ext G H G' H' → Rp K G' v r → Q v H') (fun _ => False)
theorem cb_min2 (hc : X.calm = true) : CallR X (.builtin "min") (RB X.K dMin2) := by
  intro pins s σ H xs us Q I r h
  obtain ⟨x, y, G, d, e, rfl, ex, rd, re, h⟩ := h
  cases rd with
  | int i =>
    cases re with
    | int j => exact call_min2 hc pins s σ H _ us Q I r ⟨i, j, rfl, h G H _ (Ext.refl ex) (.int _)⟩
    | _ => exact h.elim
  | _ => cases re <;> exact h.elim
/-! ### truth -/
theorem truth_rp {G H : Hp} {v : V} {d : D} {b : Bool} (ex : Ex G H) (r : Rp X.K G v d) (h : dTruth d = .ok b) : TruV X.K v H b := by
  cases r with
  | none =>
    simp [dTruth] at h
    show b = false
    exact h
  | bool c =>
    simp [dTruth] at h
    show b = c
    exact h.symm
  | int i =>
    simp only [dTruth, Res.ok.injEq] at h
    exact h.symm
  | str t =>
    simp only [dTruth] at h
    by_cases hl : t.length ≤ lim
    · rw [if_pos hl] at h
      injection h with h
      subst h
      refine ⟨by rw [sx_len, line_eq]; exact hl, ?_⟩
      rw [sx_len]
      cases t with
      | nil => rfl
      | cons c r =>
        have z : ((c :: r).length : Int) ≠ 0 := by
          rw [List.length_cons]
          omega
        show true = (((c :: r).length : Int) != 0)
        exact (bne_iff_ne.mpr z).symm
    · rw [if_neg hl] at h
      cases h
  | lst hs ra =>
    rename_i a xs ds
    simp only [dTruth, Res.ok.injEq] at h
    refine .inl ⟨_, ex.l hs, ?_⟩
    rw [← h]
    have := ra.length
    cases xs <;> cases ds <;> simp_all
  | tup hs ra =>
    rename_i a xs ds
    simp only [dTruth, Res.ok.injEq] at h
    refine .inr (.inl ⟨_, ex.t hs, ?_⟩)
    rw [← h]
    have := ra.length
    cases xs <;> cases ds <;> simp_all
  | dic _ _ => simp [dTruth] at h
/-! ### slices -/
theorem sl_eq (n d : Nat) (o : Option Int) : HT.sIx n d o = sl n d o := by
  cases o <;> rfl
theorem cut_eq {vs : List V} {ds : List D} {K : PySem.W.Frag} {G : Hp} (ra : RpAll K G vs ds) (lo hi : Option Int) : RpAll K G (cutV vs lo hi) (cut ds lo hi) := by
  unfold cutV cut
  rw [ra.length, sl_eq, sl_eq]
  exact (ra.drop _).take _
def RS (K : PySem.W.Frag) : V → Option Int → Option Int → Hp → VK → Prop := fun x lo hi H Q => ∃ G d, Ex G H ∧ Rp K G x d ∧ (dCut d lo hi).Sat (fun r => ∀ G' H' v, Ext G H G' H' → Rp K G' v r → Q v H') (fun _ => False)
theorem sl_data : SlR X (RS X.K) := by
  intro pins s σ H x v vl vu lo hi sl Q I rx hs pl pu h
  obtain ⟨G, d, ex, rd, h⟩ := h
  cases rd with
  | str t =>
    obtain ⟨hl, h⟩ := sat_if h
    refine sl_str pins s σ H _ v vl vu lo hi sl Q I rx hs pl pu ⟨_, rfl, by rw [sx_len, line_eq]; exact hl, ?_⟩
    have e : cutS (Sx t) lo hi = Sx (cut t lo hi) := by
      unfold cutS cut
      rw [sx_len, sl_eq, sl_eq]
    rw [e]
    exact h G H _ (Ext.refl ex) (.str _)
  | lst hl ra => exact sl_list pins s σ H _ v vl vu lo hi sl Q I rx hs pl pu ⟨_, _, rfl, ex.l hl, newL ex (cut_eq ra lo hi) h⟩
  | tup hl ra =>
    obtain ⟨hn, h⟩ := sat_if h
    refine sl_tup pins s σ H _ v vl vu lo hi sl Q I rx hs pl pu ⟨_, _, rfl, ex.t hl, ?_, newT ex (cut_eq ra lo hi) h⟩
    rw [ra.length, sl_eq, sl_eq]
    exact hn
  | _ => exact h.elim
end
end Bk
end
/-! BkRules -/
section
set_option Elab.async false
set_option linter.all false
set_option autoImplicit false
set_option maxRecDepth 100000
set_option maxHeartbeats 4000000
/-! BkRules: the rules of expressions and tests -/
namespace Bk
open PySem PySem.Spec PyProof.Rows L2
section
variable {X : Cx} {B : Bs} {a b c e : Expr} {es : List Expr} {pos p : Pos} {f g h : E} {fs : List E} {t u : T}
/-! ### names and constants -/
theorem eVar_sat {i : Nat} {η : Env} {P : D → Prop} {R : Cls → Prop} (q : (eVar i η).Sat P R) : ∃ d, η[i]? = some (some (.dat d)) ∧ P d := by
  unfold eVar at q
  split at q
  · rename_i d e
    exact ⟨d, e, q⟩
  · exact q.elim
theorem pv (i : Nat) {x : Str} (hN : X.N[i]? = some x := by rfl) (hv : Vis X.env.scope x := by first | exact Or.inl rfl | exact Or.inr (Or.inl rfl) | exact Or.inr (Or.inr rfl)) (hd : (x == ("__debug__" : Str)) = false := by decide)
    (hcd : (x == ("__classdict__" : Str)) = false := by decide) : PE X (.Name x pos) (tX X.K B (eVar i)) := pe_weak (pe_var hN hv hd hcd) fun σ H Q q => by
  obtain ⟨G, η, r, q⟩ := q
  obtain ⟨d, e, q⟩ := eVar_sat q
  obtain ⟨v, h1, h2⟩ := r.dat e
  exact ⟨v, h1, q G H v (Ext.refl r.exg) h2⟩
theorem pc_weak {d : D} {v : V} {e : Expr} (h : PE X e (tC v)) (r : ∀ G, Rp X.K G v d) : PE X e (tX X.K B (eC d)) := pe_weak h fun σ H Q q => by
  obtain ⟨G, η, rp, q⟩ := q
  exact q G H v (Ext.refl rp.exg) (r G)
theorem pv_int {i : Int} {j : Nat} : PE X (.Constant (.int i) j pos) (tX X.K B (eC (.int i))) := pc_weak pe_int fun _ => .int i
theorem pv_bl {i : Bool} {j : Nat} : PE X (.Constant (.bool i) j pos) (tX X.K B (eC (.bool i))) := pc_weak pe_bl fun _ => .bool i
theorem pv_non {j : Nat} : PE X (.Constant .none j pos) (tX X.K B (eC .none)) := pc_weak pe_non fun _ => .none
theorem pv_str (l : List Nat) {x : Str} {j : Nat} (hx : x = Sx l := by decide +kernel) : PE X (.Constant (.str x) j pos) (tX X.K B (eC (.str l))) := pc_weak pe_str fun _ => by
  rw [hx]
  exact .str l
/-! ### operators -/
theorem bin_weak {bo : D → D → Res D} {σ : L2.St} {H : Hp} {Q : VK} (q : tX X.K B (eBin bo f g) σ H Q) : tOp (RD X.K bo) (tX X.K B f) (tX X.K B g) σ H Q := by
  obtain ⟨G, η, r, q⟩ := q
  refine tX.of r (sat_bind q) fun x hx G1 H1 v e1 r1 => ?_
  refine tX.of (r.extd e1) (sat_bind hx) fun y hy G2 H2 w e2 r2 => ?_
  exact ⟨G2, x, y, e2.gh, r1.mono e2.g, r2, Sat.mono (sat_calm hy) (fun d q G' H' u e3 r3 => q G' H' u ((e1.trans e2).trans e3) r3) fun _ z => z⟩
theorem pv_bin {op : Operator} {bo : D → D → Res D} (ho : OpD X (binaryOp op) bo) (ha : PE X a (tX X.K B f)) (hb : PE X b (tX X.K B g)) : PE X (.BinOp a op b pos) (tX X.K B (eBin bo f g)) :=
  pe_weak (pe_op ho ha hb) fun _ _ _ q => bin_weak q
theorem pv_add (ha : PE X a (tX X.K B f)) (hb : PE X b (tX X.K B g)) : PE X (.BinOp a .Add b pos) (tX X.K B (eBin dAdd f g)) := pv_bin od_add ha hb
theorem pv_sub (ha : PE X a (tX X.K B f)) (hb : PE X b (tX X.K B g)) : PE X (.BinOp a .Sub b pos) (tX X.K B (eBin dSub f g)) := pv_bin od_sub ha hb
theorem pv_mul (ha : PE X a (tX X.K B f)) (hb : PE X b (tX X.K B g)) : PE X (.BinOp a .Mult b pos) (tX X.K B (eBin dMul f g)) := pv_bin od_mul ha hb
theorem pv_div (ha : PE X a (tX X.K B f)) (hb : PE X b (tX X.K B g)) : PE X (.BinOp a .FloorDiv b pos) (tX X.K B (eBin dDiv f g)) := pv_bin od_div ha hb
theorem pv_mod (ha : PE X a (tX X.K B f)) (hb : PE X b (tX X.K B g)) : PE X (.BinOp a .Mod b pos) (tX X.K B (eBin dMod f g)) := pv_bin od_mod ha hb
theorem pv_pow (ha : PE X a (tX X.K B f)) (hb : PE X b (tX X.K B g)) : PE X (.BinOp a .Pow b pos) (tX X.K B (eBin dPow f g)) := pv_bin od_pow ha hb
/-- of one thing -/
theorem un_sat {u : D → Res D} {η : Env} {P : D → Prop} {R : Cls → Prop} (q : (eUn u f η).Sat P R) : (f η).Sat (fun x => ∀ R', (u x).Sat P R') R := Sat.mono (sat_bind q) (fun x hx R' => sat_calm hx) fun _ z => z
theorem pv_neg (ha : PE X a (tX X.K B f)) : PE X (.UnaryOp .USub a pos) (tX X.K B (eUn dNeg f)) := pe_weak (pe_un un_neg ha) fun σ H Q q => by
  obtain ⟨G, η, r, q⟩ := q
  refine tX.of r (un_sat q) fun x hx G1 H1 v e1 r1 => ?_
  have hx := hx fun _ => False
  cases r1 with
  | int i => exact ⟨i, rfl, hx G1 H1 _ e1 (.int _)⟩
  | _ => exact hx.elim
/-! ### comparisons -/
theorem pv_cmp {op : CmpOp} {bo : D → D → Res D} (ho : OpD X (compareOp op) bo) (ha : PE X a (tX X.K B f)) (hb : PE X b (tX X.K B g)) (hm : behindInMarks op b = false := by rfl) : PE X (.Compare a [op] [b] pos) (tX X.K B (eBin bo f g)) :=
  pe_weak (pe_cmpR ho ha hb hm) fun _ _ _ q => bin_weak q
theorem bool_sat {η : Env} {P : Bool → Prop} {R : Cls → Prop} (q : ((f η).bind asBool).Sat P R) : (f η).Sat (fun x => ∃ k, x = .bool k ∧ P k) R := by
  refine Sat.mono (sat_bind q) (fun x hx => ?_) fun _ z => z
  cases x with
  | bool k => exact ⟨k, rfl, hx⟩
  | _ => exact hx.elim
theorem tv_cmp {op : CmpOp} {bo : D → D → Res D} (ho : OpD X (compareOp op) bo) (ha : PE X a (tX X.K B f)) (hb : PE X b (tX X.K B g)) (hm : behindInMarks op b = false := by rfl) : PT X (.Compare a [op] [b] pos) (tT X.K B (tE (eBin bo f g))) :=
  pt_weak (pt_cmpR ho ha hb hm) fun σ H Q q => by
    obtain ⟨G, η, r, q⟩ := q
    refine bin_weak (B := B) (tX.of r (bool_sat q) fun x hx G1 H1 v e1 r1 => ?_)
    obtain ⟨k, rfl, q⟩ := hx
    cases r1
    exact ⟨k, rfl, q G1 H1 e1⟩
theorem chain_weak {r r' : D → D → Res D} {σ : L2.St} {H : Hp} {Q : VK} (q : tX X.K B (eChain r r' f g h) σ H Q) : tChain (RD X.K r) (RD X.K r') (tX X.K B f) (tX X.K B g) (tX X.K B h) σ H Q := by
  obtain ⟨G, η, rp, q⟩ := q
  refine tX.of rp (sat_bind q) fun x hx G1 H1 v e1 r1 => ?_
  refine tX.of (rp.extd e1) (sat_bind hx) fun y hy G2 H2 w e2 r2 => ?_
  refine ⟨G2, x, y, e2.gh, r1.mono e2.g, r2, Sat.mono (sat_calm (sat_bind hy)) (fun z hz G3 H3 v3 e3 r3 => ?_) fun _ z => z⟩
  cases r3 with
  | bool k =>
    refine ⟨k, rfl, ?_⟩
    cases k with
    | false =>
      rw [if_neg Bool.false_ne_true]
      exact hz G3 H3 _ ((e1.trans e2).trans e3) (.bool _)
    | true =>
      rw [if_pos rfl]
      refine tX.of (((rp.extd e1).extd e2).extd e3) (sat_bind hz) fun z' hz' G4 H4 v4 e4 r4 => ?_
      exact ⟨G4, y, z', e4.gh, (r2.mono e3.g).mono e4.g, r4, Sat.mono (sat_calm hz') (fun d q G' H' u e5 r5 => q G' H' u ((((e1.trans e2).trans e3).trans e4).trans e5) r5) fun _ z => z⟩
  | _ => exact hz.elim
theorem tv_chain {op op' : CmpOp} {r r' : D → D → Res D} (ho : OpD X (compareOp op) r) (ho' : OpD X (compareOp op') r') (ha : PE X a (tX X.K B f)) (hb : PE X b (tX X.K B g)) (hc : PE X c (tX X.K B h))
    (hm : lastMarks [op, op'] [b, c] = false := by with_unfolding_all rfl) : PT X (.Compare a [op, op'] [b, c] pos) (tT X.K B (tE (eChain r r' f g h))) :=
  pt_weak (pt_chain ho ho' ha hb hc hm) fun σ H Q q => by
    obtain ⟨G, η, rp, q⟩ := q
    refine chain_weak (B := B) (tX.of rp (bool_sat q) fun x hx G1 H1 v e1 r1 => ?_)
    obtain ⟨k, rfl, q⟩ := hx
    cases r1
    exact ⟨k, rfl, q G1 H1 e1⟩
/-! ### and, or, not as values -/
theorem pv_last {op} (ha : PE X a (tX X.K B f)) : PE X (.BoolOp op [a] pos) (tX X.K B f) := pe_one ha
theorem pv_and {rest : List Expr} (ha : PE X a (tX X.K B f)) (hb : PE X (.BoolOp .And (b :: rest) pos) (tX X.K B g)) : PE X (.BoolOp .And (a :: b :: rest) pos) (tX X.K B (eAnd f g)) := pe_weak (pe_and ha hb) fun σ H Q q => by
  obtain ⟨G, η, r, q⟩ := q
  refine tX.of r (sat_bind q) fun x hx G1 H1 v e1 r1 => ?_
  cases r1 with
  | bool k =>
    refine ⟨k, rfl, ?_⟩
    cases k with
    | false =>
      rw [if_neg Bool.false_ne_true]
      exact hx G1 H1 _ e1 (.bool _)
    | true =>
      rw [if_pos rfl]
      exact ⟨G1, η, r.extd e1, Sat.mono hx (fun d q G' H' u e3 r3 => q G' H' u (e1.trans e3) r3) fun _ z => z⟩
  | _ => exact hx.elim
theorem pv_or {rest : List Expr} (ha : PE X a (tX X.K B f)) (hb : PE X (.BoolOp .Or (b :: rest) pos) (tX X.K B g)) : PE X (.BoolOp .Or (a :: b :: rest) pos) (tX X.K B (eOr f g)) := pe_weak (pe_or ha hb) fun σ H Q q => by
  obtain ⟨G, η, r, q⟩ := q
  refine tX.of r (sat_bind q) fun x hx G1 H1 v e1 r1 => ?_
  cases r1 with
  | bool k =>
    refine ⟨k, rfl, ?_⟩
    cases k with
    | true =>
      rw [if_pos rfl]
      exact hx G1 H1 _ e1 (.bool _)
    | false =>
      rw [if_neg Bool.false_ne_true]
      exact ⟨G1, η, r.extd e1, Sat.mono hx (fun d q G' H' u e3 r3 => q G' H' u (e1.trans e3) r3) fun _ z => z⟩
  | _ => exact hx.elim
theorem pv_not (ha : PE X a (tX X.K B f)) : PE X (.UnaryOp .Not a pos) (tX X.K B (eNot f)) := pe_weak (pe_not ha) fun σ H Q q => by
  obtain ⟨G, η, r, q⟩ := q
  refine tX.of r (sat_bind q) fun x hx G1 H1 v e1 r1 => ?_
  cases r1 with
  | bool k => exact ⟨k, rfl, hx G1 H1 _ e1 (.bool _)⟩
  | _ => exact hx.elim
/-! ### tests -/
theorem tv_val (ha : PE X a (tX X.K B f)) (he : ∀ whole, isTrue a X.env whole = (do let v ← whole; standAt a.pos; holding [v] (truthy v)) := by intro _; rfl) : PT X a (tT X.K B (tE f)) := pt_weak (pt_val ha he) fun σ H Q q => by
  obtain ⟨G, η, r, q⟩ := q
  refine tX.of r (bool_sat q) fun x hx G1 H1 v e1 r1 => ?_
  obtain ⟨k, rfl, q⟩ := hx
  cases r1
  exact ⟨k, rfl, q G1 H1 e1⟩
theorem tv_truth (ha : PE X a (tX X.K B f)) (he : ∀ whole, isTrue a X.env whole = (do let v ← whole; standAt a.pos; holding [v] (truthy v)) := by intro _; rfl) : PT X a (tT X.K B (tV f)) := pt_weak (pt_truth ha he) fun σ H Q q => by
  obtain ⟨G, η, r, q⟩ := q
  refine tX.of r (sat_bind q) fun x hx G1 H1 v e1 r1 => ?_
  cases z : dTruth x with
  | ok k =>
    rw [z] at hx
    exact ⟨k, truth_rp e1.gh r1 z, hx G1 H1 e1⟩
  | raise c =>
    cases x <;> simp [dTruth] at z
    split at z <;> cases z
  | bad =>
    rw [z] at hx
    exact hx.elim
theorem tv_own (i : Nat) {x : Str} (hN : X.N[i]? = some x := by rfl) (hv : Vis X.env.scope x := by first | exact Or.inl rfl | exact Or.inr (Or.inl rfl) | exact Or.inr (Or.inr rfl)) (hd : (x == ("__debug__" : Str)) = false := by decide)
    (hcd : (x == ("__classdict__" : Str)) = false := by decide) (he : ∀ whole, isTrue (.Name x pos) X.env whole = (do let v ← whole; standAt (Expr.Name x pos).pos; holding [v] (truthy v)) := by intro _; rfl) : PT X (.Name x pos) (tT X.K B (tOwn i)) := pt_weak (pt_truth (pe_var hN hv hd hcd) he) fun σ H Q q => by
  obtain ⟨G, η, r, q⟩ := q
  unfold tOwn at q
  split at q
  · rename_i ds e
    obtain ⟨v, h1, w, vs, rfl, h0, hg, hh, ra⟩ := r.slot _ _ e
    refine ⟨_, h1, _, .inl ⟨vs, .inl (.inl hh), rfl⟩, ?_⟩
    have e2 : (!vs.isEmpty) = !ds.isEmpty := by
      have := ra.length
      cases vs <;> cases ds <;> simp_all
    rw [e2]
    exact q G H (Ext.refl r.exg)
  · exact q.elim
theorem tv_not (ha : PT X a (tT X.K B t)) : PT X (.UnaryOp .Not a pos) (tT X.K B (tNot t)) := pt_weak (pt_not ha) fun σ H Q q => by
  obtain ⟨G, η, r, q⟩ := q
  exact tT.of r (sat_bind q) fun k hk G1 H1 e1 => hk G1 H1 e1
theorem tw_one1 (ha : PT X a (tT X.K B t)) : PW X (.BoolOp .And [a] pos) (tT X.K B t) := pw_and1 ha
theorem tw_one0 (ha : PT X a (tT X.K B t)) : PW X (.BoolOp .Or [a] pos) (tT X.K B t) := pw_or1 ha
theorem tw_and {rest : List Expr} (ha : PT X a (tT X.K B t)) (hb : PW X (.BoolOp .And (b :: rest) pos) (tT X.K B u)) : PW X (.BoolOp .And (a :: b :: rest) pos) (tT X.K B (tAnd t u)) := pw_weak (pw_and ha hb) fun σ H Q q => by
  obtain ⟨G, η, r, q⟩ := q
  refine tT.of r (sat_bind q) fun k hk G1 H1 e1 => ?_
  cases k with
  | false =>
    rw [if_neg Bool.false_ne_true]
    exact hk G1 H1 e1
  | true =>
    rw [if_pos rfl]
    exact ⟨G1, η, r.extd e1, Sat.mono hk (fun d q G' H' e3 => q G' H' (e1.trans e3)) fun _ z => z⟩
theorem tw_or {rest : List Expr} (ha : PT X a (tT X.K B t)) (hb : PW X (.BoolOp .Or (b :: rest) pos) (tT X.K B u)) : PW X (.BoolOp .Or (a :: b :: rest) pos) (tT X.K B (tOr t u)) := pw_weak (pw_or ha hb) fun σ H Q q => by
  obtain ⟨G, η, r, q⟩ := q
  refine tT.of r (sat_bind q) fun k hk G1 H1 e1 => ?_
  cases k with
  | true =>
    rw [if_pos rfl]
    exact hk G1 H1 e1
  | false =>
    rw [if_neg Bool.false_ne_true]
    exact ⟨G1, η, r.extd e1, Sat.mono hk (fun d q G' H' e3 => q G' H' (e1.trans e3)) fun _ z => z⟩
theorem tw_pt {e : Expr} {t : TT} (h : PW X e t) : PT X e t := h.pt
/-! ### arguments, displays -/
theorem pas_nil : PA X [] (tA X.K B []) := pa_weak pa_nil fun σ H Q q => by
  obtain ⟨G, η, r, q⟩ := q
  exact q G H [] (Ext.refl r.exg) .nil
theorem pas_cons (ha : PE X a (tX X.K B f)) (hr : PA X es (tA X.K B fs)) (hs : starEach (a :: es) X.env = (false, eval a X.env) :: starEach es X.env := by rfl) : PA X (a :: es) (tA X.K B (f :: fs)) := pa_weak (pa_cons ha hr hs) fun σ H Q q => by
  obtain ⟨G, η, r, q⟩ := q
  refine tX.of r (sat_bind q) fun x hx G1 H1 v e1 r1 => ?_
  refine tA.of (r.extd e1) (sat_bind hx) fun xs hxs G2 H2 vs e2 r2 => ?_
  exact hxs G2 H2 (v :: vs) (e1.trans e2) (.cons (r1.mono e2.g) r2)
theorem evals_len {η : Env} : ∀ {fs : List E} {P : List D → Prop} {R : Cls → Prop}, (evals fs η).Sat P R → (evals fs η).Sat (fun ds => ds.length = fs.length ∧ P ds) R
  | [], _, _, q => ⟨rfl, q⟩
  | f :: r, P, R, q => by
    show ((f η).bind fun x => (evals r η).bind fun xs => .ok (x :: xs)).Sat _ _
    have q1 : ((f η).bind fun x => (evals r η).bind fun xs => .ok (x :: xs)).Sat P R := q
    cases h1 : f η with
    | ok x =>
      rw [h1] at q1
      rw [bind_ok] at q1 ⊢
      have q2 := evals_len (sat_bind q1)
      cases h2 : evals r η with
      | ok xs =>
        rw [h2] at q2
        exact ⟨by rw [List.length_cons, List.length_cons, q2.1], q2.2⟩
      | raise c =>
        rw [h2] at q2
        exact q2
      | bad =>
        rw [h2] at q2
        exact q2
    | raise c =>
      rw [h1] at q1
      exact q1
    | bad =>
      rw [h1] at q1
      exact q1
theorem pv_tup {k : Nat} (ha : PA X es (tA X.K B fs)) (hl : fs.length ≤ 1000 := by first | decide | simp) : PE X (.Tuple es k pos) (tX X.K B (eTup fs)) := pe_weak (pe_tup ha) fun σ H Q q => by
  obtain ⟨G, η, r, q⟩ := q
  refine tA.of r (evals_len (sat_bind q)) fun ds hds G1 H1 vs e1 r1 => ?_
  refine ⟨by rw [r1.length, hds.1, line_eq]; show fs.length ≤ 16777216; omega, newT e1.gh r1 fun G' H' v e2 r2 => hds.2 G' H' v (e1.trans e2) r2⟩
theorem pv_lst (ha : PA X es (tA X.K B fs)) (hl : fs.length ≤ 1000 := by first | decide | simp) : PE X (.List es pos) (tX X.K B (eLst fs)) := pe_weak (pe_lst ha) fun σ H Q q => by
  obtain ⟨G, η, r, q⟩ := q
  refine tA.of r (evals_len (sat_bind q)) fun ds hds G1 H1 vs e1 r1 => ?_
  refine ⟨by rw [r1.length, hds.1, line_eq]; show fs.length ≤ 16777216; omega, newL e1.gh r1 fun G' H' v e2 r2 => hds.2 G' H' v (e1.trans e2) r2⟩
/-! ### places and slices -/
theorem pv_ix (ha : PE X a (tX X.K B f)) (hb : PE X b (tX X.K B g)) (hs : PlainIx b := by exact fun _ _ => rfl) : PE X (.Subscript a b pos) (tX X.K B (eBin dIdx f g)) := pe_weak (pe_ix ix_data ha hb hs) fun _ _ _ q => bin_weak q
/-- the def's own list at a place -/
theorem pv_ixO (i : Nat) {x : Str} (hb : PE X b (tX X.K B g)) (hs : PlainIx b := by exact fun _ _ => rfl) (hN : X.N[i]? = some x := by rfl) (hv : Vis X.env.scope x := by first | exact Or.inl rfl | exact Or.inr (Or.inl rfl) | exact Or.inr (Or.inr rfl)) (hd : (x == ("__debug__" : Str)) = false := by decide)
    (hcd : (x == ("__classdict__" : Str)) = false := by decide) : PE X (.Subscript (.Name x p) b pos) (tX X.K B (eOwnB dIdx i g)) := pe_weak (pe_ix ix_list (pe_var hN hv hd hcd) hb hs) fun σ H Q q => by
  obtain ⟨G, η, r, q⟩ := q
  unfold eOwnB at q
  split at q
  · rename_i ds e
    obtain ⟨v, h1, _⟩ := r.slot _ _ e
    refine ⟨v, h1, tX.of r (sat_bind q) fun y hy G1 H1 w e1 r1 => ?_⟩
    obtain ⟨v', h1', aa, vs, ev, h0, hg, hh, ra⟩ := (r.extd e1).slot _ _ e
    rw [h1] at h1'
    cases h1'
    subst ev
    have hy := sat_calm (R' := fun _ => False) hy
    cases r1 with
    | int k =>
      cases z : at? ds k with
      | none => simp [dIdx, z, Res.Sat] at hy
      | some d =>
        simp only [dIdx, z] at hy
        obtain ⟨w', k1, k2⟩ := at_rp ra z
        exact ⟨aa, vs, k, w', rfl, rfl, .inl (.inl hh), k1, hy G1 H1 _ e1 k2⟩
    | _ => exact hy.elim
  · exact q.elim
def tP (K : PySem.W.Frag) (B : Bs) (o : Option E) : TO := fun σ H Q => ∃ G η, RpE K B.G0 B.H0 G H σ η ∧ (ePart o η).Sat (fun d => ∀ G' H', Ext G H G' H' → Q d H') (Rz B)
theorem po_weak {e : Option Expr} {t t' : TO} (h : PO X e t) (w : ∀ σ H Q, t' σ H Q → t σ H Q) : PO X e t' := ⟨fun pins s σ H Q I q => h.run pins s σ H Q I (w σ H Q q)⟩
theorem ps0 : PO X none (tP X.K B none) := po_weak po_none fun σ H Q q => by
  obtain ⟨G, η, r, q⟩ := q
  exact q G H (Ext.refl r.exg)
theorem ps1 (ha : PE X a (tX X.K B f)) : PO X (some a) (tP X.K B (some f)) := po_weak (po_some ha) fun σ H Q q => by
  obtain ⟨G, η, r, q⟩ := q
  refine tX.of r (sat_bind q) fun x hx G1 H1 v e1 r1 => ?_
  cases r1 with
  | int i => exact ⟨i, rfl, hx G1 H1 e1⟩
  | _ => exact hx.elim
theorem pv_sl {lo hi : Option Expr} {l m : Option E} {p2 : Pos} (ha : PE X a (tX X.K B f)) (hl : PO X lo (tP X.K B l)) (hh : PO X hi (tP X.K B m)) : PE X (.Subscript a (.Slice lo hi none p2) pos) (tX X.K B (eSlice f l m)) := pe_weak (pe_slice sl_data ha hl hh) fun σ H Q q => by
  obtain ⟨G, η, r, q⟩ := q
  refine tX.of r (sat_bind q) fun x hx G1 H1 v e1 r1 => ?_
  refine ⟨G1, η, r.extd e1, Sat.mono (sat_bind hx) (fun lo' hlo G2 H2 e2 => ?_) fun _ z => z⟩
  refine ⟨G2, η, (r.extd e1).extd e2, Sat.mono (sat_bind hlo) (fun hi' hhi G3 H3 e3 => ?_) fun _ z => z⟩
  refine ⟨G3, x, e3.gh, (r1.mono e2.g).mono e3.g, ?_⟩
  exact Sat.mono (sat_calm hhi) (fun d q G' H' u e4 r4 => q G' H' u (((e1.trans e2).trans e3).trans e4) r4) fun _ z => z
theorem pv_rev {k : Nat} {p1 p2 p3 : Pos} (ha : PE X a (tX X.K B f)) : PE X (.Subscript a (.Slice none none (some (.UnaryOp .USub (.Constant (.int 1) k p1) p2)) p3) pos) (tX X.K B (eUn bRev f)) := pe_weak (pe_revL ha) fun σ H Q q => by
  obtain ⟨G, η, r, q⟩ := q
  refine tX.of r (un_sat q) fun x hx G1 H1 v e1 r1 => ?_
  have hx := hx fun _ => False
  cases r1 with
  | lst hs ra => exact ⟨_, _, rfl, e1.gh.l hs, newL e1.gh ra.reverse fun G' H' v e2 r2 => hx G' H' v (e1.trans e2) r2⟩
  | _ => exact hx.elim
/-! ### calls of built-ins -/
section
variable {x : Str} {id Ty' : String} {u : D → Res D}
theorem ru_weak {r : List V → Hp → VK → Prop} {σ : L2.St} {H : Hp} {Q : VK} (q : tX X.K B (eUn u f) σ H Q) : tCB (RU X.K u) (tCons (tX X.K B f) tNil) σ H Q := by
  obtain ⟨G, η, r, q⟩ := q
  refine tX.of r (un_sat q) fun x hx G1 H1 v e1 r1 => ?_
  exact ⟨v, G1, x, rfl, e1.gh, .of r1, Sat.mono (hx fun _ => False) (fun d q G' H' u e2 r2 => q G' H' u (e1.trans e2) r2) fun _ z => z⟩
theorem pv_b1 (hc : CallU X (.builtin id) u) (hm : X.mg x = none) (ha : PE X a (tX X.K B f)) (hg : Gl X x := by rfl) (hv : bootBuiltins x = some (.builtin id) := by decide +kernel) (hn : x ≠ "__name__" := by decide) (hdb : (x == ("__debug__" : Str)) = false := by decide)
    (h0 : starEach [a] X.env = (false, eval a X.env) :: starEach [] X.env := by rfl) (hpl : (backTo pos (starEach [] X.env)).any (·.1) = false := by rfl) : PE X (.Call (.Name x p) [a] [] pos) (tX X.K B (eUn u f)) :=
  pe_weak (pe_callB hc hg hm hv (pa_cons ha pa_nil h0) hn hdb h0 hpl) fun _ _ _ q => ru_weak (r := RU X.K u) q
theorem pv_t1 (hc : CallU X (.type Ty') u) (hm : X.mg x = none) (ha : PE X a (tX X.K B f)) (hg : Gl X x := by rfl) (hv : bootBuiltins x = some (.type Ty') := by decide +kernel) (hn : x ≠ "__name__" := by decide) (hdb : (x == ("__debug__" : Str)) = false := by decide)
    (h0 : starEach [a] X.env = (false, eval a X.env) :: starEach [] X.env := by rfl) (hpl : (backTo pos (starEach [] X.env)).any (·.1) = false := by rfl) : PE X (.Call (.Name x p) [a] [] pos) (tX X.K B (eUn u f)) :=
  pe_weak (pe_callTy hc hg hm hv (pa_cons ha pa_nil h0) hn hdb h0 hpl) fun _ _ _ q => ru_weak (r := RU X.K u) q
theorem own_sat {i : Nat} {η : Env} {P : D → Prop} {R : Cls → Prop} (q : (eOwn u i η).Sat P R) : ∃ ds, η[i]? = some (some (.own ds)) ∧ ∀ R', (u (.lst ds)).Sat P R' := by
  unfold eOwn at q
  split at q
  · rename_i ds e
    exact ⟨ds, e, fun R' => sat_calm q⟩
  · exact q.elim
theorem ro_weak {i : Nat} {σ : L2.St} {H : Hp} {Q : VK} (q : tX X.K B (eOwn u i) σ H Q) : tCB (RU X.K u) (tCons (tVar i) tNil) σ H Q := by
  obtain ⟨G, η, r, q⟩ := q
  obtain ⟨ds, e, q⟩ := own_sat q
  obtain ⟨v, h1, aa, vs, rfl, h0, hg, hh, ra⟩ := r.slot _ _ e
  exact ⟨_, h1, _, G, _, rfl, r.exg, .own (.inl (.inl hh)) ra, q fun _ => False⟩
theorem pv_b1O (i : Nat) {y : Str} {py : Pos} (hc : CallU X (.builtin id) u) (hm : X.mg x = none) (hg : Gl X x := by rfl) (hv : bootBuiltins x = some (.builtin id) := by decide +kernel) (hN : X.N[i]? = some y := by rfl) (hy : Vis X.env.scope y := by first | exact Or.inl rfl | exact Or.inr (Or.inl rfl) | exact Or.inr (Or.inr rfl)) (hd : (y == ("__debug__" : Str)) = false := by decide)
    (hcd : (y == ("__classdict__" : Str)) = false := by decide) (hn : x ≠ "__name__" := by decide) (hdb : (x == ("__debug__" : Str)) = false := by decide)
    (h0 : starEach [.Name y py] X.env = (false, eval (.Name y py) X.env) :: starEach [] X.env := by rfl) (hpl : (backTo pos (starEach [] X.env)).any (·.1) = false := by rfl) : PE X (.Call (.Name x p) [.Name y py] [] pos) (tX X.K B (eOwn u i)) :=
  pe_weak (pe_callB hc hg hm hv (pa_cons (pe_var hN hy hd hcd) pa_nil h0) hn hdb h0 hpl) fun _ _ _ q => ro_weak q
theorem pv_t1O (i : Nat) {y : Str} {py : Pos} (hc : CallU X (.type Ty') u) (hm : X.mg x = none) (hg : Gl X x := by rfl) (hv : bootBuiltins x = some (.type Ty') := by decide +kernel) (hN : X.N[i]? = some y := by rfl) (hy : Vis X.env.scope y := by first | exact Or.inl rfl | exact Or.inr (Or.inl rfl) | exact Or.inr (Or.inr rfl)) (hd : (y == ("__debug__" : Str)) = false := by decide)
    (hcd : (y == ("__classdict__" : Str)) = false := by decide) (hn : x ≠ "__name__" := by decide) (hdb : (x == ("__debug__" : Str)) = false := by decide)
    (h0 : starEach [.Name y py] X.env = (false, eval (.Name y py) X.env) :: starEach [] X.env := by rfl) (hpl : (backTo pos (starEach [] X.env)).any (·.1) = false := by rfl) : PE X (.Call (.Name x p) [.Name y py] [] pos) (tX X.K B (eOwn u i)) :=
  pe_weak (pe_callTy hc hg hm hv (pa_cons (pe_var hN hy hd hcd) pa_nil h0) hn hdb h0 hpl) fun _ _ _ q => ro_weak q
/-- min(a, b) -/
theorem pv_b2 {bo : D → D → Res D} (hc : CallR X (.builtin id) (RB X.K bo)) (hm : X.mg x = none) (ha : PE X a (tX X.K B f)) (hb : PE X b (tX X.K B g)) (hg : Gl X x := by rfl) (hv : bootBuiltins x = some (.builtin id) := by decide +kernel) (hn : x ≠ "__name__" := by decide) (hdb : (x == ("__debug__" : Str)) = false := by decide)
    (h0 : starEach [a, b] X.env = (false, eval a X.env) :: starEach [b] X.env := by rfl) (h1 : starEach [b] X.env = (false, eval b X.env) :: starEach [] X.env := by rfl) (hpl : (backTo pos (starEach [b] X.env)).any (·.1) = false := by rfl) : PE X (.Call (.Name x p) [a, b] [] pos) (tX X.K B (eBin bo f g)) :=
  pe_weak (pe_callB hc hg hm hv (pa_cons ha (pa_cons hb pa_nil h1) h0) hn hdb h0 hpl) fun σ H Q q => by
    obtain ⟨G, η, r, q⟩ := q
    refine tX.of r (sat_bind q) fun x hx G1 H1 v e1 r1 => ?_
    refine tX.of (r.extd e1) (sat_bind hx) fun y hy G2 H2 w e2 r2 => ?_
    exact ⟨v, w, G2, x, y, rfl, e2.gh, r1.mono e2.g, r2, Sat.mono (sat_calm hy) (fun d q G' H' u e3 r3 => q G' H' u ((e1.trans e2).trans e3) r3) fun _ z => z⟩
/-- isinstance(a, T) -/
theorem pv_isi (ty : Ty) {y : Str} {py : Pos} (hm : X.mg "isinstance" = none) (hm2 : X.mg y = none) (ha : PE X a (tX X.K B f)) (hv2 : bootBuiltins y = some (.type (tyN ty)) := by decide +kernel) (hg : Gl X "isinstance" := by rfl) (hg2 : Gl X y := by rfl) (hn2 : y ≠ "__name__" := by decide) (hdb2 : (y == ("__debug__" : Str)) = false := by decide)
    (h0 : starEach [a, .Name y py] X.env = (false, eval a X.env) :: starEach [.Name y py] X.env := by rfl) (h1 : starEach [.Name y py] X.env = (false, eval (.Name y py) X.env) :: starEach [] X.env := by rfl) (hpl : (backTo pos (starEach [.Name y py] X.env)).any (·.1) = false := by rfl) :
    PE X (.Call (.Name "isinstance" p) [a, .Name y py] [] pos) (tX X.K B (eUn (bIs ty) f)) := by
  have hc : CallR X (.builtin "isinstance") (fun xs H Q => ∃ x G d, xs = [x, .ty (tyN ty)] ∧ Ex G H ∧ Rp X.K G x d ∧ (bIs ty d).Sat (fun r => ∀ G' H' v, Ext G H G' H' → Rp X.K G' v r → Q v H') (fun _ => False)) := by
    intro pins s σ H xs us Q I r h
    obtain ⟨x, G, d, rfl, ex, rd, h⟩ := h
    exact isi_run I ex rd r h
  have h2 : PE X (.Name y py) (tC (.ty (tyN ty))) := pe_bltn hg2 hm2 hv2 rfl hn2 hdb2
  refine pe_weak (pe_callB hc hg hm (by decide +kernel) (pa_cons ha (pa_cons h2 pa_nil h1) h0) (by decide) (by decide) h0 hpl) fun σ H Q q => ?_
  obtain ⟨G, η, r, q⟩ := q
  refine tX.of r (un_sat q) fun x hx G1 H1 v e1 r1 => ?_
  exact ⟨v, G1, x, rfl, e1.gh, r1, Sat.mono (hx fun _ => False) (fun d q G' H' u e2 r2 => q G' H' u (e1.trans e2) r2) fun _ z => z⟩
end
end
end Bk
end
/-! BkLoops -/
section
set_option Elab.async false
set_option linter.all false
set_option autoImplicit false
set_option maxRecDepth 100000
set_option maxHeartbeats 4000000
/-! BkLoops: targets, what is walked, comprehensions, statements, loops -/
namespace Bk
open PySem PySem.Spec PyProof.Rows L2
section
variable {X : Cx} {B : Bs} {a b c e tg iter : Expr} {es : List Expr} {pos p : Pos} {f g h : E} {fs : List E} {t u : T}
/-! ### targets -/
def tGo (K : PySem.W.Frag) (B : Bs) (own : List Nat) (g : G) : TG := fun v σ H Q => ∃ G η d, RpE K B.G0 B.H0 G H σ η ∧ Rp K G v d ∧ (g d η).Sat (fun η' => ∀ σ', RpE K B.G0 B.H0 G H σ' η' → wipe σ' own = wipe σ own → Q σ' H) (fun _ => False)
theorem set_none_of {α : Type} {l : List (Option α)} {i : Nat} (h : l[i]? = some none) : l.set i none = l := by
  refine List.ext_getElem? fun j => ?_
  by_cases hj : i = j
  · subst hj
    rw [List.getElem?_set_self (lt_of_get h), h]
  · rw [List.getElem?_set_ne hj]
theorem wipe_get {σ : L2.St} {i : Nat} : ∀ {vs : List Nat}, i ∈ vs → i < σ.length → (wipe σ vs)[i]? = some none
  | v :: vs, h, hl => by
    show ((wipe σ vs).set v none)[i]? = some none
    have hl2 : i < (wipe σ vs).length := by rw [wipe_length]; exact hl
    by_cases hv : v = i
    · subst hv
      exact List.getElem?_set_self hl2
    · rw [List.getElem?_set_ne hv]
      rcases List.mem_cons.mp h with e | e
      · exact absurd e.symm hv
      · exact wipe_get e hl
theorem wipe_set {σ : L2.St} {i : Nat} {x : Option V} : ∀ {vs : List Nat}, i ∈ vs → wipe (σ.set i x) vs = wipe σ vs
  | v :: vs, h => by
    show (wipe (σ.set i x) vs).set v none = (wipe σ vs).set v none
    by_cases hv : i ∈ vs
    · rw [wipe_set hv]
    · have e : i = v := by
        rcases List.mem_cons.mp h with e | e
        · exact e
        · exact absurd e hv
      subst e
      have aux : ∀ ws : List Nat, i ∉ ws → wipe (σ.set i x) ws = (wipe σ ws).set i x := by
        intro ws
        induction ws with
        | nil => intro _; rfl
        | cons w ws ih =>
          intro hw
          simp only [List.mem_cons, not_or] at hw
          show (wipe (σ.set i x) ws).set w none = ((wipe σ ws).set w none).set i x
          rw [ih hw.2, List.set_comm _ _ hw.1]
      rw [aux vs hv, List.set_set]
theorem pg_n (i : Nat) (own : List Nat) {x : Str} (hN : X.N.Nodup) (hi : X.N[i]? = some x := by rfl) (hx : Loc X.env.scope x := by first | exact .inl rfl | exact .inr rfl) (ho : i ∈ own := by decide) (hf : X.fn x = true ∨ X.env.scope.names.lookup x = some .local := by first | exact .inl rfl | exact .inr rfl) :
    PG X (.Name x pos) (tGo X.K B own (gName i)) := pg_weak (L2.pg_name hN hi hx hf) fun v σ H Q q => by
  obtain ⟨G, η, d, r, rd, q⟩ := q
  exact q _ (r.set i rd) (wipe_set ho)
theorem pgs_n (i : Nat) {x : Str} (hN : X.N.Nodup) (hi : X.N[i]? = some x := by rfl) (hx : Loc X.env.scope x := by first | exact .inl rfl | exact .inr rfl) (hf : X.fn x = true ∨ X.env.scope.names.lookup x = some .local := by first | exact .inl rfl | exact .inr rfl) :
    PG X (.Name x pos) (L2.gName i) := L2.pg_name hN hi hx hf
theorem pg_2 {i j : Nat} (own : List Nat) {k : Nat} (hc : X.calm = true) (ha : PG X a (L2.gName i)) (hb : PG X b (L2.gName j)) (ho : i ∈ own := by decide) (ho2 : j ∈ own := by decide)
    (h1 : (assignEach [a, b] X.env).map (·.2) = assign a X.env :: (assignEach [b] X.env).map (·.2) := by rfl) (h2 : (assignEach [b] X.env).map (·.2) = assign b X.env :: (assignEach [] X.env).map (·.2) := by rfl)
    (hn : (assignEach [a, b] X.env).length = 2 := by rfl) (hst : (assignEach [a, b] X.env).findIdx? (·.1) = none := by rfl) : PG X (.Tuple [a, b] k pos) (tGo X.K B own (gPair i j)) :=
  pg_weak (L2.pg_tup hc (L2.pgs_cons ha (L2.pgs_cons hb L2.pgs_nil h2) h1) hn hst) fun v σ H Q q => by
    obtain ⟨G, η, d, r, rd, q⟩ := q
    cases rd with
    | tup hs ra =>
      rename_i aa vs ds
      rcases ds with _ | ⟨d1, _ | ⟨d2, _ | ⟨d3, ds⟩⟩⟩
      · exact q.elim
      · exact q.elim
      · cases ra with
        | cons r1 ra =>
          cases ra with
          | cons r2 ra =>
            cases ra
            refine ⟨_, _, rfl, r.exg.t hs, rfl, _, _, rfl, _, _, rfl, rfl, ?_⟩
            refine q _ ((r.set i r1).set j r2) ?_
            rw [wipe_set ho2, wipe_set ho]
      · exact q.elim
    | _ => exact q.elim
theorem pg_2L {i j : Nat} (own : List Nat) {k : Nat} (hc : X.calm = true) (ha : PG X a (L2.gName i)) (hb : PG X b (L2.gName j)) (ho : i ∈ own := by decide) (ho2 : j ∈ own := by decide)
    (h1 : (assignEach [a, b] X.env).map (·.2) = assign a X.env :: (assignEach [b] X.env).map (·.2) := by rfl) (h2 : (assignEach [b] X.env).map (·.2) = assign b X.env :: (assignEach [] X.env).map (·.2) := by rfl)
    (hn : (assignEach [a, b] X.env).length = 2 := by rfl) (hst : (assignEach [a, b] X.env).findIdx? (·.1) = none := by rfl) : PG X (.Tuple [a, b] k pos) (tGo X.K B own (gPairL i j)) :=
  pg_weak (L2.pg_lst hc (L2.pgs_cons ha (L2.pgs_cons hb L2.pgs_nil h2) h1) hn hst) fun v σ H Q q => by
    obtain ⟨G, η, d, r, rd, q⟩ := q
    cases rd with
    | lst hs ra =>
      rename_i aa vs ds
      rcases ds with _ | ⟨d1, _ | ⟨d2, _ | ⟨d3, ds⟩⟩⟩
      · exact q.elim
      · exact q.elim
      · cases ra with
        | cons r1 ra =>
          cases ra with
          | cons r2 ra =>
            cases ra
            refine ⟨_, _, rfl, r.exg.l hs, rfl, _, _, rfl, _, _, rfl, rfl, ?_⟩
            refine q _ ((r.set i r1).set j r2) ?_
            rw [wipe_set ho2, wipe_set ho]
      · exact q.elim
    | _ => exact q.elim
theorem pg_3 {i j l : Nat} (own : List Nat) {k : Nat} (hc : X.calm = true) (ha : PG X a (L2.gName i)) (hb : PG X b (L2.gName j)) (hd : PG X c (L2.gName l)) (ho : i ∈ own := by decide) (ho2 : j ∈ own := by decide) (ho3 : l ∈ own := by decide)
    (h1 : (assignEach [a, b, c] X.env).map (·.2) = assign a X.env :: (assignEach [b, c] X.env).map (·.2) := by rfl) (h2 : (assignEach [b, c] X.env).map (·.2) = assign b X.env :: (assignEach [c] X.env).map (·.2) := by rfl) (h3 : (assignEach [c] X.env).map (·.2) = assign c X.env :: (assignEach [] X.env).map (·.2) := by rfl)
    (hn : (assignEach [a, b, c] X.env).length = 3 := by rfl) (hst : (assignEach [a, b, c] X.env).findIdx? (·.1) = none := by rfl) : PG X (.Tuple [a, b, c] k pos) (tGo X.K B own (gTri i j l)) :=
  pg_weak (L2.pg_tup hc (L2.pgs_cons ha (L2.pgs_cons hb (L2.pgs_cons hd L2.pgs_nil h3) h2) h1) hn hst) fun v σ H Q q => by
    obtain ⟨G, η, d, r, rd, q⟩ := q
    cases rd with
    | tup hs ra =>
      rename_i aa vs ds
      rcases ds with _ | ⟨d1, _ | ⟨d2, _ | ⟨d3, _ | ⟨d4, ds⟩⟩⟩⟩
      · exact q.elim
      · exact q.elim
      · exact q.elim
      · cases ra with
        | cons r1 ra =>
          cases ra with
          | cons r2 ra =>
            cases ra with
            | cons r3 ra =>
              cases ra
              refine ⟨_, _, rfl, r.exg.t hs, rfl, _, _, rfl, _, _, rfl, _, _, rfl, rfl, ?_⟩
              refine q _ (((r.set i r1).set j r2).set l r3) ?_
              rw [wipe_set ho3, wipe_set ho2, wipe_set ho]
      · exact q.elim
    | _ => exact q.elim
/-! ### what is walked -/
structure WalkD (K : PySem.W.Frag) (J : It) (G0 : Hp) (ds : List D) : Prop where
  goes : ∀ i H, i < ds.length → Ex G0 H → J.go i H
  stops : ∀ H, Ex G0 H → J.stop ds.length H
  yields : ∀ (i : Nat) H x H' d, ds[i]? = some d → Ex G0 H → J.yld i H x H' → ∀ G, Ex G0 G → Ex G H → ∃ G', Ext G H G' H' ∧ Rp K G' x d
def tI (K : PySem.W.Frag) (B : Bs) (fi : I) : TI := fun σ H R => ∃ G η, RpE K B.G0 B.H0 G H σ η ∧ (fi η).Sat (fun ds => ∀ G' H' J, Ext G H G' H' → WalkD K J G' ds → R J H') (Rz B)
theorem pi_weak {t t' : TI} (h : PI X tg e t) (w : ∀ σ H Q, t' σ H Q → t σ H Q) : PI X tg e t' := ⟨fun pins s σ H Q I q => h.run pins s σ H Q I (w σ H Q q)⟩
theorem walkd_list {K : PySem.W.Frag} {G : Hp} {aa : Addr} {vs : List V} {ds : List D} (hs : SqL K G aa vs) (ra : RpAll K G vs ds) : WalkD K (Itl K aa) G ds := by
  refine ⟨fun i H hi ex => ?_, fun H ex => ⟨vs, ex.l hs, Nat.le_of_eq ra.length⟩, fun i H x H' d hd ex y G1 e1 e2 => ?_⟩
  · have hi' : i < vs.length := by rw [ra.length]; exact hi
    exact ⟨vs, vs[i], ex.l hs, List.getElem?_eq_getElem hi'⟩
  · obtain ⟨rfl, y⟩ := y
    obtain ⟨v, h1, h2⟩ := ra.get hd
    have := y vs (ex.l hs)
    rw [h1] at this
    cases this
    exact ⟨G1, Ext.refl e2, h2.mono e1⟩
theorem walkd_tup {K : PySem.W.Frag} {G : Hp} {aa : Addr} {vs : List V} {ds : List D} (hs : SqT K G aa vs) (ra : RpAll K G vs ds) : WalkD K (Itt K aa) G ds := by
  refine ⟨fun i H hi ex => ?_, fun H ex => ⟨vs, ex.t hs, Nat.le_of_eq ra.length⟩, fun i H x H' d hd ex y G1 e1 e2 => ?_⟩
  · have hi' : i < vs.length := by rw [ra.length]; exact hi
    exact ⟨vs, vs[i], ex.t hs, List.getElem?_eq_getElem hi'⟩
  · obtain ⟨rfl, y⟩ := y
    obtain ⟨v, h1, h2⟩ := ra.get hd
    have := y vs (ex.t hs)
    rw [h1] at this
    cases this
    exact ⟨G1, Ext.refl e2, h2.mono e1⟩
theorem signs_len (s : List Nat) : (signs s).length = s.length := by simp [signs]
theorem walkd_str {K : PySem.W.Frag} {G : Hp} (s : List Nat) : WalkD K (Its (Sx s)) G (signs s) := by
  refine ⟨fun i H hi _ => ?_, fun H _ => ?_, fun i H x H' d hd _ y G1 e1 e2 => ?_⟩
  · rw [signs_len] at hi
    show i < s.toArray.size
    simpa using hi
  · show s.toArray.size ≤ (signs s).length
    rw [signs_len]
    simp
  · obtain ⟨rfl, c, h1, rfl⟩ := y
    have h1 : s.toArray[i]? = some c := h1
    rw [List.getElem?_toArray] at h1
    unfold signs at hd
    rw [List.getElem?_map, h1] at hd
    cases hd
    exact ⟨G1, Ext.refl e2, .str [c]⟩
theorem numbers_len (lo : Int) (n : Nat) : (numbers lo n).length = n := by simp [numbers]
theorem walkd_range {K : PySem.W.Frag} {G : Hp} (lo : Int) (n : Nat) : WalkD K (Itr lo n) G (numbers lo n) := by
  refine ⟨fun i H hi _ => by rw [numbers_len] at hi; exact hi, fun H _ => by rw [numbers_len]; exact Nat.le_refl _, fun i H x H' d hd _ y G1 e1 e2 => ?_⟩
  obtain ⟨rfl, rfl⟩ := y
  have hi : i < n := by
    have := lt_of_get hd
    rw [numbers_len] at this
    exact this
  unfold numbers at hd
  rw [List.getElem?_map, List.getElem?_range hi] at hd
  cases hd
  exact ⟨G1, Ext.refl e2, .int _⟩
/-- any of a list, a tuple, a text -/
theorem pi_any (ha : PE X e (tX X.K B f)) : PI X tg e (tI X.K B (iAny f)) := by
  have hl := L2.pi_list (tg := tg) ha
  have ht := L2.pi_tup (tg := tg) ha
  have hs := L2.pi_str (tg := tg) ha
  refine ⟨fun pins s σ H R I q => ?_⟩
  obtain ⟨G, η, r, q⟩ := q
  have q := sat_bind q
  cases z : f η with
  | ok d =>
    rw [z] at q
    have fin : ∀ Q : VK, (∀ G' H' v, Ext G H G' H' → Rp X.K G' v d → Q v H') → tX X.K B f σ H Q := fun Q k => ⟨G, η, r, by rw [z]; exact k⟩
    cases d with
    | lst ds => exact hl.run pins s σ H R I (fin _ fun G1 H1 v e1 r1 => by
        cases r1 with
        | lst hs ra => exact ⟨_, rfl, ⟨_, e1.gh.l hs⟩, q G1 H1 _ e1 (walkd_list hs ra)⟩)
    | tup ds => exact ht.run pins s σ H R I (fin _ fun G1 H1 v e1 r1 => by
        cases r1 with
        | tup hs ra => exact ⟨_, rfl, ⟨_, e1.gh.t hs⟩, q G1 H1 _ e1 (walkd_tup hs ra)⟩)
    | str ds => exact hs.run pins s σ H R I (fin _ fun G1 H1 v e1 r1 => by
        cases r1
        exact ⟨_, rfl, q G1 H1 _ e1 (walkd_str ds)⟩)
    | _ => exact q.elim
  | raise cl =>
    rw [z] at q
    exact hl.run pins s σ H R I ⟨G, η, r, by rw [z]; exact q⟩
  | bad =>
    rw [z] at q
    exact q.elim
theorem rng_ok {i : Int} (h : rngOk i = true) : -(2 ^ 62) ≤ i ∧ i < 2 ^ 62 := by
  unfold rngOk at h
  rw [Bool.and_eq_true, decide_eq_true_eq, decide_eq_true_eq] at h
  exact h
theorem pi_rng1 (hm : X.mg "range" = none) (ha : PE X a (tX X.K B f)) (hg : Gl X "range" := by rfl) (h0 : starEach [a] X.env = (false, eval a X.env) :: starEach [] X.env := by rfl) (hs : starEach [a] X.env = [(false, eval a X.env)] := by rfl) : PI X tg (.Call (.Name "range" p) [a] [] pos) (tI X.K B (iRange1 f)) :=
  pi_weak (L2.pi_range1 hg hm (pa_cons ha pa_nil h0) hs) fun σ H R q => by
    obtain ⟨G, η, r, q⟩ := q
    refine tX.of r (sat_bind q) fun x hx G1 H1 v e1 r1 => ?_
    cases r1 with
    | int n =>
      obtain ⟨hr, hx⟩ := sat_if hx
      obtain ⟨h1, h2⟩ := rng_ok hr
      exact ⟨n, rfl, h1, h2, hx G1 H1 _ e1 (walkd_range 0 n.toNat)⟩
    | _ => exact hx.elim
theorem pi_rng2 (hm : X.mg "range" = none) (ha : PE X a (tX X.K B f)) (hb : PE X b (tX X.K B g)) (hg : Gl X "range" := by rfl) (h0 : starEach [a, b] X.env = (false, eval a X.env) :: starEach [b] X.env := by rfl) (h1 : starEach [b] X.env = (false, eval b X.env) :: starEach [] X.env := by rfl) (hs : starEach [a, b] X.env = [(false, eval a X.env), (false, eval b X.env)] := by rfl) (hs2 : starEach [b] X.env = [(false, eval b X.env)] := by rfl) :
    PI X tg (.Call (.Name "range" p) [a, b] [] pos) (tI X.K B (iRange2 f g)) :=
  pi_weak (L2.pi_range2 hg hm (pa_cons ha (pa_cons hb pa_nil h1) h0) hs hs2) fun σ H R q => by
    obtain ⟨G, η, r, q⟩ := q
    refine tX.of r (sat_bind q) fun x hx G1 H1 v e1 r1 => ?_
    refine tX.of (r.extd e1) (sat_bind hx) fun y hy G2 H2 w e2 r2 => ?_
    cases r1 with
    | int n =>
      cases r2 with
      | int m =>
        obtain ⟨hr, hx⟩ := sat_if hy
        rw [Bool.and_eq_true] at hr
        obtain ⟨k1, k2⟩ := rng_ok hr.1
        obtain ⟨k3, k4⟩ := rng_ok hr.2
        exact ⟨n, m, rfl, ⟨k1, k2, k3, k4⟩, hx G2 H2 _ (e1.trans e2) (walkd_range n (m - n).toNat)⟩
      | _ => exact hy.elim
    | _ => exact hy.elim
/-! ### comprehensions -/
theorem pts_y : PTs X [] (tT X.K B tYes) := ⟨fun pins s σ H Q I q => pts_nil.run pins s σ H Q I (by
  obtain ⟨G, η, r, q⟩ := q
  exact q G H (Ext.refl r.exg))⟩
theorem pts_1 (ha : PT X a (tT X.K B t)) : PTs X [a] (tT X.K B t) := pts_one ha
theorem lc_weak {own : List Nat} {fi : I} {gg : G} {σ : L2.St} {H : Hp} {Q : VK} {te : E} (q : tX X.K B (eComp own fi gg t te) σ H Q) :
    tLc (tI X.K B fi) (tGo X.K B own gg) (tT X.K B.calm t) (tX X.K B.calm te) own σ H Q := by
  obtain ⟨G, η, r, q⟩ := q
  refine ⟨G, η, r, Sat.mono (sat_bind q) (fun ds hds G1 H1 J e1 wk D hD => ?_) fun _ z => z⟩
  obtain ⟨hl, hds⟩ := sat_if hds
  have hds := sat_bind (sat_calm (R' := fun _ => False) hds)
  have r1 := r.extd e1
  have gD : G1 D = Option.none := e1.gh.none hD
  have e0 : Ext G H G1 (upd H1 D (.lst [])) := e1.trans (Ext.drop e1.gh hD)
  have nD : H D = Option.none := e1.h.none hD
  refine ⟨fun i m H' => m = ds.length - i ∧ i ≤ ds.length ∧ ∃ G' acc ys, Ext G H G' H' ∧ Ex G1 G' ∧ G' D = Option.none ∧ H' D = some (.lst acc) ∧ RpAll X.K G' acc ys ∧ ys.length ≤ i ∧
    (comp gg t te (wipes η own) (ds.drop i)).Sat (fun zs => ∀ G' H' v, Ext G H G' H' → Rp X.K G' v (.lst (ys ++ zs)) → Q v H') (fun _ => False),
    ⟨ds.length, by simp, Nat.zero_le _, G1, [], [], e0, Ex.refl _, gD, upd_same, .nil, Nat.zero_le _, hds⟩, ?_⟩
  rintro i m H' ⟨rfl, hi, G', acc, ys, x, xg, dn, hacc, ra, hyl, hc⟩
  have exH : Ex G1 H' := xg.trans x.gh
  by_cases hlt : i < ds.length
  · right
    refine ⟨wk.goes i H' hlt exH, fun H2 => i + 1 ≤ ds.length ∧ ∃ G' acc ys, Ext G H G' H2 ∧ Ex G1 G' ∧ G' D = Option.none ∧ H2 D = some (.lst acc) ∧ RpAll X.K G' acc ys ∧ ys.length ≤ i + 1 ∧
      (comp gg t te (wipes η own) (ds.drop (i + 1))).Sat (fun zs => ∀ G' H' v, Ext G H G' H' → Rp X.K G' v (.lst (ys ++ zs)) → Q v H') (fun _ => False), fun H2 hN => ⟨ds.length - (i + 1), by omega, rfl, hN⟩, fun v H2 yl => ?_⟩
    have hd : ds[i]? = some ds[i] := List.getElem?_eq_getElem hlt
    obtain ⟨G2, x2, rv⟩ := wk.yields i H' v H2 _ hd exH yl G' xg x.gh
    rw [List.drop_eq_getElem_cons hlt] at hc
    have hc := sat_bind hc
    have rw2 := wipe_rel (r.extd (x.trans x2)) own
    refine ⟨G2, wipes η own, ds[i], rw2, rv, Sat.mono (sat_calm hc) (fun η1 h1 σ2 r2 hw => ⟨?_, ?_⟩) fun _ z => z⟩
    · rw [hw]
      have idem : ∀ (vs : List Nat) (τ : L2.St), wipe (wipe τ vs) vs = wipe τ vs := by
        intro vs
        have aux : ∀ (ws : List Nat) (τ : L2.St), (∀ w ∈ ws, w < τ.length → τ[w]? = some none) → wipe τ ws = τ := by
          intro ws
          induction ws with
          | nil => intro τ _; rfl
          | cons w ws ih =>
            intro τ hτ
            show (wipe τ ws).set w none = τ
            rw [ih τ fun w' hw' => hτ w' (List.mem_cons_of_mem _ hw')]
            by_cases hl : w < τ.length
            · exact set_none_of (hτ w List.mem_cons_self hl)
            · exact List.set_eq_of_length_le (by omega)
        intro τ
        exact aux vs _ fun w hw hl => wipe_get hw (by rw [wipe_length] at hl; exact hl)
      exact idem own σ
    · refine tT.of (B := B.calm) (G := G2) (η := η1) r2 (P := fun bb => (if bb = true then (te η1).bind fun y => (comp gg t te (wipes η own) (ds.drop (i + 1))).bind fun ys => .ok (y :: ys) else comp gg t te (wipes η own) (ds.drop (i + 1))).Sat (fun zs => ∀ G' H' v, Ext G H G' H' → Rp X.K G' v (.lst (ys ++ zs)) → Q v H') (fun _ => False)) (Sat.mono (sat_bind h1) (fun _ z => z) fun _ z => z.elim) fun bb hb G3 H3 x3 => ?_
      have hD3 : H3 D = some (.lst acc) := x3.h _ _ (x2.h _ _ hacc)
      have dn2 : G2 D = Option.none := x2.fr D dn (by rw [hacc]; exact fun z => nomatch z)
      have dn3 : G3 D = Option.none := x3.fr D dn2 (by rw [x2.h _ _ hacc]; exact fun z => nomatch z)
      have xx3 : Ext G H G3 H3 := (x.trans x2).trans x3
      cases bb with
      | false =>
        rw [if_neg Bool.false_ne_true] at hb ⊢
        exact ⟨hlt, G3, acc, ys, xx3, (xg.trans x2.g).trans x3.g, dn3, hD3, (ra.mono x2.g).mono x3.g, by omega, hb⟩
      | true =>
        rw [if_pos rfl] at hb ⊢
        have r3 : RpE X.K B.G0 B.H0 G3 H3 σ2 η1 := r2.extd x3
        refine tX.of (B := B.calm) (G := G3) (η := η1) r3 (Sat.mono (sat_bind hb) (fun _ z => z) fun _ z => z.elim) fun y hy G4 H4 w x4 rw4 => ?_
        have hy := sat_bind hy
        have hD4 : H4 D = some (.lst acc) := x4.h _ _ hD3
        have dn4 : G4 D = Option.none := x4.fr D dn3 (by rw [hD3]; exact fun z => nomatch z)
        have xx4 : Ext G H G4 H4 := xx3.trans x4
        have al := ra.length
        have hl' : ds.length ≤ 16777216 := hl
        refine ⟨acc, hD4, by rw [line_eq]; show acc.length < 16777216; omega, hlt, G4, acc ++ [w], ys ++ [y], ⟨xx4.g, fun b o z => ?_, fun b o z => ?_, xx4.fr⟩, ((xg.trans x2.g).trans x3.g).trans x4.g, dn4, upd_same, (((ra.mono x2.g).mono x3.g).mono x4.g).snoc rw4, by rw [List.length_append, List.length_singleton]; omega, Sat.mono hy (fun zs q G' H' v e r => q G' H' v e (by rw [List.append_assoc] at r; exact r)) fun _ z => z⟩
        · rw [upd_ne (ne_of_none z dn4)]
          exact xx4.gh b o z
        · rw [upd_ne (ne_of_none z nD)]
          exact xx4.h b o z
  · left
    have ei : i = ds.length := by omega
    subst ei
    refine ⟨wk.stops H' exH, ?_⟩
    rw [List.drop_length] at hc
    have hc : ∀ G' H' v, Ext G H G' H' → Rp X.K G' v (.lst (ys ++ [])) → Q v H' := hc
    rw [List.append_nil] at hc
    refine hc (upd G' D (.lst acc)) H' (.ref D) ⟨fun b o z => ?_, fun b o z => ?_, x.h, fun b h1 h2 => ?_⟩ (.lst (.inl (.inl upd_same)) (ra.mono (Ex.new dn)))
    · rw [upd_ne (ne_of_none (x.g b o z) dn)]
      exact x.g b o z
    · by_cases hb : b = D
      · subst hb
        rw [upd_same] at z
        cases z
        exact hacc
      · rw [upd_ne hb] at z
        exact x.gh b o z
    · have hb : b ≠ D := fun z => by
        subst z
        exact h2 nD
      rw [upd_ne hb]
      exact x.fr b h1 h2
theorem pv_lc (own : List (Str × Nat)) {own' : List Nat} {elt : Expr} {ifs : List Expr} {scope : Scope} {fi : I} {gg : G} {te : E} (hc : X.calm = true) (hN : X.N.Nodup) (hi : PI X tg iter (tI X.K B fi)) (ok : BlkOk X.N X.env.scope scope own)
    (hg : ∀ (s : Shared) (H : Hp) (C : Addr) (cl : List (Str × Addr)) (fp : List Addr), PG (X.blk s H scope (compEnvC scope cl C X.env) fp) tg (tGo X.K B own' gg)) (ht : ∀ (s : Shared) (H : Hp) (C : Addr) (cl : List (Str × Addr)) (fp : List Addr), PTs (X.blk s H scope (compEnvC scope cl C X.env) fp) ifs (tT X.K B.calm t))
    (he : ∀ (s : Shared) (H : Hp) (C : Addr) (cl : List (Str × Addr)) (fp : List Addr), PE (X.blk s H scope (compEnvC scope cl C X.env) fp) elt (tX X.K B.calm te)) (ho : own' = own.map (·.2) := by rfl) (hs : ∀ x, foldedSetIterable iter X.env x = pure x := by intro _; rfl) :
    PE X (.ListComp elt [⟨tg, iter, ifs, 0⟩] scope pos) (tX X.K B (eComp own' fi gg t te)) := by
  subst ho
  exact pe_weak (pe_lc hc hN hi ok hg ht he hs) fun σ H Q q => lc_weak q
end
end Bk
end
/-! BkStmts -/
section
set_option Elab.async false
set_option linter.all false
set_option autoImplicit false
set_option maxRecDepth 100000
set_option maxHeartbeats 4000000
/-! BkStmts: statements, loops, defs and their calls -/
namespace Bk
open PySem PySem.Spec PyProof.Rows L2
theorem Fin.ofSat {K : PySem.W.Frag} {B : Bs} {D : Ends} {G : Hp} {α : Type} {m : Res α} {k : α → Out} {P : α → Prop} (h : m.Sat P (Rz B)) (q : ∀ a, P a → Fin K B D G (k a)) : Fin K B D G (outOf m k) := by
  cases m with
  | ok a => exact q a h
  | raise c => exact h
  | bad => exact h.elim
section
variable {X : Cx} {B : Bs} {a b c e tg iter : Expr} {es : List Expr} {pos p : Pos} {f g h : E} {fs : List E} {t u : T} {st : Stmt} {rest body orelse : List Stmt} {s1 s2 : St}
theorem ss_nil : PSs X [] (tS X.K B sSkip) := pss_weak pss_nil fun D σ H q => by
  obtain ⟨G, η, r, q⟩ := q
  exact q G H σ (Ex.refl G) r
theorem ss_cons (h1 : PS X st (tS X.K B s1)) (h2 : PSs X rest (tS X.K B s2)) : PSs X (st :: rest) (tS X.K B (sSeq s1 s2)) := pss_weak (pss_cons h1 h2) fun D σ H q => by
  obtain ⟨G, η, r, q⟩ := q
  exact ⟨G, η, r, Fin.andThen q⟩
theorem ss_one (h1 : PS X st (tS X.K B s1)) : PSs X [st] (tS X.K B s1) := pss_one h1
/-- x = e, where nothing is to be said of tuples -/
theorem asg_weak {own : List Nat} {gg : G} (q : ∃ σ H D, tS X.K B (sAsg f gg) D σ H) : True := True.intro
theorem asg_w {own : List Nat} {gg : G} {D : Ends} {σ : L2.St} {H : Hp} (q : tS X.K B (sAsg f gg) D σ H) : tAsg (tX X.K B f) (tGo X.K B own gg) D σ H := by
  obtain ⟨G, η, r, q⟩ := q
  refine tX.of r (Fin.ofRes q) fun d hd G1 H1 v e1 r1 => ?_
  have hd : Fin X.K B D G (outOf (gg d η).calm fun η' => .next η') := hd
  refine ⟨G1, η, d, r.extd e1, r1, ?_⟩
  cases z : gg d η with
  | ok η' =>
    rw [z] at hd
    exact fun σ' r2 _ => hd G1 H1 σ' e1.g r2
  | raise cl =>
    rw [z] at hd
    exact hd.elim
  | bad =>
    rw [z] at hd
    exact hd.elim
theorem s_asg {own : List Nat} {gg : G} (ha : PE X a (tX X.K B f)) (hg : PG X tg (tGo X.K B own gg)) (hs : swapsWithSole [tg] a pos.line X.env = pure false := by rfl) (hw : swappedStores [tg] a X.env = pure none := by rfl)
    (h1 : (assignEach [tg] X.env).map (·.2) = [assign tg X.env] := by rfl) : PS X (.Assign [tg] a pos) (tS X.K B (sAsg f gg)) := ps_weak (ps_asg ha hg hs hw h1) fun D σ H q => asg_w q
theorem s_set (i : Nat) {x : Str} {px : Pos} (hN : X.N.Nodup) (ha : PE X a (tX X.K B f)) (hi : X.N[i]? = some x := by rfl) (hx : Loc X.env.scope x := by first | exact .inl rfl | exact .inr rfl) (hs : swapsWith a (some (.Name x px)) pos.line X.env = pure false := by rfl) (hf : X.fn x = true ∨ X.env.scope.names.lookup x = some .local := by first | exact .inl rfl | exact .inr rfl) :
    PS X (.Assign [.Name x px] a pos) (tS X.K B (sSet i f)) := ps_weak (ps_set hN hi hx ha hs hf) fun D σ H q => by
  obtain ⟨G, η, r, q⟩ := q
  refine tX.of r (Fin.ofRes q) fun d hd G1 H1 v e1 r1 => ?_
  have hd : Fin X.K B D G (.next (η.set i (some (.dat d)))) := hd
  exact hd G1 H1 _ e1.g ((r.extd e1).set i r1)
/-- x = [.. for ..] on one line -/
theorem s_setLc (i : Nat) (own : List (Str × Nat)) {own' : List Nat} {y : Str} {py : Pos} {elt : Expr} {ifs : List Expr} {scope : Scope} {spos : Pos} {fi : I} {gg : G} {te : E} (hc : X.calm = true) (hN : X.N.Nodup) (hi : PI X tg iter (tI X.K B fi)) (ok : BlkOk X.N X.env.scope scope own)
    (hg : ∀ (s : Shared) (H : Hp) (C : Addr) (cl : List (Str × Addr)) (fp : List Addr), PG (X.blk s H scope (compEnvC scope cl C X.env) fp) tg (tGo X.K B own' gg)) (ht : ∀ (s : Shared) (H : Hp) (C : Addr) (cl : List (Str × Addr)) (fp : List Addr), PTs (X.blk s H scope (compEnvC scope cl C X.env) fp) ifs (tT X.K B.calm t))
    (he : ∀ (s : Shared) (H : Hp) (C : Addr) (cl : List (Str × Addr)) (fp : List Addr), PE (X.blk s H scope (compEnvC scope cl C X.env) fp) elt (tX X.K B.calm te)) (ho : own' = own.map (·.2) := by rfl) (hy : X.N[i]? = some y := by rfl) (hyl : X.env.scope.names.lookup y = some .local := by rfl)
    (hsw : swapsWith (.ListComp elt [⟨tg, iter, ifs, 0⟩] scope pos) (some (.Name y py)) spos.line X.env = pure true := by exact sw_true rfl rfl rfl (by decide +kernel)) (hs : ∀ x, foldedSetIterable iter X.env x = pure x := by intro _; rfl) :
    PS X (.Assign [.Name y py] (.ListComp elt [⟨tg, iter, ifs, 0⟩] scope pos) spos) (tS X.K B (sSet i (eComp own' fi gg t te))) := by
  subst ho
  refine ps_weak (ps_setLc hc hN hy hyl hsw hi ok hg ht he hs) fun D σ H q => ?_
  obtain ⟨G, η, r, q⟩ := q
  refine lc_weak (B := B) (tX.of r (Fin.ofRes q) fun d hd G1 H1 v e1 r1 => ?_)
  have hd : Fin X.K B D G (.next (η.set i (some (.dat d)))) := hd
  exact hd G1 H1 _ e1.g ((r.extd e1).set i r1)
theorem s_drop (ha : PE X a (tX X.K B f)) (hs : swapsWith a none pos.line X.env = pure false := by rfl) : PS X (.Expr a pos) (tS X.K B (sDrop f)) := ps_weak (ps_expr ha hs) fun D σ H q => by
  obtain ⟨G, η, r, q⟩ := q
  refine tX.of r (Fin.ofRes q) fun d hd G1 H1 v e1 r1 => ?_
  have hd : Fin X.K B D G (.next η) := hd
  exact hd G1 H1 _ e1.g (r.extd e1)
theorem s_ret (ha : PE X a (tX X.K B f)) : PS X (.Return (some a) pos) (tS X.K B (sRet f)) := ps_weak (ps_ret ha) fun D σ H q => by
  obtain ⟨G, η, r, q⟩ := q
  refine tX.of r (Fin.ofRes q) fun d hd G1 H1 v e1 r1 => ?_
  have hd : Fin X.K B D G (.ret d) := hd
  exact hd G1 H1 v e1.g (r.ext.trans e1) r1
/-- return of the def's own list -/
theorem s_retO (i : Nat) {x : Str} (hN : X.N[i]? = some x := by rfl) (hv : Vis X.env.scope x := by first | exact Or.inl rfl | exact Or.inr (Or.inl rfl) | exact Or.inr (Or.inr rfl)) (hd : (x == ("__debug__" : Str)) = false := by decide)
    (hcd : (x == ("__classdict__" : Str)) = false := by decide) : PS X (.Return (some (.Name x p)) pos) (tS X.K B (sRetOwn i)) := ps_weak (ps_ret (pe_var hN hv hd hcd)) fun D σ H q => by
  obtain ⟨G, η, r, q⟩ := q
  unfold sRetOwn at q
  split at q
  · rename_i ds e
    obtain ⟨v, h1, aa, vs, rfl, h0, hg, hh, ra⟩ := r.slot _ _ e
    refine ⟨_, h1, q (upd G aa (.lst vs)) H (.ref aa) (Ex.new hg) ⟨fun z o w => ?_, fun z o w => ?_, r.ext.h, fun z w1 w2 => ?_⟩ (.lst (.inl (.inl upd_same)) (ra.mono (Ex.new hg)))⟩
    · rw [upd_ne (ne_of_none (r.ext.g z o w) hg)]
      exact r.ext.g z o w
    · by_cases hz : z = aa
      · subst hz
        rw [upd_same] at w
        cases w
        exact hh
      · rw [upd_ne hz] at w
        exact r.ext.gh z o w
    · have hz : z ≠ aa := fun y => by
        subst y
        exact w2 h0
      rw [upd_ne hz]
      exact r.ext.fr z w1 w2
  · exact q.elim
theorem s_if (hc : PT X a (tT X.K B t)) (h1 : PSs X body (tS X.K B s1)) (h2 : PSs X orelse (tS X.K B s2)) : PS X (.If a body orelse pos) (tS X.K B (sIf t s1 s2)) := ps_weak (ps_if hc h1 h2) fun D σ H q => by
  obtain ⟨G, η, r, q⟩ := q
  refine tT.of r (Fin.ofRes q) fun k hk G1 H1 e1 => ?_
  cases k with
  | true =>
    rw [if_pos rfl] at hk ⊢
    exact ⟨G1, η, r.extd e1, Fin.up e1.g hk⟩
  | false =>
    rw [if_neg Bool.false_ne_true] at hk ⊢
    exact ⟨G1, η, r.extd e1, Fin.up e1.g hk⟩
theorem s_brk : PS X (.Break pos) (tS X.K B sBrk) := ps_weak ps_break fun D σ H q => by
  obtain ⟨G, η, r, q⟩ := q
  exact q G H σ (Ex.refl G) r
theorem s_cont : PS X (.Continue pos) (tS X.K B sCont) := ps_weak ps_continue fun D σ H q => by
  obtain ⟨G, η, r, q⟩ := q
  exact q G H σ (Ex.refl G) r
/-! ### loops -/
theorem loop_step {K : PySem.W.Frag} {D : Ends} {G : Hp} {gg : Bk.G} {b : St} {d : Bk.D} {ds : List Bk.D} {η : Env} (h : Fin K B D G (loop gg b (d :: ds) η)) : (gg d η).Sat (fun η1 => Fin K B D G (match b η1 with
    | .next η' => loop gg b ds η'
    | .ct η' => loop gg b ds η'
    | .brk η' => .next η'
    | o => o)) (fun _ => False) := by
  have h : Fin K B D G (outOf (gg d η).calm fun η1 => match b η1 with
    | .next η' => loop gg b ds η'
    | .ct η' => loop gg b ds η'
    | .brk η' => .next η'
    | o => o) := h
  cases z : gg d η with
  | ok η' =>
    rw [z] at h
    exact h
  | raise cl =>
    rw [z] at h
    exact h.elim
  | bad =>
    rw [z] at h
    exact h.elim
theorem s_for {own : List Nat} {fi : I} {gg : G} (hp : PassesOwn (model X.prog X.w) X.A X.env X.xe) (hc : X.calm = true) (hi : PI X tg iter (tI X.K B fi)) (hg : PG X tg (tGo X.K B own gg)) (hb : PSs X body (tS X.K B s1))
    (hs : ∀ x, foldedSetIterable iter X.env x = pure x := by intro _; rfl) : PS X (.For tg iter body [] pos) (tS X.K B (sFor fi gg s1)) := ps_weak (ps_for hp hc hi hg hb hs) fun D σ H q => by
  obtain ⟨G, η, r, q⟩ := q
  refine ⟨G, η, r, Sat.mono (Fin.ofRes q) (fun ds hds G1 H1 J e1 wk => ?_) fun _ z => z⟩
  refine ⟨fun i m σ' H' => m = ds.length - i ∧ i ≤ ds.length ∧ ∃ G' η', Ex G1 G' ∧ RpE X.K B.G0 B.H0 G' H' σ' η' ∧ Fin X.K B D G' (loop gg s1 (ds.drop i) η'), ⟨ds.length, by simp, Nat.zero_le _, G1, η, Ex.refl _, r.extd e1, Fin.up e1.g hds⟩, ?_⟩
  rintro i m σ' H' ⟨rfl, hi', G', η', xg, r', hq⟩
  have exH : Ex G1 H' := xg.trans r'.exg
  by_cases hlt : i < ds.length
  · right
    refine ⟨wk.goes i H' hlt exH, fun σ2 H2 => i + 1 ≤ ds.length ∧ ∃ G' η', Ex G1 G' ∧ RpE X.K B.G0 B.H0 G' H2 σ2 η' ∧ Fin X.K B D G' (loop gg s1 (ds.drop (i + 1)) η'), fun σ2 H2 hN => ⟨ds.length - (i + 1), by omega, rfl, hN⟩, fun v H2 yl => ?_⟩
    have hd : ds[i]? = some ds[i] := List.getElem?_eq_getElem hlt
    obtain ⟨G2, x2, rv⟩ := wk.yields i H' v H2 _ hd exH yl G' xg r'.exg
    rw [List.drop_eq_getElem_cons hlt] at hq
    refine ⟨G2, η', ds[i], r'.extd x2, rv, Sat.mono (loop_step hq) (fun η1 h1 σ3 r3 _ => ⟨G2, η1, r3, ?_⟩) fun _ z => z⟩
    cases z : s1 η1 with
    | next η2 =>
      rw [z] at h1
      exact fun G4 H4 σ4 x4 r4 => ⟨hlt, G4, η2, (xg.trans x2.g).trans x4, r4, Fin.up (x2.g.trans x4) h1⟩
    | ct η2 =>
      rw [z] at h1
      exact fun G4 H4 σ4 x4 r4 => ⟨hlt, G4, η2, (xg.trans x2.g).trans x4, r4, Fin.up (x2.g.trans x4) h1⟩
    | brk η2 =>
      rw [z] at h1
      exact fun G4 H4 σ4 x4 r4 => h1 G4 H4 σ4 (x2.g.trans x4) r4
    | ret d =>
      rw [z] at h1
      exact fun G4 H4 v4 x4 r4 => h1 G4 H4 v4 (x2.g.trans x4) r4
    | raise cl =>
      rw [z] at h1
      exact h1
    | bad =>
      rw [z] at h1
      exact h1
  · left
    have ei : i = ds.length := by omega
    subst ei
    rw [List.drop_length] at hq
    exact ⟨wk.stops H' exH, hq G' H' σ' (Ex.refl _) r'⟩
theorem s_while (n : Nat) (hp : PassesOwn (model X.prog X.w) X.A X.env X.xe) (hc : PT X a (tT X.K B t)) (hb : PSs X body (tS X.K B s1)) : PS X (.While a body [] pos) (tS X.K B (sWhile n t s1)) := ps_weak (ps_while hp hc hb) fun D σ H q => by
  obtain ⟨G, η, r, q⟩ := q
  refine ⟨fun m σ' H' => ∃ G' η', Ex G G' ∧ RpE X.K B.G0 B.H0 G' H' σ' η' ∧ Fin X.K B D G' (whil t s1 m η'), ⟨n, G, η, Ex.refl _, r, q⟩, ?_⟩
  rintro m σ' H' ⟨G', η', xg, r', hq⟩
  cases m with
  | zero => exact hq.elim
  | succ m =>
    refine tT.of r' (Fin.ofRes hq) fun k hk G1 H1 e1 => ?_
    cases k with
    | false =>
      rw [if_neg Bool.false_ne_true] at hk ⊢
      exact hk G1 H1 σ' e1.g (r'.extd e1)
    | true =>
      rw [if_pos rfl] at hk ⊢
      refine ⟨fun σ2 H2 => ∃ G' η', Ex G G' ∧ RpE X.K B.G0 B.H0 G' H2 σ2 η' ∧ Fin X.K B D G' (whil t s1 m η'), fun σ2 H2 hN => ⟨m, Nat.lt_succ_self m, hN⟩, ⟨G1, η', r'.extd e1, ?_⟩⟩
      cases z : s1 η' with
      | next η2 =>
        rw [z] at hk
        exact fun G4 H4 σ4 x4 r4 => ⟨G4, η2, (xg.trans e1.g).trans x4, r4, Fin.up (e1.g.trans x4) hk⟩
      | ct η2 =>
        rw [z] at hk
        exact fun G4 H4 σ4 x4 r4 => ⟨G4, η2, (xg.trans e1.g).trans x4, r4, Fin.up (e1.g.trans x4) hk⟩
      | brk η2 =>
        rw [z] at hk
        exact fun G4 H4 σ4 x4 r4 => hk G4 H4 σ4 (e1.g.trans x4) r4
      | ret d =>
        rw [z] at hk
        exact fun G4 H4 v4 x4 r4 => hk G4 H4 v4 (e1.g.trans x4) r4
      | raise cl =>
        rw [z] at hk
        exact hk
      | bad =>
        rw [z] at hk
        exact hk
/-! ### the def's own lists -/
/-- x = [..] -/
theorem s_new (i : Nat) {x : Str} {px p2 : Pos} (hN : X.N.Nodup) (ha : PA X es (tA X.K B fs)) (hl : fs.length ≤ 1000 := by first | decide | simp) (hi : X.N[i]? = some x := by rfl) (hx : Loc X.env.scope x := by first | exact .inl rfl | exact .inr rfl) (hs : swapsWith (.List es p2) (some (.Name x px)) pos.line X.env = pure false := by rfl) (hf : X.fn x = true ∨ X.env.scope.names.lookup x = some .local := by first | exact .inl rfl | exact .inr rfl) :
    PS X (.Assign [.Name x px] (.List es p2) pos) (tS X.K B (sNew i fs)) := ps_weak (ps_set hN hi hx (pe_lst ha) hs hf) fun D σ H q => by
  obtain ⟨G, η, r, q⟩ := q
  refine tA.of r (evals_len (Fin.ofRes q)) fun ds hds G1 H1 vs e1 r1 => ?_
  have hd : Fin X.K B D G (.next (η.set i (some (.own ds)))) := hds.2
  refine ⟨by rw [r1.length, hds.1, line_eq]; show fs.length ≤ 16777216; omega, fun p hp => ?_⟩
  have r2 := r.extd e1
  refine hd G1 (upd H1 p (.lst vs)) _ e1.g (r2.setNew i hp ⟨p, vs, rfl, r2.ext.h.none hp, e1.gh.none hp, upd_same, r1⟩)
theorem s_newD (i : Nat) {x : Str} {px p2 : Pos} (hN : X.N.Nodup) (hi : X.N[i]? = some x := by rfl) (hx : Loc X.env.scope x := by first | exact .inl rfl | exact .inr rfl) (hs : swapsWith (.Dict [] [] p2) (some (.Name x px)) pos.line X.env = pure false := by rfl) (hf : X.fn x = true ∨ X.env.scope.names.lookup x = some .local := by first | exact .inl rfl | exact .inr rfl) :
    PS X (.Assign [.Name x px] (.Dict [] [] p2) pos) (tS X.K B (sNewD i)) := ps_weak (ps_set hN hi hx pe_dnewK hs hf) fun D σ H q => by
  obtain ⟨G, η, r, q⟩ := q
  intro p hp
  exact q G (upd H p (.dK [])) _ (Ex.refl G) (r.setNew i hp ⟨p, [], rfl, r.ext.h.none hp, r.exg.none hp, upd_same, .nil⟩)
theorem app_fin {K : PySem.W.Frag} {D : Ends} {G H : Hp} {σ : L2.St} {η : Env} {i : Nat} {d : Bk.D} {v : V} (r : RpE K B.G0 B.H0 G H σ η) (rd : Rp K G v d) (q : Fin K B D G (appTo i d η)) :
    ∃ aa vs, σ[i]? = some (some (.ref aa)) ∧ H aa = some (.lst vs) ∧ vs.length < sizeLine ∧ D.nx σ (upd H aa (.lst (vs ++ [v]))) := by
  unfold appTo at q
  split at q
  · rename_i ds e
    by_cases hl : ds.length < lim
    · rw [if_pos hl] at q
      obtain ⟨w, h1, aa, vs, rfl, h0, hg, hh, ra⟩ := r.slot _ _ e
      refine ⟨aa, vs, h1, hh, by rw [ra.length, line_eq]; exact hl, ?_⟩
      exact q G _ σ (Ex.refl G) (r.mut e rfl rfl h1 h0 hg ⟨aa, _, rfl, h0, hg, upd_same, ra.snoc rd⟩)
    · rw [if_neg hl] at q
      exact q.elim
  · exact q.elim
/-- x.append(e) -/
theorem s_app (i : Nat) {x : Str} {px apos cpos : Pos} (ha : PE X a (tX X.K B f)) (hN : X.N[i]? = some x := by rfl) (hv : Vis X.env.scope x := by first | exact Or.inl rfl | exact Or.inr (Or.inl rfl) | exact Or.inr (Or.inr rfl)) (hd : (x == ("__debug__" : Str)) = false := by decide)
    (hcd : (x == ("__classdict__" : Str)) = false := by decide) (h0 : starEach [a] X.env = (false, eval a X.env) :: starEach [] X.env := by rfl)
    (hpe : ∀ {to : TE} {t : TA}, PE X (.Name x px) to → PA X [a] t → PE X (.Call (.Attribute (.Name x px) "append" apos) [a] [] cpos) (tBM X.K "list" rAppend to t) := by intro _ _ h1 h2; exact pe_bm PySem.F.plainAttrs_list PySem.F.slot_list_append PySem.F.type_list_append mt_append h1 h2)
    (hs : swapsWith (.Call (.Attribute (.Name x px) "append" apos) [a] [] cpos) none pos.line X.env = pure false := by rfl) : PS X (.Expr (.Call (.Attribute (.Name x px) "append" apos) [a] [] cpos) pos) (tS X.K B (sApp i f)) :=
  ps_weak (ps_expr (hpe (pe_var hN hv hd hcd) (pa_cons ha pa_nil h0)) hs) fun D σ H q => by
    obtain ⟨G, η, r, q⟩ := q
    unfold sApp at q
    split at q
    · rename_i ds e
      obtain ⟨w, h1, aa, vs, rfl, hh0, hg, hh, ra⟩ := r.slot _ _ e
      refine ⟨_, h1, .inl ⟨rfl, vs, .inl (.inl hh)⟩, tX.of r (Fin.ofRes q) fun d hd G1 H1 v e1 r1 => ?_⟩
      obtain ⟨aa', vs', k1, k2, k3, k4⟩ := app_fin (r.extd e1) r1 (Fin.up e1.g hd)
      rw [h1] at k1
      cases k1
      exact ⟨aa, vs', v, rfl, rfl, k2, k3, k4⟩
    · exact q.elim
/-! x.extend(e) -/
theorem ext_listW (l : Addr) (items : Array Value) (n : Nat) (b : Addr) (items2 : Array Value) (n2 : Nat) (dd2 : Option Addr) (sl2 : Array (Option Value)) (hc0 : ¬(!items.isEmpty && Builtin.List.listTooLong (items.size + items2.size)) = true) (hc1 : items.size ≤ sizeLine) (hs2 : items.size + items2.size ≤ sizeLine + 1) :
    Meets (Builtin.«list.extend» ⟨[.ref l, .ref b], []⟩) (fun _ R s => s.heap.get? l = some { cls := .type "list", dict := none, data := .seq items n, slots := #[] } ∧ s.heap.get? b = some { cls := .type "list", dict := dd2, data := .seq items2 n2, slots := sl2 } ∧ R (.ok (.ret Value.none)) { s with heap := s.heap.update l (Obj.mapSeq fun x => x ++ items2), toks := s.toks }) :=
  .of_wp fun prog w A R s h => by
    obtain ⟨hp, g, d, tk, os⟩ := s; obtain ⟨hl, hb, h⟩ := h; have f1 := AutoSeq1.idx_int; have f2 := AutoSeq1.sub_tuple_tuple; have f3 := AutoSeq1.sub_list_list; have f4 := AutoSeq1.sub_tuple_list; have f5 := AutoSeq1.sub_list_tuple;
    have hz' : (items ++ items2).size ≤ sizeLine + 1 := by rw [Array.size_append]; exact hs2
    wp_walk using (wpAny_updateSeq hl rfl (hz := hc1) (_hz' := hz')), AutoSeq1.wpAny_loadPart' hl, AutoSeq1.wpAny_loadPart' hb; exact ⟨_, rfl, h⟩
theorem ext_tupW (l : Addr) (items : Array Value) (n : Nat) (b : Addr) (items2 : Array Value) (n2 : Nat) (dd2 : Option Addr) (sl2 : Array (Option Value)) (hc0 : ¬(!items.isEmpty && Builtin.List.listTooLong (items.size + items2.size)) = true) (hc1 : items.size ≤ sizeLine) (hs2 : items.size + items2.size ≤ sizeLine + 1) :
    Meets (Builtin.«list.extend» ⟨[.ref l, .ref b], []⟩) (fun _ R s => s.heap.get? l = some { cls := .type "list", dict := none, data := .seq items n, slots := #[] } ∧ s.heap.get? b = some { cls := .type "tuple", dict := dd2, data := .seq items2 n2, slots := sl2 } ∧ R (.ok (.ret Value.none)) { s with heap := s.heap.update l (Obj.mapSeq fun x => x ++ items2), toks := s.toks }) :=
  .of_wp fun prog w A R s h => by
    obtain ⟨hp, g, d, tk, os⟩ := s; obtain ⟨hl, hb, h⟩ := h; have f1 := AutoSeq1.idx_int; have f2 := AutoSeq1.sub_tuple_tuple; have f3 := AutoSeq1.sub_list_list; have f4 := AutoSeq1.sub_tuple_list; have f5 := AutoSeq1.sub_list_tuple;
    have hz' : (items ++ items2).size ≤ sizeLine + 1 := by rw [Array.size_append]; exact hs2
    wp_walk using (wpAny_updateSeq hl rfl (hz := hc1) (_hz' := hz')), AutoSeq1.wpAny_loadPart' hl, AutoSeq1.wpAny_loadPart' hb; exact ⟨_, rfl, h⟩
def rExtD (K : PySem.W.Frag) : V → List V → Hp → VK → Prop := fun x vs H Q => ∃ l b xs zs, x = .ref l ∧ vs = [.ref b] ∧ H l = some (.lst xs) ∧ (SqL K H b zs ∨ SqT K H b zs) ∧ xs.length + zs.length ≤ sizeLine ∧ Q .non (upd H l (.lst (xs ++ zs)))
theorem mt_extD : MtM X "list.extend" (rExtD X.K) := by
  intro pins s σ H x vs v us Q I rx rv h
  obtain ⟨l, b, xs, zs, rfl, rfl, hH, hB, hz, q⟩ := h
  cases rx
  obtain ⟨u, rfl, ru⟩ := rv.one
  cases ru
  obtain ⟨z, its, n, r, hl, e⟩ := I.lstM hH
  have fin : ∀ its2 : List Value, Vals zs its2 → EP X pins σ Q Value.none { s with heap := s.heap.update l (Obj.mapSeq fun x => x ++ its2.toArray), toks := s.toks } := fun its2 r2 =>
    ⟨.non, _, I.lset (its' := its ++ its2) hH e (by simp) (r.append r2) (by rw [List.length_append]; exact hz), rfl, q⟩
  rcases hB with hB | hB
  · obtain ⟨its2, r2, ⟨⟨cls2, dd2, data2, sl2⟩, n2, ho2, hc2, hdd2, hd2⟩, z2⟩ := I.list hB
    simp only at hc2 hd2
    subst hc2 hd2
    have l2 := r2.length
    have hsz : its.toArray.size + its2.toArray.size ≤ sizeLine := by rw [List.size_toArray, List.size_toArray]; omega
    have hlong : ¬ (!its.toArray.isEmpty && Builtin.List.listTooLong (its.toArray.size + its2.toArray.size)) = true := by
      rw [notLongL hsz, Bool.and_false]
      exact Bool.false_ne_true
    exact call_meets F.slot_list_extend ⟨_, e, rfl⟩ F.entry_list_extend (F.args_list_extend_2 _ _) (ext_listW l its.toArray n b its2.toArray n2 dd2 sl2 hlong (by rw [List.size_toArray]; omega) (by omega)) ⟨e, ho2, fin its2 r2⟩
  · obtain ⟨its2, r2, ⟨⟨cls2, dd2, data2, sl2⟩, ho2, hc2, n2, hd2⟩, z2⟩ := I.tuple hB
    simp only at hc2 hd2
    subst hc2 hd2
    have l2 := r2.length
    have hsz : its.toArray.size + its2.toArray.size ≤ sizeLine := by rw [List.size_toArray, List.size_toArray]; omega
    have hlong : ¬ (!its.toArray.isEmpty && Builtin.List.listTooLong (its.toArray.size + its2.toArray.size)) = true := by
      rw [notLongL hsz, Bool.and_false]
      exact Bool.false_ne_true
    exact call_meets F.slot_list_extend ⟨_, e, rfl⟩ F.entry_list_extend (F.args_list_extend_2 _ _) (ext_tupW l its.toArray n b its2.toArray n2 dd2 sl2 hlong (by rw [List.size_toArray]; omega) (by omega)) ⟨e, ho2, fin its2 r2⟩
theorem s_ext (i : Nat) {x : Str} {px apos cpos : Pos} (ha : PE X a (tX X.K B f)) (hN : X.N[i]? = some x := by rfl) (hv : Vis X.env.scope x := by first | exact Or.inl rfl | exact Or.inr (Or.inl rfl) | exact Or.inr (Or.inr rfl)) (hd : (x == ("__debug__" : Str)) = false := by decide)
    (hcd : (x == ("__classdict__" : Str)) = false := by decide) (h0 : starEach [a] X.env = (false, eval a X.env) :: starEach [] X.env := by rfl)
    (hpe : ∀ {to : TE} {t : TA}, PE X (.Name x px) to → PA X [a] t → PE X (.Call (.Attribute (.Name x px) "extend" apos) [a] [] cpos) (tBM X.K "list" (rExtD X.K) to t) := by intro _ _ h1 h2; exact pe_bm PySem.F.plainAttrs_list PySem.F.slot_list_extend PySem.F.type_list_extend mt_extD h1 h2)
    (hs : swapsWith (.Call (.Attribute (.Name x px) "extend" apos) [a] [] cpos) none pos.line X.env = pure false := by rfl) : PS X (.Expr (.Call (.Attribute (.Name x px) "extend" apos) [a] [] cpos) pos) (tS X.K B (sExt i f)) :=
  ps_weak (ps_expr (hpe (pe_var hN hv hd hcd) (pa_cons ha pa_nil h0)) hs) fun D σ H q => by
    obtain ⟨G, η, r, q⟩ := q
    unfold sExt at q
    split at q
    · rename_i ds e
      obtain ⟨w, h1, aa, vs, rfl, hh0, hg, hh, ra⟩ := r.slot _ _ e
      refine ⟨_, h1, .inl ⟨rfl, vs, .inl (.inl hh)⟩, tX.of r (Fin.ofRes q) fun d hd G1 H1 v e1 r1 => ?_⟩
      have r2 := r.extd e1
      obtain ⟨w', h1', aa', vs', ew, hh0', hg', hh', ra'⟩ := r2.slot _ _ e
      rw [h1] at h1'
      cases h1'
      cases ew
      unfold extTo at hd
      rw [e] at hd
      have hd : Fin X.K B D G (outOf (seqOf d) fun xs => if ds.length + xs.length ≤ lim then .next (η.set i (some (.own (ds ++ xs)))) else .bad) := hd
      have close : ∀ (zs : List V) (xs : List Bk.D), RpAll X.K G1 zs xs → Fin X.K B D G (if ds.length + xs.length ≤ lim then .next (η.set i (some (.own (ds ++ xs)))) else .bad) → vs'.length + zs.length ≤ sizeLine ∧ D.nx σ (upd H1 aa (.lst (vs' ++ zs))) := fun zs xs rz hq => by
        by_cases hl : ds.length + xs.length ≤ lim
        · rw [if_pos hl] at hq
          refine ⟨by rw [ra'.length, rz.length, line_eq]; exact hl, ?_⟩
          exact hq G1 _ σ e1.g (r2.mut e rfl rfl h1 hh0' hg' ⟨aa, _, rfl, hh0', hg', upd_same, ra'.append rz⟩)
        · rw [if_neg hl] at hq
          exact hq.elim
      cases r1 with
      | lst hs rz =>
        obtain ⟨c1, c2⟩ := close _ _ rz hd
        exact ⟨aa, _, vs', _, rfl, rfl, hh', .inl (e1.gh.l hs), c1, c2⟩
      | tup hs rz =>
        obtain ⟨c1, c2⟩ := close _ _ rz hd
        exact ⟨aa, _, vs', _, rfl, rfl, hh', .inr (e1.gh.t hs), c1, c2⟩
      | _ => exact hd.elim
    · exact q.elim
/-! x.append(y.pop()) -/
theorem pop_rp {K : PySem.W.Frag} {G H : Hp} {σ : L2.St} {η η' : Env} {j : Nat} {d : Bk.D} (r : RpE K B.G0 B.H0 G H σ η) (h : popOf j η = .ok (d, η')) :
    ∃ aa vs v, σ[j]? = some (some (.ref aa)) ∧ H aa = some (.lst vs) ∧ vs[vs.length - 1]? = some v ∧ Rp K G v d ∧ RpE K B.G0 B.H0 G (upd H aa (.lst vs.dropLast)) σ η' := by
  unfold popOf at h
  split at h
  · rename_i ds e
    split at h
    · rename_i d' e2
      cases h
      obtain ⟨w, h1, aa, vs, rfl, h0, hg, hh, ra⟩ := r.slot _ _ e
      rw [← ra.length] at e2
      obtain ⟨v, k1, k2⟩ := ra.get e2
      exact ⟨aa, vs, v, h1, hh, k1, k2, r.mut e rfl rfl h1 h0 hg ⟨aa, _, rfl, h0, hg, upd_same, ra.dropLast⟩⟩
    · cases h
  · cases h
theorem s_appPop (i j : Nat) {x y : Str} {px py apos cpos apos2 cpos2 : Pos} (hN : X.N[i]? = some x := by rfl) (hv : Vis X.env.scope x := by first | exact Or.inl rfl | exact Or.inr (Or.inl rfl) | exact Or.inr (Or.inr rfl)) (hd : (x == ("__debug__" : Str)) = false := by decide)
    (hcd : (x == ("__classdict__" : Str)) = false := by decide) (hN2 : X.N[j]? = some y := by rfl) (hv2 : Vis X.env.scope y := by first | exact Or.inl rfl | exact Or.inr (Or.inl rfl) | exact Or.inr (Or.inr rfl)) (hd2 : (y == ("__debug__" : Str)) = false := by decide)
    (hcd2 : (y == ("__classdict__" : Str)) = false := by decide) (h0 : starEach [.Call (.Attribute (.Name y py) "pop" apos2) [] [] cpos2] X.env = (false, eval (.Call (.Attribute (.Name y py) "pop" apos2) [] [] cpos2) X.env) :: starEach [] X.env := by rfl)
    (hpp : ∀ {to : TE}, PE X (.Name y py) to → PE X (.Call (.Attribute (.Name y py) "pop" apos2) [] [] cpos2) (tBM0 X.K "list" rPop to) := by intro _ h1; exact pe_bm0 PySem.F.plainAttrs_list PySem.F.slot_list_pop PySem.F.type_list_pop mt_pop h1)
    (hpe : ∀ {to : TE} {t : TA}, PE X (.Name x px) to → PA X [.Call (.Attribute (.Name y py) "pop" apos2) [] [] cpos2] t → PE X (.Call (.Attribute (.Name x px) "append" apos) [.Call (.Attribute (.Name y py) "pop" apos2) [] [] cpos2] [] cpos) (tBM X.K "list" rAppend to t) := by intro _ _ h1 h2; exact pe_bm PySem.F.plainAttrs_list PySem.F.slot_list_append PySem.F.type_list_append mt_append h1 h2)
    (hs : swapsWith (.Call (.Attribute (.Name x px) "append" apos) [.Call (.Attribute (.Name y py) "pop" apos2) [] [] cpos2] [] cpos) none pos.line X.env = pure false := by rfl) : PS X (.Expr (.Call (.Attribute (.Name x px) "append" apos) [.Call (.Attribute (.Name y py) "pop" apos2) [] [] cpos2] [] cpos) pos) (tS X.K B (sAppPop i j)) :=
  ps_weak (ps_expr (hpe (pe_var hN hv hd hcd) (pa_cons (hpp (pe_var hN2 hv2 hd2 hcd2)) pa_nil h0)) hs) fun D σ H q => by
    obtain ⟨G, η, r, q⟩ := q
    unfold sAppPop at q
    split at q
    · rename_i ds e
      obtain ⟨w, h1, aa, vs, rfl, hh0, hg, hh, ra⟩ := r.slot _ _ e
      cases z : popOf j η with
      | ok p =>
        obtain ⟨d, η'⟩ := p
        rw [z] at q
        obtain ⟨ab, vs2, v, k1, k2, k3, k4, r2⟩ := pop_rp r z
        obtain ⟨aa', vs', c1, c2, c3, c4⟩ := app_fin r2 k4 q
        rw [h1] at c1
        cases c1
        exact ⟨_, h1, .inl ⟨rfl, vs, .inl (.inl hh)⟩, _, k1, .inl ⟨rfl, vs2, .inl (.inl k2)⟩, ab, vs2, v, rfl, rfl, k2, k3, aa, vs', v, rfl, rfl, c2, c3, c4⟩
      | raise cl =>
        rw [z] at q
        exact q.elim
      | bad =>
        rw [z] at q
        exact q.elim
    · exact q.elim
/-! ### the def's own dicts -/
theorem keyV_kV {K : PySem.W.Frag} {G : Hp} {v : V} {d : Bk.D} (rd : Rp K G v d) (h : keyD d = true) : ∃ k, keyV d = some k ∧ v = kV k := by
  cases rd with
  | int i => exact ⟨.inl i, rfl, rfl⟩
  | str s => exact ⟨.inr (Sx s), rfl, rfl⟩
  | _ => simp [keyD] at h
theorem sameKey_eq {d e : Bk.D} {k l : Key} (hd : keyV d = some k) (he : keyV e = some l) : sameKey d e = decide (k = l) := by
  cases d <;> simp [keyV] at hd <;> cases e <;> simp [keyV] at he
  · subst hd he
    simp [sameKey]
    rw [Bool.beq_eq_decide_eq]
  · subst hd he
    simp [sameKey]
  · subst hd he
    simp [sameKey]
  · subst hd he
    simp [sameKey]
    rw [Bool.beq_eq_decide_eq]
theorem kv_get {K : PySem.W.Frag} {G : Hp} : ∀ {kvs : List (Key × V)} {ks : List (Bk.D × Bk.D)} {kd : Bk.D} {k : Key}, RpKV K G kvs ks → keyV kd = some k → (∀ d, dget ks kd = some d → ∃ v, valV kvs k = some v ∧ Rp K G v d) ∧ (dget ks kd = Option.none → valV kvs k = Option.none)
  | _, _, kd, k, .nil, _ => ⟨fun d h => by simp [dget] at h, fun _ => rfl⟩
  | _, _, kd, k, .cons (k := k1) (v := v1) (kd := kd1) (d := d1) e1 r1 rr, e => by
    rename_i kvs ks
    obtain ⟨ih1, ih2⟩ := kv_get rr e
    have hs := sameKey_eq e1 e
    by_cases h : k1 = k
    · rw [decide_eq_true h] at hs
      have z : dget ((kd1, d1) :: ks) kd = some d1 := by simp [dget, hs]
      have z2 : valV ((k1, v1) :: kvs) k = some v1 := valV_pos h
      exact ⟨fun d hd => by rw [z] at hd; cases hd; exact ⟨v1, z2, r1⟩, fun hn => by rw [z] at hn; cases hn⟩
    · rw [decide_eq_false h] at hs
      have z : dget ((kd1, d1) :: ks) kd = dget ks kd := by simp [dget, hs]
      have z2 : valV ((k1, v1) :: kvs) k = valV kvs k := valV_neg h
      rw [z, z2]
      exact ⟨ih1, ih2⟩
theorem kv_len {K : PySem.W.Frag} {G : Hp} : ∀ {kvs : List (Key × V)} {ks : List (Bk.D × Bk.D)}, RpKV K G kvs ks → kvs.length = ks.length
  | _, _, .nil => rfl
  | _, _, .cons _ _ r => congrArg (· + 1) (kv_len r)
theorem kv_any {K : PySem.W.Frag} {G : Hp} {kd : Bk.D} {k : Key} (e : keyV kd = some k) : ∀ {kvs : List (Key × V)} {ks : List (Bk.D × Bk.D)}, RpKV K G kvs ks → (kvs.any fun kv => decide (kv.1 = k)) = ks.any fun kv => sameKey kv.1 kd
  | _, _, .nil => rfl
  | _, _, .cons e1 _ r => by
    rw [List.any_cons, List.any_cons, kv_any e r, sameKey_eq e1 e]
theorem kv_map {K : PySem.W.Frag} {G : Hp} {kd d : Bk.D} {k : Key} {v : V} (e : keyV kd = some k) (rv : Rp K G v d) : ∀ {kvs : List (Key × V)} {ks : List (Bk.D × Bk.D)}, RpKV K G kvs ks → RpKV K G (kvs.map fun kv => if kv.1 = k then (kv.1, v) else kv) (ks.map fun kv => if sameKey kv.1 kd = true then (kv.1, d) else kv)
  | _, _, .nil => .nil
  | _, _, .cons (k := k1) (v := v1) (kd := kd1) (d := d1) e1 r1 r => by
    rw [List.map_cons, List.map_cons]
    have hs := sameKey_eq e1 e
    by_cases h : k1 = k
    · rw [decide_eq_true h] at hs
      rw [if_pos h, if_pos hs]
      exact .cons e1 rv (kv_map e rv r)
    · rw [decide_eq_false h] at hs
      rw [if_neg h, if_neg (by show ¬ sameKey kd1 kd = true; rw [hs]; exact Bool.false_ne_true)]
      exact .cons e1 r1 (kv_map e rv r)
theorem kv_app {K : PySem.W.Frag} {G : Hp} : ∀ {kvs kvs2 : List (Key × V)} {ks ks2 : List (Bk.D × Bk.D)}, RpKV K G kvs ks → RpKV K G kvs2 ks2 → RpKV K G (kvs ++ kvs2) (ks ++ ks2)
  | _, _, _, _, .nil, h => h
  | _, _, _, _, .cons a b r, h => .cons a b (kv_app r h)
theorem kv_put {K : PySem.W.Frag} {G : Hp} {kvs : List (Key × V)} {ks : List (Bk.D × Bk.D)} {kd d : Bk.D} {k : Key} {v : V} (r : RpKV K G kvs ks) (e : keyV kd = some k) (rv : Rp K G v d) : RpKV K G (putK kvs k v) (dput ks kd d) := by
  unfold putK dput
  rw [kv_any e r]
  by_cases h : (ks.any fun kv => sameKey kv.1 kd) = true
  · rw [if_pos h, if_pos h]
    exact kv_map e rv r
  · rw [if_neg h, if_neg h]
    exact kv_app r (.cons e rv .nil)
theorem put_fin {K : PySem.W.Frag} {D : Ends} {G H : Hp} {σ : L2.St} {η : Env} {i : Nat} {kd d : Bk.D} {kv v : V} (r : RpE K B.G0 B.H0 G H σ η) (rk : Rp K G kv kd) (rd : Rp K G v d) (q : Fin K B D G (putTo i kd d η)) :
    ∃ aa H', σ[i]? = some (some (.ref aa)) ∧ DPut H aa kv v H' ∧ D.nx σ H' := by
  unfold putTo at q
  split at q
  · rename_i ks e
    by_cases hl : ks.length < lim ∧ keyD kd = true
    · rw [if_pos hl] at q
      obtain ⟨w, h1, aa, kvs, rfl, h0, hg, hh, ra⟩ := r.slot _ _ e
      obtain ⟨k, ek, rfl⟩ := keyV_kV rk hl.2
      exact ⟨aa, _, h1, DPut.k hh (by rw [kv_len ra, line_eq]; exact hl.1), q G _ σ (Ex.refl G) (r.mut e rfl rfl h1 h0 hg ⟨aa, _, rfl, h0, hg, upd_same, kv_put ra ek rd⟩)⟩
    · rw [if_neg hl] at q
      exact q.elim
  · exact q.elim
/-- x[k] = v -/
theorem s_put (i : Nat) {x : Str} {px pt : Pos} (hu : X.A.units + 1 < cLine) (hk : PE X b (tX X.K B g)) (ha : PE X a (tX X.K B f)) (hN : X.N[i]? = some x := by rfl) (hv : Vis X.env.scope x := by first | exact Or.inl rfl | exact Or.inr (Or.inl rfl) | exact Or.inr (Or.inr rfl)) (hd : (x == ("__debug__" : Str)) = false := by decide)
    (hcd : (x == ("__classdict__" : Str)) = false := by decide) (hs : swapsWith a (some (.Subscript (.Name x px) b pt)) pos.line X.env = pure false := by rfl) : PS X (.Assign [.Subscript (.Name x px) b pt] a pos) (tS X.K B (sPut i g f)) :=
  ps_weak (ps_dput hu (pe_var hN hv hd hcd) hk ha hs) fun D σ H q => by
    obtain ⟨G, η, r, q⟩ := q
    refine tX.of r (Fin.ofRes q) fun d hd' G1 H1 v e1 r1 => ?_
    split at hd'
    · rename_i ks e
      have r2 := r.extd e1
      obtain ⟨w, h1, aa, kvs, rfl, h0, hg, hh, ra⟩ := r.slot _ _ e
      refine ⟨_, h1, tX.of r2 (Fin.ofRes hd') fun kd hk2 G2 H2 kv e2 rk => ?_⟩
      obtain ⟨aa', H', k1, k2, k3⟩ := put_fin (r2.extd e2) rk (r1.mono e2.g) (Fin.up (e1.g.trans e2.g) hk2)
      rw [h1] at k1
      cases k1
      exact ⟨aa, H', rfl, k2, k3⟩
    · exact hd'.elim
/-- x[k] = y.pop() -/
theorem s_putPop (i j : Nat) {x y : Str} {px pt py apos2 cpos2 : Pos} (hu : X.A.units + 1 < cLine) (hk : PE X b (tX X.K B g)) (hN : X.N[i]? = some x := by rfl) (hv : Vis X.env.scope x := by first | exact Or.inl rfl | exact Or.inr (Or.inl rfl) | exact Or.inr (Or.inr rfl)) (hd : (x == ("__debug__" : Str)) = false := by decide)
    (hcd : (x == ("__classdict__" : Str)) = false := by decide) (hN2 : X.N[j]? = some y := by rfl) (hv2 : Vis X.env.scope y := by first | exact Or.inl rfl | exact Or.inr (Or.inl rfl) | exact Or.inr (Or.inr rfl)) (hd2 : (y == ("__debug__" : Str)) = false := by decide)
    (hcd2 : (y == ("__classdict__" : Str)) = false := by decide)
    (hpp : ∀ {to : TE}, PE X (.Name y py) to → PE X (.Call (.Attribute (.Name y py) "pop" apos2) [] [] cpos2) (tBM0 X.K "list" rPop to) := by intro _ h1; exact pe_bm0 PySem.F.plainAttrs_list PySem.F.slot_list_pop PySem.F.type_list_pop mt_pop h1)
    (hs : swapsWith (.Call (.Attribute (.Name y py) "pop" apos2) [] [] cpos2) (some (.Subscript (.Name x px) b pt)) pos.line X.env = pure false := by rfl) : PS X (.Assign [.Subscript (.Name x px) b pt] (.Call (.Attribute (.Name y py) "pop" apos2) [] [] cpos2) pos) (tS X.K B (sPutPop i g j)) :=
  ps_weak (ps_dput hu (pe_var hN hv hd hcd) hk (hpp (pe_var hN2 hv2 hd2 hcd2)) hs) fun D σ H q => by
    obtain ⟨G, η, r, q⟩ := q
    unfold sPutPop at q
    cases z : popOf j η with
    | ok p =>
      obtain ⟨d, η'⟩ := p
      rw [z] at q
      obtain ⟨ab, vs2, v, k1, k2, k3, k4, r2⟩ := pop_rp r z
      have q : Fin X.K B D G (match η'[i]? with
        | some (some (.dic _)) => outOf (g η') fun k => putTo i k d η'
        | _ => .bad) := q
      split at q
      · rename_i ks e
        obtain ⟨w, h1, aa, kvs, rfl, h0, hg, hh, ra⟩ := r2.slot _ _ e
        refine ⟨_, k1, .inl ⟨rfl, vs2, .inl (.inl k2)⟩, ab, vs2, v, rfl, rfl, k2, k3, _, h1, tX.of r2 (Fin.ofRes q) fun kd hk2 G2 H2 kv e2 rk => ?_⟩
        obtain ⟨aa', H', c1, c2, c3⟩ := put_fin (r2.extd e2) rk (k4.mono e2.g) (Fin.up e2.g hk2)
        rw [h1] at c1
        cases c1
        exact ⟨aa, H', rfl, c2, c3⟩
      · exact q.elim
    | raise cl =>
      rw [z] at q
      exact q.elim
    | bad =>
      rw [z] at q
      exact q.elim
/-- x[k] -/
theorem pv_dget (i : Nat) {x : Str} {px : Pos} (hu : X.A.units + 1 < cLine) (hk : PE X b (tX X.K B g)) (hs : NoSl b := by exact fun _ _ => rfl) (hN : X.N[i]? = some x := by rfl) (hv : Vis X.env.scope x := by first | exact Or.inl rfl | exact Or.inr (Or.inl rfl) | exact Or.inr (Or.inr rfl)) (hd : (x == ("__debug__" : Str)) = false := by decide)
    (hcd : (x == ("__classdict__" : Str)) = false := by decide) : PE X (.Subscript (.Name x px) b pos) (tX X.K B (eDGet i g)) := pe_weak (pe_dget hu (pe_var hN hv hd hcd) hk hs) fun σ H Q q => by
  obtain ⟨G, η, r, q⟩ := q
  unfold eDGet at q
  split at q
  · rename_i ks e
    obtain ⟨w, h1, _⟩ := r.slot _ _ e
    refine ⟨_, h1, tX.of r (sat_bind q) fun kd hk2 G1 H1 kv e1 rk => ?_⟩
    obtain ⟨w', h1', aa, kvs, rfl, h0, hg, hh, ra⟩ := (r.extd e1).slot _ _ e
    rw [h1] at h1'
    cases h1'
    obtain ⟨hkd, hk2⟩ := sat_if hk2
    obtain ⟨k, ek, rfl⟩ := keyV_kV rk hkd
    cases z : dget ks kd with
    | none =>
      rw [z] at hk2
      exact hk2.elim
    | some d =>
      rw [z] at hk2
      obtain ⟨v, z1, z2⟩ := (kv_get ra ek).1 d z
      refine ⟨aa, v, rfl, ?_, hk2 G1 H1 v e1 z2⟩
      rw [← z1]
      exact DGet.k hh
  · exact q.elim
/-- x.get(k, d) -/
theorem pv_dget2 (i : Nat) {x : Str} {px apos cpos : Pos} (hu : X.A.units + 1 < cLine) (hk : PE X b (tX X.K B g)) (hz : PE X c (tX X.K B h)) (m : M2 X (.Name x px) "get" apos b c cpos := by exact ⟨rfl, rfl, rfl, rfl⟩) (hN : X.N[i]? = some x := by rfl) (hv : Vis X.env.scope x := by first | exact Or.inl rfl | exact Or.inr (Or.inl rfl) | exact Or.inr (Or.inr rfl)) (hd : (x == ("__debug__" : Str)) = false := by decide)
    (hcd : (x == ("__classdict__" : Str)) = false := by decide) : PE X (.Call (.Attribute (.Name x px) "get" apos) [b, c] [] cpos) (tX X.K B (eDGet2 i g h)) := pe_weak (L2.pe_dget2 hu (pe_var hN hv hd hcd) hk hz m) fun σ H Q q => by
  obtain ⟨G, η, r, q⟩ := q
  unfold eDGet2 at q
  split at q
  · rename_i ks e
    obtain ⟨w, h1, aa, kvs, rfl, h0, hg, hh, ra⟩ := r.slot _ _ e
    refine ⟨_, h1, aa, rfl, .inl ⟨kvs, .inl hh⟩, tX.of r (sat_bind q) fun kd hk2 G1 H1 kv e1 rk => ?_⟩
    refine tX.of (r.extd e1) (sat_bind hk2) fun zd hz2 G2 H2 zv e2 rz => ?_
    obtain ⟨w', h1', aa', kvs', ew, h0', hg', hh', ra'⟩ := ((r.extd e1).extd e2).slot _ _ e
    rw [h1] at h1'
    cases h1'
    cases ew
    obtain ⟨hkd, hz2⟩ := sat_if hz2
    obtain ⟨k, ek, rfl⟩ := keyV_kV rk hkd
    refine ⟨valV kvs' k, DGet.k hh', ?_⟩
    cases z : dget ks kd with
    | none =>
      rw [z] at hz2
      rw [(kv_get ra' ek).2 z]
      exact hz2 G2 H2 zv (e1.trans e2) rz
    | some d =>
      rw [z] at hz2
      obtain ⟨v, z1, z2⟩ := (kv_get ra' ek).1 d z
      rw [z1]
      exact hz2 G2 H2 v (e1.trans e2) z2
  · exact q.elim
end
end Bk
end
/-! BkDefs -/
section
set_option Elab.async false
set_option linter.all false
set_option autoImplicit false
set_option maxRecDepth 100000
set_option maxHeartbeats 4000000
/-! BkDefs: defs, what they promise, their calls, refusals -/
namespace Bk
open PySem PySem.Spec PyProof.Rows L2
/-- the promise of a def that gives what φ gives -/
def spD (K : PySem.W.Frag) (cl : Cls → Addr) (n : Nat) (φ : List D → Res D) : Sp := fun vs H Q E => vs.length = n ∧ ∃ G ds, Ex G H ∧ RpAll K G vs ds ∧ (φ ds).Sat (fun d => ∀ G' H' v, Ext G H G' H' → Rp K G' v d → Q v H') (fun c => ∀ H', Ex H H' → E (.ref (cl c)) none H')
/-- the def x, of n arguments, stands in the module and keeps its promise at level k -/
structure DefOk (P : Program) (w : World) (K : PySem.W.Frag) (mg : Str → Option Value) (base : Heap) (cl : Cls → Addr) (k : Nat) (x : Str) (n : Nat) (φ : List D → Res D) : Prop where
  ex : ∃ (f : Addr) (fd : FuncData) (ps : List Str), FnOk P w K mg base (L2.CX P w) k f fd ps (spD K cl n φ) ∧ mg x = some (.ref f) ∧ PySem.W.keepIn K (.ref f) = true ∧ Binds K fd ps []
theorem DefOk.mono {P : Program} {w : World} {K : PySem.W.Frag} {mg : Str → Option Value} {base : Heap} {cl : Cls → Addr} {j k : Nat} {x : Str} {n : Nat} {φ : List D → Res D} (F : DefOk P w K mg base cl j x n φ) (h : j ≤ k) : DefOk P w K mg base cl k x n φ := by
  obtain ⟨f, fd, ps, F, r⟩ := F.ex
  exact ⟨⟨f, fd, ps, F.mono h, r⟩⟩
section
variable {X : Cx} {B : Bs} {a b c e : Expr} {es : List Expr} {pos p : Pos} {f g h : E} {fs : List E}
/-- f(e, ..) -/
theorem pv_call {k n : Nat} {x : Str} {φ : List D → Res D} (F : DefOk X.prog X.w X.K X.mg X.base B.cl k x n φ) (hr : Room k X.A) (hx : Passes (L2.CX X.prog X.w) X B.ex) (ha : PA X (e :: es) (tA X.K B fs)) (hn : fs.length = n := by rfl) (hg : Gl X x := by rfl)
    (hdb : (x == ("__debug__" : Str)) = false := by decide) (he : starEach (e :: es) X.env = (false, eval e X.env) :: starEach es X.env := by rfl) (hpl : (backTo pos (starEach es X.env)).any (·.1) = false := by rfl) :
    PE X (.Call (.Name x p) (e :: es) [] pos) (tX X.K B (eCall φ fs)) := by
  obtain ⟨fa, fd, ps, F, hm, hk, hb⟩ := F.ex
  refine pe_weak (pe_call F hr hg hm hk hb .nil hx ha hdb he hpl) fun σ H Q q => ?_
  obtain ⟨G, η, r, q⟩ := q
  refine tA.of r (evals_len (sat_bind q)) fun ds hds G1 H1 vs e1 r1 => ?_
  have e0 : vs ++ ([] : List V) = vs := List.append_nil vs
  rw [e0]
  refine ⟨by rw [r1.length, hds.1, hn], G1, ds, e1.gh, r1, Sat.mono hds.2 (fun d q G' H' v e2 r2 => q G' H' v (e1.trans e2) r2) fun c z H' x => z H' ((r.extd e1).ext.h.trans x)⟩
/-- a def's body -/
theorem fn_ok {P : Program} {w : World} {K : PySem.W.Frag} {mg : Str → Option Value} {base : Heap} {cl : Cls → Addr} {k : Nat} {x : Str} {n : Nat} {st : Stmt} {fa : Addr} {fd : FuncData} {N ps : List Str} {g : Bk.St} {sp : Sp} (F : Fun K x x st fa fd) (S : FnScope N ps (defScope st)) (hn : ps.length = n)
    (hsp : ∀ vs H Q E, sp vs H Q E → spD K cl n (runDef N.length g) vs H Q E)
    (hbody : ∀ (cdv : Value) (A : Around) (outer : List PySem.Env) (s : Shared) (H : Hp) (E : XK) (G : Hp), Room k (A.deeper (envOfC x (defScope st) s.heap.objs.size fa cdv)) →
      PSs (cxOf (L2.CX P w) P w K mg base N x (defScope st) fa cdv A outer s H E) (defBody st) (tS K { G0 := G, H0 := H, cl := cl, ex := E } g)) :
    FnOk P w K mg base (L2.CX P w) (k + 1) fa fd ps sp := by
  refine F.okX S (fun vs H Q E h => (hsp _ _ _ _ h).1.trans hn.symm) (fun cdv A outer s H vs Q E hr h => ?_)
  obtain ⟨hl, G, ds, ex, ra, h⟩ := hsp _ _ _ _ h
  refine ⟨_, hbody cdv A outer s H E G hr, G, ds.map (fun d => some (Bk.S.dat d)) ++ List.replicate (N.length - ds.length) Option.none, ⟨Ext.refl ex, ?_, fun i t e => ?_, fun i j t u v hij e1 e2 o1 _ => ?_⟩, ?_⟩
  · unfold L2.start
    rw [List.length_append, List.length_append, List.length_map, List.length_map, List.length_replicate, List.length_replicate, ra.length]
  · rw [List.getElem?_append] at e
    rw [List.length_map] at e
    by_cases hi : i < ds.length
    · rw [if_pos hi, List.getElem?_map] at e
      obtain ⟨d, hd⟩ : ∃ d, ds[i]? = some d := ⟨ds[i], List.getElem?_eq_getElem hi⟩
      rw [hd] at e
      cases e
      obtain ⟨v, h1, h2⟩ := ra.get hd
      refine ⟨v, ?_, h2⟩
      unfold L2.start
      rw [List.getElem?_append_left (by rw [List.length_map, ra.length]; exact hi), List.getElem?_map, h1]
      rfl
    · rw [if_neg hi, List.getElem?_replicate] at e
      split at e <;> cases e
  · rw [List.getElem?_append] at e1
    split at e1
    · rw [List.getElem?_map] at e1
      cases z : ds[i]? with
      | none =>
        rw [z] at e1
        cases e1
      | some d =>
        rw [z] at e1
        cases e1
        cases o1
    · rw [List.getElem?_replicate] at e1
      split at e1 <;> cases e1
  · unfold runDef at h
    cases z : g (ds.map (fun d => some (Bk.S.dat d)) ++ List.replicate (N.length - ds.length) Option.none) with
    | next η =>
      rw [z] at h
      exact fun G' H' σ' x r => h G' H' .non r.ext (.none)
    | ret d =>
      rw [z] at h
      exact fun G' H' v x r q => h G' H' v r q
    | raise c =>
      rw [z] at h
      exact fun H' x => h H' x
    | brk η =>
      rw [z] at h
      exact h.elim
    | ct η =>
      rw [z] at h
      exact h.elim
    | bad =>
      rw [z] at h
      exact h.elim
theorem DefOk.mk' {P : Program} {w : World} {K : PySem.W.Frag} {mg : Str → Option Value} {base : Heap} {cl : Cls → Addr} {k : Nat} {x : Str} {n : Nat} {st : Stmt} {fa : Addr} {fd : FuncData} {N ps : List Str} {g : Bk.St} (F : Fun K x x st fa fd) (S : FnScope N ps (defScope st)) (hn : ps.length = n) (hm : mg x = some (.ref fa)) (hb : Binds K fd ps [])
    (hbody : ∀ (cdv : Value) (A : Around) (outer : List PySem.Env) (s : Shared) (H : Hp) (E : XK) (G : Hp), Room k (A.deeper (envOfC x (defScope st) s.heap.objs.size fa cdv)) →
      PSs (cxOf (L2.CX P w) P w K mg base N x (defScope st) fa cdv A outer s H E) (defBody st) (tS K { G0 := G, H0 := H, cl := cl, ex := E } g)) :
    DefOk P w K mg base cl (k + 1) x n (runDef N.length g) := ⟨⟨fa, fd, ps, fn_ok F S hn (fun _ _ _ _ h => h) hbody, hm, F.kp, hb⟩⟩
end
/-- what a def's own frame passes on -/
theorem pass1 {P : Program} {w : World} {K : PySem.W.Frag} {mg : Str → Option Value} {base : Heap} {N : List Str} {x : Str} {sc : Scope} {fa : Addr} {cdv : Value} {A : Around} {outer : List PySem.Env} {s : Shared} {H : Hp} {E : XK} :
    Passes (L2.CX P w) (cxOf (L2.CX P w) P w K mg base N x sc fa cdv A outer s H E) E := passes_call (takes_of rfl rfl rfl rfl) fun _ _ _ _ h => h
end Bk
end
/-! BkText -/
section
set_option Elab.async false
set_option linter.all false
set_option autoImplicit false
set_option maxRecDepth 100000
set_option maxHeartbeats 4000000
/-! BkText: walks over texts: enumerate, reversed -/
namespace Bk
open PySem PySem.Spec PyProof.Rows L2
/-! ### enumerate(text) -/
def Itse (x : Str) : It := ⟨fun i _ => i < x.cps.size, fun i H v H' => ∃ T c, x.cps[i]? = some c ∧ v = .ref T ∧ H T = none ∧ H' = upd H T (.tup [.int (i : Nat), .str ⟨#[c]⟩]), fun i _ => x.cps.size ≤ i⟩
theorem draws_str {prog : Program} {w : World} {A : Around} (hh : A.handled = none) (it : Addr) (x : Str) (t : Tok) {ty : String} (hty : ty = "str_ascii_iterator" ∨ ty = "str_iterator") :
    Draws prog w A it [it] x.cps.size (fun i v => ∃ c u, x.cps[i]? = some c ∧ v = .str ⟨#[c]⟩ u) (fun i h => h.IsStrIter it ty x t i) := by
  rcases hty with e | e
  · rw [e]
    exact Draws.strAscii hh it x t
  · rw [e]
    exact Draws.strWide hh it x t
theorem turn_enumS {P : Program} {w : World} {K : PySem.W.Frag} {elts : List Expr} {kk : Nat} {tpos : Pos} (x : Str) (t : Tok) (ty : String) (hty : ty = "str_ascii_iterator" ∨ ty = "str_iterator") (e it : Addr) :
    Turn P w K (.Tuple elts kk tpos) (Itse x) [e, it] e (fun i h => (∃ old, IsEnum h e it ((i : Nat) : Int) old) ∧ h.IsStrIter it ty x t i ∧ e ≠ it) where
  mem := by simp
  obj := fun i h st b hb => by
    obtain ⟨⟨old, he⟩, ⟨o, ho, hc, hd⟩, _⟩ := st
    have e' : b = e ∨ b = it := by simpa using hb
    rcases e' with z | z
    · rw [z]; exact ⟨_, he, fun v q => nomatch q⟩
    · rw [z]; exact ⟨o, ho, fun v q => by rw [hd] at q; cases q⟩
  keep := fun i h h' st k => let ⟨⟨old, he⟩, ⟨o, ho, r⟩, hne⟩ := st; ⟨⟨old, k e (by simp) _ he⟩, ⟨o, k it (by simp) o ho, r⟩, hne⟩
  item := by
    intro X hP hw hK hc i pins s σ H E I hf st hg
    subst hP hw hK
    obtain ⟨⟨old, he⟩, hit, hne⟩ := st
    have hel : e < s.heap.objs.size := Heap.lt_size he
    have hil : it < s.heap.objs.size := by obtain ⟨_, q, _⟩ := hit; exact Heap.lt_size q
    have hef : e ∉ [it] := fun z => hne (List.mem_singleton.mp z)
    have DD := draws_str (prog := X.prog) (w := X.w) (A := X.A.in1) (show X.A.in1.handled = none from I.ok.hd hc) it x t hty
    refine wpAny_pyNext_enum_itemD DD he hit hg hne hef fun v h' tk hv ho hit' hT hsz hk => ?_
    obtain ⟨c, uu, hcx, rfl⟩ := hv
    refine ⟨_, rfl, wpAny_letOwnedTupleGo_enum (s := { s with heap := h', toks := tk + 1 }) ho fun h'' he' sb => ?_⟩
    have hT2 : h''.get? s.heap.objs.size = some { cls := .type "tuple", data := .seq #[.int i tk, .str ⟨#[c]⟩ uu] } := (sb.2 _ (Nat.ne_of_gt hel)).trans hT
    have new : ObjOk X.prog X.w (upd H s.heap.objs.size (.tup [.int (i : Nat), .str ⟨#[c]⟩])) h'' s.heap.objs.size (.tup [.int (i : Nat), .str ⟨#[c]⟩]) :=
      ⟨by show 2 ≤ sizeLine; decide, [.int i tk, .str ⟨#[c]⟩ uu], .cons ⟨_, rfl⟩ (.cons ⟨_, rfl⟩ .nil), ⟨_, hT2, rfl, _, rfl⟩⟩
    have I1 : Inv X pins σ (upd H s.heap.objs.size (.tup [.int (i : Nat), .str ⟨#[c]⟩])) { s with heap := h'', toks := tk + 1 } :=
      I.turnedNew (ch := [e, it]) (fun b ob hb q => (sb.2 b (fun z => hb (by simp [z]))).trans (hk b ob (fun z => hb (by simp [z])) (fun z => hb (by simp [z])) q)) hf (Nat.le_refl _) new
    refine ⟨.ref s.heap.objs.size, _, I1, rfl, ⟨_, c, hcx, rfl, I.hok.fresh (Nat.le_refl _), rfl⟩, ⟨⟨.str ⟨#[c]⟩ uu, ?_⟩, ?_, hne⟩, fun b hb => ?_⟩
    · have e1 : ((i + 1 : Nat) : Int) = (i : Int) + 1 := by omega
      rw [e1]; exact he'
    · obtain ⟨o, q, r⟩ := hit'
      exact ⟨o, (sb.2 it (Ne.symm hne)).trans q, r⟩
    · have hb' : b < s.heap.objs.size := by
        have e' : b = e ∨ b = it := by simpa using hb
        rcases e' with z | z
        · rw [z]; exact hel
        · rw [z]; exact hil
      rw [upd_ne (Nat.ne_of_lt hb')]
      exact (hf b hb).1
  done := by
    intro X hP hw hK hc i pins s σ H E I hf st hg
    subst hP hw hK
    obtain ⟨⟨old, he⟩, hit, hne⟩ := st
    obtain ⟨f0, f1, f2, f3, f4, f5⟩ := hf it (by simp)
    have hit2 : s.heap.IsStrIter it ty x t i := hit
    have hx : x.cps[i]? = none := Array.getElem?_eq_none hg
    have hend : ∀ (A : Around) (hh : A.handled = none) (s : Shared) (Q : Value → Shared → Prop) (E : Value → Shared → Prop), s.heap.IsStrIter it ty x t i →
        (∀ h' e, Heap.ExtBut it s.heap h' → (∃ o, h'.get? e = some o ∧ o.cls = .type "StopIteration") → E (.ref e) { s with heap := h' }) → wpAny (model X.prog X.w) A (Builtin.SmallTypes.nextOf (.ref it)) Q E s := by
      intro A hh s Q E st hE
      rcases hty with z | z
      · rw [z] at st
        exact wpAny_nextOf_ascii_end hh st hx hE
      · rw [z] at st
        exact wpAny_nextOf_wide_end hh st hx hE
    have D : Draws X.prog X.w X.A.in1 it [it] i (fun _ _ => False) (fun j h => j = i ∧ h.IsStrIter it ty x t i) :=
      { live := fun _ _ st => let ⟨_, o, ho, _⟩ := st; ⟨o, ho⟩
        frame := fun _ _ _ st hk => let ⟨e, o, ho, r⟩ := st; ⟨e, o, hk it (by simp) o ho, r⟩
        item := fun j s Q E hi st hQ => absurd st.1 (Nat.ne_of_lt hi)
        done := fun s Q E st hE => hend _ (show X.A.in1.handled = none from I.ok.hd hc) s Q E st.2 hE }
    exact wpAny_pyNext_enum_endD D he ⟨rfl, hit⟩ fun h' eb => ⟨rfl, I.turned (t' := s.toks) (fun b o hb q => eb b o hb q) f0 f1 f3 f4 f5⟩
  self := fun A i s Q E st h => let ⟨⟨_, he⟩, _⟩ := st; wpAny_pyIter_enum he h
def itEnumS (ta : TA) : TI := fun σ H R => ta σ H fun vs H1 => ∃ x, vs = [.str x] ∧ R (Itse x) H1
theorem pi_enumStr {X : Cx} {e : Expr} {ta : TA} {p pos tpos : Pos} {elts : List Expr} {kk : Nat} (hg : Gl X "enumerate") (hm : X.mg "enumerate" = none) (ha : PA X [e] ta) (hs : starEach [e] X.env = [(false, eval e X.env)] := by rfl) :
    PI X (.Tuple elts kk tpos) (.Call (.Name "enumerate" p) [e] [] pos) (itEnumS ta) := by
  refine ⟨fun pins s σ H R I h => ?_⟩
  refine Call_ (ld_blt I hg hm boot_enumerate (PyProof.Rows.callWith_type1 (thn (ha.run pos pins s σ H _ I h) fun us s1 ⟨vs, H1, I1, r1, q1⟩ => ?_) hs rfl))
  obtain ⟨x, ex, q⟩ := q1
  subst ex
  cases r1 with
  | cons r rr =>
    cases rr
    obtain ⟨t, rfl⟩ := r
    refine call_enumerate_str fun h' he hit hsz hk => wpAny_pyIter_enum he ?_
    have I2 : Inv X pins σ H1 { s1 with heap := h' } := I1.kept (t' := s1.toks) hk
    have hty : strIterType x = "str_ascii_iterator" ∨ strIterType x = "str_iterator" := by
      unfold strIterType
      split
      · exact .inl rfl
      · exact .inr rfl
    refine ⟨s1.heap.objs.size + 1, [s1.heap.objs.size + 1, s1.heap.objs.size], _, _, H1, rfl, I2, turn_enumS x t _ hty (s1.heap.objs.size + 1) s1.heap.objs.size, ⟨⟨.none, he⟩, hit, Nat.succ_ne_self _⟩, fun b hb => ?_, q⟩
    have e' : b = s1.heap.objs.size + 1 ∨ b = s1.heap.objs.size := by simpa using hb
    have hle : s1.heap.objs.size ≤ b := by
      rcases e' with z | z
      · rw [z]; exact Nat.le_add_right _ _
      · rw [z]; exact Nat.le_refl _
    exact I1.fpOk hle (I1.hok.fresh hle)

/-! ### reversed(text) -/
theorem norev_str : typeLookup (.type "str") "__reversed__" = pure none := by rw [typeLookup_type, builtinLookup_eq_fast]; kernel_rfl
theorem get_str' : typeLookup (.type "str") "__getitem__" = pure (some (.builtin "str.__getitem__")) := by rw [typeLookup_type, builtinLookup_eq_fast]; kernel_rfl
def rsObj (x : Str) (t : Tok) (i : Int) : Obj := { cls := .type "reversed", data := .fields #[.str x t, rawInt i] }
def IsRs (h : Heap) (a : Addr) (x : Str) (t : Tok) (i : Int) : Prop := ∃ o, h.get? a = some o ∧ o.cls = .type "reversed" ∧ o.data = .fields #[.str x t, rawInt i]
theorem IsRs.at {h h' : Heap} {a : Addr} {x : Str} {t : Tok} {i : Int} (z : IsRs h a x t i) (e : ∀ o, h.get? a = some o → h'.get? a = some o) : IsRs h' a x t i := let ⟨o, ho, r⟩ := z; ⟨o, e _ ho, r⟩
section
variable {prog : Program} {w : World} {A : Around} {E : Value → Shared → Prop} {s : Shared}
theorem IsRs.typeIs {a : Addr} {x : Str} {t : Tok} {i : Int} (z : IsRs s.heap a x t i) : s.TypeIs (.ref a) "reversed" := let ⟨o, ho, hc, _⟩ := z; ⟨o, ho, hc⟩
theorem code_reversed_str {x : Str} {t : Tok} {Q₁ : Value → Shared → Prop} (hl : x.length ≤ sizeLine)
    (h : Q₁ (.ref s.heap.objs.size) { s with heap := s.heap.push (rsObj x t ((x.length : Int) - 1)), toks := s.toks + 1 + 1 }) :
    codeAny (model prog w) A (.call (.builtin "reversed.__new__") ⟨[.type "reversed", .str x t], []⟩) (wants Q₁ E) s := by
  have hT : s.TypeIs (.str x t) "str" := typeIs_str _ _ _
  have hlen : ∀ (A : Around) (E : Value → Shared → Prop) (Q : Value → Shared → Prop), Q (.int x.length (s.toks + 1)) { s with toks := s.toks + 1 + 1 } → wpAny (model prog w) A (call (.builtin "len") [.str x t]) Q E s := fun A E Q k => len_str (by
    rw [line_eq] at hl
    unfold Bk.lim at hl
    omega) k
  refine codeAny_of_tree ?_
  show wpAny _ A.in1 (do checkBuiltinCall "reversed.__new__" ⟨[.type "reversed", .str x t], []⟩; again (.builtin "reversed.__new__" ⟨[.type "reversed", .str x t], []⟩)) _ _ s
  refine wpAny_bind (wpAny_of_eq (F.newCall_reversed_1 _) (wpAny_pure ⟨plainId_quiet F.plain_reversed_new _, codeAny_builtin F.entry_reversed_new ?_⟩))
  rw [Around.under_plainId F.plain_reversed_new _]
  unfold Builtin.«reversed.__new__»
  refine wpAny_bind (wpAny_of_eq (newClass_reversed _) ?_)
  try dsimp only
  refine wpAny_bind (wpAny_of_eq (a := ()) (by first | rfl | kernel_rfl) ?_)
  try dsimp only
  refine wpAny_bind (wpAny_of_eq (a := ()) (by first | rfl | kernel_rfl) ?_)
  try dsimp only
  refine wpAny_bind (wpAny_specialOf hT norev_str ?_)
  try dsimp only
  refine wpAny_bind ?_
  wp_delta
  refine wpAny_bind (wpAny_isInstance (T := "str") (U := "dict") (b := false) hT PySem.F.sub_str_dict ?_)
  try dsimp only
  try rw [if_neg Bool.false_ne_true]
  try dsimp only
  refine wpAny_bind (wpAny_specialOf hT get_str' ?_)
  try dsimp only
  try rw [if_pos (by decide +kernel)]
  refine wpAny_pure ?_
  try dsimp only
  try rw [if_neg (by decide)]
  try dsimp only
  refine wpAny_bind (hlen _ _ _ ?_)
  refine wpAny_bind (wpAny_of_eq (a := some ((x.length : Nat) : Int)) rfl ?_)
  try dsimp only
  refine wpAny_bind ?_
  show wpAny _ _ (newObj (.type "reversed") (.fields #[.str x t, rawInt ((x.length : Int) - 1)])) _ _ _
  refine wpAny_newObj_type ?_
  exact wpAny_pure h
theorem call_reversed_str {x : Str} {t : Tok} {Q : Value → Shared → Prop} (hl : x.length ≤ sizeLine)
    (h : Q (.ref s.heap.objs.size) { s with heap := s.heap.push (rsObj x t ((x.length : Int) - 1)), toks := s.toks + 1 + 1 }) : wpAny (model prog w) A (call (.type "reversed") [.str x t]) Q E s := by
  refine callType_codes (Q₁ := fun obj s₁ => s₁.TypeIs obj "reversed" ∧ Q obj s₁) RT.called_rt (F.typeCall_reversed_1 _) F.entry_object_init
    (code_reversed_str (A := A.in1) hl ⟨⟨_, Heap.get?_push_size _ rfl, rfl⟩, h⟩) fun obj s₁ h₁ => ?_
  exact ⟨h₁.1, F.args_object_init_2 obj _, object_init_meets RT.called_rt.init.lookup RT.called_rt.made (by decide) prog w A.in1 _ s₁ ⟨h₁.1, rfl, h₁.2⟩⟩
theorem next_rs_item {it : Addr} {x : Str} {t : Tok} {i : Nat} {c : Nat} {Q : Option Value → Shared → Prop} (hit : IsRs s.heap it x t (i : Int)) (hx : x.cps[i]? = some c) (hsz : x.length ≤ sizeLine)
    (hQ : ∀ h' u k, IsRs h' it x t ((i : Int) - 1) → Heap.SameBut it s.heap h' → Q (some (.str ⟨#[c]⟩ u)) { s with heap := h', toks := k }) : wpAny (model prog w) A (pyNext (.ref it)) Q E s := by
  obtain ⟨o, ho, hc, hd⟩ := id hit
  have hi : i < x.length := (Array.getElem?_eq_some_iff.mp hx).1
  have hT : s.TypeIs (.str x t) "str" := typeIs_str _ _ _
  rw [sizeLine_eq] at hsz
  unfold pyNext
  refine wpAny_bind (wpAny_attempt (wpAny_callSpecial?_slot (name := Str.ofString "__next__") hit.typeIs RT.slot_rt_next
    (wpAny_call_entry RT.slot_rt_next hit.typeIs RT.entry_rt_next ?_ (RT.args_rt_next _))))
  unfold Builtin.«reversed.__next__»
  refine wpAny_bind (wpAny_of_eq (a := (Value.ref it, [])) rfl ?_)
  try dsimp only
  refine wpAny_bind (wpAny_field ho hd (x := .str x t) rfl ?_)
  try dsimp only
  refine wpAny_bind (wpAny_field ho hd (x := rawInt (i : Int)) rfl ?_)
  show wpAny _ _ (if (i : Int) < 0 then _ else _) _ _ s
  rw [if_neg (by omega)]
  try dsimp only
  refine wpAny_bind (wpAny_specialOf hT get_str' ?_)
  try dsimp only
  try rw [if_neg (by decide)]
  try dsimp only
  refine wpAny_bind (wpAny_mkInt ?_)
  refine wpAny_bind (wpAny_attempt ?_)
  have fin : seqIndex? (i : Int) x.length = some i := seqIndex_of (by omega) (by omega)
  refine PySem.P.getItem_str (s := { s with toks := s.toks + 1 }) (c := c) (by
    have e1 : decide ((i : Int) < -(2 ^ 63 : Int)) = false := decide_eq_false (by omega)
    have e2 : decide ((i : Int) ≥ 2 ^ 63) = false := decide_eq_false (by omega)
    rw [e1, e2, Bool.or_false]) (by rw [fin]; exact hx) ?_
  try dsimp only
  refine wpAny_bind (wpAny_field (s := { s with toks := s.toks + 1 + 1 }) ho hd (x := rawInt (i : Int)) rfl ?_)
  try dsimp only
  refine wpAny_bind (wpAny_setField (s := { s with toks := s.toks + 1 + 1 }) ho hd (by simp) ?_)
  first
  | refine wpAny_pure ⟨_, rfl, wpAny_pure (hQ _ _ _ ?_ (Heap.SameBut.update ..))⟩
  | refine wpAny_bind (wpAny_pure (wpAny_pure ⟨_, rfl, wpAny_pure (hQ _ _ _ ?_ (Heap.SameBut.update ..))⟩))
  exact ⟨_, Heap.get?_update_self _ ho (Obj.isFreed_of_fields (Obj.data_mapFields hd _)), (Obj.cls_mapFields ..).trans hc, by
    rw [Obj.data_mapFields hd]; simp⟩
theorem next_rs_end {it : Addr} {x : Str} {t : Tok} {Q : Option Value → Shared → Prop} (hh : A.handled = none) (hit : IsRs s.heap it x t (-1))
    (hQ : ∀ h', Heap.ExtBut it s.heap h' → Q none { s with heap := h' }) : wpAny (model prog w) A (pyNext (.ref it)) Q E s := by
  obtain ⟨o, ho, hc, hd⟩ := id hit
  unfold pyNext
  refine wpAny_bind (wpAny_attempt (wpAny_callSpecial?_slot (name := Str.ofString "__next__") hit.typeIs RT.slot_rt_next
    (wpAny_call_entry RT.slot_rt_next hit.typeIs RT.entry_rt_next ?_ (RT.args_rt_next _))))
  unfold Builtin.«reversed.__next__»
  refine wpAny_bind (wpAny_of_eq (a := (Value.ref it, [])) rfl ?_)
  try dsimp only
  refine wpAny_bind (wpAny_field ho hd (x := .str x t) rfl ?_)
  try dsimp only
  refine wpAny_bind (wpAny_field ho hd (x := rawInt (-1)) rfl ?_)
  show wpAny _ _ (if (-1 : Int) < 0 then _ else _) _ _ s
  rw [if_pos (by decide)]
  try dsimp only
  refine wpAny_bind (wpAny_rule ?_)
  refine wpAny_bind ?_
  wp_delta
  refine wpAny_bind (wpAny_setField ho hd (by simp) ?_)
  have ho2 := Heap.get?_update_self (Obj.mapFields (·.setIfInBounds 1 (rawInt (-1)))) ho (Obj.isFreed_of_fields (Obj.data_mapFields hd _))
  refine wpAny_setField (s := { s with heap := s.heap.update it (Obj.mapFields (·.setIfInBounds 1 (rawInt (-1)))) }) ho2 (Obj.data_mapFields hd _) (by simp) ?_
  try dsimp only
  first
  | show wpAny _ _ (newExc (.type "StopIteration") [] >>= _) _ _ _
  | (refine wpAny_bind ?_; show wpAny _ _ (newExc (.type "StopIteration") [] >>= _) _ _ _)
  | (refine wpAny_bind ?_; wp_delta; show wpAny _ _ (newExc (.type "StopIteration") [] >>= _) _ _ _)
  refine wpAny_bind ?_
  simp only [newExc, newTuple]
  refine wpAny_bind (wpAny_newObj_type ?_ (by size_fits))
  refine wpAny_bind (m := firstArgMember _ _) (wpAny_of_eq (a := Value.none) (by first | rfl | (simp only [firstArgMember]; rfl)) ?_)
  refine wpAny_newObj_type ?_ (by size_fits)
  simp only [raiseNew]
  refine wpAny_bind (wpAny_handled ?_)
  first | rw [show A.in1.handled = none from hh] | rw [hh]
  refine wpAny_bind (wpAny_pure (wpAny_throw ?_))
  refine wpAny_bind (wpAny_isInstance (T := "StopIteration") (b := true) ⟨_, Heap.get?_push_size _ rfl, rfl⟩ isSubtype_stop ?_)
  refine wpAny_pure (hQ _ ?_)
  refine ((?_ : Heap.ExtBut it s.heap _).push _).push _
  exact fun b ob hb e => (Heap.get?_update_other _ _ (Ne.symm hb)).trans ((Heap.get?_update_other _ _ (Ne.symm hb)).trans e)
theorem iter_rs {it : Addr} {x : Str} {t : Tok} {i : Int} {Q : Value → Shared → Prop} (hit : IsRs s.heap it x t i) (h : Q (.ref it) s) : wpAny (model prog w) A (pyIter (.ref it)) Q E s := by
  refine wpAny_pyIter_slot hit.typeIs RT.slot_rt_iter (wpAny_call_entry RT.slot_rt_iter hit.typeIs RT.entry_rt_iter ?_ (RT.args_rt_iter _))
  show wpAny _ _ (ret (.ref it)) _ _ s
  exact wpAny_pure ⟨_, rfl, "reversed", _, hit.typeIs, RT.slot_rt_next.lookup, h⟩
end
def Itrs (x : Str) : It := ⟨fun i _ => i < x.cps.size, fun i H v H' => H' = H ∧ ∃ c, x.cps[x.cps.size - 1 - i]? = some c ∧ v = .str ⟨#[c]⟩, fun i _ => x.cps.size ≤ i⟩
theorem turn_rs {P : Program} {w : World} {K : PySem.W.Frag} {tg : Expr} (it : Addr) (x : Str) (t : Tok) (hl : x.length ≤ sizeLine) : Turn P w K tg (Itrs x) [it] it (fun i h => i ≤ x.cps.size ∧ IsRs h it x t ((x.cps.size : Int) - 1 - (i : Nat))) where
  mem := by simp
  obj := fun i h st b hb => by
    have e : b = it := by simpa using hb
    subst e
    obtain ⟨_, o, e, c, d⟩ := st
    exact ⟨o, e, fun v z => by rw [d] at z; cases z⟩
  keep := fun i h h' st k => ⟨st.1, st.2.at fun o e => k it (by simp) o e⟩
  item := by
    intro X hP hw hK hc i pins s σ H E I hf st hg
    subst hP hw hK
    have hin : i < x.cps.size := hg
    obtain ⟨f0, f1, f2, f3, f4, f5⟩ := hf it (by simp)
    obtain ⟨_, hit⟩ := st
    have e1 : (x.cps.size : Int) - 1 - ((i : Nat) : Int) = ((x.cps.size - 1 - i : Nat) : Int) := by omega
    rw [e1] at hit
    have hx : x.cps[x.cps.size - 1 - i]? = some x.cps[x.cps.size - 1 - i] := Array.getElem?_eq_getElem (by omega)
    refine next_rs_item hit hx hl fun h' u k st' sb => ?_
    have e2 : ((x.cps.size - 1 - i : Nat) : Int) - 1 = (x.cps.size : Int) - 1 - ((i + 1 : Nat) : Int) := by omega
    rw [e2] at st'
    have I1 : Inv X pins σ H { s with heap := h', toks := k } := I.turned (t' := k) (fun b o hb e => (sb.2 b hb).trans e) f0 f1 f3 f4 f5
    obtain ⟨o, e, c, d⟩ := id st'
    exact ⟨_, rfl, go_of (s := { s with heap := h', toks := k }) e c d (by decide) ⟨.str ⟨#[x.cps[x.cps.size - 1 - i]]⟩, H, I1, ⟨u, rfl⟩, ⟨rfl, _, hx, rfl⟩, ⟨hin, st'⟩, fun b hb => (hf b hb).1⟩⟩
  done := by
    intro X hP hw hK hc i pins s σ H E I hf st hg
    subst hP hw hK
    obtain ⟨f0, f1, f2, f3, f4, f5⟩ := hf it (by simp)
    obtain ⟨hin, hit⟩ := st
    have hge : x.cps.size ≤ i := hg
    have e1 : (x.cps.size : Int) - 1 - ((i : Nat) : Int) = -1 := by omega
    rw [e1] at hit
    exact next_rs_end (I.ok.hd hc) hit fun h' eb => ⟨rfl, I.turned (t' := s.toks) (fun b o hb e => eb b o hb e) f0 f1 f3 f4 f5⟩
  self := fun A i s Q E st h => iter_rs st.2 h
def itRevStr (te : TE) : TI := fun σ H R => te σ H fun v H1 => ∃ x, v = .str x ∧ x.length ≤ sizeLine ∧ R (Itrs x) H1
theorem pi_revStr {X : Cx} {tg e : Expr} {te : TE} {p pos : Pos} (hg : Gl X "reversed") (hm : X.mg "reversed" = none) (he : PE X e te) (hs : starEach [e] X.env = (false, eval e X.env) :: starEach [] X.env := by rfl) : PI X tg (.Call (.Name "reversed" p) [e] [] pos) (itRevStr te) := by
  refine ⟨fun pins s σ H R I h => ?_⟩
  refine Call_ (ld_blt I hg hm PyProof.Rows.boot_reversed (PyProof.Rows.callWith_type1 (args_cons (thn (he.run pins s σ H _ I h) fun u s1 ⟨v, H1, I1, r1, q1⟩ => args_nil ?_) hs) hs rfl))
  obtain ⟨x, rfl, hl, q⟩ := q1
  obtain ⟨t, rfl⟩ := _root_.id r1
  have e1 : ((x.length : Nat) : Int) - 1 = (x.cps.size : Int) - 1 - ((0 : Nat) : Int) := by
    show (x.cps.size : Int) - 1 = _
    omega
  refine call_reversed_str hl (iter_rs (x := x) (t := t) (i := ((x.length : Nat) : Int) - 1) ⟨_, Heap.get?_push_size _ rfl, rfl, rfl⟩ ?_)
  refine pi_one (tk := s1.toks + 1 + 1) I1 _ (turn_rs _ x t hl) ⟨Nat.zero_le _, ?_⟩ q
  rw [← e1]
  exact ⟨_, Heap.get?_push_size _ rfl, rfl, rfl⟩
end Bk
end
/-! BkMore -/
section
set_option Elab.async false
set_option linter.all false
set_option autoImplicit false
set_option maxRecDepth 100000
set_option maxHeartbeats 4000000
/-! BkMore: walks with numbers, from behind; methods of texts; refusals; the defs' heads -/
namespace Bk
open PySem PySem.Spec PyProof.Rows L2
section
variable {X : Cx} {B : Bs} {a b c e tg iter : Expr} {es : List Expr} {pos p : Pos} {f g h : E} {fs : List E}
theorem enumL_len (k : Nat) : ∀ ds : List D, (enumL k ds).length = ds.length
  | [] => rfl
  | _ :: r => congrArg (· + 1) (enumL_len (k + 1) r)
theorem enumL_get : ∀ (k : Nat) (ds : List D) (i : Nat), (enumL k ds)[i]? = (ds[i]?).map fun d => .tup [.int ((k + i : Nat) : Int), d]
  | k, [], i => by simp [enumL]
  | k, d :: r, 0 => by simp [enumL]
  | k, d :: r, i + 1 => by
    have e := enumL_get (k + 1) r i
    have e2 : k + 1 + i = k + (i + 1) := by omega
    rw [e2] at e
    simpa [enumL] using e
theorem newTup {K : PySem.W.Frag} {G H : Hp} {T : Addr} {vs : List V} {ds : List D} (e : Ex G H) (h : H T = none) (ra : RpAll K G vs ds) : Ext G H (upd G T (.tup vs)) (upd H T (.tup vs)) ∧ Rp K (upd G T (.tup vs)) (.ref T) (.tup ds) := by
  have x : Ext G H (upd G T (.tup vs)) (upd H T (.tup vs)) := Ext.new e h
  exact ⟨x, .tup (.inl (.inl upd_same)) (ra.mono x.g)⟩
theorem walkd_enumS {K : PySem.W.Frag} {G : Hp} (s : List Nat) : WalkD K (Itse (Sx s)) G (enumL 0 (signs s)) := by
  refine ⟨fun i H hi _ => ?_, fun H _ => ?_, fun i H x H' d hd _ y G1 e1 e2 => ?_⟩
  · rw [enumL_len, signs_len] at hi
    show i < s.toArray.size
    simpa using hi
  · show s.toArray.size ≤ (enumL 0 (signs s)).length
    rw [enumL_len, signs_len]
    simp
  · obtain ⟨T, c, h1, rfl, hT, rfl⟩ := y
    have h1 : s.toArray[i]? = some c := h1
    rw [List.getElem?_toArray] at h1
    rw [enumL_get] at hd
    unfold signs at hd
    rw [List.getElem?_map, h1] at hd
    cases hd
    rw [Nat.zero_add]
    exact ⟨_, newTup e2 hT (.cons (.int _) (.cons (.str [c]) .nil))⟩
theorem walkd_enumL {K : PySem.W.Frag} {G : Hp} {aa : Addr} {vs : List V} {ds : List D} (hs : SqL K G aa vs) (ra : RpAll K G vs ds) : WalkD K (Ite K aa) G (enumL 0 ds) := by
  refine ⟨fun i H hi ex => ?_, fun H ex => ⟨vs, ex.l hs, by rw [enumL_len]; exact Nat.le_of_eq ra.length⟩, fun i H x H' d hd ex y G1 e1 e2 => ?_⟩
  · rw [enumL_len] at hi
    have hi' : i < vs.length := by rw [ra.length]; exact hi
    exact ⟨vs, vs[i], ex.l hs, List.getElem?_eq_getElem hi'⟩
  · obtain ⟨T, x1, rfl, hT, rfl, y⟩ := y
    rw [enumL_get, Nat.zero_add] at hd
    cases z : ds[i]? with
    | none =>
      rw [z] at hd
      cases hd
    | some d1 =>
      rw [z] at hd
      cases hd
      obtain ⟨v, h1, h2⟩ := ra.get z
      have := y vs (ex.l hs)
      rw [h1] at this
      cases this
      exact ⟨_, newTup e2 hT (.cons (.int _) (.cons (h2.mono e1) .nil))⟩
/-- enumerate of a text, a list -/
theorem pi_enumS {elts : List Expr} {kk : Nat} {tpos : Pos} (hm : X.mg "enumerate" = none) (ha : PE X a (tX X.K B f)) (hg : Gl X "enumerate" := by rfl) (h0 : starEach [a] X.env = (false, eval a X.env) :: starEach [] X.env := by rfl) (hs : starEach [a] X.env = [(false, eval a X.env)] := by rfl) :
    PI X (.Tuple elts kk tpos) (.Call (.Name "enumerate" p) [a] [] pos) (tI X.K B (iEnum f)) := by
  have hl := L2.pi_enum (tpos := tpos) (elts := elts) (kk := kk) (p := p) (pos := pos) hg hm (pa_cons ha pa_nil h0) hs
  have ht := pi_enumStr (tpos := tpos) (elts := elts) (kk := kk) (p := p) (pos := pos) hg hm (pa_cons ha pa_nil h0) hs
  refine ⟨fun pins s σ H R I q => ?_⟩
  obtain ⟨G, η, r, q⟩ := q
  have q := sat_bind q
  cases z : f η with
  | ok d =>
    rw [z] at q
    have fin : ∀ Q : VK, (∀ G' H' v, Ext G H G' H' → Rp X.K G' v d → Q v H') → tX X.K B f σ H Q := fun Q k => ⟨G, η, r, by rw [z]; exact k⟩
    cases d with
    | lst ds => exact hl.run pins s σ H R I (fin _ fun G1 H1 v e1 r1 => by
        cases r1 with
        | lst hs ra => exact ⟨_, _, rfl, e1.gh.l hs, q G1 H1 _ e1 (walkd_enumL hs ra)⟩)
    | str ds => exact ht.run pins s σ H R I (fin _ fun G1 H1 v e1 r1 => by
        cases r1
        exact ⟨_, rfl, q G1 H1 _ e1 (walkd_enumS ds)⟩)
    | _ => exact q.elim
  | raise cl =>
    rw [z] at q
    exact hl.run pins s σ H R I ⟨G, η, r, by rw [z]; exact q⟩
  | bad =>
    rw [z] at q
    exact q.elim
theorem walkd_revS {K : PySem.W.Frag} {G : Hp} (s : List Nat) : WalkD K (Itrs (Sx s)) G (signs s.reverse) := by
  refine ⟨fun i H hi _ => ?_, fun H _ => ?_, fun i H x H' d hd _ y G1 e1 e2 => ?_⟩
  · rw [signs_len, List.length_reverse] at hi
    show i < s.toArray.size
    simpa using hi
  · show s.toArray.size ≤ (signs s.reverse).length
    rw [signs_len, List.length_reverse]
    simp
  · obtain ⟨rfl, c, h1, rfl⟩ := y
    have h1 : s.toArray[s.toArray.size - 1 - i]? = some c := h1
    rw [List.getElem?_toArray, List.size_toArray] at h1
    have hi := lt_of_get hd
    rw [signs_len, List.length_reverse] at hi
    unfold signs at hd
    rw [List.getElem?_map, List.getElem?_reverse hi, h1] at hd
    cases hd
    exact ⟨G1, Ext.refl e2, .str [c]⟩
theorem pi_revS (hm : X.mg "reversed" = none) (ha : PE X a (tX X.K B f)) (hg : Gl X "reversed" := by rfl) (h0 : starEach [a] X.env = (false, eval a X.env) :: starEach [] X.env := by rfl) : PI X tg (.Call (.Name "reversed" p) [a] [] pos) (tI X.K B (iRevS f)) :=
  pi_weak (pi_revStr hg hm ha h0) fun σ H R q => by
    obtain ⟨G, η, r, q⟩ := q
    refine tX.of r (sat_bind q) fun x hx G1 H1 v e1 r1 => ?_
    cases r1 with
    | str s =>
      obtain ⟨hl, hx⟩ := sat_if hx
      exact ⟨_, rfl, by rw [sx_len, line_eq]; exact hl, hx G1 H1 _ e1 (walkd_revS s)⟩
    | _ => exact hx.elim
/-! ### methods of texts -/
theorem joinS_eq (sep : List Nat) : ∀ l : List (List Nat), Txt.join (Sx sep) (l.map Sx) = Sx (joinS sep l) := by
  have key : ∀ (l : List (List Nat)) (acc : List Nat), ((l.map Sx).foldl (fun (acc : Array Nat) (p : Str) => acc ++ (Sx sep).cps ++ p.cps) acc.toArray) = (acc ++ (l.map fun x => sep ++ x).flatten).toArray := by
    intro l
    induction l with
    | nil => intro acc; simp
    | cons x r ih =>
      intro acc
      rw [List.map_cons, List.foldl_cons]
      have e : acc.toArray ++ (Sx sep).cps ++ (Sx x).cps = (acc ++ sep ++ x).toArray := by simp [Sx]
      rw [e, ih]
      simp
  have key2 : ∀ (x : List Nat) (r : List (List Nat)), joinS sep (x :: r) = x ++ (r.map fun x => sep ++ x).flatten := by
    intro x r
    induction r generalizing x with
    | nil => simp [joinS]
    | cons y r ih =>
      show x ++ sep ++ joinS sep (y :: r) = _
      rw [ih]
      simp
  intro l
  cases l with
  | nil => rfl
  | cons x r =>
    rw [key2]
    show Str.mk (((x :: r).map Sx).drop 1 |>.foldl (fun acc p => acc ++ (Sx sep).cps ++ p.cps) _) = _
    rw [List.map_cons, List.drop_succ_cons, List.drop_zero]
    show Str.mk ((r.map Sx).foldl (fun acc p => acc ++ (Sx sep).cps ++ p.cps) x.toArray) = _
    rw [key]
theorem lenSum_eq : ∀ l : List (List Nat), ((l.map Sx).map (·.length)).sum = lenSum l
  | [] => rfl
  | x :: r => by
    rw [List.map_cons, List.map_cons, List.sum_cons, lenSum_eq r, sx_len]
    rfl
theorem pv_join {sep : List Nat} {apos : Pos} (ha : PE X a (tX X.K B (eC (.str sep)))) (hb : PE X b (tX X.K B g)) (hs : starEach [b] X.env = [(false, eval b X.env)] := by rfl) (hbase : attributeBase a "join" X.env (eval a X.env) = eval a X.env := by rfl) (hline : (apos.endLine == pos.line) = true := by rfl) :
    PE X (.Call (.Attribute a "join" apos) [b] [] pos) (tX X.K B (eBin dJoin (eC (.str sep)) g)) := pe_weak (pe_join ha hb hs hbase hline) fun σ H Q q => by
  obtain ⟨G, η, r, q⟩ := q
  refine tX.of r (P := fun x => x = .str sep) rfl fun x hx G1 H1 v e1 r1 => ?_
  subst hx
  cases r1
  refine ⟨⟨_, rfl⟩, tX.of (r.extd e1) (sat_bind q) fun y hy G2 H2 w e2 r2 => ?_⟩
  have hy2 := sat_calm (R' := fun _ => False) hy
  clear hy
  cases r2 with
  | lst hs ra =>
    rename_i aa vs ds
    have hy := hy2
    cases z : strsL ds with
    | none =>
      simp [dJoin, z, Res.Sat] at hy
    | some ss =>
      simp only [dJoin, z] at hy
      obtain ⟨hl, hy⟩ := sat_if hy
      have ev := ra.txts z
      subst ev
      refine ⟨_, _, ss.map Sx, rfl, rfl, .inl (e2.gh.l hs), ?_, ?_⟩
      · rw [lenSum_eq, sx_len, List.length_map]
        exact hl
      · rw [joinS_eq]
        exact hy G2 H2 _ (e1.trans e2) (.str _)
  | _ => exact hy2.elim
theorem cnt_eq (c : Nat) : ∀ l : List Nat, cnt c l = (l.count c : Nat)
  | [] => rfl
  | n :: r => by
    rw [cnt_cons, cnt_eq c r, List.count_cons]
    by_cases h : n = c
    · subst h
      simp
      omega
    · rw [if_neg h]
      simp [h]
/-- s.count(one sign) -/
theorem pv_count {d : D} {apos : Pos} (ha : PE X a (tX X.K B f)) (hb : PE X b (tX X.K B (eC d))) (hs : starEach [b] X.env = [(false, eval b X.env)] := by rfl) (hbase : attributeBase a "count" X.env (eval a X.env) = eval a X.env := by rfl) (hline : (apos.endLine == pos.line) = true := by rfl) :
    PE X (.Call (.Attribute a "count" apos) [b] [] pos) (tX X.K B (eBin dCount f (eC d))) := pe_weak (pe_m1 F.slot_str_count F.type_str_count mt_count ha hb hs hbase hline) fun σ H Q q => by
  obtain ⟨G, η, r, q⟩ := q
  refine tX.of r (sat_bind q) fun x hx G1 H1 v e1 r1 => ?_
  have hx : (dCount x d).calm.Sat _ _ := hx
  have hx := sat_calm (R' := fun _ => False) hx
  cases r1 with
  | str s =>
    cases d with
    | str t =>
      rcases t with _ | ⟨c, _ | ⟨c2, t⟩⟩
      · exact hx.elim
      · obtain ⟨hl, hx⟩ := sat_if hx
        refine ⟨⟨_, rfl⟩, tX.of (r.extd e1) (P := fun x => x = .str [c]) rfl fun y hy G2 H2 w e2 r2 => ?_⟩
        subst hy
        cases r2
        refine ⟨_, _, rfl, rfl, ?_⟩
        have e : Txt.count (Sx s) (Sx [c]) = (s.count c : Nat) := (count_is (Sx s) c).trans (cnt_eq c s)
        rw [e]
        exact hx G2 H2 _ (e1.trans e2) (.int _)
      · exact hx.elim
    | _ => exact hx.elim
  | _ => cases d <;> exact hx.elim
/-- {'(': 1, ')': -1}.get(e, d) -/
theorem pv_sign {p1 p2 p3 p4 p5 apos cpos : Pos} {j1 j2 j3 j4 : Nat} (hu : X.A.units + 1 < cLine) (ha : PE X a (tX X.K B f)) (hb : PE X b (tX X.K B g))
    (m : M2 X (.Dict [some (.Constant (.str "(") j1 p1), some (.Constant (.str ")") j2 p2)] [.Constant (.int 1) j3 p3, .UnaryOp .USub (.Constant (.int 1) j4 p4) p5] p) "get" apos a b cpos := by exact ⟨rfl, rfl, rfl, rfl⟩) :
    PE X (.Call (.Attribute (.Dict [some (.Constant (.str "(") j1 p1), some (.Constant (.str ")") j2 p2)] [.Constant (.int 1) j3 p3, .UnaryOp .USub (.Constant (.int 1) j4 p4) p5] p) "get" apos) [a, b] [] cpos) (tX X.K B (eSign f g)) := by
  have hd := pe_disp (X := X) (pos := p) (pps_cons (pe_str (x := "(") (j := j1) (pos := p1)) (pe_int (i := 1) (j := j3) (pos := p3)) (pps_cons (pe_str (x := ")") (j := j2) (pos := p2)) (pe_un un_neg (pe_int (i := 1) (j := j4) (pos := p4)) (pos := p5)) pps_nil)) rfl rfl (by simp) (by show 2 ≤ 15; decide)
  refine pe_weak (L2.pe_dget2 hu hd ha hb m) fun σ H Q q => ?_
  obtain ⟨G, η, r, q⟩ := q
  intro p0 hp
  refine ⟨1, rfl, ?_⟩
  have hH : upd (upd H p0 (.dK [])) p0 (.dK (mergeK [] [(.inr "(", V.int 1), (.inr ")", V.int (-1))])) = upd H p0 (.dK [(.inr "(", V.int 1), (.inr ")", V.int (-1))]) := by
    funext z
    by_cases hz : z = p0
    · subst hz
      rw [upd_same, upd_same]
      rfl
    · rw [upd_ne hz, upd_ne hz, upd_ne hz]
  refine ⟨upd_same, [(.inr "(", V.int 1), (.inr ")", V.int (-1))], rfl, by decide, ?_⟩
  rw [hH]
  have x0 : Ext G H G (upd H p0 (.dK [(.inr "(", V.int 1), (.inr ")", V.int (-1))])) := Ext.drop r.exg hp
  refine ⟨p0, rfl, .inl ⟨_, .inl upd_same⟩, ?_⟩
  refine tX.of (r.extd x0) (sat_bind q) fun x hx G1 H1 v e1 r1 => ?_
  refine tX.of ((r.extd x0).extd e1) (sat_bind hx) fun y hy G2 H2 w e2 r2 => ?_
  have hy := sat_calm (R' := fun _ => False) hy
  cases r1 with
  | str s =>
    have hh : H2 p0 = some (.dK [(.inr "(", V.int 1), (.inr ")", V.int (-1))]) := e2.h _ _ (e1.h _ _ upd_same)
    refine ⟨_, DGet.k (k := .inr (Sx s)) hh, ?_⟩
    have e40 : ("(" : Str) = Sx [40] := by decide +kernel
    have e41 : (")" : Str) = Sx [41] := by decide +kernel
    by_cases h1 : s = [40]
    · subst h1
      exact hy G2 H2 _ ((x0.trans e1).trans e2) (.int 1)
    · by_cases h2 : s = [41]
      · subst h2
        exact hy G2 H2 _ ((x0.trans e1).trans e2) (.int (-1))
      · have ev : valV (κ := Key) [(.inr "(", V.int 1), (.inr ")", V.int (-1))] (.inr (Sx s)) = none := by
          have k1 : decide ((.inr "(" : Key) = .inr (Sx s)) = false := decide_eq_false fun z => h1 (sx_inj (by rw [← Sum.inr.inj z, e40]))
          have k2 : decide ((.inr ")" : Key) = .inr (Sx s)) = false := decide_eq_false fun z => h2 (sx_inj (by rw [← Sum.inr.inj z, e41]))
          unfold valV
          rw [List.find?_cons, List.find?_cons]
          simp only [k1, k2]
          rfl
        rw [ev]
        have hy : (Res.ok (if s = [40] then D.int 1 else if s = [41] then D.int (-1) else y)).Sat _ _ := hy
        rw [if_neg h1, if_neg h2] at hy
        exact hy G2 H2 _ ((x0.trans e1).trans e2) r2
  | _ => exact hy.elim
end
/-! ### refusals -/
structure ErrC (K : PySem.W.Frag) (mg : Str → Option Value) (C : Addr) (x : Str) : Prop where
  g : mg x = some (.ref C)
  x : PySem.W.excIn K C [.type "ValueError", .type "Exception", .type "BaseException", .type "object"] "ValueError.__new__" = true
  k : PySem.W.keepIn K (.ref C) = true
  b : PySem.W.subIn K (.ref C) (.type "BaseException") = some true
  t : PySem.W.typeIn K (.ref C) = some (.type "type")
structure Errs (K : PySem.W.Frag) (mg : Str → Option Value) (cl : Cls → Addr) : Prop where
  r : ErrC K mg (cl .noRow) "NoRow"
  p : ErrC K mg (cl .noPlace) "NoPlace"
theorem s_raise {X : Cx} {B : Bs} {c : Cls} {x m : Str} {j : Nat} {p p2 pos pos2 : Pos} (E : ErrC X.K X.mg (B.cl c) x) (tk : Takes X (fun cls d _ H => B.ex cls d H)) (hc : X.calm = true := by rfl) (hg : Gl X x := by rfl) (hdb : (x == ("__debug__" : Str)) = false := by decide) :
    PS X (.Raise (some (.Call (.Name x p) [.Constant (.str m) j p2] [] pos2)) none pos) (tS X.K B (sRaise c)) :=
  ps_weak (ps_raise hc tk (pmk_own PySem.F.excBase_ValueError E.x E.g E.k (raises_own E.b E.t) hg hdb)) fun D σ H q => by
    obtain ⟨G, η, r, q⟩ := q
    exact q H r.ext.h
/-! ### heads -/
structure Has (K : PySem.W.Frag) (mg : Str → Option Value) (x : Str) (st : Stmt) (ps : List Str) : Prop where
  ex : ∃ (fa : Addr) (fd : FuncData), Fun K x x st fa fd ∧ mg x = some (.ref fa) ∧ Binds K fd ps []
section
variable {P : Program} {w : World} {K : PySem.W.Frag} {mg : Str → Option Value} {base : Heap} {cl : Cls → Addr} {k : Nat} {x : Str} {st : Stmt} {ps N : List Str} {n : Nat}
theorem Has.ok {g : Bk.St} (F : Has K mg x st ps) (S : FnScope N ps (defScope st)) (hn : ps.length = n)
    (hbody : ∀ (cdv : Value) (A : Around) (outer : List PySem.Env) (s : Shared) (H : Hp) (E : XK) (G : Hp) (fa : Addr), Room k (A.deeper (envOfC x (defScope st) s.heap.objs.size fa cdv)) →
      (A.deeper (envOfC x (defScope st) s.heap.objs.size fa cdv)).units + 64 < cLine → (A.deeper (envOfC x (defScope st) s.heap.objs.size fa cdv)).units + 1 < cLine → (A.deeper (envOfC x (defScope st) s.heap.objs.size fa cdv)).units + 12 < cLine →
      PSs (cxOf (L2.CX P w) P w K mg base N x (defScope st) fa cdv A outer s H E) (defBody st) (tS K { G0 := G, H0 := H, cl := cl, ex := E } g)) :
    DefOk P w K mg base cl (k + 1) x n (runDef N.length g) := by
  obtain ⟨fa, fd, F, hm, hb⟩ := F.ex
  exact DefOk.mk' F S hn hm hb fun cdv A outer s H E G hr => hbody cdv A outer s H E G fa hr hr.units (Nat.lt_of_le_of_lt (Nat.add_le_add_left (by decide) _) hr.units) (Nat.lt_of_le_of_lt (Nat.add_le_add_left (by decide) _) hr.units)
/-- the law's promise: what it gives for data, where it is not refused -/
def spL (K : PySem.W.Frag) (φ : List D → Res D) : Sp := fun vs H Q _ => vs.length = 1 ∧ ∃ G ds, Ex G H ∧ RpAll K G vs ds ∧ (φ ds).Sat (fun d => ∀ G' H' v, Ext G H G' H' → Rp K G' v d → Q v H') (fun _ => False)
theorem fn_okL {g : Bk.St} {fa : Addr} {fd : FuncData} (cl : Cls → Addr) (F : Fun K x x st fa fd) (S : FnScope N ps (defScope st)) (hn : ps.length = 1)
    (hbody : ∀ (cdv : Value) (A : Around) (outer : List PySem.Env) (s : Shared) (H : Hp) (E : XK) (G : Hp), Room k (A.deeper (envOfC x (defScope st) s.heap.objs.size fa cdv)) →
      (A.deeper (envOfC x (defScope st) s.heap.objs.size fa cdv)).units + 64 < cLine → (A.deeper (envOfC x (defScope st) s.heap.objs.size fa cdv)).units + 1 < cLine → (A.deeper (envOfC x (defScope st) s.heap.objs.size fa cdv)).units + 12 < cLine →
      PSs (cxOf (L2.CX P w) P w K mg base N x (defScope st) fa cdv A outer s H E) (defBody st) (tS K { G0 := G, H0 := H, cl := cl, ex := E } g)) :
    FnOk P w K mg base (L2.CX P w) (k + 1) fa fd ps (spL K (runDef N.length g)) :=
  fn_ok F S hn (fun vs H Q E h => let ⟨h1, G, ds, h2, h3, h4⟩ := h; ⟨h1, G, ds, h2, h3, Sat.mono h4 (fun _ z => z) fun _ z => z.elim⟩) fun cdv A outer s H E G hr => hbody cdv A outer s H E G hr hr.units (Nat.lt_of_le_of_lt (Nat.add_le_add_left (by decide) _) hr.units) (Nat.lt_of_le_of_lt (Nat.add_le_add_left (by decide) _) hr.units)
theorem spL_start {φ : List D → Res D} {H : Hp} {a : Addr} {ns : List Int} (hS : SqL K H a (ns.map V.int)) (h : φ [.lst (ns.map D.int)] = .ok (.bool true)) : spL K φ [.ref a] H (fun v _ => v = .bl true) fun _ _ _ => False := by
  refine ⟨rfl, H, [.lst (ns.map D.int)], Ex.refl H, .cons (.lst hS (RpAll.ofInts ns)) .nil, ?_⟩
  rw [h]
  intro G' H' v _ r
  cases r
  rfl
theorem bits_log {z : Int} {n : Nat} (h : Builtin.Int.intBits z ≤ n) : z.natAbs.log2 ≤ n := by
  unfold Builtin.Int.intBits at h
  by_cases e : (z == 0) = true
  · have : z = 0 := by simpa using e
    subst this
    exact Nat.zero_le _
  · rw [if_neg e] at h
    omega
theorem cx_end {P : Program} {w : World} {H : Hp} {s s' : Shared} {e : Value} (h : L2.CX P w [] H s (fun _ _ _ => False) e s') : False := by
  obtain ⟨_, _, _, _, _, _, _, _, _, _, _, _, z⟩ := h
  exact z
theorem Has.zero (F : Has K mg x st ps) (S : FnScope N ps (defScope st)) (hn : ps.length = n) : DefOk P w K mg base cl (k + 1) x n (fun _ => .bad) := by
  obtain ⟨fa, fd, F, hm, hb⟩ := F.ex
  refine ⟨⟨fa, fd, ps, F.okX S (fun vs H Q E h => ?_) (fun cdv A outer s H vs Q E hr h => ?_), hm, F.kp, hb⟩⟩
  · obtain ⟨_, G, ds, _, _, h⟩ := h
    exact h.elim
  · obtain ⟨_, G, ds, _, _, h⟩ := h
    exact h.elim
theorem Has.mk' {f : Addr} {oc : Value} {od an : Option Addr} {osl : Array (Option Value)} {kV doc pm cdv ct : Value} (a : mg x = some (.ref f)) (l : K.lookup f = some ⟨oc, od, .func (PySem.W.fnOf x x (defArgs st) (defBody st) (defScope st) .none kV doc pm an cdv ct), osl⟩)
    (c : PySem.W.codeIn K cdv x = true) (kp : PySem.W.keepIn K (.ref f) = true)
    (b : ∀ (kV doc pm : Value) (an : Option Addr) (cdv ct : Value) (us : List Value), us.length = ps.length → bindArgs (PySem.W.fnOf x x (defArgs st) (defBody st) (defScope st) .none kV doc pm an cdv ct) ⟨us, []⟩ = pure (ps.zip us)) : Has K mg x st ps :=
  ⟨⟨f, _, fun_mk l c kp, a, (fun_mk l c kp).binds b⟩⟩
end
/-- no built-in's name is covered -/
structure Bi (mg : Str → Option Value) : Prop where
  m_len : mg "len" = none
  m_int : mg "int" = none
  m_min : mg "min" = none
  m_max : mg "max" = none
  m_sum : mg "sum" = none
  m_all : mg "all" = none
  m_list : mg "list" = none
  m_tuple : mg "tuple" = none
  m_sorted : mg "sorted" = none
  m_isinstance : mg "isinstance" = none
  m_str : mg "str" = none
  m_bool : mg "bool" = none
  m_range : mg "range" = none
  m_enumerate : mg "enumerate" = none
  m_reversed : mg "reversed" = none
  m_zip : mg "zip" = none
  m_ValueError : mg "ValueError" = none
end Bk
end
/-! BkTry -/
section
set_option Elab.async false
set_option linter.all false
set_option autoImplicit false
set_option maxRecDepth 100000
set_option maxHeartbeats 4000000
/-! BkTry: try: a call that may be refused; except .. as e: what e is -/
namespace Bk
open PySem PySem.Spec PyProof.Rows L2
theorem RpE.forget {K : PySem.W.Frag} {G0 H0 G H : Hp} {σ : L2.St} {η : Env} (r : RpE K G0 H0 G H σ η) (i : Nat) (z : Option V) : RpE K G0 H0 G H (σ.set i z) (η.set i Option.none) := by
  have key : ∀ (j : Nat) s, (η.set i Option.none)[j]? = some (some s) → i ≠ j ∧ η[j]? = some (some s) := fun j s e => by
    by_cases hj : i = j
    · subst hj
      have hl : i < η.length := by simpa using lt_of_get e
      rw [List.getElem?_set_self hl] at e
      cases e
    · rw [List.getElem?_set_ne hj] at e
      exact ⟨hj, e⟩
  refine ⟨r.ext, by rw [List.length_set, List.length_set]; exact r.len, fun j s e => ?_, fun j k s t v hjk e1 e2 o1 o2 w1 => ?_⟩
  · obtain ⟨hj, e⟩ := key j s e
    rw [List.getElem?_set_ne hj]
    exact r.slot j s e
  · obtain ⟨hj, e1⟩ := key j s e1
    obtain ⟨hk, e2⟩ := key k t e2
    rw [List.getElem?_set_ne hj] at w1
    rw [List.getElem?_set_ne hk]
    exact r.apart j k s t v hjk e1 e2 o1 o2 w1
/-! ### in the body -/
def tXW (K : PySem.W.Frag) (B : Bs) (W : WX) (f : E) : TE := fun σ H Q => ∃ G η, RpE K B.G0 B.H0 G H σ η ∧ (f η).Sat (fun d => ∀ G' H' v, Ext G H G' H' → Rp K G' v d → Q v H') (fun c => ∀ G' H', Ext G H G' H' → W (.ref (B.cl c)) Option.none σ H')
def FinW (K : PySem.W.Frag) (B : Bs) (D : Ends) (G H : Hp) (W : WX) (σ : L2.St) : Out → Prop
  | .next η' => ∀ G' H' σ', Ex G G' → RpE K B.G0 B.H0 G' H' σ' η' → D.nx σ' H'
  | .raise c => ∀ G' H', Ext G H G' H' → W (.ref (B.cl c)) Option.none σ H'
  | _ => False
def tSW (K : PySem.W.Frag) (B : Bs) (W : WX) (g : St) : TS := fun D σ H => ∃ G η, RpE K B.G0 B.H0 G H σ η ∧ FinW K B D G H W σ (g η)
section
variable {X : Cx} {B : Bs} {a b c e : Expr} {es : List Expr} {pos p : Pos} {f g h : E} {fs : List E} {t : T} {W : WX}
theorem pv_callW {k n : Nat} {x : Str} {φ : List D → Res D} (F : DefOk X.prog X.w X.K X.mg X.base B.cl k x n φ) (hr : Room k X.A) (tk : Takes X W) (ha : PA X (e :: es) (tA X.K B.calm fs)) (hn : fs.length = n := by rfl) (hg : Gl X x := by rfl)
    (hdb : (x == ("__debug__" : Str)) = false := by decide) (he : starEach (e :: es) X.env = (false, eval e X.env) :: starEach es X.env := by rfl) (hpl : (backTo pos (starEach es X.env)).any (·.1) = false := by rfl) :
    PE X (.Call (.Name x p) (e :: es) [] pos) (tXW X.K B W (eCallT φ fs)) := by
  obtain ⟨fa, fd, ps, F, hm, hk, hb⟩ := F.ex
  refine pe_weak (pe_callS (E := WE W) F hr hg hm hk hb (fun σ => passAt tk σ) ha hdb he hpl) fun σ H Q q => ?_
  obtain ⟨G, η, r, q⟩ := q
  cases z : evals fs η with
  | ok ds0 =>
    unfold eCallT at q
    rw [z] at q
    have hE : (evals fs η).Sat (fun ds => ds = ds0) (Rz B.calm) := by
      rw [z]
      exact rfl
    refine tA.of (B := B.calm) r (evals_len hE) fun ds hds G1 H1 vs e1 r1 => ?_
    obtain ⟨hl, rfl⟩ := hds
    refine ⟨by rw [r1.length, hl, hn], G1, ds, e1.gh, r1, Sat.mono (m := φ ds) q (fun d q G' H' v e2 r2 => q G' H' v (e1.trans e2) r2) fun c z2 H' x => z2 G1 H' (e1.trans ⟨Ex.refl G1, e1.gh.trans x, x, fun _ h _ => h⟩)⟩
  | raise c =>
    unfold eCallT at q
    rw [z] at q
    exact q.elim
  | bad =>
    unfold eCallT at q
    rw [z] at q
    exact q.elim
variable {s1 s2 : St} {body orelse : List Stmt}
theorem s_setW (i : Nat) {x : Str} {px : Pos} (hN : X.N.Nodup) (ha : PE X a (tXW X.K B W f)) (hi : X.N[i]? = some x := by rfl) (hx : Loc X.env.scope x := by first | exact .inl rfl | exact .inr rfl) (hs : swapsWith a (some (.Name x px)) pos.line X.env = pure false := by rfl) (hf : X.fn x = true ∨ X.env.scope.names.lookup x = some .local := by first | exact .inl rfl | exact .inr rfl) :
    PS X (.Assign [.Name x px] a pos) (tSW X.K B W (sSet i f)) := ps_weak (ps_set hN hi hx ha hs hf) fun D σ H q => by
  obtain ⟨G, η, r, q⟩ := q
  refine ⟨G, η, r, ?_⟩
  cases z : f η with
  | ok d =>
    unfold sSet sAsg at q
    rw [z] at q
    exact fun G' H' v e1 r1 => q G' H' _ e1.g ((r.extd e1).set i r1)
  | raise c =>
    unfold sSet sAsg at q
    rw [z] at q
    exact q
  | bad =>
    unfold sSet sAsg at q
    rw [z] at q
    exact q.elim
theorem s_dropW (ha : PE X a (tXW X.K B W f)) (hs : swapsWith a none pos.line X.env = pure false := by rfl) : PS X (.Expr a pos) (tSW X.K B W (sDrop f)) := ps_weak (ps_expr ha hs) fun D σ H q => by
  obtain ⟨G, η, r, q⟩ := q
  refine ⟨G, η, r, ?_⟩
  cases z : f η with
  | ok d =>
    unfold sDrop at q
    rw [z] at q
    exact fun G' H' v e1 r1 => q G' H' _ e1.g (r.extd e1)
  | raise c =>
    unfold sDrop at q
    rw [z] at q
    exact q
  | bad =>
    unfold sDrop at q
    rw [z] at q
    exact q.elim
theorem ss_oneW {st : Stmt} (h1 : PS X st (tSW X.K B W s1)) : PSs X [st] (tSW X.K B W s1) := pss_one h1
theorem FinW.up {D : Ends} {G H G1 H1 : Hp} {σ : L2.St} (x : Ext G H G1 H1) : ∀ {o : Out}, FinW X.K B D G H W σ o → FinW X.K B D G1 H1 W σ o
  | .next _, h => fun G' H' σ' e r => h G' H' σ' (x.g.trans e) r
  | .raise _, h => fun G' H' e => h G' H' (x.trans e)
  | .brk _, h => h
  | .ct _, h => h
  | .ret _, h => h
  | .bad, h => h
theorem s_ifW (hc : PT X a (tT X.K B.calm t)) (h1 : PSs X body (tSW X.K B W s1)) (h2 : PSs X orelse (tSW X.K B W s2)) : PS X (.If a body orelse pos) (tSW X.K B W (sIfC t s1 s2)) := ps_weak (ps_if hc h1 h2) fun D σ H q => by
  obtain ⟨G, η, r, q⟩ := q
  refine ⟨G, η, r, ?_⟩
  cases z : t η with
  | ok k =>
    unfold sIfC at q
    rw [z] at q
    intro G' H' e1
    cases k with
    | true =>
      rw [if_pos rfl]
      exact ⟨G', η, r.extd e1, FinW.up e1 q⟩
    | false =>
      rw [if_neg Bool.false_ne_true]
      exact ⟨G', η, r.extd e1, FinW.up e1 q⟩
  | raise c =>
    unfold sIfC at q
    rw [z] at q
    exact q.elim
  | bad =>
    unfold sIfC at q
    rw [z] at q
    exact q.elim
end
/-! ### what e is -/
structure ErrI (K : PySem.W.Frag) (mg : Str → Option Value) (cl : Cls → Addr) (BE : Addr) : Prop where
  be : mg "BracketError" = some (.ref BE)
  r : mg "NoRow" = some (.ref (cl .noRow))
  p : mg "NoPlace" = some (.ref (cl .noPlace))
  ve : mg "ValueError" = none
  c : ∀ c, ExcC K (cl c)
  x : ∀ c, PySem.W.exmOne K (.ref (cl c)) (.ref BE) = some true
  rr : PySem.W.kitOne K (.ref (cl .noRow)) (.ref (cl .noRow)) = some true
  rp : PySem.W.kitOne K (.ref (cl .noRow)) (.ref (cl .noPlace)) = some false
  pr : PySem.W.kitOne K (.ref (cl .noPlace)) (.ref (cl .noRow)) = some false
  pp : PySem.W.kitOne K (.ref (cl .noPlace)) (.ref (cl .noPlace)) = some true
  v : ∀ c, PySem.W.kitOne K (.ref (cl c)) (.type "ValueError") = some true
theorem kit_ref {K : PySem.W.Frag} {C D : Addr} {b : Bool} (hd : PySem.W.hasDictIn K D = true) (ht : PySem.W.typeIn K (.ref D) = some (.type "type")) (h : PySem.W.subIn K (.ref C) (.ref D) = some b) (hn : C ≠ D) : PySem.W.kitOne K (.ref C) (.ref D) = some b := by
  obtain ⟨cd, hc, _⟩ := PySem.W.any_some hd
  have e0 : ¬ ((Value.ref C == Value.ref D) = true) := by simpa using hn
  have e2 : ((PySem.W.clsIn K D).isSome && PySem.W.typeIn K (.ref D) == some (.type "type")) = true := by rw [hc, ht] <;> rfl
  show (if (Value.ref C == Value.ref D) = true then some true else (if ((PySem.W.clsIn K D).isSome && PySem.W.typeIn K (.ref D) == some (.type "type")) = true then PySem.W.subIn K (.ref C) (.ref D) else none)) = some b
  rw [if_neg e0, if_pos e2]
  exact h
theorem kit_self {K : PySem.W.Frag} {C : Addr} : PySem.W.kitOne K (.ref C) (.ref C) = some true := by
  show (if (Value.ref C == Value.ref C) = true then some true else _) = _
  rw [if_pos (by simp)]
theorem kit_ve {K : PySem.W.Frag} {C : Addr} (h : PySem.W.subIn K (.ref C) (.type "ValueError") = some true) : PySem.W.kitOne K (.ref C) (.type "ValueError") = some true := by
  have e0 : ¬ ((Value.ref C == Value.type "ValueError") = true) := by simp
  have e2 : PySem.W.kitMeta "ValueError" = true := by decide +kernel
  show (if (Value.ref C == Value.type "ValueError") = true then some true else (if PySem.W.kitMeta "ValueError" = true then PySem.W.subIn K (.ref C) (.type "ValueError") else none)) = some true
  rw [if_neg e0, if_pos e2]
  exact h
def rE (i : Nat) (a : Addr) (k : Bool) : TE := fun σ H Q => σ[i]? = some (some (.ref a)) ∧ Q (.bl k) H
def rT (i : Nat) (a : Addr) (k : Bool) : TT := fun σ H Q => σ[i]? = some (some (.ref a)) ∧ Q k H
section
variable {X : Cx} {aa : Addr} {oe : Obj} {pn : List (Addr × Obj)} {i : Nat} {C : Addr} {k : Bool} {pos p p2 p3 : Pos} {y n : Str}
theorem pe_isX {tc : TE} {ce : Expr} {v : V} {cv : Value} (hcC : ExcC X.K C) (hz : Zc (.ref C) none oe) (hf : ∃ vs, oe.data = .fields vs) (hm : X.mg "isinstance" = none) (hc : PE (X.suite aa ((aa, oe) :: pn)) ce (tC v)) (hv : ∀ u, RelV v u → u = cv) (hk : PySem.W.kitOne X.K (.ref C) cv = some k)
    (hN : X.N[i]? = some n := by rfl) (hvis : Vis X.env.scope n := by first | exact Or.inl rfl | exact Or.inr (Or.inl rfl) | exact Or.inr (Or.inr rfl)) (hg : Gl X "isinstance" := by rfl) (hd : (n == ("__debug__" : Str)) = false := by decide)
    (hcd : (n == ("__classdict__" : Str)) = false := by decide) (h0 : starEach [.Name n p2, ce] (X.suite aa ((aa, oe) :: pn)).env = (false, eval (.Name n p2) (X.suite aa ((aa, oe) :: pn)).env) :: starEach [ce] (X.suite aa ((aa, oe) :: pn)).env := by rfl)
    (h1 : starEach [ce] (X.suite aa ((aa, oe) :: pn)).env = (false, eval ce (X.suite aa ((aa, oe) :: pn)).env) :: starEach [] (X.suite aa ((aa, oe) :: pn)).env := by rfl) (hpl : (backTo pos (starEach [ce] (X.suite aa ((aa, oe) :: pn)).env)).any (·.1) = false := by rfl) :
    PE (X.suite aa ((aa, oe) :: pn)) (.Call (.Name "isinstance" p) [.Name n p2, ce] [] pos) (rE i aa k) := by
  refine pe_weak (pe_callB (call_isE hcC hz hf) hg hm (by decide +kernel) (pa_cons (pe_var (X := X.suite aa ((aa, oe) :: pn)) (i := i) hN hvis hd hcd) (pa_cons hc pa_nil h1) h0) (by decide) (by decide) h0 hpl) fun σ H Q q => ?_
  exact ⟨.ref aa, q.1, v, cv, k, rfl, hv, hk, q.2⟩
/-- isinstance(e, an own class) -/
theorem pe_isO {D : Addr} (hcC : ExcC X.K C) (hz : Zc (.ref C) none oe) (hf : ∃ vs, oe.data = .fields vs) (hm : X.mg "isinstance" = none) (hy : X.mg y = some (.ref D)) (hk : PySem.W.kitOne X.K (.ref C) (.ref D) = some k)
    (hN : X.N[i]? = some n := by rfl) (hvis : Vis X.env.scope n := by first | exact Or.inl rfl | exact Or.inr (Or.inl rfl) | exact Or.inr (Or.inr rfl)) (hg : Gl X "isinstance" := by rfl) (hgy : Gl X y := by rfl) (hd : (n == ("__debug__" : Str)) = false := by decide)
    (hcd : (n == ("__classdict__" : Str)) = false := by decide) (hdy : (y == ("__debug__" : Str)) = false := by decide) :
    PE (X.suite aa ((aa, oe) :: pn)) (.Call (.Name "isinstance" p) [.Name n p2, .Name y p3] [] pos) (rE i aa k) :=
  pe_isX (tc := tC (.ref D)) hcC hz hf hm (pe_glob (X := X.suite aa ((aa, oe) :: pn)) (v := .ref D) hgy hy rfl hdy) (fun u h => h) hk hN hvis hg hd hcd
/-- isinstance(e, ValueError) -/
theorem pe_isV (hcC : ExcC X.K C) (hz : Zc (.ref C) none oe) (hf : ∃ vs, oe.data = .fields vs) (hm : X.mg "isinstance" = none) (hy : X.mg "ValueError" = none) (hk : PySem.W.kitOne X.K (.ref C) (.type "ValueError") = some k)
    (hN : X.N[i]? = some n := by rfl) (hvis : Vis X.env.scope n := by first | exact Or.inl rfl | exact Or.inr (Or.inl rfl) | exact Or.inr (Or.inr rfl)) (hg : Gl X "isinstance" := by rfl) (hgy : Gl X "ValueError" := by rfl) (hd : (n == ("__debug__" : Str)) = false := by decide)
    (hcd : (n == ("__classdict__" : Str)) = false := by decide) :
    PE (X.suite aa ((aa, oe) :: pn)) (.Call (.Name "isinstance" p) [.Name n p2, .Name "ValueError" p3] [] pos) (rE i aa k) :=
  pe_isX (tc := tC (.ty "ValueError")) hcC hz hf hm (pe_bltn (X := X.suite aa ((aa, oe) :: pn)) (v := .ty "ValueError") hgy hy (by decide +kernel) rfl (by decide) (by decide)) (fun u h => h) hk hN hvis hg hd hcd
end
section
variable {X : Cx} {i : Nat} {a : Addr} {k l m : Bool} {e e1 e2 e3 : Expr} {p1 p2 p3 pos : Pos}
theorem rE_and (h1 : PE X e1 (rE i a k)) (h2 : PE X e2 (rE i a l)) (h3 : PE X e3 (rE i a m)) : PE X (.BoolOp .And [e1, .UnaryOp .Not e2 p2, e3] pos) (rE i a (k && !l && m)) :=
  pe_weak (pe_and h1 (pe_and (pe_not h2) (pe_one h3))) fun σ H Q q => by
    refine ⟨q.1, k, rfl, ?_⟩
    cases k with
    | false => exact q.2
    | true =>
      rw [if_pos rfl]
      refine ⟨q.1, l, rfl, !l, rfl, ?_⟩
      cases l with
      | true => exact q.2
      | false => exact q
theorem rT_of (h : PE X e (rE i a k)) (he : ∀ whole, isTrue e X.env whole = (do let v ← whole; standAt e.pos; holding [v] (truthy v)) := by intro _; rfl) : PT X e (rT i a k) :=
  pt_weak (pt_val h he) fun σ H Q q => ⟨q.1, k, rfl, q.2⟩
theorem rT_and (h1 : PT X e1 (rT i a k)) (h2 : PT X e2 (rT i a l)) (h3 : PT X e3 (rT i a m)) : PT X (.BoolOp .And [e1, .UnaryOp .Not e2 p2, e3] pos) (rT i a (k && !l && m)) :=
  pt_weak (pw_and h1 (pw_and (pt_not h2) (pw_and1 h3))).pt fun σ H Q q => by
    refine ⟨q.1, ?_⟩
    cases k with
    | false => exact q.2
    | true =>
      rw [if_pos rfl]
      refine ⟨q.1, ?_⟩
      cases l with
      | true => exact q.2
      | false => exact q
end
/-! ### the suite -/
def tSE (K : PySem.W.Frag) (B : Bs) (i : Nat) (a : Addr) (g : St) : TS := fun D σ H => ∃ G η, RpE K B.G0 B.H0 G H σ η ∧ σ[i]? = some (some (.ref a)) ∧ η[i]? = some Option.none ∧ Fin K B D G (g η)
section
variable {X : Cx} {B : Bs} {i j : Nat} {aa : Addr} {k : Bool} {e : Expr} {pos p p2 px : Pos} {x : Str} {z : Nat}
/-- x = the verdict -/
theorem su_set (j : Nat) (hN : X.N.Nodup) (h : PE X e (rE i aa k)) (hi : X.N[j]? = some x := by rfl) (hx : Loc X.env.scope x := by first | exact .inl rfl | exact .inr rfl) (hs : swapsWith e (some (.Name x px)) pos.line X.env = pure false := by rfl) (hf : X.fn x = true ∨ X.env.scope.names.lookup x = some .local := by first | exact .inl rfl | exact .inr rfl) :
    PSs X [.Assign [.Name x px] e pos] (tSE X.K B i aa (sSet j (eC (.bool k)))) := pss_weak (pss_one (ps_set hN hi hx h hs hf)) fun D σ H q => by
  obtain ⟨G, η, r, q1, q2, q⟩ := q
  have q : Fin X.K B D G (.next (η.set j (some (.dat (.bool k))))) := q
  exact ⟨q1, q G H _ (Ex.refl G) (r.set j (.bool k))⟩
/-- if the verdict: x = None -/
theorem su_if (j : Nat) (hN : X.N.Nodup) (h : PT X e (rT i aa k)) (hi : X.N[j]? = some x := by rfl) (hx : Loc X.env.scope x := by first | exact .inl rfl | exact .inr rfl) (hs : swapsWith (.Constant .none z p2) (some (.Name x px)) p.line X.env = pure false := by rfl) (hf : X.fn x = true ∨ X.env.scope.names.lookup x = some .local := by first | exact .inl rfl | exact .inr rfl) :
    PSs X [.If e [.Assign [.Name x px] (.Constant .none z p2) p] [] pos] (tSE X.K B i aa (if k then sSet j (eC .none) else sSkip)) := pss_weak (pss_one (ps_if h (pss_one (ps_set hN hi hx pe_non hs hf)) pss_nil)) fun D σ H q => by
  obtain ⟨G, η, r, q1, q2, q⟩ := q
  refine ⟨q1, ?_⟩
  cases k with
  | true =>
    rw [if_pos rfl]
    have q : Fin X.K B D G (.next (η.set j (some (.dat .none)))) := q
    exact q G H _ (Ex.refl G) (r.set j .none)
  | false =>
    rw [if_neg Bool.false_ne_true]
    have q : Fin X.K B D G (.next η) := q
    exact q G H _ (Ex.refl G) r
end
theorem s_tryAs {X : Cx} {B : Bs} {BE : Addr} {i : Nat} {body suite : List Stmt} {b₀ : Stmt} {n : Str} {np pos pos' : Pos} {b : St} {h : Cls → St} (E : ErrI X.K X.mg B.cl BE) (hN : X.N.Nodup) (tk : Takes X (fun _ _ _ _ => False))
    (hb : ∀ (W : WX) (pn : List (Addr × Obj)) (xe : Value → Shared → Prop), Takes (X.tr pn xe) W → PSs (X.tr pn xe) body (tSW X.K B W b))
    (hsu : ∀ (c : Cls) (a : Addr) (oe : Obj) (pn : List (Addr × Obj)), Zc (.ref (B.cl c)) Option.none oe → (∃ vs, oe.data = .fields vs) → PSs (X.suite a ((a, oe) :: pn)) (b₀ :: suite) (tSE X.K B i a (h c)))
    (hs : X.stack = X.env :: X.outer := by rfl) (hf : X.env.frame = some X.env.locals := by rfl) (hi : X.N[i]? = some n := by rfl) (hln : X.env.kindOf n = some .local := by rfl) (hg : Gl X "BracketError" := by rfl) :
    PS X (.Try body [.ExceptHandler (some (.Name "BracketError" np)) (some n) (b₀ :: suite) pos'] [] [] pos) (tS X.K B (sTryAs i b h)) := by
  refine ps_weak (ps_try_as (i := i) (Wout := fun _ _ _ _ => False) (c := .ref BE) (tb := fun W => tSW X.K B W b) (ts := fun a cls d D σ H => ∃ c, cls = .ref (B.cl c) ∧ d = Option.none ∧ tSE X.K B i a (h c) D σ H) hs hf hN hi hln ⟨hg, by decide, .inl E.be⟩ tk (fun W pn xe tk _ => hb W pn xe tk)
    (fun a oe cls d pn hz hfs => ⟨fun pins s σ H D I q => ?_⟩)) fun D σ H q => ?_
  · obtain ⟨c, rfl, rfl, q⟩ := q
    exact (hsu c a oe pn hz hfs).run pins s σ H D I q
  · obtain ⟨G, η, r, q⟩ := q
    refine ⟨G, η, r, ?_⟩
    unfold sTryAs at q
    cases z : b η with
    | next η' =>
      rw [z] at q
      exact q
    | raise c =>
      rw [z] at q
      dsimp only at q
      by_cases hlen : i < η.length
      · rw [if_pos hlen] at q
        intro G' H' e1
        refine ⟨true, E.x c, fun _ a ha => ?_, fun z => nomatch z⟩
        have hl : i < X.N.length := lt_of_get hi
        have r1 := r.extd e1
        have r2 := r1.forget i (some (.ref a))
        refine ⟨c, rfl, rfl, G', _, r2, List.getElem?_set_self (by rw [r.len]; exact hlen), List.getElem?_set_self hlen, ?_⟩
        cases z2 : h c (η.set i Option.none) with
        | next η' =>
          simp only [z2] at q
          exact fun G2 H2 σ2 e2 r3 => q G2 H2 _ (e1.g.trans e2) (r3.forget i Option.none)
        | _ =>
          simp only [z2] at q
          exact q.elim
      · rw [if_neg hlen] at q
        exact q.elim
    | _ =>
      rw [z] at q
      exact q.elim
end Bk
end
/-! BkIter -/
section
set_option Elab.async false
set_option linter.all false
set_option autoImplicit false
set_option maxRecDepth 100000
set_option maxHeartbeats 4000000
/-! BkIter: zip of two lists, reversed(range(n)) -/
namespace Bk
open PySem PySem.Spec PyProof.Rows L2
section
variable {X : Cx} {B : Bs} {a b c e tg iter : Expr} {es : List Expr} {pos p : Pos} {f g h : E} {fs : List E}
theorem zipL_get : ∀ (xs ys : List D) (i : Nat) (d : D), (zipL xs ys)[i]? = some d → ∃ x y, xs[i]? = some x ∧ ys[i]? = some y ∧ d = .tup [x, y]
  | [], ys, i, d, h => by simp [zipL] at h
  | x :: xs, [], i, d, h => by simp [zipL] at h
  | x :: xs, y :: ys, 0, d, h => by
    simp [zipL] at h
    exact ⟨x, y, rfl, rfl, h.symm⟩
  | x :: xs, y :: ys, i + 1, d, h => by
    simp [zipL] at h
    obtain ⟨x', y', h1, h2, h3⟩ := zipL_get xs ys i d h
    exact ⟨x', y', by simpa using h1, by simpa using h2, h3⟩
theorem zipL_len : ∀ (xs ys : List D), (zipL xs ys).length = min xs.length ys.length
  | [], ys => by simp [zipL]
  | x :: xs, [] => by simp [zipL]
  | x :: xs, y :: ys => by
    simp only [zipL, List.length_cons, zipL_len xs ys]
    omega
theorem walkd_zip {K : PySem.W.Frag} {G : Hp} {a1 a2 : Addr} {xs ys : List V} {ds es : List D} (h1 : SqL K G a1 xs) (r1 : RpAll K G xs ds) (h2 : SqL K G a2 ys) (r2 : RpAll K G ys es) : WalkD K (Itz K a1 a2) G (zipL ds es) := by
  refine ⟨fun i H hi ex => ?_, fun H ex => ⟨xs, ys, ex.l h1, ex.l h2, ?_⟩, fun i H x H' d hd ex y G1 e1 e2 => ?_⟩
  · rw [zipL_len] at hi
    have hx : i < xs.length := by rw [r1.length]; omega
    have hy : i < ys.length := by rw [r2.length]; omega
    exact ⟨xs, ys, xs[i], ys[i], ex.l h1, ex.l h2, List.getElem?_eq_getElem hx, List.getElem?_eq_getElem hy⟩
  · rw [zipL_len, r1.length, r2.length]
    omega
  · obtain ⟨T, x1, y1, rfl, hT, rfl, f1, f2⟩ := y
    obtain ⟨d1, d2, k1, k2, rfl⟩ := zipL_get _ _ _ _ hd
    obtain ⟨v1, j1, j2⟩ := r1.get k1
    obtain ⟨v2, j3, j4⟩ := r2.get k2
    have q1 := f1 xs (ex.l h1)
    have q2 := f2 ys (ex.l h2)
    rw [j1] at q1
    rw [j3] at q2
    cases q1
    cases q2
    exact ⟨_, newTup e2 hT (.cons (j2.mono e1) (.cons (j4.mono e1) .nil))⟩
theorem pi_zipD {elts : List Expr} {kk : Nat} {tpos : Pos} (hm : X.mg "zip" = none) (ha : PE X a (tX X.K B f)) (hb : PE X b (tX X.K B g)) (hg : Gl X "zip" := by rfl) (h0 : starEach [a, b] X.env = (false, eval a X.env) :: starEach [b] X.env := by rfl) (h1 : starEach [b] X.env = (false, eval b X.env) :: starEach [] X.env := by rfl)
    (hpl : (backTo pos (starEach [b] X.env)).any (·.1) = false := by rfl) : PI X (.Tuple elts kk tpos) (.Call (.Name "zip" p) [a, b] [] pos) (tI X.K B (Bk.iZip f g)) :=
  pi_weak (L2.pi_zip hg hm (pa_cons ha (pa_cons hb pa_nil h1) h0) h0 hpl) fun σ H R q => by
    obtain ⟨G, η, r, q⟩ := q
    refine tX.of r (sat_bind q) fun x hx G1 H1 v e1 r1 => ?_
    refine tX.of (r.extd e1) (sat_bind hx) fun y hy G2 H2 w e2 r2 => ?_
    cases r1 with
    | lst hs1 ra1 =>
      cases r2 with
      | lst hs2 ra2 => exact ⟨_, _, _, _, rfl, (e1.gh.l hs1 |> e2.h.l), e2.gh.l hs2, hy G2 H2 _ (e1.trans e2) (walkd_zip (e2.g.l hs1) (ra1.mono e2.g) hs2 ra2)⟩
      | _ => exact hy.elim
    | _ => exact hy.elim
theorem walkd_revR {K : PySem.W.Frag} {G : Hp} (n : Nat) : WalkD K (Itc ((n : Int) - 1) (-1) n) G (numbers 0 n).reverse := by
  refine ⟨fun i H hi _ => ?_, fun H _ => ?_, fun i H x H' d hd _ y G1 e1 e2 => ?_⟩
  · rw [List.length_reverse, numbers_len] at hi
    exact hi
  · rw [List.length_reverse, numbers_len]
    exact Nat.le_refl _
  · obtain ⟨rfl, rfl⟩ := y
    have hi : i < n := by
      have := lt_of_get hd
      rw [List.length_reverse, numbers_len] at this
      exact this
    rw [List.getElem?_reverse (by rw [numbers_len]; exact hi), numbers_len] at hd
    unfold numbers at hd
    rw [List.getElem?_map, List.getElem?_range (by omega)] at hd
    cases hd
    have e : (n : Int) - 1 + (i : Nat) * (-1) = 0 + ((n - 1 - i : Nat) : Int) := by omega
    rw [e]
    exact ⟨G1, Ext.refl e2, .int _⟩
theorem pi_revR1 {p2 pos2 : Pos} (hm : X.mg "reversed" = none) (hm2 : X.mg "range" = none) (ha : PE X a (tX X.K B f)) (hg : Gl X "reversed" := by rfl) (hg2 : Gl X "range" := by rfl) (h0 : starEach [a] X.env = (false, eval a X.env) :: starEach [] X.env := by rfl)
    (hs : starEach [.Call (.Name "range" p2) [a] [] pos2] X.env = (false, eval (.Call (.Name "range" p2) [a] [] pos2) X.env) :: starEach [] X.env := by rfl) :
    PI X tg (.Call (.Name "reversed" p) [.Call (.Name "range" p2) [a] [] pos2] [] pos) (tI X.K B (iRevRange1 f)) :=
  pi_weak (pi_revR hg hm (prg_1 hg2 hm2 ha h0) hs) fun σ H R q => by
    obtain ⟨G, η, r, q⟩ := q
    refine tX.of r (sat_bind q) fun x hx G1 H1 v e1 r1 => ?_
    cases r1 with
    | int n =>
      have hx := sat_bind hx
      obtain ⟨hr, hx⟩ := sat_if hx
      obtain ⟨h1, h2⟩ := rng_ok hr
      refine ⟨n, rfl, by omega, by omega, h1, h2, ?_⟩
      have e1' : (0 : Int) + (((n - 0).toNat : Nat) : Int) - 1 = ((n.toNat : Nat) : Int) - 1 := by
        rw [Int.sub_zero, Int.zero_add]
      have e2' : (n - 0).toNat = n.toNat := by rw [Int.sub_zero]
      rw [e1', e2']
      exact hx G1 H1 _ e1 (walkd_revR n.toNat)
    | _ => exact hx.elim
end
end Bk
end
/-! BkRich -/
section
set_option Elab.async false
set_option linter.all false
set_option autoImplicit false
set_option maxRecDepth 100000
set_option maxHeartbeats 4000000
/-! BkRich: texts in texts, items in lists, own dicts sorted, longer chains -/
namespace Bk
open PySem PySem.Spec PyProof.Rows L2
theorem sx_get (s : List Nat) (i : Nat) : (Sx s).cps.toList[i]? = s[i]? := rfl
theorem at_two (s : List Nat) (a b i : Nat) : StrLaws.At (Sx s) (Sx [a, b]) (Sx s).length i ↔ (s[i]? == some a && s[i + 1]? == some b) = true := by
  unfold StrLaws.At
  rw [StrLaws.subAt_eq, sx_len, sx_len]
  show (i + 2 ≤ s.length ∧ ((s.drop i).take 2 == [a, b]) = true) ↔ _
  rw [Bool.and_eq_true, beq_iff_eq, beq_iff_eq, beq_iff_eq]
  have e0 : s[i]? = (s.drop i)[0]? := by
    rw [List.getElem?_drop]
    rfl
  have e1 : s[i + 1]? = (s.drop i)[1]? := by rw [List.getElem?_drop]
  have el : (s.drop i).length = s.length - i := List.length_drop
  rw [e0, e1]
  rcases q : s.drop i with _ | ⟨x, _ | ⟨y, r⟩⟩
  · simp
  · simp
  · rw [q] at el
    simp at el ⊢
    intro _ _
    omega
theorem find_some {s : List Nat} {a b : Nat} {i : Nat} {r : List Nat} (h : Builtin.Str.occurrences (Sx s) (Sx [a, b]) 0 (Sx s).length 1 = i :: r) : findTwo a b s = some i := by
  rcases StrLaws.occ_head (Sx s) (Sx [a, b]) 1 (Nat.le_refl 1) with ⟨h0, _⟩ | ⟨i', r', h1, h2, h3⟩
  · rw [h0] at h
    cases h
  · rw [h1] at h
    cases h
    unfold findTwo
    rw [List.find?_range_eq_some]
    refine ⟨(at_two s a b i).mp h2, ?_, fun j hj => ?_⟩
    · have := h2.1
      rw [sx_len, sx_len] at this
      simp at this ⊢
      omega
    · have := h3 j hj
      rw [at_two] at this
      rw [Bool.not_eq_true']
      exact Bool.eq_false_iff.mpr this
theorem find_none {s : List Nat} {a b : Nat} (h : Builtin.Str.occurrences (Sx s) (Sx [a, b]) 0 (Sx s).length 1 = []) : findTwo a b s = none := by
  rcases StrLaws.occ_head (Sx s) (Sx [a, b]) 1 (Nat.le_refl 1) with ⟨_, h0⟩ | ⟨i', r', h1, _⟩
  · unfold findTwo
    rw [List.find?_eq_none]
    intro i _
    have := h0 i
    rw [at_two] at this
    exact this
  · rw [h1] at h
    cases h
section
variable {X : Cx} {B : Bs} {a b c e tg iter : Expr} {es : List Expr} {pos p : Pos} {f g h k : E} {fs : List E}
theorem od_inT : OpD X (compareOp .In) dInT := by
  intro pins s σ H x y v u Q I rx ry h
  obtain ⟨G, d, e, ex, rd, re, h⟩ := h
  cases rd with
  | str i =>
    cases re with
    | str j =>
      rcases i with _ | ⟨a, _ | ⟨b, _ | ⟨c, r⟩⟩⟩
      · exact h.elim
      · exact h.elim
      · have h : ∀ G' H' v, Ext G H G' H' → Rp X.K G' v (.bool (findTwo a b j).isSome) → Q v H' := h
        refine op_in_str pins s σ H _ _ v u Q I rx ry ⟨_, _, rfl, rfl, ?_⟩
        cases q : Builtin.Str.occurrences (Sx j) (Sx [a, b]) 0 (Sx j).length 1 with
        | nil =>
          rw [find_none q] at h
          exact h G H _ (Ext.refl ex) (.bool _)
        | cons i r =>
          rw [find_some q] at h
          exact h G H _ (Ext.refl ex) (.bool _)
      · exact h.elim
    | _ => rcases i with _ | ⟨a, _ | ⟨b, _ | ⟨c, r⟩⟩⟩ <;> exact h.elim
  | _ => cases re <;> exact h.elim
/-- s.index(two signs) -/
theorem pv_index {d : D} {apos : Pos} (ha : PE X a (tX X.K B f)) (hb : PE X b (tX X.K B (eC d))) (hs : starEach [b] X.env = [(false, eval b X.env)] := by rfl) (hbase : attributeBase a "index" X.env (eval a X.env) = eval a X.env := by rfl) (hline : (apos.endLine == pos.line) = true := by rfl) :
    PE X (.Call (.Attribute a "index" apos) [b] [] pos) (tX X.K B (eBin dFind f (eC d))) := pe_weak (pe_m1 F.slot_str_index F.type_str_index mt_sindex ha hb hs hbase hline) fun σ H Q q => by
  obtain ⟨G, η, r, q⟩ := q
  refine tX.of r (sat_bind q) fun x hx G1 H1 v e1 r1 => ?_
  have hx : (dFind x d).calm.Sat _ _ := hx
  have hx := sat_calm (R' := fun _ => False) hx
  cases r1 with
  | str s =>
    cases d with
    | str t =>
      rcases t with _ | ⟨a, _ | ⟨b, _ | ⟨c, r⟩⟩⟩
      · exact hx.elim
      · exact hx.elim
      · refine ⟨⟨_, rfl⟩, tX.of (r.extd e1) (P := fun x => x = .str [a, b]) rfl fun y hy G2 H2 w e2 r2 => ?_⟩
        subst hy
        cases r2
        cases q : Builtin.Str.occurrences (Sx s) (Sx [a, b]) 0 (Sx s).length 1 with
        | nil =>
          have hx : (match findTwo a b s with
            | some i => Res.ok (D.int (i : Nat))
            | Option.none => .bad).Sat _ _ := hx
          rw [find_none q] at hx
          exact hx.elim
        | cons i rest =>
          have hx : (match findTwo a b s with
            | some i => Res.ok (D.int (i : Nat))
            | Option.none => .bad).Sat _ _ := hx
          rw [find_some q] at hx
          exact ⟨_, _, i, rest, rfl, rfl, q, hx G2 H2 _ (e1.trans e2) (.int _)⟩
      · exact hx.elim
    | _ => exact hx.elim
  | _ => cases d <;> exact hx.elim
/-! ### in -/
theorem flat_rp {K : PySem.W.Frag} {G : Hp} {v : V} {d : D} (r : Rp K G v d) (h : flatD d = true) : flatV v = true := by
  cases r <;> first | rfl | cases h
theorem flat_all {K : PySem.W.Frag} {G : Hp} : ∀ {vs : List V} {ds : List D}, RpAll K G vs ds → ds.all flatD = true → vs.all flatV = true
  | _, _, .nil, _ => rfl
  | _, _, .cons r t, h => by
    rw [List.all_cons, Bool.and_eq_true] at h ⊢
    exact ⟨flat_rp r h.1, flat_all t h.2⟩
theorem str_beq (x y : List Nat) : (Sx x == Sx y) = (x == y) := by
  by_cases h : x = y
  · subst h
    simp
  · have : ¬ Sx x = Sx y := fun z => h (sx_inj z)
    rw [beq_eq_false_iff_ne.mpr this, beq_eq_false_iff_ne.mpr h]
theorem eqv_flat {K : PySem.W.Frag} {G G2 : Hp} {v w : V} {d e : D} (r : Rp K G v d) (q : Rp K G2 w e) (h1 : flatD d = true) (h2 : flatD e = true) : eqV v w = D.eqv d e := by
  cases r <;> first | cases h1 | skip
  all_goals (cases q <;> first | cases h2 | skip)
  all_goals (unfold D.eqv; first | rfl | exact str_beq _ _)
theorem in_rp {K : PySem.W.Frag} {G G2 : Hp} {v : V} {d : D} (r : Rp K G v d) (h1 : flatD d = true) : ∀ {vs : List V} {ds : List D}, RpAll K G2 vs ds → ds.all flatD = true → inV v vs = inL d ds
  | _, _, .nil, _ => rfl
  | _, _, .cons q t, h => by
    rw [List.all_cons, Bool.and_eq_true] at h
    unfold inV inL
    rw [List.any_cons, List.any_cons, eqv_flat q r h.1 h1]
    have := in_rp r h1 t h.2
    unfold inV inL at this
    rw [this]
theorem od_inL : OpD X (compareOp .In) dInL := by
  intro pins s σ H x y v u Q I rx ry h
  obtain ⟨G, d, e, ex, rd, re, h⟩ := h
  cases re with
  | lst hs ra =>
    obtain ⟨hf, h⟩ := sat_if (by exact h)
    rw [Bool.and_eq_true] at hf
    refine op_in_seq pins s σ H _ _ v u Q I rx ry ⟨_, _, rfl, .inl (ex.l hs), flat_rp rd hf.1, flat_all ra hf.2, ?_⟩
    rw [if_neg Bool.false_ne_true, in_rp rd hf.1 ra hf.2]
    exact h G H _ (Ext.refl ex) (.bool _)
  | tup hs ra =>
    obtain ⟨hf, h⟩ := sat_if (by exact h)
    rw [Bool.and_eq_true] at hf
    refine op_in_seq pins s σ H _ _ v u Q I rx ry ⟨_, _, rfl, .inr (ex.t hs), flat_rp rd hf.1, flat_all ra hf.2, ?_⟩
    rw [if_neg Bool.false_ne_true, in_rp rd hf.1 ra hf.2]
    exact h G H _ (Ext.refl ex) (.bool _)
  | _ => exact h.elim
theorem od_ninL : OpD X (compareOp .NotIn) dNInL := by
  intro pins s σ H x y v u Q I rx ry h
  obtain ⟨G, d, e, ex, rd, re, h⟩ := h
  cases re with
  | lst hs ra =>
    obtain ⟨hf, h⟩ := sat_if (by exact h)
    rw [Bool.and_eq_true] at hf
    refine op_notIn_seq pins s σ H _ _ v u Q I rx ry ⟨_, _, rfl, .inl (ex.l hs), flat_rp rd hf.1, flat_all ra hf.2, ?_⟩
    rw [if_pos rfl, in_rp rd hf.1 ra hf.2]
    exact h G H _ (Ext.refl ex) (.bool _)
  | tup hs ra =>
    obtain ⟨hf, h⟩ := sat_if (by exact h)
    rw [Bool.and_eq_true] at hf
    refine op_notIn_seq pins s σ H _ _ v u Q I rx ry ⟨_, _, rfl, .inr (ex.t hs), flat_rp rd hf.1, flat_all ra hf.2, ?_⟩
    rw [if_pos rfl, in_rp rd hf.1 ra hf.2]
    exact h G H _ (Ext.refl ex) (.bool _)
  | _ => exact h.elim
/-- x in, not in the def's own list -/
theorem ninO : OpR X (compareOp .NotIn) (fun x y H Q => ∃ G aa vs d ds, y = .ref aa ∧ H aa = some (.lst vs) ∧ Ex G H ∧ RpAll X.K G vs ds ∧ Rp X.K G x d ∧ (dNInL d (.lst ds)).Sat (fun r => ∀ G' H' v, Ext G H G' H' → Rp X.K G' v r → Q v H') (fun _ => False)) := by
  intro pins s σ H x y v u Q I rx ry h
  obtain ⟨G, aa, vs, d, ds, rfl, hh, ex, ra, rd, h⟩ := h
  obtain ⟨hf, h⟩ := sat_if (by exact h)
  rw [Bool.and_eq_true] at hf
  refine op_notIn_seq pins s σ H _ _ v u Q I rx ry ⟨_, _, rfl, .inl (.inl (.inl hh)), flat_rp rd hf.1, flat_all ra hf.2, ?_⟩
  rw [if_pos rfl, in_rp rd hf.1 ra hf.2]
  exact h G H _ (Ext.refl ex) (.bool _)
theorem tv_ninO (i : Nat) {x : Str} {px : Pos} (ha : PE X a (tX X.K B f)) (hN : X.N[i]? = some x := by rfl) (hv : Vis X.env.scope x := by first | exact Or.inl rfl | exact Or.inr (Or.inl rfl) | exact Or.inr (Or.inr rfl)) (hd : (x == ("__debug__" : Str)) = false := by decide)
    (hcd : (x == ("__classdict__" : Str)) = false := by decide) (hm : behindInMarks .NotIn (.Name x px) = false := by rfl) : PT X (.Compare a [.NotIn] [.Name x px] pos) (tT X.K B (tE (eBinO dNInL f i))) :=
  pt_weak (pt_cmpR ninO ha (pe_var hN hv hd hcd) hm) fun σ H Q q => by
    obtain ⟨G, η, r, q⟩ := q
    have q := bool_sat q
    refine tX.of r (sat_bind q) fun x hx G1 H1 v e1 r1 => ?_
    split at hx
    · rename_i ds e
      obtain ⟨w, h1, aa, vs, rfl, h0, hg, hh, ra⟩ := (r.extd e1).slot _ _ e
      refine ⟨_, h1, G1, aa, vs, x, ds, rfl, hh, e1.gh, ra, r1, Sat.mono (sat_calm hx) (fun z hz G2 H2 v2 e2 r2 => ?_) fun _ z => z⟩
      obtain ⟨kk, rfl, hz⟩ := hz
      cases r2
      exact ⟨kk, rfl, hz G2 H2 (e1.trans e2)⟩
    · exact hx.elim
/-! ### own dicts -/
theorem keys_str {K : PySem.W.Frag} {G : Hp} : ∀ {kvs : List (Key × V)} {ks : List (D × D)} {ss : List (List Nat)}, RpKV K G kvs ks → strsL (ks.map (·.1)) = some ss → kvs.map (·.1) = (ss.map Sx).map Sum.inr
  | _, _, ss, .nil, h => by
    cases h
    rfl
  | _, _, ss, .cons (k := k) (kd := kd) (rs := rs) e rv t, h => by
    cases kd with
    | str z =>
      rw [List.map_cons] at h
      cases q : strsL (rs.map (·.1)) with
      | none =>
        simp [strsL, q] at h
      | some ts =>
        simp [strsL, q] at h
        subst h
        have e : k = .inr (Sx z) := (Option.some.inj e).symm
        rw [List.map_cons, List.map_cons, List.map_cons, keys_str t q, e]
    | _ => simp [strsL] at h
theorem rising_pair : ∀ {ys : List Str} {x : Str}, risingS x ys = true → (x :: ys).Pairwise fun a b => ¬ b.cps.toList < a.cps.toList
  | [], x, _ => List.pairwise_singleton _ _
  | y :: r, x, h => by
    unfold risingS at h
    rw [Bool.and_eq_true, Bool.not_eq_true', ltCps_eq] at h
    have h1 : ¬ y.cps.toList < x.cps.toList := of_decide_eq_false h.1
    have ih := rising_pair h.2
    refine List.pairwise_cons.mpr ⟨fun z hz => ?_, ih⟩
    rcases List.mem_cons.mp hz with rfl | hz
    · exact h1
    · have h2 := List.rel_of_pairwise_cons ih hz
      rw [List.not_lt] at h1 h2 ⊢
      exact List.le_trans h1 h2
theorem sorted_uniq {ys : List Str} {ss : List (List Nat)} (hp : ys.Perm (ss.map Sx)) (hs : sortedS ys = true) : ys = (ss.mergeSort fun a b => !decide (b < a)).map Sx := by
  have hpw : ys.Pairwise fun a b => ¬ b.cps.toList < a.cps.toList := by
    cases ys with
    | nil => exact .nil
    | cons x r => exact rising_pair hs
  have tr : ∀ a b c : List Nat, (!decide (b < a)) = true → (!decide (c < b)) = true → (!decide (c < a)) = true := fun a b c h1 h2 => by
    rw [Bool.not_eq_true', decide_eq_false_iff_not, List.not_lt] at h1 h2 ⊢
    exact List.le_trans h1 h2
  have to : ∀ a b : List Nat, ((!decide (b < a)) || (!decide (a < b))) = true := fun a b => by
    rw [Bool.or_eq_true, Bool.not_eq_true', Bool.not_eq_true', decide_eq_false_iff_not, decide_eq_false_iff_not, List.not_lt, List.not_lt]
    exact List.le_total a b
  have hm := List.pairwise_mergeSort tr to ss
  have hm2 : ((ss.mergeSort fun a b => !decide (b < a)).map Sx).Pairwise fun a b : Str => ¬ b.cps.toList < a.cps.toList := by
    rw [List.pairwise_map]
    refine hm.imp fun h => ?_
    rw [Bool.not_eq_true', decide_eq_false_iff_not] at h
    exact h
  refine List.Perm.eq_of_pairwise (fun a b _ _ h1 h2 => ?_) hpw hm2 (hp.trans ((List.mergeSort_perm ss _).map Sx).symm)
  rw [List.not_lt] at h1 h2
  have e := List.le_antisymm h1 h2
  rw [← sx_tl a, ← sx_tl b, e]
theorem pv_dsorted (i : Nat) {y : Str} {py : Pos} (hm : X.mg "sorted" = none) (hc : X.calm = true := by rfl) (hg : Gl X "sorted" := by rfl) (hN : X.N[i]? = some y := by rfl) (hy : Vis X.env.scope y := by first | exact Or.inl rfl | exact Or.inr (Or.inl rfl) | exact Or.inr (Or.inr rfl)) (hd : (y == ("__debug__" : Str)) = false := by decide)
    (hcd : (y == ("__classdict__" : Str)) = false := by decide)
    (h0 : starEach [.Name y py] X.env = (false, eval (.Name y py) X.env) :: starEach [] X.env := by rfl) (hpl : (backTo pos (starEach [] X.env)).any (·.1) = false := by rfl) : PE X (.Call (.Name "sorted" p) [.Name y py] [] pos) (tX X.K B (eDSorted i)) :=
  pe_weak (pe_callB (call_sortedD hc) hg hm (by decide +kernel) (pa_cons (pe_var hN hy hd hcd) pa_nil h0) (by decide) (by decide) h0 hpl) fun σ H Q q => by
    obtain ⟨G, η, r, q⟩ := q
    unfold eDSorted at q
    split at q
    · rename_i ks e
      obtain ⟨w, h1, aa, kvs, rfl, _, hg2, hh, ra⟩ := r.slot _ _ e
      split at q
      · rename_i ss hss
        obtain ⟨hl, q⟩ := sat_if q
        refine ⟨_, h1, aa, kvs, ss.map Sx, rfl, .inl hh, keys_str ra hss, by rw [List.length_map]; exact hl, fun ys p0 hp hs hp0 => ?_⟩
        have ey := sorted_uniq hp hs
        subst ey
        have x0 : Ext G H (upd G p0 (.lst (((ss.mergeSort fun a b => !decide (b < a)).map Sx).map V.str))) (upd H p0 (.lst (((ss.mergeSort fun a b => !decide (b < a)).map Sx).map V.str))) := Ext.new r.exg hp0
        exact q _ _ _ x0 (.lst (.inl (.inl upd_same)) (RpAll.ofStrs _))
      · exact q.elim
    · exact q.elim
theorem pv_dlen (i : Nat) {y : Str} {py : Pos} (hm : X.mg "len" = none) (hg : Gl X "len" := by rfl) (hN : X.N[i]? = some y := by rfl) (hy : Vis X.env.scope y := by first | exact Or.inl rfl | exact Or.inr (Or.inl rfl) | exact Or.inr (Or.inr rfl)) (hd : (y == ("__debug__" : Str)) = false := by decide)
    (hcd : (y == ("__classdict__" : Str)) = false := by decide)
    (h0 : starEach [.Name y py] X.env = (false, eval (.Name y py) X.env) :: starEach [] X.env := by rfl) (hpl : (backTo pos (starEach [] X.env)).any (·.1) = false := by rfl) : PE X (.Call (.Name "len" p) [.Name y py] [] pos) (tX X.K B (eDLen i)) :=
  pe_weak (pe_callB call_lenD hg hm (by decide +kernel) (pa_cons (pe_var hN hy hd hcd) pa_nil h0) (by decide) (by decide) h0 hpl) fun σ H Q q => by
    obtain ⟨G, η, r, q⟩ := q
    unfold eDLen at q
    split at q
    · rename_i ks e
      obtain ⟨w, h1, aa, kvs, rfl, _, hg2, hh, ra⟩ := r.slot _ _ e
      refine ⟨_, h1, aa, kvs, rfl, hh, ?_⟩
      rw [kv_len ra]
      exact q G H _ (Ext.refl r.exg) (.int _)
    · exact q.elim
end
end Bk
end
/-! BkPop -/
section
set_option Elab.async false
set_option linter.all false
set_option autoImplicit false
set_option maxRecDepth 100000
set_option maxHeartbeats 4000000
/-! BkPop: a comprehension that takes out of the def's own list; a sum of lists that will change; [..] * int -/
namespace Bk
open PySem PySem.Spec PyProof.Rows L2
theorem rep_rp {K : PySem.W.Frag} {G : Hp} {vs : List V} {ds : List D} (r : RpAll K G vs ds) : ∀ n : Nat, RpAll K G (List.replicate n vs).flatten (List.replicate n ds).flatten
  | 0 => .nil
  | n + 1 => by
    rw [List.replicate_succ, List.replicate_succ, List.flatten_cons, List.flatten_cons]
    exact r.append (rep_rp r n)
section
variable {X : Cx} {B : Bs} {a b c e tg iter : Expr} {es : List Expr} {pos p : Pos} {f g h : E} {fs : List E}
theorem pv_repL {p2 : Pos} (ha : PA X es (tA X.K B fs)) (hb : PE X b (tX X.K B g)) (hl : fs.length ≤ 1000 := by first | decide | simp) : PE X (.BinOp (.List es p2) .Mult b pos) (tX X.K B (eBin dRepL (eLst fs) g)) :=
  pe_weak (pe_op op_rep (pe_lst ha) hb) fun σ H Q q => by
    obtain ⟨G, η, r, q⟩ := q
    refine tA.of r (evals_len (sat_bind (sat_bind q))) fun ds hds G1 H1 vs e1 r1 => ?_
    obtain ⟨hdl, hds⟩ := hds
    have hds : ((g η).bind fun y => (dRepL (.lst ds) y).calm).Sat _ _ := hds
    refine ⟨by rw [r1.length, hdl, line_eq]; show fs.length ≤ 16777216; omega, fun p0 hp0 => ?_⟩
    have x0 : Ext G1 H1 (upd G1 p0 (.lst vs)) (upd H1 p0 (.lst vs)) := Ext.new e1.gh hp0
    refine tX.of ((r.extd e1).extd x0) (sat_bind hds) fun y hy G2 H2 w e2 r2 => ?_
    have hy2 := sat_calm (R' := fun _ => False) hy
    cases r2 with
    | int k =>
      obtain ⟨⟨h0, h1, h2⟩, hy2⟩ := sat_if hy2
      have h2' : vs.length * k.toNat ≤ 16777216 := by
        rw [r1.length]
        exact h2
      have h1' : k ≤ 16777216 := h1
      refine ⟨p0, k, vs, rfl, rfl, e2.h _ _ upd_same, by omega, by omega, by rw [line_eq]; exact h2', fun p1 hp1 => ?_⟩
      have x1 : Ext G2 H2 (upd G2 p1 (.lst (List.replicate k.toNat vs).flatten)) (upd H2 p1 (.lst (List.replicate k.toNat vs).flatten)) := Ext.new e2.gh hp1
      exact hy2 _ _ _ (((e1.trans x0).trans e2).trans x1) (.lst (.inl (.inl upd_same)) (rep_rp (((r1.mono x0.g).mono e2.g).mono x1.g) _))
    | _ => exact hy2.elim
theorem op_sumL : OpR X (binaryOp .Add) (fun x y H Q => ∃ l b xs zs, x = .ref l ∧ y = .ref b ∧ SqL X.K H l xs ∧ SqL X.K H b zs ∧ xs.length + zs.length ≤ sizeLine ∧ ∀ p, H p = none → Q (.ref p) (upd H p (.lst (xs ++ zs)))) := by
  intro pins s σ H x y v u Q I rx ry h
  obtain ⟨l, b, xs, zs, rfl, rfl, hl, hb, hz, q⟩ := h
  cases rx
  cases ry
  exact list_sum I hl hb hz q
theorem s_newCat (i : Nat) {x : Str} {px p2 : Pos} (hN : X.N.Nodup) (ha : PE X a (tX X.K B f)) (hb : PE X b (tX X.K B g)) (hi : X.N[i]? = some x := by rfl) (hx : Loc X.env.scope x := by first | exact .inl rfl | exact .inr rfl) (hs : swapsWith (.BinOp a .Add b p2) (some (.Name x px)) pos.line X.env = pure false := by rfl) (hf : X.fn x = true ∨ X.env.scope.names.lookup x = some .local := by first | exact .inl rfl | exact .inr rfl) :
    PS X (.Assign [.Name x px] (.BinOp a .Add b p2) pos) (tS X.K B (sNewCat i f g)) := ps_weak (ps_set hN hi hx (pe_op op_sumL ha hb) hs hf) fun D σ H q => by
  obtain ⟨G, η, r, q⟩ := q
  refine tX.of r (Fin.ofRes q) fun x hx G1 H1 v e1 r1 => ?_
  refine tX.of (r.extd e1) (Fin.ofRes hx) fun y hy G2 H2 w e2 r2 => ?_
  cases r1 with
  | lst hs1 ra1 =>
    cases r2 with
    | lst hs2 ra2 =>
      rename_i a1 xs1 ds1 a2 xs2 ds2
      have hy : Fin X.K B D G (if ds1.length + ds2.length ≤ Bk.lim then .next (η.set i (some (.own (ds1 ++ ds2)))) else .bad) := hy
      by_cases hl : ds1.length + ds2.length ≤ Bk.lim
      · rw [if_pos hl] at hy
        refine ⟨a1, a2, xs1, xs2, rfl, rfl, (e1.gh.l hs1 |> e2.h.l), e2.gh.l hs2, by rw [ra1.length, ra2.length, line_eq]; exact hl, fun p0 hp0 => ?_⟩
        have r3 := (r.extd e1).extd e2
        exact hy G2 _ _ (e1.g.trans e2.g) (r3.setNew i hp0 ⟨p0, _, rfl, r3.ext.h.none hp0, r3.exg.none hp0, upd_same, (ra1.mono e2.g).append ra2⟩)
      · rw [if_neg hl] at hy
        exact hy.elim
    | _ => exact hy.elim
  | _ => cases y <;> exact hy.elim
/-- another object that nobody holds is changed -/
theorem RpE.far {K : PySem.W.Frag} {G0 H0 G H : Hp} {σ : L2.St} {η : Env} (r : RpE K G0 H0 G H σ η) {p0 : Addr} {o : HO} (hg : G p0 = none) (h0 : H0 p0 = none) (hf : ∀ (j : Nat) s, η[j]? = some (some s) → isOwn s = true → σ[j]? ≠ some (some (.ref p0))) : RpE K G0 H0 G (upd H p0 o) σ η := by
  refine ⟨⟨r.ext.g, fun b u z => ?_, fun b u z => ?_, r.ext.fr⟩, r.len, fun j s e => ?_, r.apart⟩
  · rw [upd_ne (ne_of_none z hg)]
    exact r.ext.gh b u z
  · rw [upd_ne (ne_of_none z h0)]
    exact r.ext.h b u z
  · obtain ⟨v, h1, h2⟩ := r.slot j s e
    refine ⟨v, h1, ?_⟩
    cases s with
    | dat d => exact h2
    | own ds =>
      obtain ⟨aa, vs, rfl, k1, k2, k3, k4⟩ := h2
      have hne : aa ≠ p0 := fun z => by
        subst z
        exact hf j _ e rfl h1
      exact ⟨aa, vs, rfl, k1, k2, by rw [upd_ne hne]; exact k3, k4⟩
    | dic ds =>
      obtain ⟨aa, vs, rfl, k1, k2, k3, k4⟩ := h2
      have hne : aa ≠ p0 := fun z => by
        subst z
        exact hf j _ e rfl h1
      exact ⟨aa, vs, rfl, k1, k2, by rw [upd_ne hne]; exact k3, k4⟩
theorem erase_rp {K : PySem.W.Frag} {G : Hp} : ∀ {vs : List V} {ds : List D}, RpAll K G vs ds → ∀ n : Nat, RpAll K G (vs.eraseIdx n) (ds.eraseIdx n)
  | _, _, .nil, _ => .nil
  | _, _, .cons r t, 0 => t
  | _, _, .cons r t, n + 1 => .cons r (erase_rp t n)
theorem wipe_other {σ : L2.St} {i : Nat} : ∀ {vs : List Nat}, i ∉ vs → (wipe σ vs)[i]? = σ[i]?
  | [], _ => rfl
  | v :: vs, h => by
    rw [List.mem_cons, not_or] at h
    show ((wipe σ vs).set v none)[i]? = _
    rw [List.getElem?_set_ne (Ne.symm h.1), wipe_other h.2]
theorem s_retPops (i : Nat) (own : List (Str × Nat)) {own' : List Nat} {x : Str} {px p1 jp ap ap2 cp lp : Pos} {k1 : Nat} {scope : Scope} {fi : I} {gg : G} {fe : E} (hc : X.calm = true) (hN : X.N.Nodup) (hi : PI X tg iter (tI X.K B fi)) (ok : BlkOk X.N X.env.scope scope own)
    (hg : ∀ (s : Shared) (H : Hp) (C : Addr) (cl : List (Str × Addr)) (fp : List Addr), PG (X.blk s H scope (compEnvC scope cl C X.env) fp) tg (tGo X.K B own' gg))
    (he : ∀ (s : Shared) (H : Hp) (C : Addr) (cl : List (Str × Addr)) (fp : List Addr), PE (X.blk s H scope (compEnvC scope cl C X.env) fp) e (tX X.K B.calm fe))
    (hv : ∀ (s : Shared) (H : Hp) (C : Addr) (cl : List (Str × Addr)) (fp : List Addr), PE (X.blk s H scope (compEnvC scope cl C X.env) fp) (.Name x px) (tVar i)) (ho : own' = own.map (·.2) := by rfl) (hs : ∀ x, foldedSetIterable iter X.env x = pure x := by intro _; rfl)
    (hpe : ∀ (s : Shared) (H : Hp) (C : Addr) (cl : List (Str × Addr)) (fp : List Addr) {to : TE} {t : TA}, PE (X.blk s H scope (compEnvC scope cl C X.env) fp) (.Name x px) to → PA (X.blk s H scope (compEnvC scope cl C X.env) fp) [e] t →
      PE (X.blk s H scope (compEnvC scope cl C X.env) fp) (.Call (.Attribute (.Name x px) "pop" ap2) [e] [] cp) (tBM X.K "list" rPopAt to t) := by intro _ _ _ _ _ _ _ h1 h2; exact pe_bm PySem.F.plainAttrs_list PySem.F.slot_list_pop PySem.F.type_list_pop mt_popAt h1 h2)
    (h0 : ∀ (s : Shared) (H : Hp) (C : Addr) (cl : List (Str × Addr)) (fp : List Addr), starEach [e] (X.blk s H scope (compEnvC scope cl C X.env) fp).env = (false, eval e (X.blk s H scope (compEnvC scope cl C X.env) fp).env) :: starEach [] (X.blk s H scope (compEnvC scope cl C X.env) fp).env := by intro _ _ _ _ _; rfl)
    (hj : ∀ {te : TE}, PE X (.ListComp (.Call (.Attribute (.Name x px) "pop" ap2) [e] [] cp) [⟨tg, iter, [], 0⟩] scope lp) te → PE X (.Call (.Attribute (.Constant (.str "") k1 p1) "join" ap) [.ListComp (.Call (.Attribute (.Name x px) "pop" ap2) [e] [] cp) [⟨tg, iter, [], 0⟩] scope lp] [] jp)
      (tM1 (fun x xs H Q => ∃ a p, ∃ ys : List Str, x = .str a ∧ xs = [.ref p] ∧ (SqL X.K H p (ys.map V.str) ∨ SqT X.K H p (ys.map V.str)) ∧ (ys.map (·.length)).sum + ys.length * a.length ≤ 16777216 ∧ Q (.str (Txt.join a ys)) H) (tC (.str "")) te) := by intro _ h1; exact pe_join pe_str h1) :
    PS X (.Return (some (.Call (.Attribute (.Constant (.str "") k1 p1) "join" ap) [.ListComp (.Call (.Attribute (.Name x px) "pop" ap2) [e] [] cp) [⟨tg, iter, [], 0⟩] scope lp] [] jp)) pos) (tS X.K B (sRetPops i own' fi gg fe)) := by
  subst ho
  refine ps_weak (ps_ret (hj (pe_lc (tt := tT X.K B tYes) hc hN hi ok hg (fun s H C cl fp => (pts_y (B := B) : PTs (X.blk s H scope (compEnvC scope cl C X.env) fp) [] (tT X.K B tYes))) (fun s H C cl fp => hpe s H C cl fp (hv s H C cl fp) (pa_cons (he s H C cl fp) pa_nil (h0 s H C cl fp))) hs))) fun D σ H q => ?_
  obtain ⟨G, η, r, q⟩ := q
  refine ⟨⟨_, rfl⟩, G, η, r, Sat.mono (Fin.ofRes q) (fun ds hds G1 H1 J e1 wk L hL => ?_) fun _ z => z⟩
  by_cases hcond : ds.length ≤ Bk.lim ∧ i ∉ own.map (·.2)
  rotate_left
  · rw [if_neg hcond] at hds
    exact hds.elim
  rw [if_pos hcond] at hds
  obtain ⟨hl, hio⟩ := hcond
  have hps := sat_calm (R' := fun _ => False) (Fin.ofRes hds)
  have r1 := r.extd e1
  have gL : G1 L = Option.none := e1.gh.none hL
  have h0L : B.H0 L = Option.none := r1.ext.h.none hL
  have apartL : ∀ (j : Nat) s, η[j]? = some (some s) → isOwn s = true → σ[j]? ≠ some (some (.ref L)) := fun j s ej os z => by
    obtain ⟨v, k1, k2⟩ := r1.slot j s ej
    rw [z] at k1
    cases k1
    cases s with
    | dat d => cases os
    | own ds =>
      obtain ⟨aa, vs, ev, _, _, hh, _⟩ := k2
      cases ev
      rw [hL] at hh
      cases hh
    | dic ds =>
      obtain ⟨aa, vs, ev, _, _, hh, _⟩ := k2
      cases ev
      rw [hL] at hh
      cases hh
  refine ⟨fun m m' H' => m' = ds.length - m ∧ m ≤ ds.length ∧ ∃ G' η' acc ys, RpE X.K B.G0 B.H0 G' H' σ η' ∧ Ex G1 G' ∧ G' L = Option.none ∧ H' L = some (.lst acc) ∧ RpAll X.K G' acc ys ∧ ys.length ≤ m ∧ (∀ (j : Nat) s, η'[j]? = some (some s) → isOwn s = true → σ[j]? ≠ some (some (.ref L))) ∧
    (pops i (own.map (·.2)) gg fe (ds.drop m) η').Sat (fun zs => Fin X.K B D G (outOf (dJoin (.str []) (.lst (ys ++ zs))).calm fun r => .ret r)) (fun _ => False),
    ⟨ds.length, by simp, Nat.zero_le _, G1, η, [], [], r1.far gL h0L apartL, Ex.refl _, gL, upd_same, .nil, Nat.zero_le _, apartL, hps⟩, ?_⟩
  rintro m m' H' ⟨rfl, hm, G', η', acc, ys, r', xg, dn, hacc, ra, hyl, ap', hc'⟩
  have exH : Ex G1 H' := xg.trans r'.exg
  by_cases hlt : m < ds.length
  · right
    refine ⟨wk.goes m H' hlt exH, fun H2 => m + 1 ≤ ds.length ∧ ∃ G' η' acc ys, RpE X.K B.G0 B.H0 G' H2 σ η' ∧ Ex G1 G' ∧ G' L = Option.none ∧ H2 L = some (.lst acc) ∧ RpAll X.K G' acc ys ∧ ys.length ≤ m + 1 ∧ (∀ (j : Nat) s, η'[j]? = some (some s) → isOwn s = true → σ[j]? ≠ some (some (.ref L))) ∧
      (pops i (own.map (·.2)) gg fe (ds.drop (m + 1)) η').Sat (fun zs => Fin X.K B D G (outOf (dJoin (.str []) (.lst (ys ++ zs))).calm fun r => .ret r)) (fun _ => False), fun H2 hN2 => ⟨ds.length - (m + 1), by omega, rfl, hN2⟩, fun v H2 yl => ?_⟩
    have hd : ds[m]? = some ds[m] := List.getElem?_eq_getElem hlt
    obtain ⟨G2, x2, rv⟩ := wk.yields m H' v H2 _ hd exH yl G' xg r'.exg
    rw [List.drop_eq_getElem_cons hlt] at hc'
    have hc' := sat_bind hc'
    have r2 := r'.extd x2
    refine ⟨G2, wipes η' (own.map (·.2)), ds[m], wipe_rel r2 _, rv, Sat.mono (sat_calm hc') (fun η1 h1 σ2 r3 hw => ⟨?_, ?_⟩) fun _ z => z⟩
    · rw [hw]
      have idem : ∀ (vs : List Nat) (τ : L2.St), wipe (wipe τ vs) vs = wipe τ vs := by
        intro vs
        have aux : ∀ (ws : List Nat) (τ : L2.St), (∀ w ∈ ws, w < τ.length → τ[w]? = some none) → wipe τ ws = τ := by
          intro ws
          induction ws with
          | nil => intro τ _; rfl
          | cons w ws ih =>
            intro τ hτ
            show (wipe τ ws).set w none = τ
            rw [ih τ fun w' hw' => hτ w' (List.mem_cons_of_mem _ hw')]
            by_cases hl : w < τ.length
            · exact set_none_of (hτ w List.mem_cons_self hl)
            · exact List.set_eq_of_length_le (by omega)
        intro τ
        exact aux vs _ fun w hw hl => wipe_get hw (by rw [wipe_length] at hl; exact hl)
      exact idem _ σ
    · refine ⟨G2, η1, r3, ?_⟩
      show ∀ G' H', Ext G2 H2 G' H' → _
      intro G3 H3 x3
      rw [if_pos rfl]
      have r4 := r2.extd x3
      cases hslot : η'[i]? with
      | none =>
        rw [hslot] at h1
        exact h1.elim
      | some so =>
        cases so with
        | none =>
          rw [hslot] at h1
          exact h1.elim
        | some so =>
          cases so with
          | dat d =>
            rw [hslot] at h1
            exact h1.elim
          | dic d =>
            rw [hslot] at h1
            exact h1.elim
          | own xs =>
            rw [hslot] at h1
            obtain ⟨w, k1, aa, vs, rfl, k2, k3, k4, k5⟩ := r4.slot _ _ hslot
            have hσ2 : σ2[i]? = some (some (V.ref aa)) := by
              rw [← wipe_other (σ := σ2) hio, hw, wipe_other hio, wipe_other hio, k1]
            refine ⟨_, hσ2, .inl ⟨rfl, vs, .inl (.inl k4)⟩, tX.of (B := B.calm) (r3.extd x3) (sat_calm (sat_bind h1)) fun y hy G4 H4 w e4 rw4 => ?_⟩
            cases rw4 with
            | int k =>
              obtain ⟨⟨c1, c2, c3⟩, hy⟩ := sat_if (by exact hy)
              have r5 := r4.extd e4
              obtain ⟨w', j1, aa', vs4, ew, j2, j3, j4, j5⟩ := r5.slot _ _ hslot
              rw [k1] at j1
              cases j1
              cases ew
              cases hx : xs[k.toNat]? with
              | none =>
                rw [hx] at hy
                exact hy.elim
              | some d =>
                rw [hx] at hy
                have hy := sat_bind hy
                obtain ⟨vv, g1, g2⟩ := j5.get hx
                have hal := ap' i _ hslot rfl
                have hne : L ≠ aa := fun z => hal (by rw [z]; exact k1)
                have hacc4 : H4 L = some (.lst acc) := e4.h _ _ (x3.h _ _ (x2.h _ _ hacc))
                have dn2 : G2 L = Option.none := x2.fr L dn (by rw [hacc]; exact fun z => nomatch z)
                have dn3 : G3 L = Option.none := x3.fr L dn2 (by rw [x2.h _ _ hacc]; exact fun z => nomatch z)
                have dn4 : G4 L = Option.none := e4.fr L dn3 (by rw [x3.h _ _ (x2.h _ _ hacc)]; exact fun z => nomatch z)
                have r6 := r5.mut hslot rfl (t := .own (xs.eraseIdx k.toNat)) rfl k1 j2 j3 ⟨aa, _, rfl, j2, j3, upd_same, erase_rp j5 k.toNat⟩
                have ap6 : ∀ (j : Nat) s, (η'.set i (some (.own (xs.eraseIdx k.toNat))))[j]? = some (some s) → isOwn s = true → σ[j]? ≠ some (some (.ref L)) := fun j s ej os => by
                  by_cases hji : i = j
                  · subst hji
                    exact hal
                  · rw [List.getElem?_set_ne hji] at ej
                    exact ap' j s ej os
                refine ⟨aa, vs4, k, k.toNat, vv, rfl, rfl, j4, by omega, by omega, seqIndex_of c1 (by rw [j5.length]; exact c2), g1, acc, ?_, ?_, hlt, G4, _, acc ++ [vv], ys ++ [d], r6.far dn4 h0L ap6, ((xg.trans x2.g).trans x3.g).trans e4.g, dn4, upd_same, (((ra.mono x2.g).mono x3.g).mono e4.g).snoc g2, ?_, ap6, ?_⟩
                · rw [upd_ne hne]
                  exact hacc4
                · have al := ra.length
                  have hl' : ds.length ≤ 16777216 := hl
                  rw [line_eq]
                  show acc.length < 16777216
                  omega
                · rw [List.length_append, List.length_singleton]
                  omega
                · refine Sat.mono hy (fun zs hz => ?_) fun _ z => z
                  rw [List.append_assoc]
                  exact hz
            | _ => exact hy.elim
  · left
    have ei : m = ds.length := by omega
    subst ei
    refine ⟨wk.stops H' exH, ?_⟩
    rw [List.drop_length] at hc'
    have hc' : Fin X.K B D G (outOf (dJoin (.str []) (.lst (ys ++ []))).calm fun r => .ret r) := hc'
    rw [List.append_nil] at hc'
    cases z : strsL ys with
    | none =>
      simp [dJoin, z, Res.calm, Fin] at hc'
    | some ss =>
      have hj2 : dJoin (.str []) (.lst ys) = if lenSum ss + ss.length * ([] : List Nat).length ≤ Bk.lim then .ok (.str (joinS [] ss)) else .bad := by
        simp [dJoin, z]
      rw [hj2] at hc'
      by_cases hll : lenSum ss + ss.length * ([] : List Nat).length ≤ Bk.lim
      · rw [if_pos hll] at hc'
        have ev := ra.txts z
        subst ev
        refine ⟨_, L, ss.map Sx, rfl, rfl, .inl (.inl (.inl hacc)), ?_, ?_⟩
        · rw [lenSum_eq, List.length_map]
          exact hll
        · have e0 : ("" : Str) = Sx [] := by decide +kernel
          rw [e0, joinS_eq]
          exact hc' G' H' _ (e1.g.trans xg) r'.ext (.str _)
      · rw [if_neg hll] at hc'
        exact hc'.elim
end
end Bk
end
/-! BkT1 -/
section
set_option linter.all false
set_option autoImplicit false
set_option maxRecDepth 100000
/-! terms printed by gen.py -/
namespace Bk
def b_heights_1 : St := (sApp 1 (eBin dSub (eBin dAdd (eOwnB dIdx 1 (eUn dNeg (eC (.int 1)))) (eC (.int 1))) (eBin dMul (eC (.int 2)) (eUn bInt (eBin dEq (eVar 2) (eC (.str [41])))))))
def g_heights : St := (sSeq (sNew 1 [(eC (.int 0))])
  (sSeq (sFor (iAny (eVar 0)) (gName 2) b_heights_1)
  (sRetOwn 1)))
def φ_heights : List D → Res D := runDef 3 g_heights
def c_is_whole_1 : E := (eComp [1] (iAny (eVar 0)) (gName 1) tYes (eBin dInS (eVar 1) (eC (.str [40, 41]))))
def g_is_whole : St := (sSeq (sIf (tOr (tNot (tV (eUn (bIs .str) (eVar 0)))) (tOr (tE (eBin dGt (eUn bLen (eVar 0)) (eC (.int 120)))) (tNot (tV (eUn bAll c_is_whole_1))))) (sRet (eC (.bool false))) sSkip)
  (sSeq (sSet 2 (eCall φ_heights [(eVar 0)]))
  (sRet (eAnd (eBin dEq (eUn bMin (eVar 2)) (eC (.int 0))) (eBin dEq (eBin dIdx (eVar 2) (eUn dNeg (eC (.int 1)))) (eC (.int 0)))))))
def φ_is_whole : List D → Res D := runDef 3 g_is_whole
def g_depth : St := (sRet (eUn bMax (eCall φ_heights [(eVar 0)])))
def φ_depth : List D → Res D := runDef 1 g_depth
def b_partner_1 : St := (sIf (tE (eBin dEq (eVar 5) (eC (.str [40])))) (sApp 2 (eVar 4)) (sSeq (sPutPop 3 (eVar 4) 2)
  (sPut 3 (eDGet 3 (eVar 4)) (eVar 4))))
def g_partner : St := (sSeq (sIf (tNot (tE (eChain dLe dLt (eC (.int 0)) (eVar 1) (eUn bLen (eVar 0))))) (sRaise .noPlace) sSkip)
  (sSeq (sNew 2 [])
  (sSeq (sNewD 3)
  (sSeq (sFor (iEnum (eVar 0)) (gPair 4 5) b_partner_1)
  (sRet (eDGet 3 (eVar 1)))))))
def φ_partner : List D → Res D := runDef 6 g_partner
def c_backward_1 : E := (eComp [1] (iRevS (eVar 0)) (gName 1) tYes (eBin dIdx (eC (.str [41, 40])) (eUn bInt (eBin dEq (eVar 1) (eC (.str [41]))))))
def g_backward : St := (sRet (eBin dJoin (eC (.str [])) c_backward_1))
def φ_backward : List D → Res D := runDef 2 g_backward
def g_l_cell : St := (sSeq (sIf (tE (eBin dLt (eVar 1) (eUn bLen (eVar 0)))) (sRet (eBin dIdx (eVar 0) (eVar 1))) sSkip)
  (sRet (eC (.int 0))))
def φ_l_cell : List D → Res D := runDef 2 g_l_cell
def g_l_mix : St := (sRet (eBin dMod (eBin dMod (eBin dMul (eVar 0) (eC (.int 48271))) (eVar 1)) (eVar 2)))
def φ_l_mix : List D → Res D := runDef 3 g_l_mix
def b_l_row_1 : St := (sSeq (sSet 5 (eBin dSub (eBin dMul (eC (.int 2)) (eVar 1)) (eVar 4)))
  (sIf (tOr (tE (eBin dEq (eVar 3) (eC (.int 0)))) (tAnd (tE (eBin dLt (eVar 3) (eVar 5))) (tE (eBin dLt (eCall φ_l_mix [(eBin dAdd (eVar 0) (eBin dMul (eC (.int 17)) (eVar 4))), (eC (.int 9973)), (eC (.int 5))]) (eC (.int 3)))))) (sSeq (sSet 2 (eBin dAdd (eVar 2) (eC (.str [40]))))
  (sSet 3 (eBin dAdd (eVar 3) (eC (.int 1))))) (sSeq (sSet 2 (eBin dAdd (eVar 2) (eC (.str [41]))))
  (sSet 3 (eBin dSub (eVar 3) (eC (.int 1)))))))
def g_l_row : St := (sSeq (sSet 2 (eC (.str [])))
  (sSeq (sSet 3 (eC (.int 0)))
  (sSeq (sFor (iRange1 (eBin dMul (eC (.int 2)) (eVar 1))) (gName 4) b_l_row_1)
  (sRet (eVar 2)))))
def φ_l_row : List D → Res D := runDef 6 g_l_row
def g_l_whole : St := (sRet (eAnd (eUn (bIs .int) (eVar 0)) (eNot (eUn (bIs .bool) (eVar 0)))))
def φ_l_whole : List D → Res D := runDef 1 g_l_whole
def b_l_is_whole_1 : St := (sSeq (sSet 1 (eBin dAdd (eVar 1) (eSign (eVar 2) (eUn dNeg (eC (.int 999))))))
  (sIf (tE (eBin dLt (eVar 1) (eC (.int 0)))) (sRet (eC (.bool false))) sSkip))
def g_l_is_whole : St := (sSeq (sSet 1 (eC (.int 0)))
  (sSeq (sFor (iAny (eVar 0)) (gName 2) b_l_is_whole_1)
  (sRet (eBin dEq (eVar 1) (eC (.int 0))))))
def φ_l_is_whole : List D → Res D := runDef 3 g_l_is_whole
def g_l_spoilt : St := (sSeq (sSet 2 (eBin dMod (eBin dDiv (eVar 1) (eC (.int 4))) (eBin dAdd (eUn bLen (eVar 0)) (eC (.int 1)))))
  (sSeq (sSet 3 (eBin dIdx (eC (.str [40, 41, 32, 91, 120, 41, 40])) (eBin dMod (eBin dDiv (eVar 1) (eC (.int 512))) (eC (.int 7)))))
  (sSeq (sIf (tE (eBin dEq (eBin dMod (eVar 1) (eC (.int 4))) (eC (.int 0)))) (sRet (eBin dAdd (eSlice (eVar 0) none (some (eVar 2))) (eSlice (eVar 0) (some (eBin dAdd (eVar 2) (eC (.int 1)))) none))) sSkip)
  (sSeq (sIf (tE (eBin dEq (eBin dMod (eVar 1) (eC (.int 4))) (eC (.int 1)))) (sRet (eBin dAdd (eBin dAdd (eSlice (eVar 0) none (some (eVar 2))) (eSlice (eVar 0) (some (eVar 2)) (some (eBin dAdd (eVar 2) (eC (.int 1)))))) (eSlice (eVar 0) (some (eVar 2)) none))) sSkip)
  (sRet (eBin dAdd (eBin dAdd (eSlice (eVar 0) none (some (eVar 2))) (eVar 3)) (eSlice (eVar 0) (some (eBin dSub (eBin dAdd (eVar 2) (eBin dMod (eVar 1) (eC (.int 4)))) (eC (.int 2)))) none)))))))
def φ_l_spoilt : List D → Res D := runDef 4 g_l_spoilt
def g_l_partner : St := (sSeq (sSet 2 (eC (.str [111, 116, 104, 101, 114])))
  (sSeq (sTryAs 3 (sSet 2 (eCallT φ_partner [(eVar 0), (eVar 1)])) (fun c => match c with | .noPlace => if (true && !false && true) then sSet 2 (eC .none) else sSkip | .noRow => if (false && !true && true) then sSet 2 (eC .none) else sSkip))
  (sRet (eVar 2))))
def φ_l_partner : List D → Res D := runDef 4 g_l_partner
end Bk
end
/-! BkT9 -/
section
set_option linter.all false
set_option autoImplicit false
set_option maxRecDepth 100000
/-! terms printed by gen.py -/
namespace Bk
def b_turn_of_1 : St := (sIf (tAnd (tE (eBin dEq (eBin dIdx (eVar 0) (eVar 1)) (eC (.str [40])))) (tV (eCall φ_is_whole [(eBin dAdd (eSlice (eVar 0) (some (eBin dAdd (eVar 1) (eC (.int 1)))) none) (eSlice (eVar 0) none (some (eVar 1))))]))) (sRet (eVar 1)) sSkip)
def g_turn_of : St := (sSeq (sFor (iRange1 (eUn bLen (eVar 0))) (gName 1) b_turn_of_1)
  (sRet (eC (.int 0))))
def φ_turn_of : List D → Res D := runDef 2 g_turn_of
def e_l_drawn_1 : E := (eCall φ_l_mix [(eBin dAdd (eVar 0) (eBin dMul (eC (.int 13)) (eVar 5))), (eC (.int 9883)), (eOwn bLen 4)])
def g_l_drawn : St := (sSeq (sSet 1 (eCall φ_l_mix [(eVar 0), (eC (.int 9901)), (eC (.int 13))]))
  (sSeq (sIf (tE (eBin dEq (eBin dMod (eVar 0) (eC (.int 2))) (eC (.int 0)))) (sSeq (sSet 2 (eBin dAdd (eC (.str [40])) (eCall φ_l_row [(eVar 0), (eVar 1)])))
  (sSeq (sSet 3 (eCall φ_l_mix [(eVar 0), (eC (.int 9887)), (eUn bLen (eVar 2))]))
  (sRet (eBin dAdd (eSlice (eVar 2) (some (eVar 3)) none) (eSlice (eVar 2) none (some (eVar 3))))))) sSkip)
  (sSeq (sNewCat 4 (eBin dRepL (eLst [(eC (.str [40]))]) (eBin dAdd (eVar 1) (eC (.int 1)))) (eBin dRepL (eLst [(eC (.str [41]))]) (eVar 1)))
  (sRetPops 4 [5] (iRange1 (eBin dAdd (eBin dMul (eC (.int 2)) (eVar 1)) (eC (.int 1)))) (gName 5) e_l_drawn_1))))
def φ_l_drawn : List D → Res D := runDef 6 g_l_drawn
end Bk
end
/-! BkSim -/
section
set_option linter.all false
set_option autoImplicit false
set_option maxRecDepth 100000
/-! BkSim: what the terms give, for simp; loops and comprehensions by invariants -/
namespace Bk
section
variable {i j k n : Nat} {f g h : E} {fs : List E} {t u : T} {η : Env} {d x y : D} {a b : St} {u1 : D → Res D} {b1 b2 : D → D → Res D}
@[simp] theorem x_eVar : eVar i η = (match η[i]? with | some (some (.dat d)) => .ok d | _ => .bad) := id rfl
@[simp] theorem x_eC : eC d η = .ok d := id rfl
@[simp] theorem x_eUn : eUn u1 f η = (f η).bind fun x => (u1 x).calm := id rfl
@[simp] theorem x_eBin : eBin b1 f g η = (f η).bind fun x => (g η).bind fun y => (b1 x y).calm := id rfl
@[simp] theorem x_eAnd : eAnd f g η = (f η).bind fun x => match x with
  | .bool true => g η
  | .bool false => .ok (.bool false)
  | _ => .bad := id rfl
@[simp] theorem x_eOr : eOr f g η = (f η).bind fun x => match x with
  | .bool true => .ok (.bool true)
  | .bool false => g η
  | _ => .bad := id rfl
@[simp] theorem x_eNot : eNot f η = (f η).bind fun x => match x with
  | .bool b => .ok (.bool (!b))
  | _ => .bad := id rfl
@[simp] theorem x_eChain : eChain b1 b2 f g h η = (f η).bind fun x => (g η).bind fun y => (b1 x y).calm.bind fun z => match z with
  | .bool true => (h η).bind fun w => (b2 y w).calm
  | .bool false => .ok (.bool false)
  | _ => .bad := id rfl
@[simp] theorem x_evals0 : evals [] η = .ok [] := id rfl
@[simp] theorem x_evals1 : evals (f :: fs) η = (f η).bind fun x => (evals fs η).bind fun xs => .ok (x :: xs) := id rfl
@[simp] theorem x_eTup : eTup fs η = (evals fs η).bind fun ds => .ok (.tup ds) := id rfl
@[simp] theorem x_eLst : eLst fs η = (evals fs η).bind fun ds => .ok (.lst ds) := id rfl
@[simp] theorem x_eCall {φ : List D → Res D} : eCall φ fs η = (evals fs η).bind φ := id rfl
@[simp] theorem x_eCallT {φ : List D → Res D} : eCallT φ fs η = (evals fs η).calm.bind φ := id rfl
@[simp] theorem x_ePart0 : ePart Option.none η = .ok Option.none := id rfl
@[simp] theorem x_ePart1 : ePart (some f) η = (f η).bind fun x => match x with
  | .int i => .ok (some i)
  | _ => .bad := id rfl
@[simp] theorem x_eSlice {lo hi : Option E} : eSlice f lo hi η = (f η).bind fun x => (ePart lo η).bind fun a => (ePart hi η).bind fun b => (dCut x a b).calm := id rfl
@[simp] theorem x_eOwn : eOwn u1 i η = (match η[i]? with
  | some (some (.own ds)) => (u1 (.lst ds)).calm
  | _ => .bad) := id rfl
@[simp] theorem x_eOwnB : eOwnB b1 i g η = (match η[i]? with
  | some (some (.own ds)) => (g η).bind fun y => (b1 (.lst ds) y).calm
  | _ => .bad) := id rfl
@[simp] theorem x_tE : tE f η = (f η).bind asBool := id rfl
@[simp] theorem x_tV : tV f η = (f η).bind dTruth := id rfl
@[simp] theorem x_tAnd : tAnd t u η = (t η).bind fun b => if b then u η else .ok false := id rfl
@[simp] theorem x_tOr : tOr t u η = (t η).bind fun b => if b then .ok true else u η := id rfl
@[simp] theorem x_tNot : tNot t η = (t η).bind fun b => .ok (!b) := id rfl
@[simp] theorem x_tYes : tYes η = .ok true := id rfl
@[simp] theorem x_tOwn : tOwn i η = (match η[i]? with
  | some (some (.own ds)) => .ok (!ds.isEmpty)
  | _ => .bad) := id rfl
@[simp] theorem x_iAny : iAny f η = (f η).bind items := id rfl
@[simp] theorem x_iRange1 : iRange1 f η = (f η).bind rng1 := id rfl
@[simp] theorem x_iRange2 : iRange2 f g η = (f η).bind fun a => (g η).bind fun b => rng2 a b := id rfl
@[simp] theorem x_iRevRange1 : iRevRange1 f η = (f η).bind fun a => (rng1 a).bind fun xs => .ok xs.reverse := id rfl
@[simp] theorem x_iEnum : iEnum f η = (f η).bind fun x => match x with
  | .lst xs => .ok (enumL 0 xs)
  | .str s => .ok (enumL 0 (signs s))
  | _ => .bad := id rfl
@[simp] theorem x_iRevS : iRevS f η = (f η).bind fun x => match x with
  | .str s => if s.length ≤ lim then .ok (signs s.reverse) else .bad
  | _ => .bad := id rfl
@[simp] theorem x_gName : gName i d η = .ok (η.set i (some (.dat d))) := id rfl
@[simp] theorem x_gPair : gPair i j (.tup [x, y]) η = .ok ((η.set i (some (.dat x))).set j (some (.dat y))) := id rfl
@[simp] theorem x_gPairL : gPairL i j (.lst [x, y]) η = .ok ((η.set i (some (.dat x))).set j (some (.dat y))) := id rfl
@[simp] theorem x_gTri {z : D} : gTri i j k (.tup [x, y, z]) η = .ok (((η.set i (some (.dat x))).set j (some (.dat y))).set k (some (.dat z))) := id rfl
@[simp] theorem x_wipes0 : wipes η [] = η := id rfl
@[simp] theorem x_wipes1 {v : Nat} {vs : List Nat} : wipes η (v :: vs) = (wipes η vs).set v Option.none := id rfl
@[simp] theorem x_sSkip : sSkip η = .next η := id rfl
@[simp] theorem x_sSeq : sSeq a b η = (a η).andThen b := id rfl
@[simp] theorem x_sAsg {gg : G} : sAsg f gg η = outOf (f η) fun d => outOf (gg d η).calm fun η' => .next η' := id rfl
@[simp] theorem x_sSet : sSet i f η = outOf (f η) fun d => .next (η.set i (some (.dat d))) := id rfl
@[simp] theorem x_sDrop : sDrop f η = outOf (f η) fun _ => .next η := id rfl
@[simp] theorem x_sRet : sRet f η = outOf (f η) fun d => .ret d := id rfl
@[simp] theorem x_sIf : sIf t a b η = outOf (t η) fun c => if c then a η else b η := id rfl
@[simp] theorem x_sIfC : sIfC t a b η = outOf (t η).calm fun c => if c then a η else b η := id rfl
@[simp] theorem x_sRaise {c : Cls} : sRaise c η = .raise c := id rfl
@[simp] theorem x_sBrk : sBrk η = .brk η := id rfl
@[simp] theorem x_sCont : sCont η = .ct η := id rfl
@[simp] theorem x_sFor {fi : I} {gg : G} : sFor fi gg b η = outOf (fi η) fun ds => loop gg b ds η := id rfl
@[simp] theorem x_sNew : sNew i fs η = outOf (evals fs η) fun ds => .next (η.set i (some (.own ds))) := id rfl
@[simp] theorem x_sNewD : sNewD i η = .next (η.set i (some (.dic []))) := id rfl
@[simp] theorem x_appTo : appTo i d η = (match η[i]? with
  | some (some (.own ds)) => if ds.length < lim then .next (η.set i (some (.own (ds ++ [d])))) else .bad
  | _ => .bad) := id rfl
@[simp] theorem x_sApp : sApp i f η = (match η[i]? with
  | some (some (.own _)) => outOf (f η) fun d => appTo i d η
  | _ => .bad) := id rfl
@[simp] theorem x_extTo : extTo i d η = (match η[i]? with
  | some (some (.own ds)) => outOf (seqOf d) fun xs => if ds.length + xs.length ≤ lim then .next (η.set i (some (.own (ds ++ xs)))) else .bad
  | _ => .bad) := id rfl
@[simp] theorem x_sExt : sExt i f η = (match η[i]? with
  | some (some (.own _)) => outOf (f η) fun d => extTo i d η
  | _ => .bad) := id rfl
@[simp] theorem x_popOf : popOf j η = (match η[j]? with
  | some (some (.own ds)) => match ds[ds.length - 1]? with
    | some d => .ok (d, η.set j (some (.own ds.dropLast)))
    | Option.none => .bad
  | _ => .bad) := id rfl
@[simp] theorem x_sAppPop : sAppPop i j η = (match η[i]? with
  | some (some (.own _)) => outOf (popOf j η).calm fun p => appTo i p.1 p.2
  | _ => .bad) := id rfl
@[simp] theorem x_putTo {v : D} : putTo i d v η = (match η[i]? with
  | some (some (.dic kvs)) => if kvs.length < lim ∧ keyD d then .next (η.set i (some (.dic (dput kvs d v)))) else .bad
  | _ => .bad) := id rfl
@[simp] theorem x_sPut : sPut i f g η = outOf (g η) fun v => match η[i]? with
  | some (some (.dic _)) => outOf (f η) fun k => putTo i k v η
  | _ => .bad := id rfl
@[simp] theorem x_sPutPop : sPutPop i f j η = outOf (popOf j η).calm fun p => match p.2[i]? with
  | some (some (.dic _)) => outOf (f p.2) fun k => putTo i k p.1 p.2
  | _ => .bad := id rfl
@[simp] theorem x_eDGet : eDGet i f η = (match η[i]? with
  | some (some (.dic kvs)) => (f η).bind fun k => if keyD k then (match dget kvs k with
    | some v => .ok v
    | Option.none => .bad) else .bad
  | _ => .bad) := id rfl
@[simp] theorem x_eDGet2 : eDGet2 i f g η = (match η[i]? with
  | some (some (.dic kvs)) => (f η).bind fun k => (g η).bind fun d => if keyD k then .ok ((dget kvs k).getD d) else .bad
  | _ => .bad) := id rfl
@[simp] theorem x_eSign : eSign f g η = (f η).bind fun x => (g η).bind fun y => (dSign x y).calm := id rfl
@[simp] theorem x_sRetOwn : sRetOwn i η = (match η[i]? with
  | some (some (.own ds)) => .ret (.lst ds)
  | _ => .bad) := id rfl
end
/-! ### operators -/
section
variable {a b : Int} {s r : List Nat} {x y : List D} {p q : Bool}
@[simp] theorem y_add : dAdd (.int a) (.int b) = .ok (.int (a + b)) := id rfl
@[simp] theorem y_addS : dAdd (.str s) (.str r) = if s.length + r.length ≤ lim then .ok (.str (s ++ r)) else .bad := id rfl
@[simp] theorem y_addL : dAdd (.lst x) (.lst y) = if x.length + y.length ≤ lim then .ok (.lst (x ++ y)) else .bad := id rfl
@[simp] theorem y_addT : dAdd (.tup x) (.tup y) = if x.length + y.length ≤ lim ∧ x ≠ [] then .ok (.tup (x ++ y)) else .bad := id rfl
@[simp] theorem y_sub : dSub (.int a) (.int b) = .ok (.int (a - b)) := id rfl
@[simp] theorem y_neg : dNeg (.int a) = .ok (.int (-a)) := id rfl
@[simp] theorem y_lt : dLt (.int a) (.int b) = .ok (.bool (decide (a < b))) := id rfl
@[simp] theorem y_ltS : dLt (.str s) (.str r) = .ok (.bool (decide (s < r))) := id rfl
@[simp] theorem y_le : dLe (.int a) (.int b) = .ok (.bool (decide (a ≤ b))) := id rfl
@[simp] theorem y_gt : dGt (.int a) (.int b) = .ok (.bool (decide (b < a))) := id rfl
@[simp] theorem y_ge : dGe (.int a) (.int b) = .ok (.bool (decide (b ≤ a))) := id rfl
@[simp] theorem y_lenS : bLen (.str s) = if s.length ≤ lim then .ok (.int s.length) else .bad := id rfl
@[simp] theorem y_lenL : bLen (.lst x) = .ok (.int x.length) := id rfl
@[simp] theorem y_lenT : bLen (.tup x) = .ok (.int x.length) := id rfl
@[simp] theorem y_intB : bInt (.bool p) = .ok (.int (if p then 1 else 0)) := id rfl
@[simp] theorem y_int : bInt (.int a) = .ok (.int a) := id rfl
@[simp] theorem y_isB : dIsB (.bool p) (.bool q) = .ok (.bool (p == q)) := id rfl
@[simp] theorem y_notB : dNotB (.bool p) (.bool q) = .ok (.bool (!(p == q))) := id rfl
@[simp] theorem y_asBool : asBool (.bool p) = .ok p := id rfl
@[simp] theorem y_truB : dTruth (.bool p) = .ok p := id rfl
@[simp] theorem y_truL : dTruth (.lst x) = .ok (!x.isEmpty) := id rfl
@[simp] theorem y_truT : dTruth (.tup x) = .ok (!x.isEmpty) := id rfl
@[simp] theorem y_truS : dTruth (.str s) = if s.length ≤ lim then .ok (!s.isEmpty) else .bad := id rfl
@[simp] theorem y_cutL {lo hi : Option Int} : dCut (.lst x) lo hi = .ok (.lst (cut x lo hi)) := id rfl
@[simp] theorem y_cutS {lo hi : Option Int} : dCut (.str s) lo hi = if s.length ≤ lim then .ok (.str (cut s lo hi)) else .bad := id rfl
@[simp] theorem y_itL : items (.lst x) = .ok x := id rfl
@[simp] theorem y_itT : items (.tup x) = .ok x := id rfl
@[simp] theorem y_itS : items (.str s) = .ok (signs s) := id rfl
@[simp] theorem y_tuple : bTuple (.lst x) = .ok (.tup x) := id rfl
@[simp] theorem y_list : bList (.lst x) = .ok (.lst x) := id rfl
@[simp] theorem y_listT : bList (.tup x) = .ok (.lst x) := id rfl
@[simp] theorem y_idxL : dIdx (.lst x) (.int a) = (match at? x a with | some d => .ok d | Option.none => .bad) := id rfl
@[simp] theorem y_idxT : dIdx (.tup x) (.int a) = (match at? x a with | some d => .ok d | Option.none => .bad) := id rfl
@[simp] theorem y_idxS : dIdx (.str s) (.int a) = if s.length ≤ lim then (match at? s a with | some c => .ok (.str [c]) | Option.none => .bad) else .bad := id rfl
@[simp] theorem y_eqI : dEq (.int a) (.int b) = .ok (.bool (decide (a = b))) := by
  show (if (true && true) = true then Res.ok (D.bool (D.eqv (.int a) (.int b))) else .bad) = _
  unfold D.eqv
  by_cases h : a = b <;> simp [h]
@[simp] theorem y_neI : dNe (.int a) (.int b) = .ok (.bool (!decide (a = b))) := by
  show (if (true && true) = true then Res.ok (D.bool (!D.eqv (.int a) (.int b))) else .bad) = _
  unfold D.eqv
  by_cases h : a = b <;> simp [h]
@[simp] theorem y_neB : dNe (.bool p) (.bool q) = .ok (.bool (!(p == q))) := id rfl
theorem y_eqS (h1 : plainS s = true) (h2 : plainS r = true) (h3 : s.length ≤ lim) (h4 : r.length ≤ lim) : dEq (.str s) (.str r) = .ok (.bool (decide (s = r))) := by
  have e : (D.cmp 64 (.str s) && D.cmp 64 (.str r)) = true := by
    show ((plainS s && decide (s.length ≤ lim)) && (plainS r && decide (r.length ≤ lim))) = true
    rw [h1, h2, decide_eq_true h3, decide_eq_true h4]
    rfl
  unfold dEq
  rw [if_pos e]
  unfold D.eqv
  by_cases h : s = r <;> simp [h]
theorem y_neS (h1 : plainS s = true) (h2 : plainS r = true) (h3 : s.length ≤ lim) (h4 : r.length ≤ lim) : dNe (.str s) (.str r) = .ok (.bool (!decide (s = r))) := by
  have e : (D.cmp 64 (.str s) && D.cmp 64 (.str r)) = true := by
    show ((plainS s && decide (s.length ≤ lim)) && (plainS r && decide (r.length ≤ lim))) = true
    rw [h1, h2, decide_eq_true h3, decide_eq_true h4]
    rfl
  unfold dNe
  rw [if_pos e]
  unfold D.eqv
  by_cases h : s = r <;> simp [h]
end
theorem run_of {n : Nat} {g : St} {ds : List D} {d : D} (h : g (ds.map (fun d => some (S.dat d)) ++ List.replicate (n - ds.length) Option.none) = .ret d) : runDef n g ds = .ok d := by
  unfold runDef
  rw [h]
theorem run_raise {n : Nat} {g : St} {ds : List D} {c : Cls} (h : g (ds.map (fun d => some (S.dat d)) ++ List.replicate (n - ds.length) Option.none) = .raise c) : runDef n g ds = .raise c := by
  unfold runDef
  rw [h]
theorem y_mulL {a b : Int} (h : small a) : dMul (.int a) (.int b) = .ok (.int (a * b)) := if_pos (.inl h)
theorem y_mulR {a b : Int} (h : small b) : dMul (.int a) (.int b) = .ok (.int (a * b)) := if_pos (.inr (.inl h))
theorem y_mod {a b : Int} (h : 0 < b) : dMod (.int a) (.int b) = .ok (.int (a % b)) := if_pos h
theorem y_div {a b : Int} (h : 0 < b) (h2 : b < 1073741824) : dDiv (.int a) (.int b) = .ok (.int (a / b)) := if_pos ⟨h, h2⟩
theorem small2 : small 2 := by decide
theorem small17 : small 17 := by decide
/-! ### places -/
theorem at_nat {α : Type} {xs : List α} {i : Nat} : at? xs (i : Int) = xs[i]? := by
  unfold at? ix
  rw [if_pos (Int.natCast_nonneg i)]
  by_cases h : i < xs.length
  · rw [if_pos (by omega)]
    rfl
  · rw [if_neg (by omega), List.getElem?_eq_none (by omega)]
    rfl
theorem at_zero {α : Type} {xs : List α} {x : α} : at? (x :: xs) (0 : Int) = some x := at_nat (xs := x :: xs) (i := 0)
theorem at_last {α : Type} {xs : List α} {x : α} : at? (xs ++ [x]) (-1) = some x := by
  unfold at? ix
  rw [if_neg (by omega), if_pos (by rw [List.length_append, List.length_singleton]; omega), List.length_append, List.length_singleton]
  have e : (-1 + ((xs.length + 1 : Nat) : Int)).toNat = xs.length := by omega
  show (some (-1 + ((xs.length + 1 : Nat) : Int)).toNat).bind _ = _
  rw [e]
  simp
theorem sl_nat (n d i : Nat) : sl n d (some (i : Int)) = min i n := by
  show (if (i : Int) < 0 then ((i : Int) + (n : Int)).toNat else min (i : Int).toNat n) = _
  rw [if_neg (by omega), Int.toNat_natCast]
theorem sl_none (n d : Nat) : sl n d Option.none = d := rfl
theorem cut_to {α : Type} (xs : List α) (i : Nat) : cut xs Option.none (some (i : Int)) = xs.take i := by
  unfold cut
  rw [sl_nat, sl_none, List.drop_zero, Nat.sub_zero]
  by_cases h : i ≤ xs.length
  · rw [Nat.min_eq_left h]
  · rw [Nat.min_eq_right (by omega), List.take_of_length_le (by omega), List.take_of_length_le (by omega)]
theorem cut_from {α : Type} (xs : List α) (i : Nat) : cut xs (some (i : Int)) Option.none = xs.drop i := by
  unfold cut
  rw [sl_nat, sl_none]
  by_cases h : i ≤ xs.length
  · rw [Nat.min_eq_left h, List.take_of_length_le (by rw [List.length_drop]; omega)]
  · rw [Nat.min_eq_right (by omega), List.drop_of_length_le (Nat.le_refl _), List.drop_of_length_le (by omega)]
    simp
theorem cut_mid {α : Type} (xs : List α) (i j : Nat) : cut xs (some (i : Int)) (some (j : Int)) = (xs.take j).drop i := by
  unfold cut
  rw [sl_nat, sl_nat]
  by_cases h : i ≤ xs.length
  · rw [Nat.min_eq_left h]
    by_cases h2 : j ≤ xs.length
    · rw [Nat.min_eq_left h2, List.drop_take]
    · rw [Nat.min_eq_right (by omega), List.take_of_length_le (by rw [List.length_drop]; omega), List.take_of_length_le (by omega)]
  · have e : min i xs.length = xs.length := Nat.min_eq_right (by omega)
    rw [e, List.drop_of_length_le (Nat.le_refl xs.length)]
    rw [List.drop_of_length_le (by rw [List.length_take]; omega)]
    simp
abbrev nd (n : Nat) : D := .int (n : Int)
theorem nd_mul (a b : Nat) : D.int ((a : Int) * (b : Int)) = nd (a * b) := by
  show _ = D.int ((a * b : Nat) : Int)
  rw [Int.natCast_mul]
theorem nd_add (a b : Nat) : D.int ((a : Int) + (b : Int)) = nd (a + b) := by
  show _ = D.int ((a + b : Nat) : Int)
  rw [Int.natCast_add]
theorem nd_of {i : Int} (h : 0 ≤ i) : D.int i = nd i.toNat := by
  show _ = D.int ((i.toNat : Nat) : Int)
  rw [Int.toNat_of_nonneg h]
/-! ### loops -/
theorem loop_nil {g : G} {b : St} {η : Env} : loop g b [] η = .next η := rfl
theorem loop_cons {g : G} {b : St} {d : D} {ds : List D} {η η1 : Env} (h : g d η = .ok η1) : loop g b (d :: ds) η = (match b η1 with
    | .next η' => loop g b ds η'
    | .ct η' => loop g b ds η'
    | .brk η' => .next η'
    | o => o) := by
  show outOf (g d η).calm _ = _
  rw [h]
  rfl
theorem loop_next {g : G} {b : St} {d : D} {ds : List D} {η η1 η2 : Env} (h : g d η = .ok η1) (h2 : b η1 = .next η2) : loop g b (d :: ds) η = loop g b ds η2 := by
  rw [loop_cons h, h2]
theorem loop_ret {g : G} {b : St} {d v : D} {ds : List D} {η η1 : Env} (h : g d η = .ok η1) (h2 : b η1 = .ret v) : loop g b (d :: ds) η = .ret v := by
  rw [loop_cons h, h2]
/-- every turn keeps P -/
theorem loop_inv {g : G} {b : St} (P : Nat → Env → Prop) : ∀ (ds : List D) (k : Nat) (η : Env), P k η → (∀ i d η, ds[i]? = some d → P (k + i) η → ∃ η1 η2, g d η = .ok η1 ∧ (b η1 = .next η2 ∨ b η1 = .ct η2) ∧ P (k + i + 1) η2) → ∃ η', loop g b ds η = .next η' ∧ P (k + ds.length) η'
  | [], k, η, h, _ => ⟨η, rfl, h⟩
  | d :: ds, k, η, h, step => by
    obtain ⟨η1, η2, h1, h2, h3⟩ := step 0 d η rfl h
    obtain ⟨η', e1, e2⟩ := loop_inv (g := g) (b := b) P ds (k + 1) η2 h3 (fun i d' η hi hp => by
      have e : k + 1 + i = k + (i + 1) := by omega
      rw [e] at hp ⊢
      exact step (i + 1) d' η (by simpa using hi) hp)
    refine ⟨η', ?_, ?_⟩
    · rw [loop_cons h1]
      rcases h2 with h2 | h2 <;> rw [h2] <;> exact e1
    · have e : k + 1 + ds.length = k + (d :: ds).length := by
        rw [List.length_cons]
        omega
      rw [e] at e2
      exact e2
/-- .. and nothing is asked of the turn's number -/
theorem loop_all {g : G} {b : St} (P : Env → Prop) (ds : List D) {η : Env} (h : P η) (step : ∀ d, d ∈ ds → ∀ η, P η → ∃ η1 η2, g d η = .ok η1 ∧ (b η1 = .next η2 ∨ b η1 = .ct η2) ∧ P η2) : ∃ η', loop g b ds η = .next η' ∧ P η' := by
  obtain ⟨η', e1, e2⟩ := loop_inv (g := g) (b := b) (fun _ => P) ds 0 η h (fun i d η hi hp => step d (List.mem_of_getElem? hi) η hp)
  exact ⟨η', e1, e2⟩
/-- a while that turns m times -/
theorem whil_up {t : T} {b : St} (st : Nat → Env) : ∀ (m k n : Nat), m < n → (∀ i, k ≤ i → i < k + m → t (st i) = .ok true ∧ b (st i) = .next (st (i + 1))) → t (st (k + m)) = .ok false → whil t b n (st k) = .next (st (k + m))
  | 0, k, n + 1, _, _, h => by
    show outOf (t (st k)) _ = _
    rw [Nat.add_zero] at h ⊢
    rw [h]
    rfl
  | m + 1, k, n + 1, hn, hs, h => by
    obtain ⟨h1, h2⟩ := hs k (Nat.le_refl _) (by omega)
    have e : k + (m + 1) = k + 1 + m := by omega
    rw [e] at h ⊢
    have ih := whil_up st m (k + 1) n (by omega) (fun i h3 h4 => hs i (by omega) (by omega)) h
    show outOf (t (st k)) _ = _
    rw [h1, outOf_ok, if_pos rfl, h2]
    exact ih
/-! ### comprehensions -/
theorem comp_nil {g : G} {t : T} {e : E} {η : Env} : comp g t e η [] = .ok [] := rfl
theorem comp_map {g : G} {t : T} {e : E} {η : Env} (p : D → Bool) (v : D → D) : ∀ (ds : List D), (∀ d, d ∈ ds → ∃ η1, g d η = .ok η1 ∧ t η1 = .ok (p d) ∧ (p d = true → e η1 = .ok (v d))) → comp g t e η ds = .ok ((ds.filter p).map v)
  | [], _ => rfl
  | d :: ds, h => by
    obtain ⟨η1, h1, h2, h3⟩ := h d List.mem_cons_self
    have ih := comp_map p v ds fun d hd => h d (List.mem_cons_of_mem _ hd)
    show (g d η).calm.bind _ = _
    rw [h1, calm_ok, bind_ok, h2, bind_ok]
    cases hp : p d with
    | true => rw [if_pos rfl, h3 hp, bind_ok, ih, bind_ok, List.filter_cons_of_pos hp, List.map_cons]
    | false => rw [if_neg Bool.false_ne_true, ih, List.filter_cons_of_neg (by rw [hp]; exact Bool.false_ne_true)]
theorem comp_all {g : G} {t : T} {e : E} {η : Env} (v : D → D) (ds : List D) (h : ∀ d, d ∈ ds → ∃ η1, g d η = .ok η1 ∧ t η1 = .ok true ∧ e η1 = .ok (v d)) : comp g t e η ds = .ok (ds.map v) := by
  have e1 := comp_map (g := g) (t := t) (e := e) (η := η) (fun _ => true) v ds fun d hd => by
    obtain ⟨η1, h1, h2, h3⟩ := h d hd
    exact ⟨η1, h1, h2, fun _ => h3⟩
  rw [List.filter_eq_self.mpr fun _ _ => rfl] at e1
  exact e1
theorem comp_list {α : Type} {g : G} {t : T} {e : E} {η : Env} (f v : α → D) : ∀ (xs : List α), (∀ a, a ∈ xs → ∃ η1, g (f a) η = .ok η1 ∧ t η1 = .ok true ∧ e η1 = .ok (v a)) → comp g t e η (xs.map f) = .ok (xs.map v)
  | [], _ => rfl
  | a :: xs, h => by
    obtain ⟨η1, h1, h2, h3⟩ := h a List.mem_cons_self
    have ih := comp_list f v xs fun d hd => h d (List.mem_cons_of_mem _ hd)
    show (g (f a) η).calm.bind _ = _
    rw [h1, calm_ok, bind_ok, h2, bind_ok, if_pos rfl, h3, bind_ok, ih, bind_ok, List.map_cons]
theorem eComp_of {own : List Nat} {fi : I} {g : G} {t : T} {e : E} {η : Env} {ds ys : List D} (h1 : fi η = .ok ds) (h2 : ds.length ≤ lim) (h3 : comp g t e (wipes η own) ds = .ok ys) : eComp own fi g t e η = .ok (.lst ys) := by
  unfold eComp
  rw [h1, bind_ok, if_pos h2, h3]
  rfl
/-! ### lists of data -/
@[simp] theorem nums_map (l : List Int) : numsL (l.map D.int) = some l := by
  induction l with
  | nil => rfl
  | cons x r ih =>
    show (numsL (r.map D.int)).map (x :: ·) = _
    rw [ih]
    rfl
@[simp] theorem strs_map (l : List (List Nat)) : strsL (l.map D.str) = some l := by
  induction l with
  | nil => rfl
  | cons x r ih =>
    show (strsL (r.map D.str)).map (x :: ·) = _
    rw [ih]
    rfl
@[simp] theorem bools_map (l : List Bool) : boolsL (l.map D.bool) = some l := by
  induction l with
  | nil => rfl
  | cons x r ih =>
    show (boolsL (r.map D.bool)).map (x :: ·) = _
    rw [ih]
    rfl
theorem bMin_map (x : Int) (l : List Int) : bMin (.lst ((x :: l).map D.int)) = .ok (.int (least x l)) := by
  show (match numsL ((x :: l).map D.int) with
    | some (x :: r) => Res.ok (D.int (least x r))
    | _ => .bad) = _
  rw [nums_map]
theorem bMax_map (x : Int) (l : List Int) : bMax (.lst ((x :: l).map D.int)) = .ok (.int (most x l)) := by
  show (match numsL ((x :: l).map D.int) with
    | some (x :: r) => Res.ok (D.int (most x r))
    | _ => .bad) = _
  rw [nums_map]
theorem bAll_map (l : List Bool) : bAll (.lst (l.map D.bool)) = .ok (.bool (l.all id)) := by
  show (match boolsL (l.map D.bool) with
    | some bs => Res.ok (D.bool (bs.all id))
    | _ => .bad) = _
  rw [bools_map]
theorem bSum_map (l : List Int) : bSum (.lst (l.map D.int)) = .ok (.int l.sum) := by
  show (match numsL (l.map D.int) with
    | some ns => Res.ok (D.int ns.sum)
    | _ => .bad) = _
  rw [nums_map]
theorem dJoin_map (sep : List Nat) (l : List (List Nat)) (h : lenSum l + l.length * sep.length ≤ lim) : dJoin (.str sep) (.lst (l.map D.str)) = .ok (.str (joinS sep l)) := by
  show (match strsL (l.map D.str) with
    | some ss => if lenSum ss + ss.length * sep.length ≤ lim then Res.ok (D.str (joinS sep ss)) else .bad
    | _ => .bad) = _
  rw [strs_map]
  exact if_pos h
theorem joinS_nil (l : List (List Nat)) : joinS [] l = l.flatten := by
  induction l with
  | nil => rfl
  | cons x r ih =>
    cases r with
    | nil => simp [joinS]
    | cons y r =>
      show x ++ [] ++ joinS [] (y :: r) = _
      rw [ih]
      simp
theorem lenSum_ones (l : List Nat) : lenSum (l.map fun c => [c]) = l.length := by
  induction l with
  | nil => rfl
  | cons x r ih =>
    show 1 + lenSum (r.map fun c => [c]) = _
    rw [ih, List.length_cons]
    omega
@[simp] theorem numbers_len' (lo : Int) (n : Nat) : (numbers lo n).length = n := by simp [numbers]
theorem numbers_get {lo : Int} {n i : Nat} {d : D} (h : (numbers lo n)[i]? = some d) : i < n ∧ d = .int (lo + (i : Int)) := by
  unfold numbers at h
  rw [List.getElem?_map] at h
  by_cases hi : i < n
  · rw [List.getElem?_range hi] at h
    cases h
    exact ⟨hi, rfl⟩
  · rw [List.getElem?_eq_none (by simpa using hi)] at h
    cases h
theorem numbers_mem {lo : Int} {n : Nat} {d : D} (h : d ∈ numbers lo n) : ∃ i : Nat, i < n ∧ d = .int (lo + (i : Int)) := by
  obtain ⟨i, hi⟩ := List.getElem?_of_mem h
  exact ⟨i, numbers_get hi⟩
theorem rng1_nat (n : Nat) (h : n ≤ 2 ^ 40) : rng1 (.int (n : Int)) = .ok (numbers 0 n) := by
  have e : rngOk (n : Int) = true := by
    unfold rngOk
    rw [decide_eq_true (by omega), decide_eq_true (by omega)]
    rfl
  show (if rngOk (n : Int) then Res.ok (numbers 0 (n : Int).toNat) else .bad) = _
  rw [if_pos e, Int.toNat_natCast]
end Bk
end
/-! BkRows -/
section
set_option linter.all false
set_option autoImplicit false
set_option maxRecDepth 100000
/-! BkRows: rows of brackets: heights, is_whole, depth, backward; the laws' own rows -/
namespace Bk
/-- what a sign adds -/
def up (c : Nat) : Int := if c = 41 then -1 else 1
def hts (h : Int) : List Nat → List Int
  | [] => [h]
  | c :: r => h :: hts (h + up c) r
theorem hts_len (h : Int) (s : List Nat) : (hts h s).length = s.length + 1 := by
  induction s generalizing h with
  | nil => rfl
  | cons c r ih =>
    show (hts (h + up c) r).length + 1 = _
    rw [ih]
    rfl
theorem signs_mem {s : List Nat} {d : D} (h : d ∈ signs s) : ∃ c, c ∈ s ∧ d = .str [c] := by
  unfold signs at h
  rw [List.mem_map] at h
  obtain ⟨c, h1, h2⟩ := h
  exact ⟨c, h1, h2.symm⟩
theorem plain_one {c : Nat} (h : c < 128) : plainS [c] = true := by
  unfold plainS
  simp [h]
theorem plain_mem {s : List Nat} (h : plainS s = true) {c : Nat} (hc : c ∈ s) : c < 128 := by
  unfold plainS at h
  rw [List.all_eq_true] at h
  exact of_decide_eq_true (h c hc)
theorem plain_cons {c : Nat} {s : List Nat} (h : plainS (c :: s) = true) : c < 128 ∧ plainS s = true := ⟨plain_mem h List.mem_cons_self, by
  unfold plainS at h ⊢
  rw [List.all_cons, Bool.and_eq_true] at h
  exact h.2⟩
/-- sign == ')' -/
theorem one_lim : (1 : Nat) ≤ lim := by decide
theorem eq_sign {c x : Nat} (h : c < 128) (hx : x < 128) : dEq (.str [c]) (.str [x]) = .ok (.bool (decide (c = x))) := by
  rw [y_eqS (plain_one h) (plain_one hx) one_lim one_lim]
  simp
theorem eq_shut {c : Nat} (h : c < 128) : dEq (.str [c]) (.str [41]) = .ok (.bool (decide (c = 41))) := eq_sign h (by decide)
theorem eq_open {c : Nat} (h : c < 128) : dEq (.str [c]) (.str [40]) = .ok (.bool (decide (c = 40))) := eq_sign h (by decide)
theorem ne_shut {c : Nat} (h : c < 128) : dNe (.str [c]) (.str [41]) = .ok (.bool (!decide (c = 41))) := by
  rw [y_neS (plain_one h) (plain_one (by decide)) one_lim one_lim]
  simp
theorem ne_open {c : Nat} (h : c < 128) : dNe (.str [c]) (.str [40]) = .ok (.bool (!decide (c = 40))) := by
  rw [y_neS (plain_one h) (plain_one (by decide)) one_lim one_lim]
  simp
theorem heights_loop : ∀ (s : List Nat) (acc : List Int) (h : Int) (d : D) (z : Option S), plainS s = true → acc.length + s.length < 16777000 →
    ∃ z', loop (gName 2) b_heights_1 (signs s)
      [some (.dat d), some (.own ((acc ++ [h]).map D.int)), z] = .next [some (.dat d), some (.own ((acc ++ hts h s).map D.int)), z']
  | [], acc, h, d, z, _, _ => ⟨z, rfl⟩
  | c :: r, acc, h, d, z, hp, hl => by
    obtain ⟨h1, h2⟩ := plain_cons hp
    rw [List.length_cons] at hl
    obtain ⟨z', ih⟩ := heights_loop r (acc ++ [h]) (h + up c) d (some (.dat (.str [c]))) h2 (by
      rw [List.length_append, List.length_singleton]
      omega)
    refine ⟨z', ?_⟩
    have e0 : acc ++ hts h (c :: r) = acc ++ [h] ++ hts (h + up c) r := by
      show acc ++ (h :: hts (h + up c) r) = _
      simp
    rw [e0, ← ih]
    refine loop_next (η1 := [some (.dat d), some (.own ((acc ++ [h]).map D.int)), some (.dat (.str [c]))]) rfl ?_
    have hl2 : acc.length + 1 < lim := by
      show _ < 16777216
      omega
    have e3 : h + 1 - 2 * (if c = 41 then 1 else 0) = h + up c := by
      unfold up
      by_cases k : c = 41
      · simp [k]
        omega
      · simp [k]
    simp [b_heights_1, eq_shut h1, at_last, dMul, small2, hl2, e3]
theorem heights_of {s : List Nat} (hp : plainS s = true) (hl : s.length < 16777000) : φ_heights [.str s] = .ok (.lst ((hts 0 s).map D.int)) := by
  obtain ⟨z', h⟩ := heights_loop s [] 0 (.str s) none hp (by simpa using hl)
  refine run_of (g := g_heights) ?_
  simp only [List.map_nil, List.nil_append] at h
  simp at h
  simp [g_heights, h]
/-! ### whole rows -/
/-- whole from a height on -/
def wholeF : Nat → List Nat → Bool
  | h, [] => h == 0
  | h, c :: r => if c = 40 then wholeF (h + 1) r else if c = 41 then (match h with
    | 0 => false
    | h + 1 => wholeF h r) else false
def whole (s : List Nat) : Bool := wholeF 0 s
def brack (s : List Nat) : Bool := s.all fun c => decide (c = 40) || decide (c = 41)
theorem brack_cons {c : Nat} {s : List Nat} : brack (c :: s) = ((decide (c = 40) || decide (c = 41)) && brack s) := rfl
theorem brack_mem {s : List Nat} (h : brack s = true) {c : Nat} (hc : c ∈ s) : c = 40 ∨ c = 41 := by
  unfold brack at h
  rw [List.all_eq_true] at h
  simpa using h c hc
theorem brack_plain {s : List Nat} (h : brack s = true) : plainS s = true := by
  unfold plainS
  rw [List.all_eq_true]
  intro c hc
  rcases brack_mem h hc with rfl | rfl <;> decide
theorem whole_brack : ∀ (s : List Nat) (h : Nat), wholeF h s = true → brack s = true
  | [], _, _ => rfl
  | c :: r, h, w => by
    unfold wholeF at w
    rw [brack_cons]
    by_cases k : c = 40
    · rw [if_pos k] at w
      simp [k, whole_brack r _ w]
    · rw [if_neg k] at w
      by_cases k2 : c = 41
      · rw [if_pos k2] at w
        cases h with
        | zero => cases w
        | succ h => simp [k2, whole_brack r _ w]
      · rw [if_neg k2] at w
        cases w
theorem least_low : ∀ (r : List Int) (m : Int), least m r = m ↔ ∀ y ∈ r, m ≤ y := by
  have le : ∀ (r : List Int) (m : Int), least m r ≤ m := by
    intro r
    induction r with
    | nil => exact fun m => Int.le_refl m
    | cons x r ih =>
      intro m
      show least (if x < m then x else m) r ≤ m
      by_cases h : x < m
      · rw [if_pos h]
        have := ih x
        omega
      · rw [if_neg h]
        exact ih m
  intro r
  induction r with
  | nil =>
    intro m
    exact ⟨fun _ _ h => (nomatch h), fun _ => rfl⟩
  | cons x r ih =>
    intro m
    show least (if x < m then x else m) r = m ↔ _
    by_cases h : x < m
    · rw [if_pos h]
      constructor
      · intro e
        have := le r x
        omega
      · intro e
        have := e x List.mem_cons_self
        omega
    · rw [if_neg h, ih]
      constructor
      · intro e y hy
        rcases List.mem_cons.mp hy with rfl | hy
        · omega
        · exact e y hy
      · exact fun e y hy => e y (List.mem_cons_of_mem _ hy)
theorem hts_last : ∀ (s : List Nat) (h : Int), ∃ pre z, hts h s = pre ++ [z] ∧ (brack s = true → ∀ n : Nat, h = n → ((∀ y ∈ hts h s, 0 ≤ y) ∧ z = 0 ↔ wholeF n s = true))
  | [], h => ⟨[], h, rfl, fun _ n hn => by
      unfold hts wholeF
      simp
      omega⟩
  | c :: r, h => by
    obtain ⟨pre, z, e, ih⟩ := hts_last r (h + up c)
    refine ⟨h :: pre, z, by show h :: hts (h + up c) r = _; rw [e]; rfl, fun hb n hn => ?_⟩
    rw [brack_cons, Bool.and_eq_true] at hb
    have hc : c = 40 ∨ c = 41 := by simpa using hb.1
    have e0 : (∀ y ∈ hts h (c :: r), 0 ≤ y) ↔ 0 ≤ h ∧ ∀ y ∈ hts (h + up c) r, 0 ≤ y := by
      show (∀ y ∈ h :: hts (h + up c) r, 0 ≤ y) ↔ _
      simp
    rw [e0]
    subst hn
    rcases hc with rfl | rfl
    · have := ih hb.2 (n + 1) (by unfold up; simp)
      show _ ↔ wholeF (n + 1) r = true
      rw [← this]
      simp
    · cases n with
      | zero =>
        have h1 : (up 41 : Int) ∈ hts (((0 : Nat) : Int) + up 41) r := by
          cases r with
          | nil => simp [hts]
          | cons x r => simp [hts]
        show _ ↔ false = true
        constructor
        · intro q
          have := q.1.2 _ h1
          unfold up at this
          simp at this
        · intro q
          cases q
      | succ n =>
        have := ih hb.2 n (by unfold up; simp; omega)
        show _ ↔ wholeF n r = true
        rw [← this]
        simp
        omega
theorem isTy_str {s : List Nat} : bIs .str (.str s) = .ok (.bool true) := rfl
theorem inS_eq {c : Nat} : dInS (.str [c]) (.str [40, 41]) = .ok (.bool (decide (c = 40) || decide (c = 41))) := by
  show Res.ok (D.bool (decide (c ∈ [40, 41]))) = _
  by_cases h : c = 40
  · simp [h]
  · by_cases h2 : c = 41 <;> simp [h, h2]
/-- is_whole of a text -/
theorem is_whole_of {s : List Nat} (hp : plainS s = true) (hl : s.length < 16777000) : φ_is_whole [.str s] = .ok (.bool (decide (s.length ≤ 120) && whole s)) := by
  have hll : s.length ≤ lim := by
    show _ ≤ 16777216
    omega
  obtain ⟨L, hc, hb⟩ : ∃ L, c_is_whole_1 [some (.dat (.str s)), none, none] = .ok (.lst L) ∧ bAll (.lst L) = .ok (.bool (brack s)) := by
    refine ⟨(s.map fun c => decide (c = 40) || decide (c = 41)).map D.bool, ?_, by
      rw [bAll_map, List.all_map]
      rfl⟩
    refine eComp_of (ds := signs s) (by simp) (by unfold signs; rw [List.length_map]; exact hll) ?_
    have e := comp_all (g := gName 1) (t := tYes) (e := eBin dInS (eVar 1) (eC (.str [40, 41]))) (η := wipes [some (.dat (.str s)), none, none] [1]) (fun d => match d with | .str [c] => .bool (decide (c = 40) || decide (c = 41)) | _ => .none) (signs s) (fun d hd => by
      obtain ⟨c, _, rfl⟩ := signs_mem hd
      exact ⟨_, rfl, rfl, by simp [inS_eq]⟩)
    rw [e]
    unfold signs
    rw [List.map_map, List.map_map]
    rfl
  obtain ⟨pre, z, e1, e2⟩ := hts_last s 0
  refine run_of (g := g_is_whole) ?_
  unfold g_is_whole
  by_cases h120 : s.length ≤ 120
  · have h120' : ¬ (120 : Int) < s.length := by omega
    cases hbr : brack s with
    | false =>
      have hw : whole s = false := by
        cases q : whole s with
        | false => rfl
        | true =>
          have := whole_brack s 0 q
          rw [hbr] at this
          cases this
      simp [isTy_str, hll, hc, hb, hbr, hw, h120']
    | true =>
      have key : (decide (least 0 (hts 0 s).tail = 0) && decide (z = 0)) = whole s := by
        have k := e2 hbr 0 rfl
        have h0 : ∃ r, hts 0 s = 0 :: r := by
          cases s with
          | nil => exact ⟨[], rfl⟩
          | cons c r => exact ⟨_, rfl⟩
        obtain ⟨r, h0⟩ := h0
        rw [h0] at k ⊢
        have k2 := least_low r 0
        unfold whole
        rw [Bool.eq_iff_iff, ← k, Bool.and_eq_true, decide_eq_true_eq, decide_eq_true_eq, List.tail_cons, k2]
        simp
      have hm : bMin (.lst ((hts 0 s).map D.int)) = .ok (.int (least 0 (hts 0 s).tail)) := by
        cases s with
        | nil => exact bMin_map 0 []
        | cons c r => exact bMin_map 0 _
      have hz : at? ((hts 0 s).map D.int) (-1) = some (.int z) := by
        rw [e1, List.map_append]
        exact at_last
      have hh : ∃ L, φ_heights [.str s] = .ok (.lst L) ∧ bMin (.lst L) = .ok (.int (least 0 (hts 0 s).tail)) ∧ at? L (-1) = some (.int z) := ⟨_, heights_of hp hl, hm, hz⟩
      obtain ⟨L2, hh, hm, hz⟩ := hh
      rw [← key]
      simp [isTy_str, hll, hc, hb, hbr, h120', h120, hh, hm, hz]
      cases k : decide (least 0 (hts 0 s).tail = 0) <;> simp_all
  · have h120' : (120 : Int) < s.length := by omega
    simp [isTy_str, hll, h120, h120']
/-! ### the laws' own tools -/
def mix (c p m : Int) : Int := c * 48271 % p % m
theorem mix_of {c p m : Int} (hp : 0 < p) (hm : 0 < m) : φ_l_mix [.int c, .int p, .int m] = .ok (.int (mix c p m)) := by
  have h : small 48271 := by decide
  refine run_of (g := g_l_mix) ?_
  simp [g_l_mix, y_mulR h, y_mod hp, y_mod hm, mix]
theorem mix_range {c p m : Int} (hm : 0 < m) : 0 ≤ mix c p m ∧ mix c p m < m := ⟨Int.emod_nonneg _ (by omega), Int.emod_lt_of_pos _ hm⟩
theorem l_whole_int {i : Int} : φ_l_whole [.int i] = .ok (.bool true) := by
  rfl
theorem sign_dict {c : Nat} {z : D} : dSign (.str [c]) z = .ok (if c = 40 then .int 1 else if c = 41 then .int (-1) else z) := by
  show Res.ok (if [c] = [40] then D.int 1 else if [c] = [41] then D.int (-1) else z) = _
  simp
theorem l_is_whole_loop : ∀ (s : List Nat) (h : Nat) (x : D) (z : Option S), h + s.length ≤ 900 →
    ∃ o, loop (gName 2) b_l_is_whole_1 (signs s) [some (.dat x), some (.dat (.int h)), z] = o ∧
      ((o = .ret (.bool false) ∧ wholeF h s = false) ∨ ∃ (h' : Nat) (z' : Option S), o = .next [some (.dat x), some (.dat (.int h')), z'] ∧ decide (h' = 0) = wholeF h s)
  | [], h, x, z, _ => ⟨_, rfl, .inr ⟨h, z, rfl, by
      unfold wholeF
      rfl⟩⟩
  | c :: r, h, x, z, hl => by
    rw [List.length_cons] at hl
    by_cases k : c = 40
    · subst k
      obtain ⟨o, e, q⟩ := l_is_whole_loop r (h + 1) x (some (.dat (.str [40]))) (by omega)
      refine ⟨o, ?_, q⟩
      rw [← e]
      refine loop_next (η1 := [some (.dat x), some (.dat (.int h)), some (.dat (.str [40]))]) rfl ?_
      have e2 : ¬ ((h : Int) + 1 < 0) := by omega
      simp [b_l_is_whole_1, sign_dict, e2]
    · by_cases k2 : c = 41
      · subst k2
        cases h with
        | zero =>
          refine ⟨_, loop_ret (η1 := [some (.dat x), some (.dat (.int 0)), some (.dat (.str [41]))]) rfl ?_, .inl ⟨rfl, rfl⟩⟩
          simp [b_l_is_whole_1, sign_dict]
        | succ h =>
          obtain ⟨o, e, q⟩ := l_is_whole_loop r h x (some (.dat (.str [41]))) (by omega)
          refine ⟨o, ?_, q⟩
          rw [← e]
          refine loop_next (η1 := [some (.dat x), some (.dat (.int (h + 1 : Nat))), some (.dat (.str [41]))]) rfl ?_
          have e2 : ((h : Int) + 1 + -1) = h := by omega
          have e3 : ¬ ((h : Int) < 0) := by omega
          simp [b_l_is_whole_1, sign_dict, e2, e3]
      · refine ⟨_, loop_ret (η1 := [some (.dat x), some (.dat (.int h)), some (.dat (.str [c]))]) rfl ?_, .inl ⟨rfl, ?_⟩⟩
        · have e2 : ((h : Int) + -999 < 0) := by omega
          simp [b_l_is_whole_1, sign_dict, k, k2, e2]
        · unfold wholeF
          rw [if_neg k, if_neg k2]
theorem l_is_whole_of {s : List Nat} (hl : s.length ≤ 900) : φ_l_is_whole [.str s] = .ok (.bool (whole s)) := by
  obtain ⟨o, e, q⟩ := l_is_whole_loop s 0 (.str s) none (by omega)
  refine run_of (g := g_l_is_whole) ?_
  unfold g_l_is_whole
  rcases q with ⟨rfl, q⟩ | ⟨h', z', rfl, q⟩
  · simp at e
    simp [e, whole, q]
  · simp at e
    have q2 : decide (h' = 0) = whole s := q
    simp [e, q2]
/-- the law's own row: some whole row of its size -/
def RowAt (c : Int) (n k : Nat) (η : Env) : Prop := ∃ (s : List Nat) (h : Nat) (z4 z5 : Option S), η = [some (.dat (.int c)), some (.dat (.int n)), some (.dat (.str s)), some (.dat (.int h)), z4, z5] ∧ s.length = k ∧ h + k ≤ 2 * n ∧ (h + k) % 2 = 0 ∧ ∀ t, wholeF 0 (s ++ t) = wholeF h t
theorem row_turn (c : Int) {n k : Nat} (hn : n ≤ 1000) (hk : k < 2 * n) {η : Env} (h : RowAt c n k η) : ∃ η1 η2, gName 4 (.int (k : Int)) η = .ok η1 ∧ (b_l_row_1 η1 = .next η2 ∨ b_l_row_1 η1 = .ct η2) ∧ RowAt c n (k + 1) η2 := by
  obtain ⟨s, h, z4, z5, rfl, hs, hle, hev, hw⟩ := h
  have hls : s.length + 1 ≤ lim := by
    show _ ≤ 16777216
    omega
  by_cases hc : h = 0 ∨ (h : Int) < 2 * n - k ∧ mix (c + 17 * k) 9973 5 < 3
  · have h3 : h + k + 2 ≤ 2 * n := by
      rcases hc with hc | hc <;> omega
    refine ⟨_, [some (.dat (.int c)), some (.dat (.int n)), some (.dat (.str (s ++ [40]))), some (.dat (.int (h + 1 : Nat))), some (.dat (.int k)), some (.dat (.int (2 * n - k)))], rfl, .inl ?_, s ++ [40], h + 1, _, _, rfl, by simp [hs], by omega, by omega, fun t => ?_⟩
    · by_cases h0 : h = 0
      · simp [b_l_row_1, y_mulL small2, y_mulL small17, mix_of, hls, h0]
      · have hc := hc.resolve_left h0
        simp [b_l_row_1, y_mulL small2, y_mulL small17, mix_of, hls, h0, hc]
    · rw [List.append_assoc, hw]
      rfl
  · have h0 : h ≠ 0 := fun z => hc (.inl z)
    obtain ⟨h', rfl⟩ : ∃ h', h = h' + 1 := ⟨h - 1, by omega⟩
    refine ⟨_, [some (.dat (.int c)), some (.dat (.int n)), some (.dat (.str (s ++ [41]))), some (.dat (.int h')), some (.dat (.int k)), some (.dat (.int (2 * n - k)))], rfl, .inl ?_, s ++ [41], h', _, _, rfl, by simp [hs], by omega, by omega, fun t => ?_⟩
    · have hz : ¬ ((h' : Int) + 1 = 0) := by omega
      by_cases h1 : (h' : Int) + 1 < 2 * n - k
      · have h2 : ¬ mix (c + 17 * k) 9973 5 < 3 := fun z => hc (.inr ⟨by omega, z⟩)
        simp [b_l_row_1, y_mulL small2, y_mulL small17, mix_of, hls, hz, h1, h2]
      · simp [b_l_row_1, y_mulL small2, y_mulL small17, mix_of, hls, hz, h1]
    · rw [List.append_assoc, hw]
      rfl

theorem hrng1 (n : Nat) (hn : n ≤ 1000) : rng1 (.int (2 * (n : Int))) = .ok (numbers 0 (2 * n)) := by
    have h := rng1_nat (2 * n) (by omega)
    have e : ((2 * n : Nat) : Int) = 2 * (n : Int) := by omega
    rw [e] at h
    exact h
theorem l_row_of (c : Int) {n : Nat} (hn : n ≤ 1000) : ∃ s, φ_l_row [.int c, .int n] = .ok (.str s) ∧ s.length = 2 * n ∧ whole s = true := by
  have hrng := hrng1 n hn
  obtain ⟨η', e1, e2⟩ := loop_inv (g := gName 4) (b := b_l_row_1) (RowAt c n) (numbers 0 (2 * n)) 0 [some (.dat (.int c)), some (.dat (.int n)), some (.dat (.str [])), some (.dat (.int 0)), none, none]
    ⟨[], 0, none, none, rfl, rfl, by omega, rfl, fun t => rfl⟩ (fun i d η hi hP => by
      obtain ⟨hin, rfl⟩ := numbers_get hi
      rw [Nat.zero_add] at hP
      rw [Nat.zero_add, Int.zero_add]
      exact row_turn c hn hin hP)
  rw [numbers_len', Nat.zero_add] at e2
  obtain ⟨s, h, z4, z5, rfl, hs, hle, hev, hw⟩ := e2
  have h0 : h = 0 := by omega
  subst h0
  refine ⟨s, ?_, hs, by
    have := hw []
    rw [List.append_nil] at this
    rw [show whole s = wholeF 0 s from rfl, this]
    rfl⟩
  have hm : g_l_row [some (.dat (.int c)), some (.dat (.int n)), none, none, none, none] = .ret (.str s) := by
    simp [g_l_row, y_mulL small2, hrng, e1]
  exact run_of (g := g_l_row) hm
theorem depth_of {s : List Nat} (hp : plainS s = true) (hl : s.length < 16777000) : φ_depth [.str s] = .ok (.int (most 0 (hts 0 s).tail)) := by
  have hm : ∃ L, φ_heights [.str s] = .ok (.lst L) ∧ bMax (.lst L) = .ok (.int (most 0 (hts 0 s).tail)) := by
    refine ⟨_, heights_of hp hl, ?_⟩
    cases s with
    | nil => exact bMax_map 0 []
    | cons c r => exact bMax_map 0 _
  obtain ⟨L, h1, h2⟩ := hm
  refine run_of (g := g_depth) ?_
  simp [g_depth, h1, h2]
/-! ### backward -/
def flip (c : Nat) : Nat := if c = 41 then 40 else 41
def back (s : List Nat) : List Nat := s.reverse.map flip
theorem back_len (s : List Nat) : (back s).length = s.length := by simp [back]
theorem back_of {s : List Nat} (hp : plainS s = true) (hl : s.length < 16777000) : φ_backward [.str s] = .ok (.str (back s)) := by
  have hll : s.length ≤ lim := by
    show _ ≤ 16777216
    omega
  have hc : ∃ L, c_backward_1 [some (.dat (.str s)), none] = .ok (.lst L) ∧ dJoin (.str []) (.lst L) = .ok (.str (back s)) := by
    refine ⟨((back s).map fun c => [c]).map D.str, ?_, ?_⟩
    · refine eComp_of (ds := signs s.reverse) (by simp [hll]) (by unfold signs; rw [List.length_map, List.length_reverse]; exact hll) ?_
      rw [comp_all (fun d => match d with | .str [c] => .str [flip c] | _ => .none) (signs s.reverse) (fun d hd => ?_)]
      · unfold signs back
        rw [List.map_map, List.map_map, List.map_map]
        rfl
      · obtain ⟨c, hc, rfl⟩ := signs_mem hd
        have h1 : c < 128 := plain_mem hp (List.mem_reverse.mp hc)
        have h2 : (2 : Nat) ≤ lim := by decide
        refine ⟨_, rfl, rfl, ?_⟩
        by_cases h : c = 41
        · subst h
          have h3 : at? [41, 40] (1 : Int) = some 40 := rfl
          simp [eq_shut h1, flip, h2, h3]
        · have h3 : at? [41, 40] (0 : Int) = some 41 := rfl
          simp [eq_shut h1, flip, h, h2, h3]
    · rw [dJoin_map, joinS_nil]
      · congr 2
        induction back s with
        | nil => rfl
        | cons c r ih => simp [ih]
      · rw [lenSum_ones, back_len]
        simp
        exact hll
  obtain ⟨L, h1, h2⟩ := hc
  refine run_of (g := g_backward) ?_
  simp [g_backward, h1, h2]
theorem brack_append {a b : List Nat} : brack (a ++ b) = (brack a && brack b) := by
  unfold brack
  rw [List.all_append]
theorem back_brack {s : List Nat} (h : brack s = true) : brack (back s) = true := by
  unfold brack
  rw [List.all_eq_true]
  intro c hc
  unfold back at hc
  rw [List.mem_map] at hc
  obtain ⟨x, _, rfl⟩ := hc
  unfold flip
  split <;> rfl
theorem back_back {s : List Nat} (h : brack s = true) : back (back s) = s := by
  unfold back
  rw [← List.map_reverse, List.reverse_reverse, List.map_map]
  have : ∀ c ∈ s, (flip ∘ flip) c = c := by
    intro c hc
    rcases brack_mem h hc with rfl | rfl <;> rfl
  rw [List.map_congr_left this]
  simp
/-- the walk of a row that is put together -/
def total (s : List Nat) : Int := (s.map up).sum
theorem hts_append (a b : List Nat) (h : Int) : hts h (a ++ b) = (hts h a).dropLast ++ hts (h + total a) b := by
  induction a generalizing h with
  | nil => simp [hts, total]
  | cons c r ih =>
    show h :: hts (h + up c) (r ++ b) = _
    rw [ih]
    have e : hts h (c :: r) = h :: hts (h + up c) r := rfl
    have ne : hts (h + up c) r ≠ [] := by
      have := hts_len (h + up c) r
      intro z
      rw [z] at this
      simp at this
    rw [e, List.dropLast_cons_of_ne_nil ne]
    have e2 : h + total (c :: r) = h + up c + total r := by
      show h + ((c :: r).map up).sum = _
      rw [List.map_cons, List.sum_cons]
      unfold total
      omega
    rw [e2]
    rfl
theorem hts_snoc (s : List Nat) (h : Int) : ∃ pre, hts h s = pre ++ [h + total s] := by
  induction s generalizing h with
  | nil => exact ⟨[], by simp [hts, total]⟩
  | cons c r ih =>
    obtain ⟨pre, e⟩ := ih (h + up c)
    refine ⟨h :: pre, ?_⟩
    show h :: hts (h + up c) r = _
    rw [e]
    have e2 : h + total (c :: r) = h + up c + total r := by
      show h + ((c :: r).map up).sum = _
      rw [List.map_cons, List.sum_cons]
      unfold total
      omega
    rw [e2]
    rfl
theorem wholeF_iff {s : List Nat} {n : Nat} : wholeF n s = true ↔ brack s = true ∧ (∀ y ∈ hts n s, 0 ≤ y) ∧ n + total s = 0 := by
  obtain ⟨pre, z, e1, e2⟩ := hts_last s n
  obtain ⟨pre2, e3⟩ := hts_snoc s n
  have ez : z = n + total s := by
    rw [e1] at e3
    have := congrArg (fun l : List Int => l.getLast?) e3
    simpa using this
  constructor
  · intro h
    have hb := whole_brack s n h
    have := (e2 hb n rfl).mpr h
    exact ⟨hb, this.1, by omega⟩
  · rintro ⟨hb, h1, h2⟩
    exact (e2 hb n rfl).mp ⟨h1, by omega⟩
theorem whole_iff {s : List Nat} : whole s = true ↔ brack s = true ∧ (∀ y ∈ hts 0 s, 0 ≤ y) ∧ total s = 0 := by
  have := wholeF_iff (s := s) (n := 0)
  simpa [whole] using this
theorem total_append (a b : List Nat) : total (a ++ b) = total a + total b := by
  unfold total
  rw [List.map_append, List.sum_append]
theorem total_back {s : List Nat} (h : brack s = true) : total (back s) = - total s := by
  induction s with
  | nil => rfl
  | cons c r ih =>
    rw [brack_cons, Bool.and_eq_true] at h
    have e : back (c :: r) = back r ++ [flip c] := by simp [back]
    rw [e, total_append, ih h.2]
    have hc : c = 40 ∨ c = 41 := by simpa using h.1
    have e2 : total (c :: r) = up c + total r := by
      unfold total
      rw [List.map_cons, List.sum_cons]
    rw [e2]
    rcases hc with rfl | rfl
    · show - total r + total [41] = _
      have : total [41] = -1 := rfl
      have h3 : up 40 = 1 := rfl
      omega
    · show - total r + total [40] = _
      have : total [40] = 1 := rfl
      have h3 : up 41 = -1 := rfl
      omega
theorem hts_back {s : List Nat} (hb : brack s = true) (h : Int) : hts (h + total s) (back s) = (hts h s).reverse := by
  induction s generalizing h with
  | nil => simp [hts, total, back]
  | cons c r ih =>
    rw [brack_cons, Bool.and_eq_true] at hb
    have e : back (c :: r) = back r ++ [flip c] := by simp [back]
    have e2 : h + total (c :: r) = h + up c + total r := by
      show h + ((c :: r).map up).sum = _
      rw [List.map_cons, List.sum_cons]
      unfold total
      omega
    rw [e, e2, hts_append, ih hb.2, total_back hb.2]
    have hc : c = 40 ∨ c = 41 := by simpa using hb.1
    have e3 : h + up c + total r + - total r = h + up c := by omega
    have e4 : hts (h + up c) [flip c] = [h + up c, h] := by
      show [h + up c, h + up c + up (flip c)] = _
      have : up c + up (flip c) = 0 := by rcases hc with rfl | rfl <;> rfl
      have e5 : h + up c + up (flip c) = h := by omega
      rw [e5]
    rw [e3, e4]
    have e6 : hts h (c :: r) = h :: hts (h + up c) r := rfl
    have e7 : ∃ t, hts (h + up c) r = (h + up c) :: t := by
      cases r with
      | nil => exact ⟨[], rfl⟩
      | cons x r => exact ⟨_, rfl⟩
    obtain ⟨t, e7⟩ := e7
    rw [e6, e7]
    simp
theorem whole_back {s : List Nat} (h : whole s = true) : whole (back s) = true ∧ hts 0 (back s) = (hts 0 s).reverse := by
  obtain ⟨h1, h2, h3⟩ := whole_iff.mp h
  have e := hts_back h1 0
  rw [h3] at e
  have e : hts 0 (back s) = (hts 0 s).reverse := e
  refine ⟨whole_iff.mpr ⟨back_brack h1, ?_, by rw [total_back h1, h3]; rfl⟩, e⟩
  rw [e]
  intro y hy
  exact h2 y (List.mem_reverse.mp hy)
theorem most_is : ∀ (r : List Int) (m : Int), (∀ y ∈ m :: r, y ≤ most m r) ∧ most m r ∈ m :: r
  | [], m => ⟨fun y hy => by
      rw [List.mem_singleton] at hy
      rw [hy]
      exact Int.le_refl m, List.mem_singleton.mpr rfl⟩
  | x :: r, m => by
    show (∀ y ∈ m :: x :: r, y ≤ most (if m < x then x else m) r) ∧ most (if m < x then x else m) r ∈ m :: x :: r
    by_cases h : m < x
    · rw [if_pos h]
      obtain ⟨h1, h2⟩ := most_is r x
      refine ⟨fun y hy => ?_, List.mem_cons_of_mem _ h2⟩
      rcases List.mem_cons.mp hy with rfl | hy
      · have := h1 x List.mem_cons_self
        omega
      · exact h1 y hy
    · rw [if_neg h]
      obtain ⟨h1, h2⟩ := most_is r m
      refine ⟨fun y hy => ?_, ?_⟩
      · rcases List.mem_cons.mp hy with rfl | hy
        · exact h1 _ List.mem_cons_self
        · rcases List.mem_cons.mp hy with rfl | hy
          · have := h1 m List.mem_cons_self
            omega
          · exact h1 y (List.mem_cons_of_mem _ hy)
      · rcases List.mem_cons.mp h2 with h2 | h2
        · rw [h2]
          exact List.mem_cons_self
        · exact List.mem_cons_of_mem _ (List.mem_cons_of_mem _ h2)
theorem most_same {m n : Int} {r t : List Int} (h : ∀ y, y ∈ m :: r ↔ y ∈ n :: t) : most m r = most n t := by
  obtain ⟨h1, h2⟩ := most_is r m
  obtain ⟨h3, h4⟩ := most_is t n
  have := h1 _ ((h _).mpr h4)
  have := h3 _ ((h _).mp h2)
  omega
theorem hts_head (h : Int) (s : List Nat) : hts h s = h :: (hts h s).tail := by
  cases s <;> rfl
theorem depth_back {s : List Nat} (h : whole s = true) : most 0 (hts 0 (back s)).tail = most 0 (hts 0 s).tail := by
  apply most_same
  intro y
  rw [← hts_head, ← hts_head, (whole_back h).2, List.mem_reverse]
theorem total_cons (c : Nat) (r : List Nat) : total (c :: r) = up c + total r := by
  unfold total
  rw [List.map_cons, List.sum_cons]
theorem hts_get (s : List Nat) (h : Int) (k : Nat) (hk : k ≤ s.length) : (hts h s)[k]? = some (h + total (s.take k)) := by
  induction s generalizing h k with
  | nil =>
    have : k = 0 := by simpa using hk
    subst this
    simp [hts, total]
  | cons c r ih =>
    cases k with
    | zero => simp [hts, total]
    | succ k =>
      rw [List.length_cons] at hk
      show (h :: hts (h + up c) r)[k + 1]? = _
      rw [List.getElem?_cons_succ, ih (h + up c) k (by omega), List.take_succ_cons, total_cons]
      congr 1
      omega
theorem total_count {s : List Nat} (h : brack s = true) : total s = (s.count 40 : Nat) - (s.count 41 : Nat) := by
  induction s with
  | nil => rfl
  | cons c r ih =>
    rw [brack_cons, Bool.and_eq_true] at h
    have hc : c = 40 ∨ c = 41 := by simpa using h.1
    rw [total_cons, ih h.2]
    rcases hc with rfl | rfl
    · have e : up 40 = 1 := rfl
      simp [e]
      omega
    · have e : up 41 = -1 := rfl
      simp [e]
      omega
theorem brack_take {s : List Nat} (h : brack s = true) (k : Nat) : brack (s.take k) = true := by
  unfold brack
  rw [List.all_eq_true]
  intro c hc
  have := brack_mem h (List.mem_of_mem_take hc)
  simpa using this
theorem at_neg {α : Type} {xs : List α} {k : Nat} (h : k < xs.length) : at? xs (-1 - (k : Int)) = xs.reverse[k]? := by
  unfold at? ix
  rw [if_neg (by omega), if_pos (by omega), List.getElem?_reverse h]
  have e : (-1 - (k : Int) + (xs.length : Int)).toNat = xs.length - 1 - k := by omega
  show (some (-1 - (k : Int) + (xs.length : Int)).toNat).bind _ = _
  rw [e]
  rfl
end Bk
end
/-! BkPart -/
section
set_option linter.all false
set_option autoImplicit false
set_option maxRecDepth 100000
/-! BkPart: partner; sorting of numbers -/
namespace Bk
theorem wholeF_app {a : List Nat} : ∀ {n : Nat} {t : List Nat}, wholeF n a = true → ∀ m : Nat, wholeF (n + m) (a ++ t) = wholeF m t := by
  induction a with
  | nil =>
    intro n t h m
    unfold wholeF at h
    have : n = 0 := by simpa using h
    subst this
    rw [Nat.zero_add]
    rfl
  | cons c r ih =>
    intro n t h m
    unfold wholeF at h
    show wholeF (n + m) (c :: (r ++ t)) = _
    unfold wholeF
    by_cases k : c = 40
    · rw [if_pos k] at h ⊢
      have e : n + m + 1 = n + 1 + m := by omega
      rw [e, ih h m]
      cases t <;> rfl
    · rw [if_neg k] at h ⊢
      by_cases k2 : c = 41
      · rw [if_pos k2] at h ⊢
        cases n with
        | zero => cases h
        | succ n =>
          have e : n + 1 + m = n + m + 1 := by omega
          rw [e]
          show wholeF (n + m) (r ++ t) = _
          rw [ih h m]
          cases t <;> rfl
      · rw [if_neg k2] at h
        cases h
theorem whole_app {a t : List Nat} (h : whole a = true) (m : Nat) : wholeF m (a ++ t) = wholeF m t := by
  have := wholeF_app (t := t) h m
  rw [Nat.zero_add] at this
  exact this
theorem whole_cat {a b : List Nat} (h : whole a = true) (h2 : whole b = true) : whole (a ++ b) = true := (whole_app h 0).trans h2
theorem whole_pair {b : List Nat} (h : whole b = true) : whole (40 :: b ++ [41]) = true := by
  show wholeF 1 (b ++ [41]) = true
  rw [whole_app h 1]
  rfl
theorem whole_total {s : List Nat} (h : whole s = true) : total s = 0 := (whole_iff.mp h).2.2
/-! ### the pieces of a row -/
def seg (s : List Nat) (i j : Nat) : List Nat := (s.take j).drop i
theorem take_open {s : List Nat} {o k : Nat} {c : Nat} (h : s[o]? = some c) (hk : o < k) : s.take k = s.take o ++ c :: seg s (o + 1) k := by
  have e1 : (s.take k).take o = s.take o := by rw [List.take_take, Nat.min_eq_left (by omega)]
  have e2 : (s.take k)[o]? = some c := by rw [List.getElem?_take, if_pos hk, h]
  obtain ⟨hl, e3⟩ := List.getElem?_eq_some_iff.mp e2
  have e4 : (s.take k).drop o = c :: (s.take k).drop (o + 1) := by
    rw [List.drop_eq_getElem_cons hl, e3]
  unfold seg
  rw [← e4, ← e1, List.take_append_drop]
theorem seg_wrap {s : List Nat} {i o k : Nat} (hi : i ≤ o) (hk : o < k) (h1 : s[o]? = some 40) (h2 : s[k]? = some 41) : seg s i (k + 1) = seg s i o ++ (40 :: seg s (o + 1) k ++ [41]) := by
  have e1 : s.take (k + 1) = s.take k ++ [41] := by
    rw [List.take_add_one, h2]
    rfl
  have ho : o < s.length := by
    obtain ⟨h, _⟩ := List.getElem?_eq_some_iff.mp h1
    exact h
  show (s.take (k + 1)).drop i = _
  rw [e1, take_open h1 hk, List.append_assoc, List.drop_append_of_le_length (by rw [List.length_take]; omega)]
  rfl
def base : List Nat → Nat
  | [] => 0
  | o :: _ => o + 1
/-- what stands open at place k: the last one first -/
def Stk (s : List Nat) : Nat → List Nat → Prop
  | k, [] => whole (seg s 0 k) = true
  | k, o :: r => whole (seg s (o + 1) k) = true ∧ o < k ∧ s[o]? = some 40 ∧ Stk s o r
theorem Stk.seg {s : List Nat} {k : Nat} : ∀ {l : List Nat}, Stk s k l → whole (seg s (base l) k) = true
  | [], h => h
  | _ :: _, h => h.1
theorem Stk.base_le {s : List Nat} {k : Nat} : ∀ {l : List Nat}, Stk s k l → base l ≤ k
  | [], _ => Nat.zero_le _
  | _ :: _, h => h.2.1
theorem Stk.total {s : List Nat} : ∀ {l : List Nat} {k : Nat}, Stk s k l → total (s.take k) = l.length
  | [], k, h => whole_total h
  | o :: r, k, h => by
    obtain ⟨h1, h2, h3, h4⟩ := h
    rw [take_open h3 h2, total_append, total_cons, h4.total, whole_total h1]
    show ((r.length : Nat) : Int) + (1 + 0) = ((r.length + 1 : Nat) : Int)
    omega
theorem Stk.shut {s : List Nat} {k o : Nat} {r : List Nat} (h : Stk s k (o :: r)) (hk : s[k]? = some 41) : Stk s (k + 1) r := by
  obtain ⟨h1, h2, h3, h4⟩ := h
  have e : whole (Bk.seg s (base r) (k + 1)) = true := by
    rw [seg_wrap h4.base_le h2 h3 hk]
    exact whole_cat h4.seg (whole_pair h1)
  cases r with
  | nil => exact e
  | cons o' r' => exact ⟨e, by have := h4.2.1; omega, h4.2.2.1, h4.2.2.2⟩
/-- a goes with b -/
def Match (s : List Nat) (a b : Nat) : Prop := ∃ lo hi, ((a = lo ∧ b = hi) ∨ (a = hi ∧ b = lo)) ∧ lo < hi ∧ s[lo]? = some 40 ∧ s[hi]? = some 41 ∧ whole (seg s (lo + 1) hi) = true
/-! ### the dict -/
theorem sameKey_int (a b : Int) : sameKey (.int a) (.int b) = (a == b) := rfl
theorem sameKey_true {k : D} {a : Int} (h : sameKey k (.int a) = true) : k = .int a := by
  cases k with
  | int i =>
    have : i = a := by simpa [sameKey] using h
    rw [this]
  | _ => cases h
theorem dget_put (kvs : List (D × D)) (a b : Int) (v : D) : dget (dput kvs (.int a) v) (.int b) = if a = b then some v else dget kvs (.int b) := by
  unfold dput dget
  by_cases h : (kvs.any fun kv => sameKey kv.1 (.int a)) = true
  · rw [if_pos h]
    have key : ∀ l : List (D × D), ((l.map fun kv => if sameKey kv.1 (.int a) = true then (kv.1, v) else kv).find? fun kv => sameKey kv.1 (.int b)).map (·.2) = if a = b ∧ (l.any fun kv => sameKey kv.1 (.int a)) = true then some v else (l.find? fun kv => sameKey kv.1 (.int b)).map (·.2) := by
      intro l
      induction l with
      | nil => simp
      | cons x r ih =>
        rw [List.map_cons, List.find?_cons, List.find?_cons, List.any_cons]
        obtain ⟨x1, x2⟩ := x
        cases q : sameKey x1 (.int a) with
        | true =>
          obtain rfl := sameKey_true q
          by_cases hb : a = b
          · subst hb
            simp [sameKey_int]
          · have : (a == b) = false := by simpa using hb
            simp only [sameKey_int, beq_self_eq_true, if_true, this]
            rw [ih]
            simp [hb]
        | false =>
          cases q2 : sameKey x1 (.int b) with
          | true =>
            obtain rfl := sameKey_true q2
            have hb : ¬ a = b := fun z => by
              subst z
              rw [q] at q2
              cases q2
            simp [q, sameKey_int, hb]
          | false =>
            simp only [q, q2, Bool.false_eq_true, if_false, Bool.false_or]
            rw [ih]
    rw [key]
    by_cases hab : a = b
    · rw [if_pos ⟨hab, h⟩, if_pos hab]
    · rw [if_neg fun z => hab z.1, if_neg hab]
  · rw [if_neg h]
    have h' : ∀ x ∈ kvs, sameKey x.1 (.int a) = false := by
      intro x hx
      cases q : sameKey x.1 (.int a) with
      | false => rfl
      | true => exact absurd (List.any_eq_true.mpr ⟨x, hx, q⟩) h
    rw [List.find?_append]
    by_cases hab : a = b
    · subst hab
      have : (kvs.find? fun kv => sameKey kv.1 (.int a)) = none := by
        rw [List.find?_eq_none]
        intro x hx
        rw [h' x hx]
        exact Bool.false_ne_true
      rw [this]
      simp [sameKey_int]
    · rw [if_neg hab]
      have e : (a == b) = false := by simpa using hab
      have : ([(D.int a, v)].find? fun kv => sameKey kv.1 (.int b)) = none := by
        simp [sameKey_int, hab]
      rw [this]
      cases (kvs.find? fun kv => sameKey kv.1 (.int b)) <;> rfl
theorem dput_len (kvs : List (D × D)) (k v : D) : (dput kvs k v).length ≤ kvs.length + 1 := by
  unfold dput
  split
  · rw [List.length_map]
    omega
  · rw [List.length_append]
    exact Nat.le_refl _
/-! ### partner -/
def PInv (s : List Nat) (p : Int) (k : Nat) (η : Env) : Prop := ∃ (l : List Nat) (kvs : List (D × D)) (z4 z5 : Option S), η = [some (.dat (.str s)), some (.dat (.int p)), some (.own (l.reverse.map fun o : Nat => D.int (o : Int))), some (.dic kvs), z4, z5] ∧
  Stk s k l ∧ kvs.length ≤ 2 * k ∧ ∀ j : Nat, j < k → j ∈ l ∨ ∃ q : Nat, dget kvs (.int j) = some (.int q) ∧ Match s j q
theorem partner_turn {s : List Nat} (p : Int) (hw : whole s = true) (hl : s.length ≤ 1000) {k c : Nat} (hc : s[k]? = some c) {η : Env} (h : PInv s p k η) :
    ∃ η1 η2, gPair 4 5 (.tup [.int (k : Int), .str [c]]) η = .ok η1 ∧ (b_partner_1 η1 = .next η2 ∨ b_partner_1 η1 = .ct η2) ∧ PInv s p (k + 1) η2 := by
  obtain ⟨l, kvs, z4, z5, rfl, hS, hk, hj⟩ := h
  obtain ⟨hkl, hck⟩ := List.getElem?_eq_some_iff.mp hc
  have hb := (whole_iff.mp hw).1
  have hc2 := brack_mem hb (List.mem_of_getElem? hc)
  have hlen : l.length ≤ k := by
    have h1 := hS.total
    have h2 : ∀ t : List Nat, total t ≤ t.length := by
      intro t
      induction t with
      | nil => exact Int.le_refl 0
      | cons x r ih =>
        rw [total_cons, List.length_cons]
        have : up x ≤ 1 := by
          unfold up
          split <;> omega
        omega
    have h3 := h2 (s.take k)
    rw [h1, List.length_take] at h3
    omega
  rcases hc2 with rfl | rfl
  · refine ⟨_, [some (.dat (.str s)), some (.dat (.int p)), some (.own ((k :: l).reverse.map fun o : Nat => D.int (o : Int))), some (.dic kvs), some (.dat (.int k)), some (.dat (.str [40]))], rfl, .inl ?_, k :: l, kvs, _, _, rfl, ?_, by omega, fun j hjk => ?_⟩
    · have h1 : l.length < lim := by
        show _ < 16777216
        omega
      simp [b_partner_1, eq_open, h1]
    · refine ⟨?_, Nat.lt_succ_self k, hc, hS⟩
      have : seg s (k + 1) (k + 1) = [] := by
        unfold seg
        apply List.drop_of_length_le
        rw [List.length_take]
        omega
      rw [this]
      rfl
    · by_cases hjk2 : j = k
      · exact .inl (by rw [hjk2]; exact List.mem_cons_self)
      · rcases hj j (by omega) with h | h
        · exact .inl (List.mem_cons_of_mem _ h)
        · exact .inr h
  · cases l with
    | nil =>
      exfalso
      have h1 : whole (s.take k) = true := hS
      have h2 : s = s.take k ++ 41 :: s.drop (k + 1) := by
        have : s.drop k = 41 :: s.drop (k + 1) := by rw [List.drop_eq_getElem_cons hkl, hck]
        rw [← this, List.take_append_drop]
      have h3 : wholeF 0 s = wholeF 0 (41 :: s.drop (k + 1)) := by
        have := whole_app (t := 41 :: s.drop (k + 1)) h1 0
        rw [← h2] at this
        exact this
      have h4 : wholeF 0 s = true := hw
      rw [h3] at h4
      cases h4
    | cons o r =>
      have hM : Match s o k := ⟨o, k, .inl ⟨rfl, rfl⟩, hS.2.1, hS.2.2.1, hc, hS.1⟩
      have hM2 : Match s k o := ⟨o, k, .inr ⟨rfl, rfl⟩, hS.2.1, hS.2.2.1, hc, hS.1⟩
      have hok := hS.2.1
      have d1 := dput_len kvs (.int k) (.int o)
      have d2 := dput_len (dput kvs (.int k) (.int o)) (.int o) (.int k)
      refine ⟨_, [some (.dat (.str s)), some (.dat (.int p)), some (.own (r.reverse.map fun o : Nat => D.int (o : Int))), some (.dic (dput (dput kvs (.int k) (.int o)) (.int o) (.int k))), some (.dat (.int k)), some (.dat (.str [41]))], rfl, .inl ?_, r, _, _, _, rfl, hS.shut hc, by omega, fun j hjk => ?_⟩
      · have h1 : kvs.length < lim := by
          show _ < 16777216
          omega
        have h2 : (dput kvs (.int k) (.int o)).length < lim := by
          show _ < 16777216
          omega
        have h3 : dget (dput kvs (.int k) (.int o)) (.int k) = some (.int o) := by rw [dget_put, if_pos rfl]
        simp [b_partner_1, eq_open, h1, h2, h3, keyD]
      · rw [dget_put, dget_put]
        by_cases j1 : j = o
        · subst j1
          exact .inr ⟨k, by simp, hM⟩
        · by_cases j2 : j = k
          · subst j2
            have : ¬ ((o : Int) = j) := by omega
            exact .inr ⟨o, by simp [this], hM2⟩
          · have e1 : ¬ ((o : Int) = j) := by omega
            have e2 : ¬ ((k : Int) = j) := by omega
            rw [if_neg e1, if_neg e2]
            rcases hj j (by omega) with h | h
            · rcases List.mem_cons.mp h with h | h
              · exact absurd h j1
              · exact .inl h
            · exact .inr h
theorem enum_get {s : List Nat} {i : Nat} {d : D} (h : (enumL 0 (signs s))[i]? = some d) : ∃ c, s[i]? = some c ∧ d = .tup [.int (i : Int), .str [c]] := by
  have e : ∀ (k : Nat) (ds : List D) (i : Nat), (enumL k ds)[i]? = (ds[i]?).map fun d => .tup [.int ((k + i : Nat) : Int), d] := by
    intro k ds
    induction ds generalizing k with
    | nil => intro i; simp [enumL]
    | cons x r ih =>
      intro i
      cases i with
      | zero => simp [enumL]
      | succ i =>
        have := ih (k + 1) i
        have e2 : k + 1 + i = k + (i + 1) := by omega
        rw [e2] at this
        simpa [enumL] using this
  rw [e, Nat.zero_add] at h
  unfold signs at h
  rw [List.getElem?_map] at h
  cases z : s[i]? with
  | none =>
    rw [z] at h
    cases h
  | some c =>
    rw [z] at h
    cases h
    exact ⟨c, rfl, rfl⟩
theorem enum_len (k : Nat) (ds : List D) : (enumL k ds).length = ds.length := by
  induction ds generalizing k with
  | nil => rfl
  | cons x r ih =>
    show (enumL (k + 1) r).length + 1 = _
    rw [ih]
    rfl
theorem partner_of {s : List Nat} (hw : whole s = true) (hl : s.length ≤ 1000) {p : Nat} (hp : p < s.length) : ∃ q : Nat, φ_partner [.str s, .int p] = .ok (.int q) ∧ Match s p q := by
  obtain ⟨η', e1, e2⟩ := loop_inv (g := gPair 4 5) (b := b_partner_1) (PInv s p) (enumL 0 (signs s)) 0 [some (.dat (.str s)), some (.dat (.int p)), some (.own []), some (.dic []), none, none]
    ⟨[], [], none, none, rfl, rfl, by simp, fun j hj => absurd hj (Nat.not_lt_zero j)⟩ (fun i d η hi hP => by
      obtain ⟨c, hc, rfl⟩ := enum_get hi
      rw [Nat.zero_add] at hP ⊢
      exact partner_turn p hw hl hc hP)
  have hlen : (enumL 0 (signs s)).length = s.length := by
    rw [enum_len]
    simp [signs]
  rw [hlen, Nat.zero_add] at e2
  obtain ⟨l, kvs, z4, z5, rfl, hS, hk, hj⟩ := e2
  have hl0 : l = [] := by
    have h1 := hS.total
    rw [List.take_of_length_le (Nat.le_refl _), whole_total hw] at h1
    have : l.length = 0 := by omega
    exact List.length_eq_zero_iff.mp this
  subst hl0
  rcases hj p hp with h | ⟨q, h1, h2⟩
  · cases h
  · refine ⟨q, ?_, h2⟩
    refine run_of (g := g_partner) ?_
    have hll : s.length ≤ lim := by
      show _ ≤ 16777216
      omega
    have a1 : (0 : Int) ≤ p := by omega
    have a2 : (p : Int) < s.length := by omega
    simp at e1
    simp [g_partner, hll, a1, a2, e1, h1, keyD]
theorem partner_bad {s : List Nat} (hl : s.length ≤ 1000) {p : Int} (hp : p < 0 ∨ (s.length : Int) ≤ p) : φ_partner [.str s, .int p] = .raise .noPlace := by
  refine run_raise (g := g_partner) ?_
  have hll : s.length ≤ lim := by
    show _ ≤ 16777216
    omega
  by_cases h : 0 ≤ p
  · have h2 : ¬ p < s.length := by omega
    simp [g_partner, hll, h, h2]
  · simp [g_partner, hll, h]
theorem l_partner_bad {s : List Nat} (hl : s.length ≤ 1000) {p : Int} (hp : p < 0 ∨ (s.length : Int) ≤ p) : φ_l_partner [.str s, .int p] = .ok .none := by
  refine run_of (g := g_l_partner) ?_
  simp [g_l_partner, sTryAs, partner_bad hl hp]
/-! ### sorting -/
theorem sort_two (a b : Int) : ∃ lo hi, bSorted (.lst [.int a, .int b]) = .ok (.lst [.int lo, .int hi]) ∧ ((lo = a ∧ hi = b ∧ a ≤ b) ∨ (lo = b ∧ hi = a ∧ b < a)) := by
  have hs : sortable [D.int a, D.int b] = true := rfl
  have e : bSorted (.lst [.int a, .int b]) = .ok (.lst ([D.int a, D.int b].mergeSort D.le)) := by
    show (if sortable [D.int a, D.int b] = true then Res.ok (D.lst ([D.int a, D.int b].mergeSort D.le)) else .bad) = _
    rw [if_pos hs]
  rw [e]
  by_cases h : a ≤ b
  · refine ⟨a, b, ?_, .inl ⟨rfl, rfl, h⟩⟩
    have : [D.int a, D.int b].mergeSort D.le = [.int a, .int b] := by
      have : D.le (.int a) (.int b) = true := by
        simp [D.le, D.lt]
        omega
      simp [List.mergeSort, List.MergeSort.Internal.splitInTwo, List.merge, this]
    rw [this]
  · refine ⟨b, a, ?_, .inr ⟨rfl, rfl, by omega⟩⟩
    have : [D.int a, D.int b].mergeSort D.le = [.int b, .int a] := by
      have : D.le (.int a) (.int b) = false := by
        simp [D.le, D.lt]
        omega
      simp [List.mergeSort, List.MergeSort.Internal.splitInTwo, List.merge, this]
    rw [this]
end Bk
end
/-! T09 -/
section
set_option linter.all false
set_option autoImplicit false
set_option maxRecDepth 100000
namespace K09
open Bk
def c_law_1 : E := (eComp [5] (iRange1 (eUn bLen (eVar 2))) (gName 5) (tAnd (tE (eBin dEq (eBin dIdx (eVar 2) (eVar 5)) (eC (.str [40])))) (tV (eCall φ_l_is_whole [(eBin dAdd (eSlice (eVar 2) (some (eBin dAdd (eVar 5) (eC (.int 1)))) none) (eSlice (eVar 2) none (some (eVar 5))))]))) (eVar 5))
def b_law_1 : St := (sSeq (sSet 2 (eCall φ_l_drawn [(eVar 1)]))
  (sSeq (sSet 3 (eCall φ_turn_of [(eVar 2)]))
  (sSeq (sSet 4 c_law_1)
  (sSeq (sIf (tOr (tNot (tV (eCall φ_l_whole [(eVar 3)]))) (tE (eBin dNe (eVar 4) (eLst [(eVar 3)])))) (sRet (eC (.bool false))) sSkip)
  (sIf (tE (eBin dNe (eCall φ_turn_of [(eBin dAdd (eSlice (eVar 2) (some (eC (.int 1))) none) (eSlice (eVar 2) none (some (eC (.int 1)))))]) (eBin dMod (eBin dSub (eVar 3) (eC (.int 1))) (eUn bLen (eVar 2))))) (sRet (eC (.bool false))) sSkip)))))
def g_law : St := (sSeq (sFor (iAny (eSlice (eVar 0) none (some (eC (.int 6))))) (gName 1) b_law_1)
  (sRet (eBin dEq (eCall φ_turn_of [(eC (.str [40]))]) (eC (.int 0)))))
def φ_law : List D → Res D := runDef 6 g_law
end K09
end
/-! M09 -/
section
set_option linter.all false
set_option autoImplicit false
set_option maxRecDepth 100000
/-! M09: k09's mathematics: of the turns of a row with one more that opens just one is a bracket with a whole row behind it -/
namespace K09
open Bk
def rot (r : List Nat) (k : Nat) : List Nat := r.drop k ++ r.take k
def good (r : List Nat) (k : Nat) : Bool := decide (r[k]? = some 40) && whole (r.drop (k + 1) ++ r.take k)
def H (r : List Nat) (j : Nat) : Int := total (r.take j)
theorem H_drop (r : List Nat) {i j : Nat} : total ((r.drop i).take j) = H r (i + j) - H r i := by
  unfold H
  have : r.take (i + j) = r.take i ++ (r.drop i).take j := List.take_add
  rw [this, total_append]
  omega
theorem H_succ {r : List Nat} {k c : Nat} (h : r[k]? = some c) : H r (k + 1) = H r k + up c := by
  unfold H
  rw [List.take_add_one, h, total_append]
  show total (r.take k) + total [c] = _
  have : total [c] = up c := by
    rw [total_cons]
    show up c + 0 = _
    omega
  rw [this]
theorem low_all {s : List Nat} : (∀ y ∈ hts 0 s, 0 ≤ y) ↔ ∀ j, j ≤ s.length → 0 ≤ total (s.take j) := by
  constructor
  · intro h j hj
    have := hts_get s 0 j hj
    rw [Int.zero_add] at this
    exact h _ (List.mem_of_getElem? this)
  · intro h y hy
    obtain ⟨j, hj⟩ := List.getElem?_of_mem hy
    have hl : j < (hts 0 s).length := by
      obtain ⟨l, _⟩ := List.getElem?_eq_some_iff.mp hj
      exact l
    rw [hts_len] at hl
    have := hts_get s 0 j (by omega)
    rw [hj, Int.zero_add] at this
    rw [Option.some.inj this]
    exact h j (by omega)
/-- the last of the lowest places -/
def lastLow (r : List Nat) (k : Nat) : Prop := k < r.length ∧ (∀ j, k < j → j < r.length → H r k < H r j) ∧ ∀ j, j ≤ k → H r k ≤ H r j
theorem brack_rest {r : List Nat} (hb : brack r = true) (k : Nat) : brack (r.drop (k + 1) ++ r.take k) = true := by
  unfold brack at hb ⊢
  rw [List.all_eq_true] at hb ⊢
  intro c hc
  rcases List.mem_append.mp hc with h | h
  · exact hb c (List.mem_of_mem_drop h)
  · exact hb c (List.mem_of_mem_take h)
theorem good_iff {r : List Nat} (hb : brack r = true) (ht : total r = 1) (k : Nat) : good r k = true ↔ lastLow r k := by
  have hlen : H r r.length = 1 := by
    unfold H
    rw [List.take_of_length_le (Nat.le_refl _), ht]
  have hz : H r 0 = 0 := rfl
  unfold good lastLow
  rw [Bool.and_eq_true, decide_eq_true_eq]
  constructor
  · rintro ⟨h40, hw⟩
    obtain ⟨hk, _⟩ := List.getElem?_eq_some_iff.mp h40
    have h1 := H_succ h40
    have u40 : up 40 = 1 := rfl
    obtain ⟨_, hlow, _⟩ := whole_iff.mp hw
    rw [low_all] at hlow
    have hlen2 : (r.drop (k + 1) ++ r.take k).length = r.length - 1 := by
      rw [List.length_append, List.length_drop, List.length_take]
      omega
    refine ⟨hk, fun j h2 h3 => ?_, fun j h2 => ?_⟩
    · have := hlow (j - (k + 1)) (by omega)
      rw [List.take_append_of_le_length (by rw [List.length_drop]; omega), H_drop] at this
      have e : k + 1 + (j - (k + 1)) = j := by omega
      rw [e] at this
      omega
    · have := hlow (r.length - (k + 1) + j) (by omega)
      have e : r.length - (k + 1) + j = (r.drop (k + 1)).length + j := by rw [List.length_drop]
      rw [e, List.take_length_add_append, total_append, List.take_take, Nat.min_eq_left h2] at this
      have e2 : total (r.drop (k + 1)) = H r r.length - H r (k + 1) := by
        have := H_drop r (i := k + 1) (j := r.length - (k + 1))
        rw [List.take_of_length_le (by rw [List.length_drop]; omega)] at this
        rw [this]
        have e3 : k + 1 + (r.length - (k + 1)) = r.length := by omega
        rw [e3]
      have e4 : total (r.take j) = H r j := rfl
      omega
  · rintro ⟨hk, h1, h2⟩
    have hc : r[k]? = some r[k] := List.getElem?_eq_getElem hk
    have hcb := brack_mem hb (List.mem_of_getElem? hc)
    have h3 := H_succ hc
    have h0 := h2 0 (Nat.zero_le _)
    have h40 : r[k] = 40 := by
      rcases hcb with h | h
      · exact h
      · exfalso
        rw [h] at h3
        have u41 : up 41 = -1 := rfl
        by_cases hl : k + 1 < r.length
        · have := h1 (k + 1) (by omega) hl
          omega
        · have : k + 1 = r.length := by omega
          rw [this] at h3
          omega
    rw [h40] at hc h3
    have u40 : up 40 = 1 := rfl
    have e2 : total (r.drop (k + 1)) = H r r.length - H r (k + 1) := by
      have := H_drop r (i := k + 1) (j := r.length - (k + 1))
      rw [List.take_of_length_le (by rw [List.length_drop]; omega)] at this
      rw [this]
      have e3 : k + 1 + (r.length - (k + 1)) = r.length := by omega
      rw [e3]
    refine ⟨hc, whole_iff.mpr ⟨brack_rest hb k, low_all.mpr fun j hj => ?_, ?_⟩⟩
    · rw [List.length_append, List.length_drop, List.length_take] at hj
      by_cases hj2 : j ≤ r.length - (k + 1)
      · rw [List.take_append_of_le_length (by rw [List.length_drop]; omega), H_drop]
        by_cases hj3 : k + 1 + j < r.length
        · have := h1 (k + 1 + j) (by omega) hj3
          omega
        · have : k + 1 + j = r.length := by omega
          rw [this]
          omega
      · have e : j = (r.drop (k + 1)).length + (j - (r.length - (k + 1))) := by
          rw [List.length_drop]
          omega
        rw [e, List.take_length_add_append, total_append, List.take_take, Nat.min_eq_left (by omega)]
        have := h2 (j - (r.length - (k + 1))) (by omega)
        have e4 : total (r.take (j - (r.length - (k + 1)))) = H r (j - (r.length - (k + 1))) := rfl
        omega
    · rw [total_append]
      have e4 : total (r.take k) = H r k := rfl
      omega
theorem low_exists (f : Nat → Int) : ∀ n, 0 < n → ∃ k, k < n ∧ (∀ j, k < j → j < n → f k < f j) ∧ ∀ j, j ≤ k → f k ≤ f j
  | 0, h => absurd h (Nat.lt_irrefl _)
  | 1, _ => ⟨0, by omega, fun j _ _ => by omega, fun j hj => by
      have : j = 0 := by omega
      rw [this]
      exact Int.le_refl _⟩
  | n + 2, _ => by
    obtain ⟨k, h1, h2, h3⟩ := low_exists f (n + 1) (by omega)
    by_cases h : f k < f (n + 1)
    · refine ⟨k, by omega, fun j hj hj2 => ?_, h3⟩
      by_cases e : j = n + 1
      · rw [e]
        exact h
      · exact h2 j hj (by omega)
    · refine ⟨n + 1, by omega, fun j _ _ => by omega, fun j hj => ?_⟩
      by_cases e : j = n + 1
      · rw [e]
        exact Int.le_refl _
      · by_cases e2 : j ≤ k
        · have := h3 j e2
          omega
        · have := h2 j (by omega) (by omega)
          omega
theorem one_good {r : List Nat} (hb : brack r = true) (ht : total r = 1) : ∃ k, k < r.length ∧ good r k = true ∧ ∀ j, good r j = true → j = k := by
  have hpos : 0 < r.length := by
    cases r with
    | nil => cases ht
    | cons c r => exact Nat.zero_lt_succ _
  obtain ⟨k, h1, h2, h3⟩ := low_exists (H r) r.length hpos
  refine ⟨k, h1, (good_iff hb ht k).mpr ⟨h1, h2, h3⟩, fun j hj => ?_⟩
  obtain ⟨g1, g2, g3⟩ := (good_iff hb ht j).mp hj
  rcases Nat.lt_trichotomy j k with h | h | h
  · have := g2 k h h1
    have := h3 j (by omega)
    omega
  · exact h
  · have := h2 j h g1
    have := g3 k (by omega)
    omega
theorem good_rot {r : List Nat} {k : Nat} (hk : k < r.length) : good r k = true ↔ ∃ v, rot r k = 40 :: v ∧ whole v = true := by
  have e : rot r k = r[k] :: (r.drop (k + 1) ++ r.take k) := by
    unfold rot
    rw [List.drop_eq_getElem_cons hk]
    rfl
  unfold good
  rw [Bool.and_eq_true, decide_eq_true_eq, List.getElem?_eq_getElem hk, e]
  constructor
  · rintro ⟨h1, h2⟩
    rw [Option.some.inj h1]
    exact ⟨_, rfl, h2⟩
  · rintro ⟨v, h1, h2⟩
    rw [List.cons.injEq] at h1
    exact ⟨by rw [h1.1], by rw [h1.2]; exact h2⟩
theorem rot_rot {r : List Nat} {j : Nat} (hj : j + 1 ≤ r.length) : rot (rot r 1) j = rot r (j + 1) := by
  unfold rot
  rw [List.drop_append_of_le_length (by rw [List.length_drop]; omega), List.take_append_of_le_length (by rw [List.length_drop]; omega), List.drop_drop, List.append_assoc]
  have e : r.take (j + 1) = r.take 1 ++ (r.drop 1).take j := by
    rw [Nat.add_comm j 1]
    exact List.take_add
  rw [e, Nat.add_comm 1 j]
theorem rot_info {r : List Nat} (hb : brack r = true) (k : Nat) : brack (rot r k) = true ∧ total (rot r k) = total r ∧ (rot r k).length = r.length := by
  refine ⟨?_, ?_, ?_⟩
  · unfold brack at hb ⊢
    rw [List.all_eq_true] at hb ⊢
    intro c hc
    unfold rot at hc
    rcases List.mem_append.mp hc with h | h
    · exact hb c (List.mem_of_mem_drop h)
    · exact hb c (List.mem_of_mem_take h)
  · unfold rot
    have := congrArg total (List.take_append_drop k r)
    rw [total_append] at this
    rw [total_append]
    omega
  · unfold rot
    rw [List.length_append, List.length_drop, List.length_take]
    omega
theorem next_good {r : List Nat} (hb : brack r = true) (ht : total r = 1) {k : Nat} (hk : k < r.length) (h : good r k = true) : good (rot r 1) (if k = 0 then r.length - 1 else k - 1) = true := by
  have hlen := (rot_info hb 1).2.2
  obtain ⟨v, h1, h2⟩ := (good_rot hk).mp h
  by_cases h0 : k = 0
  · rw [if_pos h0]
    refine (good_rot (by omega)).mpr ⟨v, ?_, h2⟩
    rw [rot_rot (by omega)]
    have e : r.length - 1 + 1 = r.length := by omega
    rw [e]
    subst h0
    rw [← h1]
    unfold rot
    rw [List.drop_length, List.take_length, List.drop_zero, List.take_zero, List.append_nil]
    rfl
  · rw [if_neg h0]
    refine (good_rot (by omega)).mpr ⟨v, ?_, h2⟩
    rw [rot_rot (by omega)]
    have e : k - 1 + 1 = k := by omega
    rw [e]
    exact h1
/-! ### turn_of -/
theorem limA {n : Nat} (h : n ≤ 1000) : n ≤ lim := by
  show _ ≤ 16777216
  omega
theorem rest_of {r : List Nat} (hl : r.length ≤ 60) (k : Nat) :
    dCut (.str r) (some ((k : Int) + 1)) none = .ok (.str (r.drop (k + 1))) ∧ dCut (.str r) none (some (k : Int)) = .ok (.str (r.take k)) ∧ dAdd (.str (r.drop (k + 1))) (.str (r.take k)) = .ok (.str (r.drop (k + 1) ++ r.take k)) ∧ (r.drop (k + 1) ++ r.take k).length ≤ 60 + 60 := by
  have e : (k : Int) + 1 = ((k + 1 : Nat) : Int) := by omega
  have h1 : (r.drop (k + 1)).length ≤ r.length := by
    rw [List.length_drop]
    omega
  have h2 : (r.take k).length ≤ r.length := by
    rw [List.length_take]
    omega
  refine ⟨?_, ?_, if_pos (limA (by omega)), by rw [List.length_append]; omega⟩
  · rw [y_cutS, if_pos (limA (by omega)), e, cut_from]
  · rw [y_cutS, if_pos (limA (by omega)), cut_to]
theorem numbers_drop {n i : Nat} (hi : i < n) : (numbers 0 n).drop i = .int (i : Int) :: (numbers 0 n).drop (i + 1) := by
  have h1 : i < (numbers 0 n).length := by
    rw [numbers_len']
    exact hi
  rw [List.drop_eq_getElem_cons h1]
  congr 1
  unfold numbers
  simp
theorem erase_perm : ∀ {l : List Nat} {i x : Nat}, l[i]? = some x → l.Perm (x :: l.eraseIdx i)
  | [], i, x, h => by simp at h
  | a :: l, 0, x, h => by
    have : a = x := by simpa using h
    rw [this]
    exact List.Perm.refl _
  | a :: l, i + 1, x, h => by
    have ih := erase_perm (l := l) (i := i) (x := x) (by simpa using h)
    exact (ih.cons a).trans (List.Perm.swap x a _)
theorem turn_loop {r : List Nat} (hb : brack r = true) (hl : r.length ≤ 60) {k : Nat} (hk : k < r.length) (hg : good r k = true) (hu : ∀ j, good r j = true → j = k) :
    ∀ (m : Nat) (z : Option S), m ≤ k → loop (gName 1) b_turn_of_1 ((numbers 0 r.length).drop (k - m)) [some (.dat (.str r)), z] = .ret (nd k)
  | m, z, hm => by
    have hgt : ∀ i, i < r.length → (numbers 0 r.length).drop i = .int (i : Int) :: (numbers 0 r.length).drop (i + 1) := fun i hi => numbers_drop hi
    have hll : r.length ≤ lim := limA (by omega)
    have step : ∀ i, i < r.length → b_turn_of_1 [some (.dat (.str r)), some (.dat (nd i))] = if good r i then .ret (nd i) else .next [some (.dat (.str r)), some (.dat (nd i))]   := fun i hi => by
      obtain ⟨c1, c2, c3, c4⟩ := rest_of hl i
      have a1 : at? r (i : Int) = some r[i] := by rw [at_nat, List.getElem?_eq_getElem hi]
      have hcb := brack_mem hb (List.getElem_mem hi)
      have hrest := brack_plain (brack_rest hb i)
      have hw := is_whole_of hrest (by omega)
      have hl3 : (r.drop (i + 1) ++ r.take i).length ≤ 120 := by omega
      rw [decide_eq_true hl3, Bool.true_and] at hw
      have hgd : good r i = (decide (r[i] = 40) && whole (r.drop (i + 1) ++ r.take i)) := by
        unfold good
        rw [List.getElem?_eq_getElem hi]
        by_cases q : r[i] = 40
        · simp [q]
        · simp [q]
      rw [hgd]
      have e40 := eq_open (c := r[i]) (by omega)
      generalize r.drop (i + 1) ++ r.take i = W at c3 hw ⊢
      generalize r.drop (i + 1) = W1 at c1 c3
      generalize r.take i = W2 at c2 c3
      generalize r[i] = C at a1 e40 ⊢
      by_cases q : C = 40
      · have q' : (C = 40) = True := eq_true q
        cases hW : whole W with
        | true =>
          rw [hW] at hw
          simp [-y_cutS, -y_addS, b_turn_of_1, hll, a1, e40, q', c1, c2, c3, hw]
        | false =>
          rw [hW] at hw
          simp [-y_cutS, -y_addS, b_turn_of_1, hll, a1, e40, q', c1, c2, c3, hw]
      · simp [b_turn_of_1, hll, a1, e40, q]
    match m with
    | 0 =>
      rw [Nat.sub_zero, hgt k hk]
      refine loop_ret rfl ?_
      show b_turn_of_1 [some (.dat (.str r)), some (.dat (nd k))] = _
      rw [step k hk, if_pos hg]
    | m + 1 =>
      rw [hgt (k - (m + 1)) (by omega)]
      have hng : ¬ good r (k - (m + 1)) = true := fun q => by
        have := hu _ q
        omega
      have e : k - (m + 1) + 1 = k - m := by omega
      rw [e]
      rw [loop_next (η1 := [some (.dat (.str r)), some (.dat (nd (k - (m + 1))))]) rfl (by rw [step _ (by omega), if_neg hng])]
      exact turn_loop hb hl hk hg hu m _ (by omega)
theorem turn_of_of {r : List Nat} (hb : brack r = true) (hl : r.length ≤ 60) {k : Nat} (hk : k < r.length) (hg : good r k = true) (hu : ∀ j, good r j = true → j = k) : φ_turn_of [.str r] = .ok (nd k) := by
  have e := turn_loop hb hl hk hg hu k none (Nat.le_refl _)
  rw [Nat.sub_self, List.drop_zero] at e
  have hll : r.length ≤ lim := limA (by omega)
  have hr : rng1 (.int (r.length : Int)) = .ok (numbers 0 r.length) := rng1_nat r.length (by omega)
  refine run_of (g := g_turn_of) ?_
  simp [g_turn_of, hll, hr, e]
/-! ### the drawn row -/
theorem pops_of {c : Int} {z1 z2 z3 : Option S} : ∀ (m : Nat) (xs : List Nat) (j0 : Nat) (z5 : Option S), m = xs.length → m ≤ 100 → ∃ ys : List Nat, pops 4 [5] (gName 5) e_l_drawn_1 ((numbers 0 (j0 + m)).drop j0) [some (.dat (.int c)), z1, z2, z3, some (.own (xs.map fun x => D.str [x])), z5] = .ok (ys.map fun x => D.str [x]) ∧ ys.Perm xs
  | 0, xs, j0, z5, h, _ => by
    refine ⟨[], ?_, ?_⟩
    · rw [List.drop_of_length_le (by rw [numbers_len']; omega)]
      rfl
    · have : xs = [] := List.length_eq_zero_iff.mp h.symm
      rw [this]
  | m + 1, xs, j0, z5, h, hm => by
    have h1 : j0 < (numbers 0 (j0 + (m + 1))).length := by
      rw [numbers_len']
      omega
    have hd : (numbers 0 (j0 + (m + 1))).drop j0 = .int (j0 : Int) :: (numbers 0 (j0 + 1 + m)).drop (j0 + 1) := by
      have e : j0 + (m + 1) = j0 + 1 + m := by omega
      rw [e]
      exact numbers_drop (by omega)
    obtain ⟨q1, q2⟩ := mix_range (c := c + 13 * j0) (p := 9883) (m := (xs.length : Int)) (by omega)
    have hmix := mix_of (c := c + 13 * j0) (p := 9883) (m := (xs.length : Int)) (by omega) (by omega)
    have hj : (mix (c + 13 * j0) 9883 (xs.length : Int)).toNat < xs.length := by omega
    have hs13 : small 13 := by decide
    obtain ⟨x, hx⟩ : ∃ x, xs[(mix (c + 13 * j0) 9883 (xs.length : Int)).toNat]? = some x := ⟨_, List.getElem?_eq_getElem hj⟩
    have hlen : (xs.eraseIdx (mix (c + 13 * j0) 9883 (xs.length : Int)).toNat).length = m := by
      rw [List.length_eraseIdx, if_pos hj]
      omega
    obtain ⟨ys, e1, e2⟩ := pops_of (c := c) (z1 := z1) (z2 := z2) (z3 := z3) m (xs.eraseIdx (mix (c + 13 * j0) 9883 (xs.length : Int)).toNat) (j0 + 1) z5 hlen.symm (by omega)
    refine ⟨x :: ys, ?_, ?_⟩
    · rw [hd]
      have hfe : e_l_drawn_1 [some (.dat (.int c)), z1, z2, z3, some (.own (xs.map fun x => D.str [x])), some (.dat (.int (j0 : Int)))] = .ok (.int (mix (c + 13 * j0) 9883 (xs.length : Int))) := by
        simp [e_l_drawn_1, y_mulL hs13, hmix]
      show ((gName 5 (.int (j0 : Int)) (wipes [some (.dat (.int c)), z1, z2, z3, some (.own (xs.map fun x => D.str [x])), z5] [5])).calm.bind fun η1 => (e_l_drawn_1 η1).calm.bind _) = _
      show ((e_l_drawn_1 [some (.dat (.int c)), z1, z2, z3, some (.own (xs.map fun x => D.str [x])), some (.dat (.int (j0 : Int)))]).calm.bind _) = _
      rw [hfe, calm_ok, bind_ok]
      show (if 0 ≤ mix (c + 13 * j0) 9883 (xs.length : Int) ∧ mix (c + 13 * j0) 9883 (xs.length : Int) < ((xs.map fun x => D.str [x]).length : Int) ∧ mix (c + 13 * j0) 9883 (xs.length : Int) < 1000000 then _ else _) = _
      rw [List.length_map, if_pos ⟨q1, q2, by omega⟩, List.getElem?_map, hx]
      show ((pops 4 [5] (gName 5) e_l_drawn_1 ((numbers 0 (j0 + 1 + m)).drop (j0 + 1)) [some (.dat (.int c)), z1, z2, z3, some (.own ((xs.map fun x => D.str [x]).eraseIdx (mix (c + 13 * j0) 9883 (xs.length : Int)).toNat)), z5]).bind fun r => .ok (D.str [x] :: r)) = _
      have em : ∀ (l : List Nat) (n : Nat), (l.map fun x => D.str [x]).eraseIdx n = (l.eraseIdx n).map fun x => D.str [x] := by
        intro l
        induction l with
        | nil => intro n; rfl
        | cons a l ih =>
          intro n
          cases n with
          | zero => rfl
          | succ n =>
            show _ :: (l.map fun x => D.str [x]).eraseIdx n = _
            rw [ih]
            rfl
      rw [em, e1]
      rfl
    · have hp : xs.Perm (x :: xs.eraseIdx (mix (c + 13 * j0) 9883 (xs.length : Int)).toNat) := by
        exact erase_perm hx
      exact (e2.cons x).trans hp.symm
theorem total_perm {a b : List Nat} (h : a.Perm b) : total a = total b := by
  induction h with
  | nil => rfl
  | cons x _ ih => rw [total_cons, total_cons, ih]
  | swap x y l =>
    rw [total_cons, total_cons, total_cons, total_cons]
    omega
  | trans _ _ i1 i2 => exact i1.trans i2
theorem brack_perm {a b : List Nat} (h : a.Perm b) (hb : brack b = true) : brack a = true := by
  unfold brack at hb ⊢
  rw [List.all_eq_true] at hb ⊢
  exact fun c hc => hb c (h.mem_iff.mp hc)
theorem total_rep (n : Nat) : total (List.replicate n 40) = n ∧ total (List.replicate n 41) = -(n : Int) := by
  induction n with
  | zero => exact ⟨rfl, rfl⟩
  | succ n ih =>
    rw [List.replicate_succ, List.replicate_succ, total_cons, total_cons, ih.1, ih.2]
    have u40 : up 40 = 1 := rfl
    have u41 : up 41 = -1 := rfl
    omega
theorem flat_rep (n x : Nat) : (List.replicate n [D.str [x]]).flatten = (List.replicate n x).map fun x => D.str [x] := by
  induction n with
  | zero => rfl
  | succ n ih =>
    rw [List.replicate_succ, List.replicate_succ, List.flatten_cons, ih]
    rfl
theorem strs_ones (ys : List Nat) : strsL (ys.map fun x => D.str [x]) = some (ys.map fun x => [x]) := by
  have := strs_map (ys.map fun x => [x])
  rw [List.map_map] at this
  exact this
theorem join_ones (ys : List Nat) (h : ys.length ≤ 1000) : dJoin (.str []) (.lst (ys.map fun x => D.str [x])) = .ok (.str ys) := by
  have := dJoin_map [] (ys.map fun x => [x]) (by
    rw [lenSum_ones, List.length_map]
    show ys.length + ys.length * 0 ≤ 16777216
    omega)
  rw [List.map_map, joinS_nil] at this
  have e : ((ys.map fun x => [x]).flatten) = ys := by
    induction ys with
    | nil => rfl
    | cons x r ih =>
      rw [List.map_cons, List.flatten_cons, ih (by rw [List.length_cons] at h; omega) (by
        rw [← List.map_map]
        rw [dJoin_map, joinS_nil]
        rw [lenSum_ones, List.length_map]
        rw [List.length_cons] at h
        show r.length + r.length * 0 ≤ 16777216
        omega)]
      rfl
  rw [e] at this
  exact this
theorem drawn_of (c : Int) : ∃ r, φ_l_drawn [.int c] = .ok (.str r) ∧ brack r = true ∧ total r = 1 ∧ r.length ≤ 25 := by
  obtain ⟨q1, q2⟩ := mix_range (c := c) (p := 9901) (m := 13) (by omega)
  have hmix := mix_of (c := c) (p := 9901) (m := 13) (by omega) (by omega)
  rw [nd_of q1] at hmix
  have hn : (mix c 9901 13).toNat ≤ 12 := by omega
  generalize (mix c 9901 13).toNat = n at hmix hn
  have m2 : dMod (.int c) (.int 2) = .ok (.int (c % 2)) := y_mod (by omega)
  by_cases h2 : c % 2 = 0
  · obtain ⟨s, hs, hls, hw⟩ := l_row_of c (n := n) (by omega)
    have hs : φ_l_row [.int c, nd n] = .ok (.str s) := hs
    have ha : dAdd (.str [40]) (.str s) = .ok (.str (40 :: s)) := if_pos (limA (by
      show 1 + s.length ≤ 1000
      omega))
    have hL : bLen (.str (40 :: s)) = .ok (nd (s.length + 1)) := by
      rw [y_lenS, if_pos (limA (by
        rw [List.length_cons]
        omega)), List.length_cons]
    obtain ⟨p1, p2⟩ := mix_range (c := c) (p := 9887) (m := ((s.length + 1 : Nat) : Int)) (by omega)
    have hmix2 := mix_of (c := c) (p := 9887) (m := ((s.length + 1 : Nat) : Int)) (by omega) (by omega)
    rw [nd_of p1] at hmix2
    have hb : brack (40 :: s) = true := by
      rw [brack_cons, (whole_iff.mp hw).1]
      rfl
    have ht : total (40 :: s) = 1 := by
      rw [total_cons, whole_total hw]
      rfl
    obtain ⟨r1, r2, r3⟩ := rot_info hb (mix c 9887 ((s.length + 1 : Nat) : Int)).toNat
    refine ⟨rot (40 :: s) (mix c 9887 ((s.length + 1 : Nat) : Int)).toNat, ?_, r1, by omega, by rw [r3, List.length_cons]; omega⟩
    generalize (mix c 9887 ((s.length + 1 : Nat) : Int)).toNat = k at hmix2 ⊢
    have hl40 : (40 :: s).length ≤ 60 := by
      rw [List.length_cons]
      omega
    have c1 : dCut (.str (40 :: s)) (some (k : Int)) none = .ok (.str ((40 :: s).drop k)) := by
      rw [y_cutS, if_pos (limA (by omega)), cut_from]
    have c2 : dCut (.str (40 :: s)) none (some (k : Int)) = .ok (.str ((40 :: s).take k)) := by
      rw [y_cutS, if_pos (limA (by omega)), cut_to]
    have c3 : dAdd (.str ((40 :: s).drop k)) (.str ((40 :: s).take k)) = .ok (.str (rot (40 :: s) k)) := if_pos (limA (by
      rw [List.length_drop, List.length_take]
      omega))
    have h2' : decide (c % 2 = 0) = true := decide_eq_true h2
    refine run_of (g := g_l_drawn) ?_
    generalize rot (40 :: s) k = R at c3 ⊢
    generalize (40 :: s).drop k = R1 at c1 c3
    generalize (40 :: s).take k = R2 at c2 c3
    generalize (40 :: s) = R0 at ha hL c1 c2
    have hmix2 : φ_l_mix [.int c, .int 9887, nd (s.length + 1)] = .ok (nd k) := hmix2
    generalize nd (s.length + 1) = L1 at hL hmix2
    simp [-y_addS, -y_cutS, -y_lenS, g_l_drawn, hmix, m2, h2, hs, ha, hL, hmix2, c1, c2, c3]
  · have d1 : dRepL (.lst [.str [40]]) (.int ((n : Int) + 1)) = .ok (.lst ((List.replicate (n + 1) 40).map fun x => D.str [x])) := by
      have e : ((n : Int) + 1).toNat = n + 1 := by omega
      show (if 0 ≤ (n : Int) + 1 ∧ (n : Int) + 1 ≤ (lim : Int) ∧ 1 * ((n : Int) + 1).toNat ≤ lim then Res.ok (D.lst (List.replicate ((n : Int) + 1).toNat [D.str [40]]).flatten) else .bad) = _
      rw [e, if_pos ⟨by omega, by show (n : Int) + 1 ≤ 16777216; omega, limA (by omega)⟩, flat_rep]
    have d2 : dRepL (.lst [.str [41]]) (nd n) = .ok (.lst ((List.replicate n 41).map fun x => D.str [x])) := by
      have e : (n : Int).toNat = n := by omega
      show (if 0 ≤ (n : Int) ∧ (n : Int) ≤ (lim : Int) ∧ 1 * (n : Int).toNat ≤ lim then Res.ok (D.lst (List.replicate (n : Int).toNat [D.str [41]]).flatten) else .bad) = _
      rw [e, if_pos ⟨by omega, by show (n : Int) ≤ 16777216; omega, limA (by omega)⟩, flat_rep]
    have hlen : (List.replicate (n + 1) 40 ++ List.replicate n 41).length = 2 * n + 1 := by
      rw [List.length_append, List.length_replicate, List.length_replicate]
      omega
    obtain ⟨ys, e1, e2⟩ := pops_of (c := c) (z1 := some (.dat (nd n))) (z2 := none) (z3 := none) (2 * n + 1) (List.replicate (n + 1) 40 ++ List.replicate n 41) 0 none hlen.symm (by omega)
    rw [List.drop_zero, Nat.zero_add, List.map_append] at e1
    have hyl : ys.length = 2 * n + 1 := by rw [e2.length_eq, hlen]
    have hb : brack (List.replicate (n + 1) 40 ++ List.replicate n 41) = true := by
      unfold brack
      rw [List.all_eq_true]
      intro x hx
      rcases List.mem_append.mp hx with h | h
      · rw [List.eq_of_mem_replicate h]
        rfl
      · rw [List.eq_of_mem_replicate h]
        rfl
    have ht : total (List.replicate (n + 1) 40 ++ List.replicate n 41) = 1 := by
      rw [total_append, (total_rep (n + 1)).1, (total_rep n).2]
      omega
    refine ⟨ys, ?_, brack_perm e2 hb, by rw [total_perm e2, ht], by omega⟩
    have hj := join_ones ys (by omega)
    have hr : rng1 (.int (2 * (n : Int) + 1)) = .ok (numbers 0 (2 * n + 1)) := by
      have := rng1_nat (2 * n + 1) (by omega)
      have e : ((2 * n + 1 : Nat) : Int) = 2 * (n : Int) + 1 := by omega
      rw [e] at this
      exact this
    have hcat : ((List.replicate (n + 1) 40).map fun x => D.str [x]).length + ((List.replicate n 41).map fun x => D.str [x]).length ≤ lim := limA (by
      rw [List.length_map, List.length_map, List.length_replicate, List.length_replicate]
      omega)
    have hnl : (numbers 0 (2 * n + 1)).length ≤ lim := limA (by rw [numbers_len']; omega)
    refine run_of (g := g_l_drawn) ?_
    generalize (List.replicate (n + 1) 40).map (fun x => D.str [x]) = A1 at d1 e1 hcat
    generalize (List.replicate n 41).map (fun x => D.str [x]) = A2 at d2 e1 hcat
    generalize ys.map (fun x => D.str [x]) = YS at e1 hj
    generalize numbers 0 (2 * n + 1) = NN at hr e1 hnl
    simp [g_l_drawn, hmix, m2, h2, d1, d2, sNewCat, hcat, sRetPops, y_mulL small2, hr, hnl, e1, hj]
/-! ### the law -/
variable {z0 z1 z2 z3 z4 z5 : Option S}
theorem due {r : List Nat} (hb : brack r = true) (hl : r.length ≤ 60) {k : Nat} (hk : k < r.length) (hg : good r k = true) (hu : ∀ j, good r j = true → j = k) :
    c_law_1 [z0, z1, some (.dat (.str r)), z3, z4, z5] = .ok (.lst [nd k]) := by
  have hll : r.length ≤ lim := limA (by omega)
  have hr : rng1 (.int (r.length : Int)) = .ok (numbers 0 r.length) := rng1_nat r.length (by omega)
  refine eComp_of (ds := numbers 0 r.length) (by simp [hll, hr]) (by rw [numbers_len']; exact hll) ?_
  rw [comp_map (fun d => match d with | .int x => good r x.toNat | _ => false) (fun d => d) _ (fun d hd => ?_)]
  · rw [List.map_id']
    refine congrArg Res.ok ?_
    have split : numbers 0 r.length = (numbers 0 r.length).take k ++ (.int (k : Int) :: (numbers 0 r.length).drop (k + 1)) := by
      rw [← numbers_drop hk, List.take_append_drop]
    have none1 : ∀ d ∈ (numbers 0 r.length).take k, ¬ (match d with | .int x => good r x.toNat | _ => false) = true := by
      intro d hd
      obtain ⟨i, hi⟩ := List.getElem?_of_mem hd
      rw [List.getElem?_take] at hi
      split at hi
      · rename_i hik
        obtain ⟨_, rfl⟩ := numbers_get hi
        intro z
        have : good r i = true := by simpa using z
        have := hu i this
        omega
      · cases hi
    have none2 : ∀ d ∈ (numbers 0 r.length).drop (k + 1), ¬ (match d with | .int x => good r x.toNat | _ => false) = true := by
      intro d hd
      obtain ⟨i, hi⟩ := List.getElem?_of_mem hd
      rw [List.getElem?_drop] at hi
      obtain ⟨_, rfl⟩ := numbers_get hi
      intro z
      have z2 : good r ((0 : Int) + ((k + 1 + i : Nat) : Int)).toNat = true := z
      have e : ((0 : Int) + ((k + 1 + i : Nat) : Int)).toNat = k + 1 + i := by omega
      rw [e] at z2
      have : good r (k + 1 + i) = true := z2
      have := hu _ this
      omega
    rw [split, List.filter_append, List.filter_eq_nil_iff.mpr none1, List.nil_append, List.filter_cons_of_pos (by show good r ((k : Int)).toNat = true; rw [Int.toNat_natCast]; exact hg), List.filter_eq_nil_iff.mpr none2]
  · obtain ⟨i, hi, rfl⟩ := numbers_mem hd
    rw [Int.zero_add]
    refine ⟨_, rfl, ?_, fun _ => by simp⟩
    obtain ⟨c1, c2, c3, c4⟩ := rest_of hl i
    have a1 : at? r (i : Int) = some r[i] := by rw [at_nat, List.getElem?_eq_getElem hi]
    have hcb := brack_mem hb (List.getElem_mem hi)
    have hw := l_is_whole_of (s := r.drop (i + 1) ++ r.take i) (by omega)
    have hgd : good r i = (decide (r[i] = 40) && whole (r.drop (i + 1) ++ r.take i)) := by
      unfold good
      rw [List.getElem?_eq_getElem hi]
      by_cases q : r[i] = 40
      · simp [q]
      · simp [q]
    show tAnd _ _ [z0, z1, some (.dat (.str r)), z3, z4, some (.dat (nd i))] = .ok (good r ((i : Int)).toNat)
    rw [Int.toNat_natCast, hgd]
    have e40 := eq_open (c := r[i]) (by omega)
    generalize r.drop (i + 1) ++ r.take i = W at c3 hw ⊢
    generalize r.drop (i + 1) = W1 at c1 c3
    generalize r.take i = W2 at c2 c3
    generalize r[i] = C at a1 e40 ⊢
    by_cases q : C = 40
    · have q' : (C = 40) = True := eq_true q
      simp [-y_cutS, -y_addS, hll, a1, e40, q', c1, c2, c3, hw]
    · simp [hll, a1, e40, q]
def Sc (ns : List Int) (η : Env) : Prop := ∃ z1 z2 z3 z4 z5, η = [some (.dat (.lst (ns.map D.int))), z1, z2, z3, z4, z5]
theorem turn1 {ns : List Int} {c : Int} {η : Env} (h : Sc ns η) : ∃ η1 η2, gName 1 (.int c) η = .ok η1 ∧ (b_law_1 η1 = .next η2 ∨ b_law_1 η1 = .ct η2) ∧ Sc ns η2 := by
  obtain ⟨z1, z2, z3, z4, z5, rfl⟩ := h
  obtain ⟨r, hd, hb, ht, hl⟩ := drawn_of c
  obtain ⟨k, hk, hg, hu⟩ := one_good hb ht
  have t1 := turn_of_of hb (by omega) hk hg hu
  have hdue := due (z0 := some (.dat (.lst (ns.map D.int)))) (z1 := some (.dat (.int c))) (z3 := some (.dat (nd k))) (z4 := z4) (z5 := z5) hb (by omega) hk hg hu
  obtain ⟨r1, r2, r3⟩ := rot_info hb 1
  obtain ⟨k2, hk2, hg2, hu2⟩ := one_good r1 (by omega)
  have hn := hu2 _ (next_good hb ht hk hg)
  have t2 := turn_of_of r1 (by omega) hk2 hg2 hu2
  have hll : r.length ≤ lim := limA (by omega)
  have c1 : dCut (.str r) (some 1) none = .ok (.str (r.drop 1)) := by
    rw [y_cutS, if_pos hll]
    exact congrArg Res.ok (congrArg D.str (cut_from r 1))
  have c2 : dCut (.str r) none (some 1) = .ok (.str (r.take 1)) := by
    rw [y_cutS, if_pos hll]
    exact congrArg Res.ok (congrArg D.str (cut_to r 1))
  have c3 : dAdd (.str (r.drop 1)) (.str (r.take 1)) = .ok (.str (rot r 1)) := if_pos (limA (by
    rw [List.length_drop, List.length_take]
    omega))
  have hm : dMod (.int ((k : Int) - 1)) (.int (r.length : Int)) = .ok (nd k2) := by
    rw [y_mod (by omega), ← hn]
    by_cases h0 : k = 0
    · rw [if_pos h0, h0]
      have e : (((0 : Nat) : Int) - 1) % (r.length : Int) = ((r.length - 1 : Nat) : Int) := by
        have e1 : (((0 : Nat) : Int) - 1) = ((r.length - 1 : Nat) : Int) + (r.length : Int) * (-1) := by omega
        rw [e1, Int.add_mul_emod_self_left, Int.emod_eq_of_lt (by omega) (by omega)]
      rw [e]
    · rw [if_neg h0]
      have e1 : (k : Int) - 1 = ((k - 1 : Nat) : Int) := by omega
      rw [e1, Int.emod_eq_of_lt (by omega) (by omega)]
  have hw : φ_l_whole [nd k] = .ok (.bool true) := l_whole_int
  have n1 : dNe (.lst [nd k]) (.lst [nd k]) = .ok (.bool false) := by
    have : D.eqv (.lst [nd k]) (.lst [nd k]) = true := by
      unfold D.eqv D.eqvAll D.eqv D.eqvAll
      simp
    show (if (true && true) = true then Res.ok (D.bool (!D.eqv (.lst [nd k]) (.lst [nd k]))) else .bad) = _
    rw [this]
    rfl
  have n2 : dNe (nd k2) (nd k2) = .ok (.bool false) := by
    rw [y_neI]
    simp
  refine ⟨_, [some (.dat (.lst (ns.map D.int))), some (.dat (.int c)), some (.dat (.str r)), some (.dat (nd k)), some (.dat (.lst [nd k])), z5], rfl, .inl ?_, ⟨_, _, _, _, _, rfl⟩⟩
  generalize rot r 1 = R1 at t2 c3
  generalize r.drop 1 = R2 at c1 c3
  generalize r.take 1 = R3 at c2 c3
  generalize nd k2 = K2 at t2 hm n2
  simp [-y_cutS, -y_addS, b_law_1, hd, t1, hdue, hw, n1, c1, c2, c3, t2, hll, hm, n2]
theorem law_holds (ns : List Int) (hl : ns.length ≤ 63) (hb : ∀ z ∈ ns, z.natAbs.log2 ≤ 1048576) : φ_law [.lst (ns.map D.int)] = .ok (.bool true) := by
  refine run_of (g := g_law) ?_
  have hcut : cut (ns.map D.int) none (some 6) = (ns.take 6).map D.int := by
    have := cut_to (ns.map D.int) 6
    rw [← List.map_take] at this
    exact this
  obtain ⟨η1, e1, ⟨z1, z2, z3, z4, z5, rfl⟩⟩ := loop_all (g := gName 1) (b := b_law_1) (Sc ns) ((ns.take 6).map D.int) (η := [some (.dat (.lst (ns.map D.int))), none, none, none, none, none]) ⟨_, _, _, _, _, rfl⟩ (fun d hd η hη => by
    rw [List.mem_map] at hd
    obtain ⟨c, hc, rfl⟩ := hd
    exact turn1 hη)
  have e2 : φ_turn_of [.str [40]] = .ok (nd 0) := by
    obtain ⟨k, hk, hg, hu⟩ := one_good (r := [40]) rfl rfl
    have : k = 0 := by
      have : k < 1 := hk
      omega
    subst this
    exact turn_of_of rfl (by decide) hk hg hu
  generalize (ns.take 6).map D.int = L6 at hcut e1
  simp [g_law, hcut, e1, e2]
end K09
end
/-! W09 -/
set_option Elab.async false
set_option linter.all false
set_option autoImplicit false
set_option maxRecDepth 100000
set_option maxHeartbeats 4000000
namespace K09
open Bk PySem PySem.Spec PyProof.Rows L2
open Bk (pv pe_weak pt_weak)
def topS (i : Nat) : Stmt := PySem.Challenge.pw_bracketnumbers_k09_whole_turns.main.body.getD i (.Pass ⟨0, 0, 0, 0⟩)
abbrev s_heights : Stmt := topS 1
abbrev s_is_whole : Stmt := topS 2
abbrev s_turn_of : Stmt := topS 3
abbrev s_l_cell : Stmt := topS 5
abbrev s_l_mix : Stmt := topS 6
abbrev s_l_row : Stmt := topS 7
abbrev s_l_whole : Stmt := topS 8
abbrev s_l_is_whole : Stmt := topS 9
abbrev s_l_drawn : Stmt := topS 10
abbrev s_law : Stmt := topS 11
theorem sc_heights : FnScope ["row", "found", "sign"] ["row"] (defScope s_heights) := ⟨rfl, rfl, rfl, by decide +kernel, rfl, by decide +kernel, by decide +kernel⟩
theorem sc_is_whole : FnScope ["thing", "sign", "found"] ["thing"] (defScope s_is_whole) := ⟨rfl, rfl, rfl, by decide +kernel, rfl, by decide +kernel, by decide +kernel⟩
theorem sc_turn_of : FnScope ["row", "k"] ["row"] (defScope s_turn_of) := ⟨rfl, rfl, rfl, by decide +kernel, rfl, by decide +kernel, by decide +kernel⟩
theorem sc_l_cell : FnScope ["_law_script", "_law_k"] ["_law_script", "_law_k"] (defScope s_l_cell) := ⟨rfl, rfl, rfl, by decide +kernel, rfl, by decide +kernel, by decide +kernel⟩
theorem sc_l_mix : FnScope ["_law_cell_here", "_law_prime", "_law_many"] ["_law_cell_here", "_law_prime", "_law_many"] (defScope s_l_mix) := ⟨rfl, rfl, rfl, by decide +kernel, rfl, by decide +kernel, by decide +kernel⟩
theorem sc_l_row : FnScope ["_law_cell_here", "_law_size", "_law_row_here", "_law_high", "_law_k", "_law_left"] ["_law_cell_here", "_law_size"] (defScope s_l_row) := ⟨rfl, rfl, rfl, by decide +kernel, rfl, by decide +kernel, by decide +kernel⟩
theorem sc_l_whole : FnScope ["_law_found"] ["_law_found"] (defScope s_l_whole) := ⟨rfl, rfl, rfl, by decide +kernel, rfl, by decide +kernel, by decide +kernel⟩
theorem sc_l_is_whole : FnScope ["_law_text", "_law_high", "_law_sign"] ["_law_text"] (defScope s_l_is_whole) := ⟨rfl, rfl, rfl, by decide +kernel, rfl, by decide +kernel, by decide +kernel⟩
theorem sc_l_drawn : FnScope ["_law_cell_here", "_law_size", "_law_row_here", "_law_at", "_law_left", "_law_k"] ["_law_cell_here"] (defScope s_l_drawn) := ⟨rfl, rfl, rfl, by decide +kernel, rfl, by decide +kernel, by decide +kernel⟩
theorem sc_law : FnScope ["_law_script", "_law_cell_here", "_law_row_here", "_law_found", "_law_due", "_law_k"] ["_law_script"] (defScope s_law) := ⟨rfl, rfl, rfl, by decide +kernel, rfl, by decide +kernel, by decide +kernel⟩
section
variable {P : Program} {w : World} {K : PySem.W.Frag} {mg : Str → Option Value} {base : Heap} {cl : Cls → Addr} {k : Nat} (M : Bi mg)
include M
theorem ok_heights (F : Has K mg "heights" s_heights ["row"]) : DefOk P w K mg base cl (k + 1) "heights" 1 φ_heights :=
  F.ok sc_heights rfl fun cdv A outer s H E G fa hr hu hu1 hu12 => (ss_cons (s_new 1 sc_heights.nd (pas_cons pv_int pas_nil))
  (ss_cons (s_for (passes_of rfl) rfl (pi_any (pv 0)) (pg_n 2 [2] sc_heights.nd)
  (ss_one (s_app 1 (pv_sub (pv_add (pv_ixO 1 (pv_neg pv_int)) pv_int) (pv_mul pv_int (pv_t1 cu_int M.m_int (pv_cmp (od_eq hu) (pv 2) (pv_str [41]))))))))
  (ss_one (s_retO 1))))
theorem ok_is_whole (F : Has K mg "is_whole" s_is_whole ["thing"]) (c_heights : DefOk P w K mg base cl k "heights" 1 φ_heights) : DefOk P w K mg base cl (k + 1) "is_whole" 1 φ_is_whole :=
  F.ok sc_is_whole rfl fun cdv A outer s H E G fa hr hu hu1 hu12 => (ss_cons (s_if (tw_pt (tw_or (tv_not (tv_truth (pv_isi .str M.m_isinstance M.m_str (pv 0)))) (tw_or (tv_cmp od_gt (pv_b1 cu_len M.m_len (pv 0)) pv_int) (tw_one0 (tv_not (tv_truth (pv_b1 (cu_all rfl) M.m_all (pv_lc [("sign", 1)] rfl sc_is_whole.nd (pi_any (pv 0)) (blkOk_by (N := ["thing", "sign", "found"]) (sc := defScope s_is_whole) (by decide +kernel)) (fun _ _ _ _ _ => (pg_n 1 [1] sc_is_whole.nd)) (fun _ _ _ _ _ => pts_y) (fun _ _ _ _ _ => (pv_cmp od_inS (pv 1) (pv_str [40, 41]))))))))))) (ss_one (s_ret pv_bl)) ss_nil)
  (ss_cons (s_set 2 sc_is_whole.nd (pv_call c_heights hr pass1 (pas_cons (pv 0) pas_nil)))
  (ss_one (s_ret (pv_and (pv_cmp (od_eq hu) (pv_b1 (cu_min rfl) M.m_min (pv 2)) pv_int) (pv_last (pv_cmp (od_eq hu) (pv_ix (pv 2) (pv_neg pv_int)) pv_int)))))))
theorem ok_turn_of (F : Has K mg "turn_of" s_turn_of ["row"]) (c_is_whole : DefOk P w K mg base cl k "is_whole" 1 φ_is_whole) : DefOk P w K mg base cl (k + 1) "turn_of" 1 φ_turn_of :=
  F.ok sc_turn_of rfl fun cdv A outer s H E G fa hr hu hu1 hu12 => (ss_cons (s_for (passes_of rfl) rfl (pi_rng1 M.m_range (pv_b1 cu_len M.m_len (pv 0))) (pg_n 1 [1] sc_turn_of.nd)
  (ss_one (s_if (tw_pt (tw_and (tv_cmp (od_eq hu) (pv_ix (pv 0) (pv 1)) (pv_str [40])) (tw_one1 (tv_truth (pv_call c_is_whole hr pass1 (pas_cons (pv_add (pv_sl (pv 0) (ps1 (pv_add (pv 1) pv_int)) ps0) (pv_sl (pv 0) ps0 (ps1 (pv 1)))) pas_nil)))))) (ss_one (s_ret (pv 1))) ss_nil)))
  (ss_one (s_ret pv_int)))
theorem ok_l_cell (F : Has K mg "_law_cell" s_l_cell ["_law_script", "_law_k"]) : DefOk P w K mg base cl (k + 1) "_law_cell" 2 φ_l_cell :=
  F.ok sc_l_cell rfl fun cdv A outer s H E G fa hr hu hu1 hu12 => (ss_cons (s_if (tv_cmp od_lt (pv 1) (pv_b1 cu_len M.m_len (pv 0))) (ss_one (s_ret (pv_ix (pv 0) (pv 1)))) ss_nil)
  (ss_one (s_ret pv_int)))
theorem ok_l_mix (F : Has K mg "_law_mix" s_l_mix ["_law_cell_here", "_law_prime", "_law_many"]) : DefOk P w K mg base cl (k + 1) "_law_mix" 3 φ_l_mix :=
  F.ok sc_l_mix rfl fun cdv A outer s H E G fa hr hu hu1 hu12 => (ss_one (s_ret (pv_mod (pv_mod (pv_mul (pv 0) pv_int) (pv 1)) (pv 2))))
theorem ok_l_row (F : Has K mg "_law_row" s_l_row ["_law_cell_here", "_law_size"]) (c_l_mix : DefOk P w K mg base cl k "_law_mix" 3 φ_l_mix) : DefOk P w K mg base cl (k + 1) "_law_row" 2 φ_l_row :=
  F.ok sc_l_row rfl fun cdv A outer s H E G fa hr hu hu1 hu12 => (ss_cons (s_set 2 sc_l_row.nd (pv_str []))
  (ss_cons (s_set 3 sc_l_row.nd pv_int)
  (ss_cons (s_for (passes_of rfl) rfl (pi_rng1 M.m_range (pv_mul pv_int (pv 1))) (pg_n 4 [4] sc_l_row.nd)
  (ss_cons (s_set 5 sc_l_row.nd (pv_sub (pv_mul pv_int (pv 1)) (pv 4)))
  (ss_one (s_if (tw_pt (tw_or (tv_cmp (od_eq hu) (pv 3) pv_int) (tw_one0 (tw_pt (tw_and (tv_cmp od_lt (pv 3) (pv 5)) (tw_one1 (tv_cmp od_lt (pv_call c_l_mix hr pass1 (pas_cons (pv_add (pv 0) (pv_mul pv_int (pv 4))) (pas_cons pv_int (pas_cons pv_int pas_nil)))) pv_int))))))) (ss_cons (s_set 2 sc_l_row.nd (pv_add (pv 2) (pv_str [40])))
  (ss_one (s_set 3 sc_l_row.nd (pv_add (pv 3) pv_int)))) (ss_cons (s_set 2 sc_l_row.nd (pv_add (pv 2) (pv_str [41])))
  (ss_one (s_set 3 sc_l_row.nd (pv_sub (pv 3) pv_int))))))))
  (ss_one (s_ret (pv 2))))))
theorem ok_l_whole (F : Has K mg "_law_whole" s_l_whole ["_law_found"]) : DefOk P w K mg base cl (k + 1) "_law_whole" 1 φ_l_whole :=
  F.ok sc_l_whole rfl fun cdv A outer s H E G fa hr hu hu1 hu12 => (ss_one (s_ret (pv_and (pv_isi .int M.m_isinstance M.m_int (pv 0)) (pv_last (pv_not (pv_isi .bool M.m_isinstance M.m_bool (pv 0)))))))
theorem ok_l_is_whole (F : Has K mg "_law_is_whole" s_l_is_whole ["_law_text"]) : DefOk P w K mg base cl (k + 1) "_law_is_whole" 1 φ_l_is_whole :=
  F.ok sc_l_is_whole rfl fun cdv A outer s H E G fa hr hu hu1 hu12 => (ss_cons (s_set 1 sc_l_is_whole.nd pv_int)
  (ss_cons (s_for (passes_of rfl) rfl (pi_any (pv 0)) (pg_n 2 [2] sc_l_is_whole.nd)
  (ss_cons (s_set 1 sc_l_is_whole.nd (pv_add (pv 1) (pv_sign hu1 (pv 2) (pv_neg pv_int))))
  (ss_one (s_if (tv_cmp od_lt (pv 1) pv_int) (ss_one (s_ret pv_bl)) ss_nil))))
  (ss_one (s_ret (pv_cmp (od_eq hu) (pv 1) pv_int)))))
theorem ok_l_drawn (F : Has K mg "_law_drawn" s_l_drawn ["_law_cell_here"]) (c_l_mix : DefOk P w K mg base cl k "_law_mix" 3 φ_l_mix) (c_l_row : DefOk P w K mg base cl k "_law_row" 2 φ_l_row) : DefOk P w K mg base cl (k + 1) "_law_drawn" 1 φ_l_drawn :=
  F.ok sc_l_drawn rfl fun cdv A outer s H E G fa hr hu hu1 hu12 => (ss_cons (s_set 1 sc_l_drawn.nd (pv_call c_l_mix hr pass1 (pas_cons (pv 0) (pas_cons pv_int (pas_cons pv_int pas_nil)))))
  (ss_cons (s_if (tv_cmp (od_eq hu) (pv_mod (pv 0) pv_int) pv_int) (ss_cons (s_set 2 sc_l_drawn.nd (pv_add (pv_str [40]) (pv_call c_l_row hr pass1 (pas_cons (pv 0) (pas_cons (pv 1) pas_nil)))))
  (ss_cons (s_set 3 sc_l_drawn.nd (pv_call c_l_mix hr pass1 (pas_cons (pv 0) (pas_cons pv_int (pas_cons (pv_b1 cu_len M.m_len (pv 2)) pas_nil)))))
  (ss_one (s_ret (pv_add (pv_sl (pv 2) (ps1 (pv 3)) ps0) (pv_sl (pv 2) ps0 (ps1 (pv 3)))))))) ss_nil)
  (ss_cons (s_newCat 4 sc_l_drawn.nd (pv_repL (pas_cons (pv_str [40]) pas_nil) (pv_add (pv 1) pv_int)) (pv_repL (pas_cons (pv_str [41]) pas_nil) (pv 1)))
  (ss_one (s_retPops 4 [("_law_k", 5)] rfl sc_l_drawn.nd (pi_rng1 M.m_range (pv_add (pv_mul pv_int (pv 1)) pv_int)) (blkOk_by (N := ["_law_cell_here", "_law_size", "_law_row_here", "_law_at", "_law_left", "_law_k"]) (sc := defScope s_l_drawn) (by decide +kernel)) (fun _ _ _ _ _ => (pg_n 5 [5] sc_l_drawn.nd)) (fun _ _ _ _ _ => (pv_call c_l_mix hr passL (pas_cons (pv_add (pv 0) (pv_mul pv_int (pv 5))) (pas_cons pv_int (pas_cons (pv_b1O 4 cu_len M.m_len) pas_nil))))) (fun _ _ _ _ _ => pe_var rfl (by first | exact Or.inl rfl | exact Or.inr (Or.inl rfl) | exact Or.inr (Or.inr rfl)) (by decide) (by decide)))))))
theorem fn_law {fa : Addr} {fd : FuncData} (cl : Cls → Addr) (F : Fun K "law" "law" s_law fa fd) (c_l_drawn : DefOk P w K mg base cl k "_law_drawn" 1 φ_l_drawn) (c_turn_of : DefOk P w K mg base cl k "turn_of" 1 φ_turn_of) (c_l_is_whole : DefOk P w K mg base cl k "_law_is_whole" 1 φ_l_is_whole) (c_l_whole : DefOk P w K mg base cl k "_law_whole" 1 φ_l_whole) : FnOk P w K mg base (L2.CX P w) (k + 1) fa fd ["_law_script"] (spL K φ_law) :=
  fn_okL cl F sc_law rfl fun cdv A outer s H E G hr hu hu1 hu12 => (ss_cons (s_for (passes_of rfl) rfl (pi_any (pv_sl (pv 0) ps0 (ps1 pv_int))) (pg_n 1 [1] sc_law.nd)
  (ss_cons (s_set 2 sc_law.nd (pv_call c_l_drawn hr pass1 (pas_cons (pv 1) pas_nil)))
  (ss_cons (s_set 3 sc_law.nd (pv_call c_turn_of hr pass1 (pas_cons (pv 2) pas_nil)))
  (ss_cons (s_setLc 4 [("_law_k", 5)] rfl sc_law.nd (pi_rng1 M.m_range (pv_b1 cu_len M.m_len (pv 2))) (blkOk_by (N := ["_law_script", "_law_cell_here", "_law_row_here", "_law_found", "_law_due", "_law_k"]) (sc := defScope s_law) (by decide +kernel)) (fun _ _ _ _ _ => (pg_n 5 [5] sc_law.nd)) (fun _ _ _ _ _ => (pts_1 (tw_pt (tw_and (tv_cmp (od_eq hu) (pv_ix (pv 2) (pv 5)) (pv_str [40])) (tw_one1 (tv_truth (pv_call c_l_is_whole hr passL (pas_cons (pv_add (pv_sl (pv 2) (ps1 (pv_add (pv 5) pv_int)) ps0) (pv_sl (pv 2) ps0 (ps1 (pv 5)))) pas_nil)))))))) (fun _ _ _ _ _ => (pv 5)))
  (ss_cons (s_if (tw_pt (tw_or (tv_not (tv_truth (pv_call c_l_whole hr pass1 (pas_cons (pv 3) pas_nil)))) (tw_one0 (tv_cmp (od_ne hu) (pv 4) (pv_lst (pas_cons (pv 3) pas_nil)))))) (ss_one (s_ret pv_bl)) ss_nil)
  (ss_one (s_if (tv_cmp (od_ne hu) (pv_call c_turn_of hr pass1 (pas_cons (pv_add (pv_sl (pv 2) (ps1 pv_int) ps0) (pv_sl (pv 2) ps0 (ps1 pv_int))) pas_nil)) (pv_mod (pv_sub (pv 3) pv_int) (pv_b1 cu_len M.m_len (pv 2)))) (ss_one (s_ret pv_bl)) ss_nil)))))))
  (ss_one (s_ret (pv_cmp (od_eq hu) (pv_call c_turn_of hr pass1 (pas_cons (pv_str [40]) pas_nil)) pv_int))))
end
theorem all_mk {l : PySem.W.OpenLaw} {w : World} {K : PySem.W.Frag} {h : Heap} {mg : Str → Option Value} {fa : Addr} (X : K.In h) (G : h.Ns mainGlobals mg) (hfa : mg "law" = some (.ref fa))
    {f0 : Addr} {od0 an0 : Option Addr} {sl0 : Array (Option Value)} {oc0 kV0 dc0 pm0 cd0 ct0 : Value}
    {f1 : Addr} {od1 an1 : Option Addr} {sl1 : Array (Option Value)} {oc1 kV1 dc1 pm1 cd1 ct1 : Value}
    {f2 : Addr} {od2 an2 : Option Addr} {sl2 : Array (Option Value)} {oc2 kV2 dc2 pm2 cd2 ct2 : Value}
    {f3 : Addr} {od3 an3 : Option Addr} {sl3 : Array (Option Value)} {oc3 kV3 dc3 pm3 cd3 ct3 : Value}
    {f4 : Addr} {od4 an4 : Option Addr} {sl4 : Array (Option Value)} {oc4 kV4 dc4 pm4 cd4 ct4 : Value}
    {f5 : Addr} {od5 an5 : Option Addr} {sl5 : Array (Option Value)} {oc5 kV5 dc5 pm5 cd5 ct5 : Value}
    {f6 : Addr} {od6 an6 : Option Addr} {sl6 : Array (Option Value)} {oc6 kV6 dc6 pm6 cd6 ct6 : Value}
    {f7 : Addr} {od7 an7 : Option Addr} {sl7 : Array (Option Value)} {oc7 kV7 dc7 pm7 cd7 ct7 : Value}
    {f8 : Addr} {od8 an8 : Option Addr} {sl8 : Array (Option Value)} {oc8 kV8 dc8 pm8 cd8 ct8 : Value}
    (a0 : PySem.W.nsIn K mainGlobals "_law_mix" = some (some (.ref f0)))
    (l0 : K.lookup f0 = some ⟨oc0, od0, .func (PySem.W.fnOf "_law_mix" "_law_mix" (defArgs s_l_mix) (defBody s_l_mix) (defScope s_l_mix) .none kV0 dc0 pm0 an0 cd0 ct0), sl0⟩)
    (c0 : PySem.W.codeIn K cd0 "_law_mix" = true)
    (k0 : PySem.W.keepIn K (.ref f0) = true)
    (a1 : PySem.W.nsIn K mainGlobals "_law_row" = some (some (.ref f1)))
    (l1 : K.lookup f1 = some ⟨oc1, od1, .func (PySem.W.fnOf "_law_row" "_law_row" (defArgs s_l_row) (defBody s_l_row) (defScope s_l_row) .none kV1 dc1 pm1 an1 cd1 ct1), sl1⟩)
    (c1 : PySem.W.codeIn K cd1 "_law_row" = true)
    (k1 : PySem.W.keepIn K (.ref f1) = true)
    (a2 : PySem.W.nsIn K mainGlobals "_law_drawn" = some (some (.ref f2)))
    (l2 : K.lookup f2 = some ⟨oc2, od2, .func (PySem.W.fnOf "_law_drawn" "_law_drawn" (defArgs s_l_drawn) (defBody s_l_drawn) (defScope s_l_drawn) .none kV2 dc2 pm2 an2 cd2 ct2), sl2⟩)
    (c2 : PySem.W.codeIn K cd2 "_law_drawn" = true)
    (k2 : PySem.W.keepIn K (.ref f2) = true)
    (a3 : PySem.W.nsIn K mainGlobals "heights" = some (some (.ref f3)))
    (l3 : K.lookup f3 = some ⟨oc3, od3, .func (PySem.W.fnOf "heights" "heights" (defArgs s_heights) (defBody s_heights) (defScope s_heights) .none kV3 dc3 pm3 an3 cd3 ct3), sl3⟩)
    (c3 : PySem.W.codeIn K cd3 "heights" = true)
    (k3 : PySem.W.keepIn K (.ref f3) = true)
    (a4 : PySem.W.nsIn K mainGlobals "is_whole" = some (some (.ref f4)))
    (l4 : K.lookup f4 = some ⟨oc4, od4, .func (PySem.W.fnOf "is_whole" "is_whole" (defArgs s_is_whole) (defBody s_is_whole) (defScope s_is_whole) .none kV4 dc4 pm4 an4 cd4 ct4), sl4⟩)
    (c4 : PySem.W.codeIn K cd4 "is_whole" = true)
    (k4 : PySem.W.keepIn K (.ref f4) = true)
    (a5 : PySem.W.nsIn K mainGlobals "turn_of" = some (some (.ref f5)))
    (l5 : K.lookup f5 = some ⟨oc5, od5, .func (PySem.W.fnOf "turn_of" "turn_of" (defArgs s_turn_of) (defBody s_turn_of) (defScope s_turn_of) .none kV5 dc5 pm5 an5 cd5 ct5), sl5⟩)
    (c5 : PySem.W.codeIn K cd5 "turn_of" = true)
    (k5 : PySem.W.keepIn K (.ref f5) = true)
    (a6 : PySem.W.nsIn K mainGlobals "_law_is_whole" = some (some (.ref f6)))
    (l6 : K.lookup f6 = some ⟨oc6, od6, .func (PySem.W.fnOf "_law_is_whole" "_law_is_whole" (defArgs s_l_is_whole) (defBody s_l_is_whole) (defScope s_l_is_whole) .none kV6 dc6 pm6 an6 cd6 ct6), sl6⟩)
    (c6 : PySem.W.codeIn K cd6 "_law_is_whole" = true)
    (k6 : PySem.W.keepIn K (.ref f6) = true)
    (a7 : PySem.W.nsIn K mainGlobals "_law_whole" = some (some (.ref f7)))
    (l7 : K.lookup f7 = some ⟨oc7, od7, .func (PySem.W.fnOf "_law_whole" "_law_whole" (defArgs s_l_whole) (defBody s_l_whole) (defScope s_l_whole) .none kV7 dc7 pm7 an7 cd7 ct7), sl7⟩)
    (c7 : PySem.W.codeIn K cd7 "_law_whole" = true)
    (k7 : PySem.W.keepIn K (.ref f7) = true)
    (a8 : PySem.W.nsIn K mainGlobals "law" = some (some (.ref f8)))
    (l8 : K.lookup f8 = some ⟨oc8, od8, .func (PySem.W.fnOf "law" "law" (defArgs s_law) (defBody s_law) (defScope s_law) .none kV8 dc8 pm8 an8 cd8 ct8), sl8⟩)
    (c8 : PySem.W.codeIn K cd8 "law" = true)
    (k8 : PySem.W.keepIn K (.ref f8) = true)
    (z_len : PySem.W.nsIn K mainGlobals "len" = some none)
    (z_int : PySem.W.nsIn K mainGlobals "int" = some none)
    (z_min : PySem.W.nsIn K mainGlobals "min" = some none)
    (z_max : PySem.W.nsIn K mainGlobals "max" = some none)
    (z_sum : PySem.W.nsIn K mainGlobals "sum" = some none)
    (z_all : PySem.W.nsIn K mainGlobals "all" = some none)
    (z_list : PySem.W.nsIn K mainGlobals "list" = some none)
    (z_tuple : PySem.W.nsIn K mainGlobals "tuple" = some none)
    (z_sorted : PySem.W.nsIn K mainGlobals "sorted" = some none)
    (z_isinstance : PySem.W.nsIn K mainGlobals "isinstance" = some none)
    (z_str : PySem.W.nsIn K mainGlobals "str" = some none)
    (z_bool : PySem.W.nsIn K mainGlobals "bool" = some none)
    (z_range : PySem.W.nsIn K mainGlobals "range" = some none)
    (z_enumerate : PySem.W.nsIn K mainGlobals "enumerate" = some none)
    (z_reversed : PySem.W.nsIn K mainGlobals "reversed" = some none)
    (z_zip : PySem.W.nsIn K mainGlobals "zip" = some none)
    (z_ValueError : PySem.W.nsIn K mainGlobals "ValueError" = some none) :
    ∃ fd : FuncData, (∀ (s : Shared) (v : Value), BindsTo s fd ⟨[v], []⟩ [("_law_script", v)]) ∧ ∀ base : Heap, K.In base → base.Ns mainGlobals mg → FnOk l.prog w K mg base (L2.CX l.prog w) 4 fa fd ["_law_script"] (spL K φ_law) := by
  have e := hfa.symm.trans (PySem.W.mg_of X G a8)
  cases e
  have M : Bi mg := ⟨PySem.W.mg_none_of X G z_len, PySem.W.mg_none_of X G z_int, PySem.W.mg_none_of X G z_min, PySem.W.mg_none_of X G z_max, PySem.W.mg_none_of X G z_sum, PySem.W.mg_none_of X G z_all, PySem.W.mg_none_of X G z_list, PySem.W.mg_none_of X G z_tuple, PySem.W.mg_none_of X G z_sorted, PySem.W.mg_none_of X G z_isinstance, PySem.W.mg_none_of X G z_str, PySem.W.mg_none_of X G z_bool, PySem.W.mg_none_of X G z_range, PySem.W.mg_none_of X G z_enumerate, PySem.W.mg_none_of X G z_reversed, PySem.W.mg_none_of X G z_zip, PySem.W.mg_none_of X G z_ValueError⟩
  have F0 : Has K mg "_law_mix" s_l_mix ["_law_cell_here", "_law_prime", "_law_many"] := .mk' (PySem.W.mg_of X G a0) l0 c0 k0 fun _ _ _ _ _ _ us hl => match us, hl with | [_, _, _], _ => rfl
  have F1 : Has K mg "_law_row" s_l_row ["_law_cell_here", "_law_size"] := .mk' (PySem.W.mg_of X G a1) l1 c1 k1 fun _ _ _ _ _ _ us hl => match us, hl with | [_, _], _ => rfl
  have F2 : Has K mg "_law_drawn" s_l_drawn ["_law_cell_here"] := .mk' (PySem.W.mg_of X G a2) l2 c2 k2 fun _ _ _ _ _ _ us hl => match us, hl with | [_], _ => rfl
  have F3 : Has K mg "heights" s_heights ["row"] := .mk' (PySem.W.mg_of X G a3) l3 c3 k3 fun _ _ _ _ _ _ us hl => match us, hl with | [_], _ => rfl
  have F4 : Has K mg "is_whole" s_is_whole ["thing"] := .mk' (PySem.W.mg_of X G a4) l4 c4 k4 fun _ _ _ _ _ _ us hl => match us, hl with | [_], _ => rfl
  have F5 : Has K mg "turn_of" s_turn_of ["row"] := .mk' (PySem.W.mg_of X G a5) l5 c5 k5 fun _ _ _ _ _ _ us hl => match us, hl with | [_], _ => rfl
  have F6 : Has K mg "_law_is_whole" s_l_is_whole ["_law_text"] := .mk' (PySem.W.mg_of X G a6) l6 c6 k6 fun _ _ _ _ _ _ us hl => match us, hl with | [_], _ => rfl
  have F7 : Has K mg "_law_whole" s_l_whole ["_law_found"] := .mk' (PySem.W.mg_of X G a7) l7 c7 k7 fun _ _ _ _ _ _ us hl => match us, hl with | [_], _ => rfl
  have FL := fun_mk (st := s_law) l8 c8 k8
  refine ⟨PySem.W.fnOf "law" "law" (defArgs s_law) (defBody s_law) (defScope s_law) .none kV8 dc8 pm8 an8 cd8 ct8, fun s v => .of_eq rfl, fun base _ _ => ?_⟩
  have C0 := ok_l_mix (P := l.prog) (w := w) (base := base) (cl := (fun _ => 0)) (k := 0) M F0
  have C1 := ok_l_row (P := l.prog) (w := w) (base := base) (cl := (fun _ => 0)) (k := 1) M F1 (C0.mono (by decide))
  have C2 := ok_l_drawn (P := l.prog) (w := w) (base := base) (cl := (fun _ => 0)) (k := 2) M F2 (C0.mono (by decide)) (C1.mono (by decide))
  have C3 := ok_heights (P := l.prog) (w := w) (base := base) (cl := (fun _ => 0)) (k := 0) M F3
  have C4 := ok_is_whole (P := l.prog) (w := w) (base := base) (cl := (fun _ => 0)) (k := 1) M F4 (C3.mono (by decide))
  have C5 := ok_turn_of (P := l.prog) (w := w) (base := base) (cl := (fun _ => 0)) (k := 2) M F5 (C4.mono (by decide))
  have C6 := ok_l_is_whole (P := l.prog) (w := w) (base := base) (cl := (fun _ => 0)) (k := 0) M F6
  have C7 := ok_l_whole (P := l.prog) (w := w) (base := base) (cl := (fun _ => 0)) (k := 0) M F7
  exact fn_law (k := 3) M (fun _ => 0) FL (C2.mono (by decide)) (C5.mono (by decide)) (C6.mono (by decide)) (C7.mono (by decide))
end K09
open PySem PySem.W PyProof.Rows
set_option maxHeartbeats 0 in
theorem PySem.Challenge.cw_bracketnumbers_k09_whole_turns_holds : PySem.Challenge.rw_bracketnumbers_k09_whole_turns.Holds := by
  w_on; o_law; k_head; (case hw => w_witness2)
  k_fill
  refine L2.walk_ofB (l := PySem.Challenge.rw_bracketnumbers_k09_whole_turns) (n := 63) (k := 4) (x := "_law_script") (CX := fun w => L2.CX PySem.Challenge.rw_bracketnumbers_k09_whole_turns.prog w) (sp := fun w => Bk.spL _ K09.φ_law) rfl (by decide) rfl ⟨rfl, by decide, by decide⟩ (fun w h Y => PySem.W.kIn_of Y) ?F (fun _ _ a ns hl hb _ hS => Bk.spL_start hS (K09.law_holds ns hl fun z hz => Bk.bits_log (hb z hz))) (fun _ _ _ _ _ h => Bk.cx_end h)
  case F =>
    intro w mg fa h KX G hmg
    refine' K09.all_mk KX G hmg ?a0 ?l0 ?c0 ?k0 ?a1 ?l1 ?c1 ?k1 ?a2 ?l2 ?c2 ?k2 ?a3 ?l3 ?c3 ?k3 ?a4 ?l4 ?c4 ?k4 ?a5 ?l5 ?c5 ?k5 ?a6 ?l6 ?c6 ?k6 ?a7 ?l7 ?c7 ?k7 ?a8 ?l8 ?c8 ?k8 ?z_len ?z_int ?z_min ?z_max ?z_sum ?z_all ?z_list ?z_tuple ?z_sorted ?z_isinstance ?z_str ?z_bool ?z_range ?z_enumerate ?z_reversed ?z_zip ?z_ValueError
    (case a0 => k_is); (case l0 => k_is); (case c0 => k_is); (case k0 => k_is); (case a1 => k_is); (case l1 => k_is); (case c1 => k_is); (case k1 => k_is); (case a2 => k_is); (case l2 => k_is); (case c2 => k_is); (case k2 => k_is); (case a3 => k_is); (case l3 => k_is); (case c3 => k_is); (case k3 => k_is); (case a4 => k_is); (case l4 => k_is); (case c4 => k_is); (case k4 => k_is); (case a5 => k_is); (case l5 => k_is); (case c5 => k_is); (case k5 => k_is); (case a6 => k_is); (case l6 => k_is); (case c6 => k_is); (case k6 => k_is); (case a7 => k_is); (case l7 => k_is); (case c7 => k_is); (case k7 => k_is); (case a8 => k_is); (case l8 => k_is); (case c8 => k_is); (case k8 => k_is); (case z_len => k_is); (case z_int => k_is); (case z_min => k_is); (case z_max => k_is); (case z_sum => k_is); (case z_all => k_is); (case z_list => k_is); (case z_tuple => k_is); (case z_sorted => k_is); (case z_isinstance => k_is); (case z_str => k_is); (case z_bool => k_is); (case z_range => k_is); (case z_enumerate => k_is); (case z_reversed => k_is); (case z_zip => k_is); (case z_ValueError => k_is)
