import PyProof.Rows.All
import HandS.ForMost
import HandS.ForExc
import HandS.Walk
import HandS.Style
import HandS.Wide
import HandS.Conv
import HandS.IsInst
import HandS.RevRange
import HandS.Rev
import HandS.Zip
import KE.KDictKeyed
import KE.KDictWalk
import KE.KDictCopyH
import KE.SortData
import HandS.RevTup
import PyProof.Rows.StrCountLaw
import HandS.ExcIs
import HandS.Replace
import HandS.More
import PyProof.StrLawsFirst
import HandS.SetFor
import PyProof.P3In
import HandS.WordsDict
import PyProof.Rows.SeqRoads
import HandS.EndBits
import PySem.Challenge.RW_bracketnumbers_k10_whole_all_of_a_size
/-! BkPure -/
section
/-! BkPure: values without a heap, answers, states of a def, and what expressions and statements give; core Lean alone -/
set_option linter.all false
set_option maxRecDepth 100000
namespace Bk
/-- the refusals -/
inductive Cls where
  | noPlace | noRow
  deriving DecidableEq
/-- data -/
inductive D where
  | none | bool (b : Bool) | int (i : Int) | str (s : List Nat) | tup (xs : List D) | lst (xs : List D) | dic (kvs : List (D × D))
inductive Res (α : Type) where
  | ok (a : α) | raise (c : Cls) | bad
def Res.bind {α β : Type} (m : Res α) (k : α → Res β) : Res β := match m with
  | .ok a => k a
  | .raise c => .raise c
  | .bad => .bad
@[simp] theorem bind_ok {α β : Type} (a : α) (k : α → Res β) : (Res.ok a).bind k = k a := id rfl
@[simp] theorem bind_raise {α β : Type} (c : Cls) (k : α → Res β) : (Res.raise c).bind k = .raise c := id rfl
@[simp] theorem bind_bad {α β : Type} (k : α → Res β) : (Res.bad : Res α).bind k = .bad := id rfl
/-- no refusal may come here -/
def Res.calm {α : Type} : Res α → Res α
  | .ok a => .ok a
  | _ => .bad
@[simp] theorem calm_ok {α : Type} (a : α) : (Res.ok a).calm = .ok a := id rfl
def Res.Sat {α : Type} (m : Res α) (P : α → Prop) (R : Cls → Prop) : Prop := match m with
  | .ok a => P a
  | .raise c => R c
  | .bad => False
theorem Sat.mono {α : Type} {m : Res α} {P P' : α → Prop} {R R' : Cls → Prop} (h : m.Sat P R) (hp : ∀ a, P a → P' a) (hr : ∀ c, R c → R' c) : m.Sat P' R' := by
  cases m with
  | ok a => exact hp a h
  | raise c => exact hr c h
  | bad => exact h
theorem sat_bind {α β : Type} {m : Res α} {k : α → Res β} {P : β → Prop} {R : Cls → Prop} (h : (m.bind k).Sat P R) : m.Sat (fun a => (k a).Sat P R) R := by
  cases m with
  | ok a => exact h
  | raise c => exact h
  | bad => exact h
theorem sat_calm {α : Type} {m : Res α} {P : α → Prop} {R R' : Cls → Prop} (h : m.calm.Sat P R) : m.Sat P R' := by
  cases m with
  | ok a => exact h
  | raise c => exact h.elim
  | bad => exact h

/-- what a slot holds: data; a list, a dict of the def's own that still grows; a dict of keys that are tuples, not empty -/
inductive S where
  | dat (d : D) | own (ds : List D) | dic (kvs : List (D × D)) | kd (ks : List D)
abbrev Env := List (Option S)
abbrev E := Env → Res D
abbrev T := Env → Res Bool
abbrev I := Env → Res (List D)
abbrev G := D → Env → Res Env

/-- the most that a list, a text may hold -/
abbrev lim : Nat := 16777216

/-! ### places -/
def ix (n : Nat) (i : Int) : Option Nat := if 0 ≤ i then (if i < n then some i.toNat else Option.none) else if -(n : Int) ≤ i then some (i + n).toNat else Option.none
def at? {α : Type} (xs : List α) (i : Int) : Option α := (ix xs.length i).bind fun j => xs[j]?
def sl (n d : Nat) : Option Int → Nat
  | Option.none => d
  | some v => if v < 0 then (v + (n : Int)).toNat else min v.toNat n
def cut {α : Type} (xs : List α) (lo hi : Option Int) : List α := (xs.drop (sl xs.length 0 lo)).take (sl xs.length xs.length hi - sl xs.length 0 lo)

/-! ### equality -/
mutual
def D.eqv : D → D → Bool
  | .none, .none => true
  | .bool a, .bool b => a == b
  | .bool a, .int j => (if a then 1 else 0) == j
  | .int i, .bool b => i == (if b then 1 else 0)
  | .int i, .int j => i == j
  | .str x, .str y => x == y
  | .lst xs, .lst ys => D.eqvAll xs ys
  | .tup xs, .tup ys => D.eqvAll xs ys
  | _, _ => false
def D.eqvAll : List D → List D → Bool
  | [], [] => true
  | x :: xs, y :: ys => D.eqv x y && D.eqvAll xs ys
  | _, _ => false
end
/-- a text that may be compared: signs from the blank to ~ -/
def plainS (s : List Nat) : Bool := s.all fun c => decide (c < 128)
mutual
/-- may be compared to a depth -/
def D.cmp : Nat → D → Bool
  | _, .none => true
  | _, .bool _ => true
  | _, .int _ => true
  | _, .str s => plainS s && decide (s.length ≤ lim)
  | 0, .tup _ => false
  | 0, .lst _ => false
  | n + 1, .tup xs => D.cmpAll n xs
  | n + 1, .lst xs => D.cmpAll n xs
  | _, .dic _ => false
def D.cmpAll : Nat → List D → Bool
  | _, [] => true
  | n, x :: xs => D.cmp n x && D.cmpAll n xs
end
def dEq (a b : D) : Res D := if D.cmp 64 a && D.cmp 64 b then .ok (.bool (D.eqv a b)) else .bad
def dNe (a b : D) : Res D := if D.cmp 64 a && D.cmp 64 b then .ok (.bool (!D.eqv a b)) else .bad

/-! ### operators -/
def dAdd : D → D → Res D
  | .int a, .int b => .ok (.int (a + b))
  | .str a, .str b => if a.length + b.length ≤ lim then .ok (.str (a ++ b)) else .bad
  | .lst a, .lst b => if a.length + b.length ≤ lim then .ok (.lst (a ++ b)) else .bad
  | .tup a, .tup b => if a.length + b.length ≤ lim ∧ a ≠ [] then .ok (.tup (a ++ b)) else .bad
  | _, _ => .bad
def dSub : D → D → Res D
  | .int a, .int b => .ok (.int (a - b))
  | _, _ => .bad
/-- two whole numbers, of less than so many bits -/
def small (n : Int) : Prop := -(2 ^ 64) < n ∧ n < 2 ^ 64
instance (n : Int) : Decidable (small n) := inferInstanceAs (Decidable (_ ∧ _))
def dMul : D → D → Res D
  | .int a, .int b => if small a ∨ small b ∨ a.natAbs.log2 + b.natAbs.log2 < 100000000 then .ok (.int (a * b)) else .bad
  | .str a, .int b => if 0 ≤ b ∧ b ≤ lim ∧ a.length * b.toNat ≤ lim then .ok (.str (List.replicate b.toNat a).flatten) else .bad
  | _, _ => .bad
def dPow : D → D → Res D
  | .int a, .int b => if 0 ≤ b ∧ b ≤ 1000000 ∧ a.natAbs < 2 ^ 64 then .ok (.int (a ^ b.toNat)) else .bad
  | _, _ => .bad
def dDiv : D → D → Res D
  | .int a, .int b => if 0 < b ∧ b < 1073741824 then .ok (.int (a / b)) else .bad
  | _, _ => .bad
def dMod : D → D → Res D
  | .int a, .int b => if 0 < b then .ok (.int (a % b)) else .bad
  | _, _ => .bad
def dNeg : D → Res D
  | .int a => .ok (.int (-a))
  | _ => .bad
def dLt : D → D → Res D
  | .int a, .int b => .ok (.bool (decide (a < b)))
  | .str a, .str b => .ok (.bool (decide (a < b)))
  | _, _ => .bad
def dLe : D → D → Res D
  | .int a, .int b => .ok (.bool (decide (a ≤ b)))
  | _, _ => .bad
def dGt : D → D → Res D
  | .int a, .int b => .ok (.bool (decide (b < a)))
  | _, _ => .bad
def dGe : D → D → Res D
  | .int a, .int b => .ok (.bool (decide (b ≤ a)))
  | _, _ => .bad
/-- x is None, is not None -/
def dIsN : D → D → Res D
  | .none, .none => .ok (.bool true)
  | _, .none => .ok (.bool false)
  | _, _ => .bad
def dNotN : D → D → Res D
  | .none, .none => .ok (.bool false)
  | _, .none => .ok (.bool true)
  | _, _ => .bad
/-- x is True, False; its not -/
def dIsB : D → D → Res D
  | .bool a, .bool b => .ok (.bool (a == b))
  | _, _ => .bad
def dNotB : D → D → Res D
  | .bool a, .bool b => .ok (.bool (!(a == b)))
  | _, _ => .bad
/-- one sign in a text -/
def dInS : D → D → Res D
  | .str [c], .str s => .ok (.bool (decide (c ∈ s)))
  | _, _ => .bad
def dIdx : D → D → Res D
  | .lst xs, .int i => match at? xs i with
    | some d => .ok d
    | Option.none => .bad
  | .tup xs, .int i => match at? xs i with
    | some d => .ok d
    | Option.none => .bad
  | .str s, .int i => if s.length ≤ lim then (match at? s i with
    | some c => .ok (.str [c])
    | Option.none => .bad) else .bad
  | _, _ => .bad
def dTruth : D → Res Bool
  | .none => .ok false
  | .bool b => .ok b
  | .int i => .ok (i != 0)
  | .str s => if s.length ≤ lim then .ok (!s.isEmpty) else .bad
  | .lst xs => .ok (!xs.isEmpty)
  | .tup xs => .ok (!xs.isEmpty)
  | .dic _ => .bad
def asBool : D → Res Bool
  | .bool b => .ok b
  | _ => .bad

/-! ### built-ins of one thing -/
def numsL : List D → Option (List Int)
  | [] => some []
  | .int i :: r => (numsL r).map (i :: ·)
  | _ => Option.none
def strsL : List D → Option (List (List Nat))
  | [] => some []
  | .str i :: r => (strsL r).map (i :: ·)
  | _ => Option.none
def boolsL : List D → Option (List Bool)
  | [] => some []
  | .bool i :: r => (boolsL r).map (i :: ·)
  | _ => Option.none
def bLen : D → Res D
  | .str s => if s.length ≤ lim then .ok (.int s.length) else .bad
  | .lst xs => .ok (.int xs.length)
  | .tup xs => .ok (.int xs.length)
  | _ => .bad
def bInt : D → Res D
  | .bool b => .ok (.int (if b then 1 else 0))
  | .int i => .ok (.int i)
  | _ => .bad
def least : Int → List Int → Int
  | m, [] => m
  | m, x :: r => least (if x < m then x else m) r
def most : Int → List Int → Int
  | m, [] => m
  | m, x :: r => most (if m < x then x else m) r
def bMin : D → Res D
  | .lst xs => match numsL xs with
    | some (x :: r) => .ok (.int (least x r))
    | _ => .bad
  | _ => .bad
def bMax : D → Res D
  | .lst xs => match numsL xs with
    | some (x :: r) => .ok (.int (most x r))
    | _ => .bad
  | _ => .bad
def bSum : D → Res D
  | .lst xs => match numsL xs with
    | some ns => .ok (.int ns.sum)
    | _ => .bad
  | _ => .bad
def bAll : D → Res D
  | .lst xs => match boolsL xs with
    | some bs => .ok (.bool (bs.all id))
    | _ => .bad
  | _ => .bad
def bList : D → Res D
  | .lst xs => .ok (.lst xs)
  | .tup xs => .ok (.lst xs)
  | _ => .bad
def bTuple : D → Res D
  | .lst xs => .ok (.tup xs)
  | .tup xs => .ok (.tup xs)
  | _ => .bad
def bRev : D → Res D
  | .lst xs => .ok (.lst xs.reverse)
  | _ => .bad
/-! the order that sorting goes by -/
mutual
def D.alike : D → D → Bool
  | .none, .none => true
  | .bool _, .bool _ => true
  | .int _, .int _ => true
  | .str _, .str _ => true
  | .lst xs, .lst ys => D.alikeAll xs ys
  | .tup xs, .tup ys => D.alikeAll xs ys
  | _, _ => false
def D.alikeAll : List D → List D → Bool
  | x :: xs, y :: ys => D.alike x y && D.alikeAll xs ys
  | [], _ => true
  | _ :: _, [] => true
end
mutual
def D.lt : D → D → Bool
  | .bool a, .bool b => !a && b
  | .int a, .int b => decide (a < b)
  | .str a, .str b => decide (a < b)
  | .lst a, .lst b => D.ltAll a b
  | .tup a, .tup b => D.ltAll a b
  | _, _ => false
def D.ltAll : List D → List D → Bool
  | [], [] => false
  | [], _ :: _ => true
  | _ :: _, [] => false
  | x :: xs, y :: ys => if D.eqv x y then D.ltAll xs ys else D.lt x y
end
def D.le (a b : D) : Bool := !(D.lt b a)
/-- all tuples with an item, or none a tuple, None -/
def D.row1 : D → Bool
  | .tup (_ :: _) => true
  | _ => false
def D.row0 : D → Bool
  | .tup _ => false
  | .none => false
  | _ => true
def sortable (xs : List D) : Bool := (xs.all fun a => xs.all fun b => D.alike a b) && (xs.all D.row1 || xs.all D.row0) && xs.all (D.cmp 8) && decide (xs.length ≤ lim)
def bSorted : D → Res D
  | .lst xs => if sortable xs then .ok (.lst (xs.mergeSort D.le)) else .bad
  | .tup xs => if sortable xs then .ok (.lst (xs.mergeSort D.le)) else .bad
  | _ => .bad
def dMin2 : D → D → Res D
  | .int a, .int b => .ok (.int (if b < a then b else a))
  | _, _ => .bad
/-- the text's kinds that isinstance is asked of -/
inductive Ty where
  | str | int | bool | tuple
  deriving DecidableEq
def isTy : Ty → D → Bool
  | .str, .str _ => true
  | .int, .int _ => true
  | .int, .bool _ => true
  | .bool, .bool _ => true
  | .tuple, .tup _ => true
  | _, _ => false
def bIs (t : Ty) (d : D) : Res D := match d with
  | .dic _ => .bad
  | d => .ok (.bool (isTy t d))
/-- sep.join(list) -/
def joinS (sep : List Nat) : List (List Nat) → List Nat
  | [] => []
  | [x] => x
  | x :: y :: r => x ++ sep ++ joinS sep (y :: r)
def lenSum : List (List Nat) → Nat
  | [] => 0
  | x :: r => x.length + lenSum r
def dJoin : D → D → Res D
  | .str sep, .lst xs => match strsL xs with
    | some ss => if lenSum ss + ss.length * sep.length ≤ lim then .ok (.str (joinS sep ss)) else .bad
    | _ => .bad
  | _, _ => .bad
/-- s.count(one sign) -/
def dCount : D → D → Res D
  | .str s, .str [c] => if s.length ≤ lim then .ok (.int (s.count c : Nat)) else .bad
  | _, _ => .bad

/-! ### expressions -/
def eVar (i : Nat) : E := fun η => match η[i]? with
  | some (some (.dat d)) => .ok d
  | _ => .bad
def eC (d : D) : E := fun _ => .ok d
def eUn (u : D → Res D) (f : E) : E := fun η => (f η).bind fun x => (u x).calm
def eBin (b : D → D → Res D) (f g : E) : E := fun η => (f η).bind fun x => (g η).bind fun y => (b x y).calm
def eAnd (f g : E) : E := fun η => (f η).bind fun x => match x with
  | .bool true => g η
  | .bool false => .ok (.bool false)
  | _ => .bad
def eOr (f g : E) : E := fun η => (f η).bind fun x => match x with
  | .bool true => .ok (.bool true)
  | .bool false => g η
  | _ => .bad
def eNot (f : E) : E := fun η => (f η).bind fun x => match x with
  | .bool b => .ok (.bool (!b))
  | _ => .bad
/-- a < b < c -/
def eChain (r r' : D → D → Res D) (f g h : E) : E := fun η => (f η).bind fun x => (g η).bind fun y => (r x y).calm.bind fun z => match z with
  | .bool true => (h η).bind fun w => (r' y w).calm
  | .bool false => .ok (.bool false)
  | _ => .bad
def evals : List E → Env → Res (List D)
  | [], _ => .ok []
  | f :: r, η => (f η).bind fun x => (evals r η).bind fun xs => .ok (x :: xs)
def eTup (fs : List E) : E := fun η => (evals fs η).bind fun ds => .ok (.tup ds)
def eLst (fs : List E) : E := fun η => (evals fs η).bind fun ds => .ok (.lst ds)
def eCall (φ : List D → Res D) (fs : List E) : E := fun η => (evals fs η).bind φ
/-- a part of a slice -/
def ePart : Option E → Env → Res (Option Int)
  | Option.none, _ => .ok Option.none
  | some f, η => (f η).bind fun x => match x with
    | .int i => .ok (some i)
    | _ => .bad
def dCut (d : D) (lo hi : Option Int) : Res D := match d with
  | .str s => if s.length ≤ lim then .ok (.str (cut s lo hi)) else .bad
  | .lst xs => .ok (.lst (cut xs lo hi))
  | .tup xs => if ¬ (sl xs.length 0 lo = 0 ∧ sl xs.length xs.length hi = xs.length) then .ok (.tup (cut xs lo hi)) else .bad
  | _ => .bad
def eSlice (f : E) (lo hi : Option E) : E := fun η => (f η).bind fun x => (ePart lo η).bind fun a => (ePart hi η).bind fun b => (dCut x a b).calm
/-- a built-in of the def's own list in slot i -/
def eOwn (u : D → Res D) (i : Nat) : E := fun η => match η[i]? with
  | some (some (.own ds)) => (u (.lst ds)).calm
  | _ => .bad
def eOwnB (b : D → D → Res D) (i : Nat) (g : E) : E := fun η => match η[i]? with
  | some (some (.own ds)) => (g η).bind fun y => (b (.lst ds) y).calm
  | _ => .bad

/-! ### tests -/
def tE (f : E) : T := fun η => (f η).bind asBool
def tV (f : E) : T := fun η => (f η).bind dTruth
def tAnd (t u : T) : T := fun η => (t η).bind fun b => if b then u η else .ok false
def tOr (t u : T) : T := fun η => (t η).bind fun b => if b then .ok true else u η
def tNot (t : T) : T := fun η => (t η).bind fun b => .ok (!b)
def tYes : T := fun _ => .ok true
def tOwn (i : Nat) : T := fun η => match η[i]? with
  | some (some (.own ds)) => .ok (!ds.isEmpty)
  | _ => .bad
def eIf (t : T) (f g : E) : E := fun η => (t η).bind fun b => if b then f η else g η

/-! ### what is walked -/
def signs (s : List Nat) : List D := s.map fun c => .str [c]
def items : D → Res (List D)
  | .lst xs => .ok xs
  | .tup xs => .ok xs
  | .str s => .ok (signs s)
  | _ => .bad
def iAny (f : E) : I := fun η => (f η).bind items
def numbers (lo : Int) (n : Nat) : List D := (List.range n).map fun k : Nat => D.int (lo + (k : Int))
def rngOk (i : Int) : Bool := decide (-(2 ^ 62) ≤ i) && decide (i < 2 ^ 62)
def rng1 : D → Res (List D)
  | .int n => if rngOk n then .ok (numbers 0 n.toNat) else .bad
  | _ => .bad
def rng2 : D → D → Res (List D)
  | .int a, .int b => if rngOk a && rngOk b then .ok (numbers a (b - a).toNat) else .bad
  | _, _ => .bad
def iRange1 (f : E) : I := fun η => (f η).bind rng1
def iRange2 (f g : E) : I := fun η => (f η).bind fun a => (g η).bind fun b => rng2 a b
def iRevRange1 (f : E) : I := fun η => (f η).bind fun a => (rng1 a).bind fun xs => .ok xs.reverse
def enumL (k : Nat) : List D → List D
  | [] => []
  | d :: r => .tup [.int k, d] :: enumL (k + 1) r
def iEnum (f : E) : I := fun η => (f η).bind fun x => match x with
  | .lst xs => .ok (enumL 0 xs)
  | .str s => .ok (enumL 0 (signs s))
  | _ => .bad
def iRev (f : E) : I := fun η => (f η).bind fun x => match x with
  | .lst xs => .ok xs.reverse
  | .tup xs => .ok xs.reverse
  | .str s => .ok (signs s.reverse)
  | _ => .bad
/-- reversed(text) -/
def iRevS (f : E) : I := fun η => (f η).bind fun x => match x with
  | .str s => if s.length ≤ lim then .ok (signs s.reverse) else .bad
  | _ => .bad
def zipL : List D → List D → List D
  | x :: xs, y :: ys => .tup [x, y] :: zipL xs ys
  | _, _ => []
def iZip (f g : E) : I := fun η => (f η).bind fun x => (g η).bind fun y => match x, y with
  | .lst xs, .lst ys => .ok (zipL xs ys)
  | _, _ => .bad

/-! ### targets -/
def gName (i : Nat) : G := fun d η => .ok (η.set i (some (.dat d)))
def gPair (i j : Nat) : G := fun d η => match d with
  | .tup [x, y] => .ok ((η.set i (some (.dat x))).set j (some (.dat y)))
  | _ => .bad
def gTri (i j k : Nat) : G := fun d η => match d with
  | .tup [x, y, z] => .ok (((η.set i (some (.dat x))).set j (some (.dat y))).set k (some (.dat z)))
  | _ => .bad
/-- from a list of two -/
def gPairL (i j : Nat) : G := fun d η => match d with
  | .lst [x, y] => .ok ((η.set i (some (.dat x))).set j (some (.dat y)))
  | _ => .bad

/-! ### comprehensions -/
def wipes (η : Env) : List Nat → Env
  | [] => η
  | v :: vs => (wipes η vs).set v Option.none
def comp (g : G) (t : T) (e : E) (η : Env) : List D → Res (List D)
  | [] => .ok []
  | d :: ds => (g d η).calm.bind fun η1 => (t η1).bind fun b => if b then (e η1).bind fun y => (comp g t e η ds).bind fun ys => .ok (y :: ys) else comp g t e η ds
def eComp (own : List Nat) (fi : I) (g : G) (t : T) (e : E) : E := fun η => (fi η).bind fun ds => if ds.length ≤ lim then ((comp g t e (wipes η own) ds).bind fun ys => .ok (.lst ys)).calm else .bad

/-! ### statements -/
inductive Out where
  | next (η : Env) | brk (η : Env) | ct (η : Env) | ret (d : D) | raise (c : Cls) | bad
abbrev St := Env → Out
def Out.andThen (o : Out) (k : St) : Out := match o with
  | .next η => k η
  | .brk η => .brk η
  | .ct η => .ct η
  | .ret d => .ret d
  | .raise c => .raise c
  | .bad => .bad
@[simp] theorem andThen_next (η : Env) (k : St) : (Out.next η).andThen k = k η := id rfl
@[simp] theorem andThen_ret (d : D) (k : St) : (Out.ret d).andThen k = .ret d := id rfl
@[simp] theorem andThen_brk (η : Env) (k : St) : (Out.brk η).andThen k = .brk η := id rfl
@[simp] theorem andThen_ct (η : Env) (k : St) : (Out.ct η).andThen k = .ct η := id rfl
@[simp] theorem andThen_raise (c : Cls) (k : St) : (Out.raise c).andThen k = .raise c := id rfl
@[simp] theorem andThen_bad (k : St) : Out.bad.andThen k = .bad := id rfl
def outOf {α : Type} (m : Res α) (k : α → Out) : Out := match m with
  | .ok a => k a
  | .raise c => .raise c
  | .bad => .bad
@[simp] theorem outOf_ok {α : Type} (a : α) (k : α → Out) : outOf (.ok a) k = k a := id rfl
@[simp] theorem outOf_raise {α : Type} (c : Cls) (k : α → Out) : outOf (.raise c) k = .raise c := id rfl
@[simp] theorem outOf_bad {α : Type} (k : α → Out) : outOf (.bad : Res α) k = .bad := id rfl
def sSkip : St := fun η => .next η
def sSeq (a b : St) : St := fun η => (a η).andThen b
def sAsg (f : E) (g : G) : St := fun η => outOf (f η) fun d => outOf (g d η).calm fun η' => .next η'
def sSet (i : Nat) (f : E) : St := sAsg f (gName i)
def sDrop (f : E) : St := fun η => outOf (f η) fun _ => .next η
def sRet (f : E) : St := fun η => outOf (f η) fun d => .ret d
def sIf (t : T) (a b : St) : St := fun η => outOf (t η) fun c => if c then a η else b η
def sRaise (c : Cls) : St := fun _ => .raise c
def sBrk : St := fun η => .brk η
def sCont : St := fun η => .ct η
def loop (g : G) (b : St) : List D → St
  | [], η => .next η
  | d :: ds, η => outOf (g d η).calm fun η1 => match b η1 with
    | .next η' => loop g b ds η'
    | .ct η' => loop g b ds η'
    | .brk η' => .next η'
    | o => o
def sFor (fi : I) (g : G) (b : St) : St := fun η => outOf (fi η) fun ds => loop g b ds η
def whil (t : T) (b : St) : Nat → St
  | 0, _ => .bad
  | n + 1, η => outOf (t η) fun c => if c then (match b η with
    | .next η' => whil t b n η'
    | .ct η' => whil t b n η'
    | .brk η' => .next η'
    | o => o) else .next η
def sWhile (n : Nat) (t : T) (b : St) : St := fun η => whil t b n η
/-- x = [a, b, ..], a list that will grow -/
def sNew (i : Nat) (fs : List E) : St := fun η => outOf (evals fs η) fun ds => .next (η.set i (some (.own ds)))
def sNewD (i : Nat) : St := fun η => .next (η.set i (some (.dic [])))
/-- x.append(e) -/
def appTo (i : Nat) (d : D) : St := fun η => match η[i]? with
  | some (some (.own ds)) => if ds.length < lim then .next (η.set i (some (.own (ds ++ [d])))) else .bad
  | _ => .bad
def sApp (i : Nat) (f : E) : St := fun η => match η[i]? with
  | some (some (.own _)) => outOf (f η) fun d => appTo i d η
  | _ => .bad
/-- x.extend(e) -/
def seqOf : D → Res (List D)
  | .lst xs => .ok xs
  | .tup xs => .ok xs
  | _ => .bad
def extTo (i : Nat) (d : D) : St := fun η => match η[i]? with
  | some (some (.own ds)) => outOf (seqOf d) fun xs => if ds.length + xs.length ≤ lim then .next (η.set i (some (.own (ds ++ xs)))) else .bad
  | _ => .bad
def sExt (i : Nat) (f : E) : St := fun η => match η[i]? with
  | some (some (.own _)) => outOf (f η) fun d => extTo i d η
  | _ => .bad
/-- the own list's last -/
def popOf (j : Nat) (η : Env) : Res (D × Env) := match η[j]? with
  | some (some (.own ds)) => match ds[ds.length - 1]? with
    | some d => .ok (d, η.set j (some (.own ds.dropLast)))
    | Option.none => .bad
  | _ => .bad
/-- x.append(y.pop()) -/
def sAppPop (i j : Nat) : St := fun η => match η[i]? with
  | some (some (.own _)) => outOf (popOf j η).calm fun p => appTo i p.1 p.2
  | _ => .bad
/-- dicts -/
def keyD : D → Bool
  | .int _ => true
  | .str _ => true
  | _ => false
def sameKey : D → D → Bool
  | .int a, .int b => a == b
  | .str a, .str b => a == b
  | _, _ => false
def dget (kvs : List (D × D)) (k : D) : Option D := (kvs.find? fun kv => sameKey kv.1 k).map (·.2)
def dput (kvs : List (D × D)) (k v : D) : List (D × D) := if kvs.any (fun kv => sameKey kv.1 k) then kvs.map fun kv => if sameKey kv.1 k then (kv.1, v) else kv else kvs ++ [(k, v)]
def putTo (i : Nat) (k v : D) : St := fun η => match η[i]? with
  | some (some (.dic kvs)) => if kvs.length < lim ∧ keyD k then .next (η.set i (some (.dic (dput kvs k v)))) else .bad
  | _ => .bad
/-- x[k] = v -/
def sPut (i : Nat) (fk fv : E) : St := fun η => outOf (fv η) fun v => match η[i]? with
  | some (some (.dic _)) => outOf (fk η) fun k => putTo i k v η
  | _ => .bad
/-- x[k] = y.pop() -/
def sPutPop (i : Nat) (fk : E) (j : Nat) : St := fun η => outOf (popOf j η).calm fun p => match p.2[i]? with
  | some (some (.dic _)) => outOf (fk p.2) fun k => putTo i k p.1 p.2
  | _ => .bad
/-- x[k], x.get(k, d) of the def's own dict -/
def eDGet (i : Nat) (fk : E) : E := fun η => match η[i]? with
  | some (some (.dic kvs)) => (fk η).bind fun k => if keyD k then (match dget kvs k with
    | some v => .ok v
    | Option.none => .bad) else .bad
  | _ => .bad
def eDGet2 (i : Nat) (fk fd : E) : E := fun η => match η[i]? with
  | some (some (.dic kvs)) => (fk η).bind fun k => (fd η).bind fun d => if keyD k then .ok ((dget kvs k).getD d) else .bad
  | _ => .bad
/-- {'(': 1, ')': -1}.get(e, d) -/
def dSign (x z : D) : Res D := match x with
  | .str s => .ok (if s = [40] then .int 1 else if s = [41] then .int (-1) else z)
  | _ => .bad
def eSign (fk fd : E) : E := eBin dSign fk fd
/-- return of the def's own list -/
def sRetOwn (i : Nat) : St := fun η => match η[i]? with
  | some (some (.own ds)) => .ret (.lst ds)
  | _ => .bad
/-! two signs in a text; items of a list or tuple; own dicts and lists; a < b < c < d -/
def findTwo (a b : Nat) (s : List Nat) : Option Nat := (List.range s.length).find? fun i => s[i]? == some a && s[i + 1]? == some b
def dInT : D → D → Res D
  | .str [a, b], .str s => .ok (.bool (findTwo a b s).isSome)
  | _, _ => .bad
def dFind : D → D → Res D
  | .str s, .str [a, b] => match findTwo a b s with
    | some i => .ok (.int (i : Nat))
    | Option.none => .bad
  | _, _ => .bad
def flatD : D → Bool
  | .none => true
  | .bool _ => true
  | .int _ => true
  | .str _ => true
  | _ => false
def inL (x : D) (ys : List D) : Bool := ys.any fun y => D.eqv y x
def dInL (x : D) : D → Res D
  | .lst ys => if flatD x && ys.all flatD then .ok (.bool (inL x ys)) else .bad
  | .tup ys => if flatD x && ys.all flatD then .ok (.bool (inL x ys)) else .bad
  | _ => .bad
def dNInL (x : D) : D → Res D
  | .lst ys => if flatD x && ys.all flatD then .ok (.bool (!inL x ys)) else .bad
  | .tup ys => if flatD x && ys.all flatD then .ok (.bool (!inL x ys)) else .bad
  | _ => .bad
/-- x op the def's own list -/
def eBinO (b : D → D → Res D) (f : E) (i : Nat) : E := fun η => (f η).bind fun x => match η[i]? with
  | some (some (.own ds)) => (b x (.lst ds)).calm
  | _ => .bad
def eDLen (i : Nat) : E := fun η => match η[i]? with
  | some (some (.dic kvs)) => .ok (.int kvs.length)
  | _ => .bad
/-- sorted(own dict), the keys texts -/
def eDSorted (i : Nat) : E := fun η => match η[i]? with
  | some (some (.dic kvs)) => match strsL (kvs.map (·.1)) with
    | some ks => if ks.length < 64 then .ok (.lst ((ks.mergeSort fun a b => !decide (b < a)).map D.str)) else .bad
    | Option.none => .bad
  | _ => .bad
def eChain3 (r1 r2 r3 : D → D → Res D) (f g h k : E) : E := fun η => (f η).bind fun x => (g η).bind fun y => (r1 x y).calm.bind fun z => match z with
  | .bool true => (h η).bind fun w => (r2 y w).calm.bind fun z2 => match z2 with
    | .bool true => (k η).bind fun v => (r3 w v).calm
    | .bool false => .ok (.bool false)
    | _ => .bad
  | .bool false => .ok (.bool false)
  | _ => .bad
/-- list.count of a tuple of two numbers -/
def pairNum : D → Bool
  | .tup [.int _, .int _] => true
  | _ => false
def dCountL : D → D → Res D
  | .lst xs, y => if pairNum y && xs.all pairNum then .ok (.int (xs.countP fun x => D.eqv x y : Nat)) else .bad
  | _, _ => .bad
/-! a call that may be refused, in a try -/
def eCallT (φ : List D → Res D) (fs : List E) : E := fun η => (evals fs η).calm.bind φ
def sIfC (t : T) (a b : St) : St := fun η => outOf (t η).calm fun c => if c then a η else b η
def sTryAs (i : Nat) (b : St) (h : Cls → St) : St := fun η => match b η with
  | .next η' => .next η'
  | .raise c => if i < η.length then (match h c (η.set i Option.none) with
    | .next η' => .next (η'.set i Option.none)
    | _ => .bad) else .bad
  | _ => .bad
/-- [x.pop(e) for .. in ..], x the own list in slot i -/
def pops (i : Nat) (own : List Nat) (g : G) (fe : E) : List D → Env → Res (List D)
  | [], _ => .ok []
  | d :: ds, η => (g d (wipes η own)).calm.bind fun η1 => match η[i]? with
    | some (some (.own xs)) => (fe η1).calm.bind fun y => match y with
      | .int k => if 0 ≤ k ∧ k < xs.length ∧ k < 1000000 then (match xs[k.toNat]? with
        | some v => (pops i own g fe ds (η.set i (some (.own (xs.eraseIdx k.toNat))))).bind fun r => .ok (v :: r)
        | Option.none => .bad) else .bad
      | _ => .bad
    | _ => .bad
def sRetPops (i : Nat) (own : List Nat) (fi : I) (g : G) (fe : E) : St := fun η => outOf (fi η) fun ds => if ds.length ≤ lim ∧ i ∉ own then outOf (pops i own g fe ds η).calm fun ys => outOf (dJoin (.str []) (.lst ys)).calm fun r => .ret r else .bad
/-- x = a + b, a list that will change -/
def sNewCat (i : Nat) (f g : E) : St := fun η => outOf (f η) fun x => outOf (g η) fun y => match x, y with
  | .lst xs, .lst ys => if xs.length + ys.length ≤ lim then .next (η.set i (some (.own (xs ++ ys)))) else .bad
  | _, _ => .bad
/-- list * int -/
def dRepL : D → D → Res D
  | .lst xs, .int k => if 0 ≤ k ∧ k ≤ lim ∧ xs.length * k.toNat ≤ lim then .ok (.lst (List.replicate k.toNat xs).flatten) else .bad
  | _, _ => .bad
/-- a def: n slots, its body -/
def runDef (n : Nat) (g : St) (ds : List D) : Res D := match g (ds.map (fun d => some (S.dat d)) ++ List.replicate (n - ds.length) Option.none) with
  | .ret d => .ok d
  | .next _ => .ok .none
  | .raise c => .raise c
  | _ => .bad
end Bk
end
/-! BkBase -/
section
set_option Elab.async false
set_option linter.all false
set_option autoImplicit false
set_option maxRecDepth 100000
set_option maxHeartbeats 4000000
/-! BkBase: what stands in the heap for data and states; the readings of expressions and statements by what they give -/
namespace Bk
open PySem PySem.Spec PyProof.Rows L2
/-- a text by its signs -/
abbrev Sx (l : List Nat) : Str := ⟨l.toArray⟩
theorem sx_tl (x : Str) : Sx x.cps.toList = x := by
  obtain ⟨c⟩ := x
  rfl
theorem sx_len (l : List Nat) : (Sx l).length = l.length := by simp [Sx, Str.length]
theorem sx_inj {a b : List Nat} (h : Sx a = Sx b) : a = b := by
  have h1 := congrArg (fun z : Str => z.cps.toList) h
  simpa using h1
theorem sx_app (a b : List Nat) : Sx a ++ Sx b = Sx (a ++ b) := by
  have h := TL.tl_append (Sx a) (Sx b)
  rw [← sx_tl (Sx a ++ Sx b)]
  show Sx (TL.tl (Sx a ++ Sx b)) = _
  rw [h]
def keyV : D → Option Key
  | .int i => some (.inl i)
  | .str s => some (.inr (Sx s))
  | _ => Option.none
mutual
/-- v stands for d, by what the heap G holds -/
inductive Rp (K : PySem.W.Frag) (G : Hp) : V → D → Prop
  | none : Rp K G .non .none
  | bool (b : Bool) : Rp K G (.bl b) (.bool b)
  | int (i : Int) : Rp K G (.int i) (.int i)
  | str (s : List Nat) : Rp K G (.str (Sx s)) (.str s)
  | lst {a : Addr} {xs : List V} {ds : List D} : SqL K G a xs → RpAll K G xs ds → Rp K G (.ref a) (.lst ds)
  | tup {a : Addr} {xs : List V} {ds : List D} : SqT K G a xs → RpAll K G xs ds → Rp K G (.ref a) (.tup ds)
  | dic {a : Addr} {kvs : List (Key × V)} {ks : List (D × D)} : G a = some (.dK kvs) → RpKV K G kvs ks → Rp K G (.ref a) (.dic ks)
inductive RpAll (K : PySem.W.Frag) (G : Hp) : List V → List D → Prop
  | nil : RpAll K G [] []
  | cons {v : V} {vs : List V} {d : D} {ds : List D} : Rp K G v d → RpAll K G vs ds → RpAll K G (v :: vs) (d :: ds)
inductive RpKV (K : PySem.W.Frag) (G : Hp) : List (Key × V) → List (D × D) → Prop
  | nil : RpKV K G [] []
  | cons {k : Key} {v : V} {r : List (Key × V)} {kd d : D} {rs : List (D × D)} : keyV kd = some k → Rp K G v d → RpKV K G r rs → RpKV K G ((k, v) :: r) ((kd, d) :: rs)
end
/-- all that H holds stands in H' -/
abbrev Ex (H H' : Hp) : Prop := ∀ a o, H a = some o → H' a = some o
theorem Ex.refl (H : Hp) : Ex H H := fun _ _ h => h
theorem Ex.trans {H H1 H2 : Hp} (a : Ex H H1) (b : Ex H1 H2) : Ex H H2 := fun x o h => b x o (a x o h)
theorem Ex.new {H : Hp} {p : Addr} {o : HO} (h : H p = none) : Ex H (upd H p o) := fun a u e => by
  rw [upd_ne (ne_of_none e h)]
  exact e
theorem Ex.none {H H' : Hp} {p : Addr} (e : Ex H H') (h : H' p = Option.none) : H p = Option.none := by
  cases q : H p with
  | none => rfl
  | some o =>
    rw [e p o q] at h
    cases h
theorem Ex.l {K : PySem.W.Frag} {H H' : Hp} {a : Addr} {xs : List V} (e : Ex H H') (h : SqL K H a xs) : SqL K H' a xs := by
  rcases h with (h | ⟨o, h⟩) | h
  · exact .inl (.inl (e _ _ h))
  · exact .inl (.inr ⟨o, e _ _ h⟩)
  · exact .inr h
theorem Ex.t {K : PySem.W.Frag} {H H' : Hp} {a : Addr} {xs : List V} (e : Ex H H') (h : SqT K H a xs) : SqT K H' a xs := by
  rcases h with (h | ⟨o, h⟩) | h
  · exact .inl (.inl (e _ _ h))
  · exact .inl (.inr ⟨o, e _ _ h⟩)
  · exact .inr h
section
variable {K : PySem.W.Frag} {G G' : Hp}
mutual
theorem Rp.mono (e : Ex G G') : ∀ {v : V} {d : D}, Rp K G v d → Rp K G' v d
  | _, _, .none => .none
  | _, _, .bool b => .bool b
  | _, _, .int i => .int i
  | _, _, .str s => .str s
  | _, _, .lst h r => .lst (e.l h) (RpAll.mono e r)
  | _, _, .tup h r => .tup (e.t h) (RpAll.mono e r)
  | _, _, .dic h r => .dic (e _ _ h) (RpKV.mono e r)
theorem RpAll.mono (e : Ex G G') : ∀ {vs : List V} {ds : List D}, RpAll K G vs ds → RpAll K G' vs ds
  | _, _, .nil => .nil
  | _, _, .cons h r => .cons (Rp.mono e h) (RpAll.mono e r)
theorem RpKV.mono (e : Ex G G') : ∀ {vs : List (Key × V)} {ds : List (D × D)}, RpKV K G vs ds → RpKV K G' vs ds
  | _, _, .nil => .nil
  | _, _, .cons k h r => .cons k (Rp.mono e h) (RpKV.mono e r)
end
theorem RpAll.length : ∀ {vs : List V} {ds : List D}, RpAll K G vs ds → vs.length = ds.length
  | _, _, .nil => rfl
  | _, _, .cons _ r => congrArg (· + 1) (RpAll.length r)
theorem RpAll.get : ∀ {vs : List V} {ds : List D} {i : Nat} {d : D}, RpAll K G vs ds → ds[i]? = some d → ∃ v, vs[i]? = some v ∧ Rp K G v d
  | _, _, _, _, .nil, e => by simp at e
  | _, _, 0, _, .cons h _, e => by
    simp at e
    subst e
    exact ⟨_, rfl, h⟩
  | _, _, i + 1, d, .cons _ r, e => by
    obtain ⟨v, h1, h2⟩ := RpAll.get (i := i) (d := d) r (by simpa using e)
    exact ⟨v, by simpa using h1, h2⟩
theorem RpAll.append : ∀ {xs ys : List V} {as bs : List D}, RpAll K G xs as → RpAll K G ys bs → RpAll K G (xs ++ ys) (as ++ bs)
  | _, _, _, _, .nil, s => s
  | _, _, _, _, .cons h r, s => .cons h (RpAll.append r s)
theorem RpAll.take : ∀ {xs : List V} {as : List D} (n : Nat), RpAll K G xs as → RpAll K G (xs.take n) (as.take n)
  | _, _, 0, _ => .nil
  | _, _, _ + 1, .nil => .nil
  | _, _, n + 1, .cons h r => .cons h (RpAll.take n r)
theorem RpAll.drop : ∀ {xs : List V} {as : List D} (n : Nat), RpAll K G xs as → RpAll K G (xs.drop n) (as.drop n)
  | _, _, 0, h => h
  | _, _, _ + 1, .nil => .nil
  | _, _, n + 1, .cons _ r => RpAll.drop n r
theorem RpAll.reverse {xs : List V} {as : List D} (h : RpAll K G xs as) : RpAll K G xs.reverse as.reverse := by
  have aux : ∀ {xs : List V} {as : List D}, RpAll K G xs as → RpAll K G xs.reverse as.reverse := by
    intro xs as h
    induction xs generalizing as with
    | nil =>
      cases h
      exact .nil
    | cons v r ih =>
      cases h with
      | cons h1 h2 =>
        rw [List.reverse_cons, List.reverse_cons]
        exact (ih h2).append (.cons h1 .nil)
  exact aux h
theorem RpAll.dropLast {xs : List V} {as : List D} (h : RpAll K G xs as) : RpAll K G xs.dropLast as.dropLast := by
  rw [List.dropLast_eq_take, List.dropLast_eq_take, h.length]
  exact h.take _
theorem RpAll.snoc {xs : List V} {as : List D} {v : V} {d : D} (h : RpAll K G xs as) (r : Rp K G v d) : RpAll K G (xs ++ [v]) (as ++ [d]) := h.append (.cons r .nil)
theorem RpAll.nums : ∀ {xs : List V} {as : List D} {ns : List Int}, RpAll K G xs as → numsL as = some ns → xs = ns.map V.int
  | _, _, _, .nil, e => by
    cases e
    rfl
  | _, _, ns, .cons (d := d) h r, e => by
    cases h with
    | int i =>
      rename_i vs ds
      cases q : Bk.numsL ds with
      | none =>
        simp [Bk.numsL, q] at e
      | some ms =>
        simp [Bk.numsL, q] at e
        subst e
        rw [RpAll.nums r q] <;> rfl
    | none => simp [Bk.numsL] at e
    | bool b => simp [Bk.numsL] at e
    | str s => simp [Bk.numsL] at e
    | lst _ _ => simp [Bk.numsL] at e
    | tup _ _ => simp [Bk.numsL] at e
    | dic _ _ => simp [Bk.numsL] at e
theorem RpAll.txts : ∀ {xs : List V} {as : List D} {ns : List (List Nat)}, RpAll K G xs as → strsL as = some ns → xs = (ns.map Sx).map V.str
  | _, _, _, .nil, e => by
    cases e
    rfl
  | _, _, ns, .cons (d := d) h r, e => by
    cases h with
    | str i =>
      rename_i vs ds
      cases q : Bk.strsL ds with
      | none => simp [Bk.strsL, q] at e
      | some ms =>
        simp [Bk.strsL, q] at e
        subst e
        rw [RpAll.txts r q] <;> rfl
    | none => simp [Bk.strsL] at e
    | bool b => simp [Bk.strsL] at e
    | int s => simp [Bk.strsL] at e
    | lst _ _ => simp [Bk.strsL] at e
    | tup _ _ => simp [Bk.strsL] at e
    | dic _ _ => simp [Bk.strsL] at e
theorem RpAll.bools : ∀ {xs : List V} {as : List D} {ns : List Bool}, RpAll K G xs as → boolsL as = some ns → xs = ns.map V.bl
  | _, _, _, .nil, e => by
    cases e
    rfl
  | _, _, ns, .cons (d := d) h r, e => by
    cases h with
    | bool i =>
      rename_i vs ds
      cases q : Bk.boolsL ds with
      | none => simp [Bk.boolsL, q] at e
      | some ms =>
        simp [Bk.boolsL, q] at e
        subst e
        rw [RpAll.bools r q] <;> rfl
    | none => simp [Bk.boolsL] at e
    | str b => simp [Bk.boolsL] at e
    | int s => simp [Bk.boolsL] at e
    | lst _ _ => simp [Bk.boolsL] at e
    | tup _ _ => simp [Bk.boolsL] at e
    | dic _ _ => simp [Bk.boolsL] at e
theorem RpAll.ofInts : ∀ ns : List Int, RpAll K G (ns.map V.int) (ns.map D.int)
  | [] => .nil
  | n :: r => .cons (.int n) (RpAll.ofInts r)
theorem RpAll.ofStrs : ∀ ns : List (List Nat), RpAll K G ((ns.map Sx).map V.str) (ns.map D.str)
  | [] => .nil
  | n :: r => .cons (.str n) (RpAll.ofStrs r)
end

/-! ### growing heaps: G what is known for good, H all -/
structure Ext (G H G' H' : Hp) : Prop where
  g : Ex G G'
  gh : Ex G' H'
  h : Ex H H'
  fr : ∀ a, G a = none → H a ≠ none → G' a = none
theorem Ext.refl {G H : Hp} (e : Ex G H) : Ext G H G H := ⟨Ex.refl G, e, Ex.refl H, fun _ h _ => h⟩
theorem Ext.trans {G H G1 H1 G2 H2 : Hp} (a : Ext G H G1 H1) (b : Ext G1 H1 G2 H2) : Ext G H G2 H2 :=
  ⟨a.g.trans b.g, b.gh, a.h.trans b.h, fun x h1 h2 => b.fr x (a.fr x h1 h2) fun z => h2 (a.h.none z)⟩
/-- a new object, known for good -/
theorem Ext.new {G H : Hp} {p : Addr} {o : HO} (e : Ex G H) (h : H p = none) : Ext G H (upd G p o) (upd H p o) := by
  have hg : G p = none := e.none h
  refine ⟨Ex.new hg, fun a u z => ?_, Ex.new h, fun a h1 h2 => ?_⟩
  · by_cases ha : a = p
    · subst ha
      rw [upd_same] at z ⊢
      exact z
    · rw [upd_ne ha] at z ⊢
      exact e a u z
  · by_cases ha : a = p
    · subst ha
      exact absurd h h2
    · rw [upd_ne ha]
      exact h1
/-- a new object that is forgotten -/
theorem Ext.drop {G H : Hp} {p : Addr} {o : HO} (e : Ex G H) (h : H p = none) : Ext G H G (upd H p o) :=
  ⟨Ex.refl G, e.trans (Ex.new h), Ex.new h, fun _ h1 _ => h1⟩

/-! ### dicts whose keys are tuples -/
mutual
/-- the key, without texts -/
def nkey : D → Option NestedKey
  | .none => some .none
  | .bool b => some (.num (if b = true then 1 else 0))
  | .int i => some (.num i)
  | .tup xs => (nkeys xs).map NestedKey.tup
  | _ => Option.none
def nkeys : List D → Option (List NestedKey)
  | [] => some []
  | x :: r => match nkey x, nkeys r with
    | some a, some b => some (a :: b)
    | _, _ => Option.none
end
inductive RpKs (K : PySem.W.Frag) (G : Hp) : List D → List (NestedKey × Addr × Value) → Prop
  | nil : RpKs K G [] []
  | cons {k : D} {ks : List D} {nk : NestedKey} {a : Addr} {v : Value} {xs : List (NestedKey × Addr × Value)} : nkey k = some nk → nk.depth ≤ 8 → Rp K G (.ref a) k → RpKs K G ks xs → RpKs K G (k :: ks) ((nk, a, v) :: xs)
theorem RpKs.mono {K : PySem.W.Frag} {G G' : Hp} (e : Ex G G') : ∀ {ks : List D} {xs : List (NestedKey × Addr × Value)}, RpKs K G ks xs → RpKs K G' ks xs
  | _, _, .nil => .nil
  | _, _, .cons a b c r => .cons a b (c.mono e) (RpKs.mono e r)
/-- what is known of such a dict -/
def KdOk (K : PySem.W.Frag) (G : Hp) (a : Addr) (φ : Heap → Prop) (ks : List D) : Prop :=
  ks.length ≤ lim ∧ (∀ h, φ h → (a == sysModules) = false ∧ ∃ es ep, h.DictRaw a es ep ∧ es.size = ks.length) ∧
  (ks = [.none] ∨ ∃ xs : List (NestedKey × Addr × Value), (∀ (P : Program) (w : World) h, φ h → ∃ o es ep, h.get? a = some o ∧ o.ExactDict ∧ o.data = .dict es ep ∧ es.toList = xs.map (entryOfKey (nestedKind P w))) ∧ (xs.map (·.1)).Nodup ∧ RpKs K G ks xs)
theorem KdOk.mono {K : PySem.W.Frag} {G G' : Hp} (e : Ex G G') {a : Addr} {φ : Heap → Prop} {ks : List D} (h : KdOk K G a φ ks) : KdOk K G' a φ ks :=
  ⟨h.1, h.2.1, h.2.2.imp id fun ⟨xs, p, q, r⟩ => ⟨xs, p, q, r.mono e⟩⟩
/-! ### states -/
/-- a slot -/
def RpS (K : PySem.W.Frag) (H0 G H : Hp) (v : V) : S → Prop
  | .dat d => Rp K G v d
  | .own ds => ∃ a vs, v = .ref a ∧ H0 a = none ∧ G a = none ∧ H a = some (.lst vs) ∧ RpAll K G vs ds
  | .dic ks => ∃ a kvs, v = .ref a ∧ H0 a = none ∧ G a = none ∧ H a = some (.dK kvs) ∧ RpKV K G kvs ks
  | .kd ks => ∃ a φ, v = .ref a ∧ H0 a = none ∧ G a = none ∧ H a = some (.ext φ) ∧ KdOk K G a φ ks
def isOwn : S → Bool
  | .dat _ => false
  | _ => true
structure RpE (K : PySem.W.Frag) (G0 H0 G H : Hp) (σ : L2.St) (η : Env) : Prop where
  ext : Ext G0 H0 G H
  len : σ.length = η.length
  slot : ∀ (i : Nat) s, η[i]? = some (some s) → ∃ v, σ[i]? = some (some v) ∧ RpS K H0 G H v s
  apart : ∀ (i j : Nat) s t v, i ≠ j → η[i]? = some (some s) → η[j]? = some (some t) → isOwn s = true → isOwn t = true → σ[i]? = some (some v) → σ[j]? ≠ some (some v)
section
variable {K : PySem.W.Frag} {G0 H0 G H G' H' : Hp} {σ : L2.St} {η : Env}
theorem RpS.ext (x : Ext G H G' H') {v : V} : ∀ {s : S}, RpS K H0 G H v s → RpS K H0 G' H' v s
  | .dat _, h => Rp.mono x.g h
  | .own _, ⟨a, vs, e, h0, hg, hh, r⟩ => ⟨a, vs, e, h0, x.fr a hg (by rw [hh]; exact fun z => nomatch z), x.h _ _ hh, r.mono x.g⟩
  | .dic _, ⟨a, vs, e, h0, hg, hh, r⟩ => ⟨a, vs, e, h0, x.fr a hg (by rw [hh]; exact fun z => nomatch z), x.h _ _ hh, r.mono x.g⟩
  | .kd _, ⟨a, vs, e, h0, hg, hh, r⟩ => ⟨a, vs, e, h0, x.fr a hg (by rw [hh]; exact fun z => nomatch z), x.h _ _ hh, r.mono x.g⟩
theorem RpE.extd (r : RpE K G0 H0 G H σ η) (x : Ext G H G' H') : RpE K G0 H0 G' H' σ η :=
  ⟨r.ext.trans x, r.len, fun i s e => let ⟨v, h1, h2⟩ := r.slot i s e; ⟨v, h1, h2.ext x⟩, r.apart⟩
theorem RpE.exg (r : RpE K G0 H0 G H σ η) : Ex G H := r.ext.gh
theorem RpE.dat (r : RpE K G0 H0 G H σ η) {i : Nat} {d : D} (e : η[i]? = some (some (.dat d))) : ∃ v, σ[i]? = some (some v) ∧ Rp K G v d := r.slot i _ e
/-- data stored -/
theorem RpE.set (r : RpE K G0 H0 G H σ η) (i : Nat) {v : V} {d : D} (h : Rp K G v d) : RpE K G0 H0 G H (σ.set i (some v)) (η.set i (some (.dat d))) := by
  refine ⟨r.ext, by rw [List.length_set, List.length_set]; exact r.len, fun j s e => ?_, fun j k s t w hjk e1 e2 o1 o2 w1 => ?_⟩
  · by_cases hj : i = j
    · subst hj
      have hl : i < η.length := by
        by_cases z : i < η.length
        · exact z
        · rw [List.getElem?_eq_none (by simpa using z)] at e
          cases e
      rw [List.getElem?_set_self hl] at e
      cases e
      exact ⟨v, List.getElem?_set_self (by rw [r.len]; exact hl), h⟩
    · rw [List.getElem?_set_ne hj] at e ⊢
      exact r.slot j s e
  · by_cases hj : i = j
    · subst hj
      have hl : i < η.length := by
        by_cases z : i < η.length
        · exact z
        · rw [List.getElem?_eq_none (by simpa using z)] at e1
          cases e1
      rw [List.getElem?_set_self hl] at e1
      cases e1
      cases o1
    · by_cases hk : i = k
      · subst hk
        have hl : i < η.length := by
          by_cases z : i < η.length
          · exact z
          · rw [List.getElem?_eq_none (by simpa using z)] at e2
            cases e2
        rw [List.getElem?_set_self hl] at e2
        cases e2
        cases o2
      · rw [List.getElem?_set_ne hj] at e1 w1
        rw [List.getElem?_set_ne hk] at e2 ⊢
        exact r.apart j k s t w hjk e1 e2 o1 o2 w1
theorem lt_of_get {α : Type} {l : List α} {i : Nat} {x : α} (h : l[i]? = some x) : i < l.length := by
  by_cases z : i < l.length
  · exact z
  · rw [List.getElem?_eq_none (by simpa using z)] at h
    cases h
/-- an own thing at a new place -/
theorem RpE.setNew (r : RpE K G0 H0 G H σ η) (i : Nat) {p : Addr} {o : HO} {s : S} (hp : H p = none) (h : RpS K H0 G (upd H p o) (.ref p) s) : RpE K G0 H0 G (upd H p o) (σ.set i (some (.ref p))) (η.set i (some s)) := by
  have x : Ext G H G (upd H p o) := Ext.drop r.exg hp
  have r1 := r.extd x
  have far : ∀ (j : Nat) t w, η[j]? = some (some t) → isOwn t = true → σ[j]? = some (some w) → w ≠ .ref p := fun j t w e1 o1 w1 z => by
    obtain ⟨w', h1, h2⟩ := r.slot j t e1
    rw [w1] at h1
    cases h1
    subst z
    cases t with
    | dat d => cases o1
    | own ds =>
      obtain ⟨a, vs, e, _, _, hh, _⟩ := h2
      cases e
      rw [hp] at hh
      cases hh
    | dic ds =>
      obtain ⟨a, vs, e, _, _, hh, _⟩ := h2
      cases e
      rw [hp] at hh
      cases hh
    | kd ds =>
      obtain ⟨a, vs, e, _, _, hh, _⟩ := h2
      cases e
      rw [hp] at hh
      cases hh
  refine ⟨r1.ext, by rw [List.length_set, List.length_set]; exact r.len, fun j t e => ?_, fun j k t u w hjk e1 e2 o1 o2 w1 w2 => ?_⟩
  · by_cases hj : i = j
    · subst hj
      have hl : i < η.length := by simpa using lt_of_get e
      rw [List.getElem?_set_self hl] at e
      cases e
      exact ⟨.ref p, List.getElem?_set_self (by rw [r.len]; exact hl), h⟩
    · rw [List.getElem?_set_ne hj] at e ⊢
      exact r1.slot j t e
  · by_cases hj : i = j
    · subst hj
      have hl : i < σ.length := by simpa using lt_of_get w1
      rw [List.getElem?_set_self hl] at w1
      cases w1
      have hk : i ≠ k := hjk
      rw [List.getElem?_set_ne hk] at e2 w2
      exact far k u _ e2 o2 w2 rfl
    · rw [List.getElem?_set_ne hj] at e1 w1
      by_cases hk : i = k
      · subst hk
        have hl : i < σ.length := by simpa using lt_of_get w2
        rw [List.getElem?_set_self hl] at w2
        cases w2
        exact far j t _ e1 o1 w1 rfl
      · rw [List.getElem?_set_ne hk] at e2 w2
        exact r.apart j k t u w hjk e1 e2 o1 o2 w1 w2
/-- an own thing changed where it stands -/
theorem RpE.mut (r : RpE K G0 H0 G H σ η) {i : Nat} {a : Addr} {o : HO} {s t : S} (e : η[i]? = some (some s)) (hs : isOwn s = true) (ht : isOwn t = true) (w : σ[i]? = some (some (.ref a))) (h0 : H0 a = none) (hg : G a = none) (h : RpS K H0 G (upd H a o) (.ref a) t) :
    RpE K G0 H0 G (upd H a o) σ (η.set i (some t)) := by
  have hl : i < η.length := lt_of_get e
  refine ⟨⟨r.ext.g, fun b u z => ?_, fun b u z => ?_, r.ext.fr⟩, by rw [List.length_set]; exact r.len, fun j u e1 => ?_, fun j k u v x hjk e1 e2 o1 o2 w1 => ?_⟩
  · rw [upd_ne (ne_of_none z hg)]
    exact r.ext.gh b u z
  · rw [upd_ne (ne_of_none z h0)]
    exact r.ext.h b u z
  · by_cases hj : i = j
    · subst hj
      rw [List.getElem?_set_self hl] at e1
      cases e1
      exact ⟨.ref a, w, h⟩
    · rw [List.getElem?_set_ne hj] at e1
      obtain ⟨v, h1, h2⟩ := r.slot j u e1
      refine ⟨v, h1, ?_⟩
      cases u with
      | dat d => exact h2
      | own ds =>
        obtain ⟨b, vs, q, g0, gg, hh, rr⟩ := h2
        subst q
        have nb : b ≠ a := fun z => by
          subst z
          exact r.apart i j s _ _ hj e e1 hs rfl w h1
        exact ⟨b, vs, rfl, g0, gg, by rw [upd_ne nb]; exact hh, rr⟩
      | dic ds =>
        obtain ⟨b, vs, q, g0, gg, hh, rr⟩ := h2
        subst q
        have nb : b ≠ a := fun z => by
          subst z
          exact r.apart i j s _ _ hj e e1 hs rfl w h1
        exact ⟨b, vs, rfl, g0, gg, by rw [upd_ne nb]; exact hh, rr⟩
      | kd ds =>
        obtain ⟨b, vs, q, g0, gg, hh, rr⟩ := h2
        subst q
        have nb : b ≠ a := fun z => by
          subst z
          exact r.apart i j s _ _ hj e e1 hs rfl w h1
        exact ⟨b, vs, rfl, g0, gg, by rw [upd_ne nb]; exact hh, rr⟩
  · have own1 : ∀ {m : Nat} {z : S}, (η.set i (some t))[m]? = some (some z) → isOwn z = true → ∃ z', η[m]? = some (some z') ∧ isOwn z' = true := fun {m z} q oz => by
      by_cases hm : i = m
      · subst hm
        exact ⟨s, e, hs⟩
      · rw [List.getElem?_set_ne hm] at q
        exact ⟨z, q, oz⟩
    obtain ⟨u', f1, p1⟩ := own1 e1 o1
    obtain ⟨v', f2, p2⟩ := own1 e2 o2
    exact r.apart j k u' v' x hjk f1 f2 p1 p2 w1
/-- slots forgotten -/
theorem wipe_rel (r : RpE K G0 H0 G H σ η) : ∀ vs : List Nat, RpE K G0 H0 G H (wipe σ vs) (wipes η vs)
  | [] => r
  | v :: vs => by
    have ih := wipe_rel r vs
    show RpE K G0 H0 G H ((wipe σ vs).set v Option.none) ((wipes η vs).set v Option.none)
    have un : ∀ {j : Nat} {s : S}, ((wipes η vs).set v Option.none)[j]? = some (some s) → v ≠ j ∧ (wipes η vs)[j]? = some (some s) := fun {j s} e => by
      by_cases hj : v = j
      · subst hj
        have hl : v < (wipes η vs).length := by simpa using lt_of_get e
        rw [List.getElem?_set_self hl] at e
        cases e
      · rw [List.getElem?_set_ne hj] at e
        exact ⟨hj, e⟩
    refine ⟨ih.ext, by rw [List.length_set, List.length_set]; exact ih.len, fun j s e => ?_, fun j k s t w hjk e1 e2 o1 o2 w1 => ?_⟩
    · obtain ⟨hj, e⟩ := un e
      rw [List.getElem?_set_ne hj]
      exact ih.slot j s e
    · obtain ⟨hj, e1⟩ := un e1
      obtain ⟨hk, e2⟩ := un e2
      rw [List.getElem?_set_ne hj] at w1
      rw [List.getElem?_set_ne hk]
      exact ih.apart j k s t w hjk e1 e2 o1 o2 w1
end

/-! ### the readings -/
/-- what a def starts from, what it wishes of refusals -/
structure Bs where
  G0 : Hp
  H0 : Hp
  cl : Cls → Addr
  ex : XK
abbrev Bs.calm (B : Bs) : Bs := { B with ex := fun _ _ _ => False }
def Rz (B : Bs) (c : Cls) : Prop := ∀ H', Ex B.H0 H' → B.ex (.ref (B.cl c)) Option.none H'
def tX (K : PySem.W.Frag) (B : Bs) (f : E) : TE := fun σ H Q => ∃ G η, RpE K B.G0 B.H0 G H σ η ∧ (f η).Sat (fun d => ∀ G' H' v, Ext G H G' H' → Rp K G' v d → Q v H') (Rz B)
def tT (K : PySem.W.Frag) (B : Bs) (f : T) : TT := fun σ H Q => ∃ G η, RpE K B.G0 B.H0 G H σ η ∧ (f η).Sat (fun d => ∀ G' H', Ext G H G' H' → Q d H') (Rz B)
def tA (K : PySem.W.Frag) (B : Bs) (fs : List E) : TA := fun σ H Q => ∃ G η, RpE K B.G0 B.H0 G H σ η ∧ (evals fs η).Sat (fun ds => ∀ G' H' vs, Ext G H G' H' → RpAll K G' vs ds → Q vs H') (Rz B)
def tG (K : PySem.W.Frag) (B : Bs) (g : G) : TG := fun v σ H Q => ∃ G η d, RpE K B.G0 B.H0 G H σ η ∧ Rp K G v d ∧ (g d η).Sat (fun η' => ∀ G' H' σ', Ext G H G' H' → RpE K B.G0 B.H0 G' H' σ' η' → Q σ' H') (fun _ => False)
/-- the end of a statement -/
def Fin (K : PySem.W.Frag) (B : Bs) (D : Ends) (G : Hp) : Out → Prop
  | .next η' => ∀ G' H' σ', Ex G G' → RpE K B.G0 B.H0 G' H' σ' η' → D.nx σ' H'
  | .brk η' => ∀ G' H' σ', Ex G G' → RpE K B.G0 B.H0 G' H' σ' η' → D.bk σ' H'
  | .ct η' => ∀ G' H' σ', Ex G G' → RpE K B.G0 B.H0 G' H' σ' η' → D.ct σ' H'
  | .ret d => ∀ G' H' v, Ex G G' → Ext B.G0 B.H0 G' H' → Rp K G' v d → D.rt v H'
  | .raise c => Rz B c
  | .bad => False
def tS (K : PySem.W.Frag) (B : Bs) (g : St) : TS := fun D σ H => ∃ G η, RpE K B.G0 B.H0 G H σ η ∧ Fin K B D G (g η)
theorem Fin.up {K : PySem.W.Frag} {B : Bs} {D : Ends} {G G1 : Hp} (e : Ex G G1) : ∀ {o : Out}, Fin K B D G o → Fin K B D G1 o
  | .next _, h => fun G' H' σ' x r => h G' H' σ' (e.trans x) r
  | .brk _, h => fun G' H' σ' x r => h G' H' σ' (e.trans x) r
  | .ct _, h => fun G' H' σ' x r => h G' H' σ' (e.trans x) r
  | .ret _, h => fun G' H' v x r q => h G' H' v (e.trans x) r q
  | .raise _, h => h
  | .bad, h => h
theorem Fin.ofRes {K : PySem.W.Frag} {B : Bs} {D : Ends} {G : Hp} {α : Type} {m : Res α} {k : α → Out} (h : Fin K B D G (outOf m k)) : m.Sat (fun a => Fin K B D G (k a)) (Rz B) := by
  cases m with
  | ok a => exact h
  | raise c => exact h
  | bad => exact h
theorem Fin.andThen {K : PySem.W.Frag} {B : Bs} {D : Ends} {G : Hp} {o : Out} {k : St} (h : Fin K B D G (o.andThen k)) : Fin K B { D with nx := tS K B k D } G o := by
  cases o with
  | next η => exact fun G' H' σ' x r => ⟨G', η, r, Fin.up x h⟩
  | brk η => exact h
  | ct η => exact h
  | ret d => exact h
  | raise c => exact h
  | bad => exact h

/-! ### the judgements -/
section
variable {X : Cx} {B : Bs}
theorem pe_weak {e : Expr} {t t' : TE} (h : PE X e t) (w : ∀ σ H Q, t' σ H Q → t σ H Q) : PE X e t' := ⟨fun pins s σ H Q I q => h.run pins s σ H Q I (w σ H Q q)⟩
theorem pt_weak {e : Expr} {t t' : TT} (h : PT X e t) (w : ∀ σ H Q, t' σ H Q → t σ H Q) : PT X e t' := ⟨fun pins s σ H Q I q => h.run pins s σ H Q I (w σ H Q q)⟩
theorem pw_weak {e : Expr} {t t' : TT} (h : PW X e t) (w : ∀ σ H Q, t' σ H Q → t σ H Q) : PW X e t' := ⟨fun wh pins s σ H Q I q => h.run wh pins s σ H Q I (w σ H Q q)⟩
theorem ps_weak {e : Stmt} {t t' : TS} (h : PS X e t) (w : ∀ D σ H, t' D σ H → t D σ H) : PS X e t' := ⟨fun pins s σ H D I q => h.run pins s σ H D I (w D σ H q)⟩
theorem pss_weak {e : List Stmt} {t t' : TS} (h : PSs X e t) (w : ∀ D σ H, t' D σ H → t D σ H) : PSs X e t' := ⟨fun pins s σ H D I q => h.run pins s σ H D I (w D σ H q)⟩
theorem pa_weak {es : List Expr} {t t' : TA} (h : PA X es t) (w : ∀ σ H Q, t' σ H Q → t σ H Q) : PA X es t' := ⟨fun pos pins s σ H Q I q => h.run pos pins s σ H Q I (w σ H Q q)⟩
theorem pg_weak {e : Expr} {t t' : TG} (h : PG X e t) (w : ∀ v σ H Q, t' v σ H Q → t v σ H Q) : PG X e t' := ⟨fun pins s σ H v u Q I r q => h.run pins s σ H v u Q I r (w v σ H Q q)⟩
/-- run: the reading of a part, from what it gives -/
theorem tX.of {K : PySem.W.Frag} {f : E} {σ : L2.St} {H G : Hp} {η : Env} {Q : VK} (r : RpE K B.G0 B.H0 G H σ η) {P : D → Prop} (h : (f η).Sat P (Rz B)) (q : ∀ d, P d → ∀ G' H' v, Ext G H G' H' → Rp K G' v d → Q v H') : tX K B f σ H Q :=
  ⟨G, η, r, Sat.mono h (fun d p => q d p) fun _ z => z⟩
theorem tA.of {K : PySem.W.Frag} {f : List E} {σ : L2.St} {H G : Hp} {η : Env} {Q : List V → Hp → Prop} (r : RpE K B.G0 B.H0 G H σ η) {P : List D → Prop} (h : (evals f η).Sat P (Rz B)) (q : ∀ d, P d → ∀ G' H' v, Ext G H G' H' → RpAll K G' v d → Q v H') : tA K B f σ H Q :=
  ⟨G, η, r, Sat.mono h (fun d p => q d p) fun _ z => z⟩
theorem tT.of {K : PySem.W.Frag} {f : T} {σ : L2.St} {H G : Hp} {η : Env} {Q : Bool → Hp → Prop} (r : RpE K B.G0 B.H0 G H σ η) {P : Bool → Prop} (h : (f η).Sat P (Rz B)) (q : ∀ d, P d → ∀ G' H', Ext G H G' H' → Q d H') : tT K B f σ H Q :=
  ⟨G, η, r, Sat.mono h (fun d p => q d p) fun _ z => z⟩
end
end Bk
end
/-! BkOps -/
section
set_option Elab.async false
set_option linter.all false
set_option autoImplicit false
set_option maxRecDepth 100000
set_option maxHeartbeats 4000000
/-! BkOps: operators, comparisons, places, truth, slices: what they give of data -/
namespace Bk
open PySem PySem.Spec PyProof.Rows L2
/-! ### data as the library has it -/
mutual
def toPy : D → PyData
  | .none => .none
  | .bool b => .bool b
  | .int i => .int i
  | .str s => .str (Sx s)
  | .tup xs => .tuple (toPys xs)
  | .lst xs => .list (toPys xs)
  | .dic _ => .dict []
def toPys : List D → List PyData
  | [] => []
  | x :: xs => toPy x :: toPys xs
end
theorem toPys_map : ∀ xs : List D, toPys xs = xs.map toPy
  | [] => by rw [toPys] <;> rfl
  | x :: xs => by rw [toPys, toPys_map xs] <;> rfl
theorem sx_beq (x y : List Nat) : ((Sx x == Sx y) : Bool) = (x == y) := by
  by_cases h : x = y
  · subst h
    simp
  · have h' : ¬ Sx x = Sx y := fun e => h (sx_inj e)
    rw [beq_eq_false_iff_ne.mpr h', beq_eq_false_iff_ne.mpr h]
mutual
theorem eqv_py : ∀ d e : D, D.eqv d e = PyData.eqv (toPy d) (toPy e)
  | .none, e => by cases e <;> simp [D.eqv, toPy, PyData.eqv]
  | .bool b, e => by cases e <;> simp [D.eqv, toPy, PyData.eqv]
  | .int b, e => by cases e <;> simp [D.eqv, toPy, PyData.eqv]
  | .str b, e => by cases e <;> simp [D.eqv, toPy, PyData.eqv, sx_beq]
  | .tup xs, e => by
    cases e with
    | tup ys => simp only [D.eqv, toPy, PyData.eqv]; exact eqv_pys xs ys
    | _ => simp [D.eqv, toPy, PyData.eqv]
  | .lst xs, e => by
    cases e with
    | lst ys => simp only [D.eqv, toPy, PyData.eqv]; exact eqv_pys xs ys
    | _ => simp [D.eqv, toPy, PyData.eqv]
  | .dic _, e => by cases e <;> simp [D.eqv, toPy, PyData.eqv]
theorem eqv_pys : ∀ xs ys : List D, D.eqvAll xs ys = PyData.eqvAll (toPys xs) (toPys ys)
  | [], [] => by simp [D.eqvAll, toPys, PyData.eqvAll]
  | [], _ :: _ => by simp [D.eqvAll, toPys, PyData.eqvAll]
  | _ :: _, [] => by simp [D.eqvAll, toPys, PyData.eqvAll]
  | x :: xs, y :: ys => by
    rw [D.eqvAll, toPys, toPys, PyData.eqvAll, eqv_py x y, eqv_pys xs ys]
end
theorem strOk_of {s : List Nat} (h : plainS s = true) : PyData.strOk (Sx s) = true := by
  unfold PyData.strOk
  unfold plainS at h
  rw [← Array.all_toList]
  show (s.all fun c => decide (c < 0x110000)) = true
  rw [List.all_eq_true] at h ⊢
  intro c hc
  have := h c hc
  simp only [decide_eq_true_eq] at this ⊢
  omega
mutual
theorem cmp_shape : ∀ (n : Nat) (d : D), D.cmp n d = true → (toPy d).canLay0 = true ∧ (toPy d).depth ≤ n
  | _, .none, _ => by simp [toPy, PyData.canLay0, PyData.depth]
  | _, .bool _, _ => by simp [toPy, PyData.canLay0, PyData.depth]
  | _, .int _, _ => by simp [toPy, PyData.canLay0, PyData.depth]
  | n, .str s, h => by
    have h' : plainS s = true := by
      cases n <;> (simp only [D.cmp, Bool.and_eq_true] at h; exact h.1)
    exact ⟨by rw [toPy, PyData.canLay0]; exact strOk_of h', by rw [toPy, PyData.depth]; exact Nat.zero_le _⟩
  | 0, .tup _, h => by simp [D.cmp] at h
  | 0, .lst _, h => by simp [D.cmp] at h
  | n + 1, .tup xs, h => by
    simp only [D.cmp] at h
    obtain ⟨h1, h2⟩ := cmp_shapes n xs h
    exact ⟨by rw [toPy, PyData.canLay0]; exact h1, by rw [toPy, PyData.depth]; omega⟩
  | n + 1, .lst xs, h => by
    simp only [D.cmp] at h
    obtain ⟨h1, h2⟩ := cmp_shapes n xs h
    exact ⟨by rw [toPy, PyData.canLay0]; exact h1, by rw [toPy, PyData.depth]; omega⟩
  | n, .dic _, h => by cases n <;> simp [D.cmp] at h
theorem cmp_shapes : ∀ (n : Nat) (ds : List D), D.cmpAll n ds = true → PyData.canLayAll0 (toPys ds) = true ∧ PyData.depthAll (toPys ds) ≤ n
  | _, [], _ => by simp [toPys, PyData.canLayAll0, PyData.depthAll]
  | n, x :: xs, h => by
    simp only [D.cmpAll, Bool.and_eq_true] at h
    obtain ⟨h1, h2⟩ := cmp_shape n x h.1
    obtain ⟨h3, h4⟩ := cmp_shapes n xs h.2
    refine ⟨by rw [toPys, PyData.canLayAll0, h1, h3]; rfl, ?_⟩
    rw [toPys, PyData.depthAll]
    omega
end
theorem cmp_shaped {d : D} (h : D.cmp 64 d = true) : SeqAt.shaped (toPy d) = true := by
  obtain ⟨h1, h2⟩ := cmp_shape 64 d h
  unfold SeqAt.shaped
  rw [h1, decide_eq_true h2]
  rfl
section
variable {K : PySem.W.Frag} {G : Hp}
mutual
theorem dp_of : ∀ {n : Nat} {d : D} {v : V}, D.cmp n d = true → Rp K G v d → Dp K G v (toPy d)
  | _, .none, _, _, .none => by rw [toPy]; exact .non
  | _, .bool _, _, _, .bool b => by rw [toPy]; exact .bl b
  | _, .int _, _, _, .int b => by rw [toPy]; exact .int b
  | _, .str _, _, _, .str b => by rw [toPy]; exact .str _
  | 0, .tup _, _, h, _ => by simp [D.cmp] at h
  | 0, .lst _, _, h, _ => by simp [D.cmp] at h
  | n + 1, .tup _, _, h, .tup s r => by rw [toPy]; exact .tup s (dp_all (n := n) (by simpa [D.cmp] using h) r)
  | n + 1, .lst _, _, h, .lst s r => by rw [toPy]; exact .lst s (dp_all (n := n) (by simpa [D.cmp] using h) r)
  | n, .dic _, _, h, _ => by cases n <;> simp [D.cmp] at h
theorem dp_all : ∀ {n : Nat} {ds : List D} {vs : List V}, D.cmpAll n ds = true → RpAll K G vs ds → DpAll K G vs (toPys ds)
  | _, [], _, _, .nil => by rw [toPys]; exact .nil
  | n, _ :: _, _, h, .cons a r => by
    simp only [D.cmpAll, Bool.and_eq_true] at h
    rw [toPys]
    exact .cons (dp_of h.1 a) (dp_all h.2 r)
end
end
section
variable {K : PySem.W.Frag} {H H' : Hp}
end
/-! ### operators on two data -/
def RD (K : PySem.W.Frag) (b : D → D → Res D) : R2 := fun x y H Q => ∃ G d e, Ex G H ∧ Rp K G x d ∧ Rp K G y e ∧ (b d e).Sat (fun r => ∀ G' H' v, Ext G H G' H' → Rp K G' v r → Q v H') (fun _ => False)
def OpD (X : Cx) (f : Value → Value → Sem Value) (b : D → D → Res D) : Prop := OpR X f (RD X.K b)
theorem sat_if {α : Type} {c : Prop} [Decidable c] {m : Res α} {P : α → Prop} {R : Cls → Prop} (h : (if c then m else .bad).Sat P R) : c ∧ m.Sat P R := by
  by_cases hc : c
  · rw [if_pos hc] at h
    exact ⟨hc, h⟩
  · rw [if_neg hc] at h
    exact h.elim
theorem line_eq : sizeLine = lim := by rw [sizeLine_eq]
section
variable {X : Cx}
/-- of two flat things, that give a flat one -/
theorem OpD.flat {f : Value → Value → Sem Value} {b : D → D → Res D} {r : R2} (o : OpR X f r) (h : ∀ x y H Q, RD X.K b x y H Q → r x y H Q) : OpD X f b := fun pins s σ H x y v u Q I rx ry q => o pins s σ H x y v u Q I rx ry (h x y H Q q)

theorem list_sum {l b : Addr} {xs zs : List V} {Q : VK} {pins : List (Addr × Obj)} {s : Shared} {σ : L2.St} {H : Hp} (I : Inv X pins σ H s) (hl : SqL X.K H l xs) (hb : SqL X.K H b zs) (hz : xs.length + zs.length ≤ sizeLine)
    (q : ∀ p, H p = none → Q (.ref p) (upd H p (.lst (xs ++ zs)))) : wpAny (model X.prog X.w) X.A (binaryOp .Add (.ref l) (.ref b)) (EP X pins σ Q) X.xe s := by
  obtain ⟨its, r, ⟨⟨cls, dd, data, sl⟩, n, ho, hc, hdd, hd⟩, z1⟩ := I.list hl
  obtain ⟨its2, r2, ⟨⟨cls2, dd2, data2, sl2⟩, n2, ho2, hc2, hdd2, hd2⟩, z2⟩ := I.list hb
  simp only at hc hd hc2 hd2
  subst hc hd hc2 hd2
  have l1 := r.length
  have l2 := r2.length
  refine concat_meets ⟨_, ho, rfl⟩ ⟨_, ho2, rfl⟩ noFill_list_add seq_list_add PySem.F.slot_list_add PySem.F.entry_list_add (PySem.F.args_list_add_2 _ _) (list_addW l b its.toArray its2.toArray n n2 dd dd2 sl sl2 (by rw [List.size_toArray, List.size_toArray]; omega)) ⟨ho, ho2, ?_⟩
  have ea : its.toArray ++ its2.toArray = (its ++ its2).toArray := by simp
  rw [ea]
  exact ⟨.ref _, _, I.lnew (t' := s.toks) (r.append r2) (by rw [List.length_append]; exact hz), rfl, q _ I.fresh⟩
theorem od_add : OpD X (binaryOp .Add) dAdd := by
  intro pins s σ H x y v u Q I rx ry h
  obtain ⟨G, d, e, ex, rd, re, h⟩ := h
  cases rd with
  | int i =>
    cases re with
    | int j => exact op_add pins s σ H _ _ v u Q I rx ry ⟨i, j, rfl, rfl, h G H _ (Ext.refl ex) (.int _)⟩
    | _ => exact h.elim
  | str i =>
    cases re with
    | str j =>
      obtain ⟨hl, h⟩ := sat_if h
      refine op_add_str pins s σ H _ _ v u Q I rx ry ⟨_, _, rfl, rfl, ?_, ?_⟩
      · rw [sx_len, sx_len, line_eq]
        exact hl
      · rw [sx_app]
        exact h G H _ (Ext.refl ex) (.str _)
    | _ => exact h.elim
  | lst hs r =>
    cases re with
    | lst hs2 r2 =>
      obtain ⟨hl, h⟩ := sat_if h
      cases rx
      cases ry
      rename_i a1 xs1 ds1 a2 xs2 ds2 h0
      refine list_sum I (ex.l hs) (ex.l hs2) (by rw [r.length, r2.length, line_eq]; exact hl) fun p hp => ?_
      have hn : Ext G H (upd G p (.lst (xs1 ++ xs2))) (upd H p (.lst (xs1 ++ xs2))) := Ext.new ex hp
      exact h _ _ _ hn (.lst (.inl (.inl upd_same)) ((r.append r2).mono hn.g))
    | _ => exact h.elim
  | tup hs r =>
    cases re with
    | tup hs2 r2 =>
      obtain ⟨⟨hl, hn⟩, h⟩ := sat_if h
      rename_i a1 xs1 ds1 a2 xs2 ds2 h0
      refine op_catT pins s σ H _ _ v u Q I rx ry ⟨_, _, _, _, rfl, rfl, ex.t hs, ex.t hs2, ?_, ?_, fun z => ?_, fun z p hp => ?_⟩
      · intro z
        subst z
        cases r
        exact hn rfl
      · rw [r.length, r2.length, line_eq]
        exact hl
      · subst z
        cases r2
        refine h G H _ (Ext.refl ex) ?_
        rw [List.append_nil]
        exact .tup hs r
      · have hn : Ext G H (upd G p (.tup (xs1 ++ xs2))) (upd H p (.tup (xs1 ++ xs2))) := Ext.new ex hp
        exact h _ _ _ hn (.tup (.inl (.inl upd_same)) ((r.append r2).mono hn.g))
    | _ => exact h.elim
  | _ => cases re <;> exact h.elim
theorem od_sub : OpD X (binaryOp .Sub) dSub := by
  intro pins s σ H x y v u Q I rx ry h
  obtain ⟨G, d, e, ex, rd, re, h⟩ := h
  cases rd with
  | int i =>
    cases re with
    | int j => exact op_sub pins s σ H _ _ v u Q I rx ry ⟨i, j, rfl, rfl, h G H _ (Ext.refl ex) (.int _)⟩
    | _ => exact h.elim
  | _ => cases re <;> exact h.elim
theorem mul_ok {a b : Int} (h : small a ∨ small b ∨ a.natAbs.log2 + b.natAbs.log2 < 100000000) : IntMulOk a b := by
  rcases h with h | h | h
  · exact .of_left (intBits_le_64 h.1 h.2)
  · exact .of_right (intBits_le_64 h.1 h.2)
  · have bd : ∀ x : Int, Builtin.Int.intBits x ≤ x.natAbs.log2 + 1 := fun x => by
      unfold Builtin.Int.intBits
      split <;> omega
    have h1 := bd a
    have h2 := bd b
    have e : bitsLine = 134217728 := by decide
    unfold IntMulOk
    intro z
    rw [Bool.and_eq_true] at z
    have z2 := z.2
    unfold Builtin.Int.intTooBig at z2
    have z3 := of_decide_eq_true z2
    rw [e] at z3
    omega
theorem fold_rep (c : Array Nat) : ∀ (n : Nat) (acc : Array Nat), ((List.replicate n c).foldl (· ++ ·) acc).toList = acc.toList ++ (List.replicate n c.toList).flatten
  | 0, acc => by simp
  | n + 1, acc => by
    rw [List.replicate_succ, List.foldl_cons, fold_rep c n, List.replicate_succ, List.flatten_cons, Array.toList_append, List.append_assoc]
theorem rep_len (a : List Nat) : ∀ n : Nat, (List.replicate n a).flatten.length = a.length * n
  | 0 => by simp
  | n + 1 => by rw [List.replicate_succ, List.flatten_cons, List.length_append, rep_len a n, Nat.mul_succ, Nat.add_comm]
theorem od_mul : OpD X (binaryOp .Mult) dMul := by
  intro pins s σ H x y v u Q I rx ry h
  obtain ⟨G, d, e, ex, rd, re, h⟩ := h
  cases rd with
  | int i =>
    cases re with
    | int j =>
      obtain ⟨hm, h⟩ := sat_if h
      obtain ⟨t, rfl⟩ := rx
      obtain ⟨t', rfl⟩ := ry
      exact mul_int ⟨.int _, H, I.tok _, ⟨_, rfl⟩, h G H _ (Ext.refl ex) (.int _)⟩ (mul_ok hm)
    | _ => exact h.elim
  | str i =>
    cases re with
    | int n =>
      obtain ⟨⟨hm1, hm2, hl⟩, h⟩ := sat_if h
      obtain ⟨t, rfl⟩ := rx
      obtain ⟨t', rfl⟩ := ry
      have q := h G H _ (Ext.refl ex) (.str _)
      have le : sizeLine = 16777216 := sizeLine_eq
      have hm2' : n ≤ 16777216 := hm2
      have hl' : i.length * n.toNat ≤ 16777216 := hl
      have el := sx_len i
      have ok : MulOk (Sx i) n := by
        refine ⟨?_, fun h1 h2 => ?_, fun h1 h2 => ?_⟩
        · rw [decide_eq_false (by omega), decide_eq_false (by omega)]
          rfl
        · rw [el]
          have hn : 0 < n := by omega
          have h3 : (i.length : Int) * n ≤ 16777216 := by
            have e1 : ((n.toNat : Nat) : Int) = n := Int.toNat_of_nonneg (by omega)
            rw [← e1, ← Int.natCast_mul]
            omega
          have h4 : (i.length : Int) ≤ (2 ^ 63 - 1) / n := by
            refine (Int.le_ediv_iff_mul_le hn).mpr ?_
            omega
          omega
        · unfold Builtin.Str.tooLong
          rw [el, decide_eq_false (by omega)]
      refine SB.mul ok fun tk k => ?_
      have e : Txt.mul (Sx i) n = Sx (List.replicate n.toNat i).flatten := by
        unfold Txt.mul
        by_cases hn : n < 1
        · have e0 : n.toNat = 0 := by omega
          rw [if_pos hn, e0]
          rfl
        · rw [if_neg hn]
          by_cases h1 : (n == 1 || (Sx i).length == 0) = true
          · rw [if_pos h1]
            rw [Bool.or_eq_true, beq_iff_eq, beq_iff_eq, sx_len] at h1
            have e : (List.replicate n.toNat i).flatten = i := by
              rcases h1 with h1 | h1
              · have e1 : n.toNat = 1 := by omega
                rw [e1]
                simp
              · have e1 : i = [] := List.length_eq_zero_iff.mp h1
                subst e1
                simp
            rw [e]
          · rw [if_neg h1]
            refine Str.ext' (Array.toList_inj.mp ?_)
            show ((List.replicate n.toNat i.toArray).foldl (· ++ ·) #[]).toList = (List.replicate n.toNat i).flatten
            rw [fold_rep]
            rfl
      rw [e]
      exact ⟨.str _, H, I.tok k, ⟨tk, rfl⟩, q⟩
    | _ => exact h.elim
  | _ => cases re <;> exact h.elim
theorem od_div : OpD X (binaryOp .FloorDiv) dDiv := by
  intro pins s σ H x y v u Q I rx ry h
  obtain ⟨G, d, e, ex, rd, re, h⟩ := h
  cases rd with
  | int i =>
    cases re with
    | int j =>
      obtain ⟨hc, h⟩ := sat_if h
      exact op_fdiv pins s σ H _ _ v u Q I rx ry ⟨i, j, rfl, rfl, hc, h G H _ (Ext.refl ex) (.int _)⟩
    | _ => exact h.elim
  | _ => cases re <;> exact h.elim
theorem od_mod : OpD X (binaryOp .Mod) dMod := by
  intro pins s σ H x y v u Q I rx ry h
  obtain ⟨G, d, e, ex, rd, re, h⟩ := h
  cases rd with
  | int i =>
    cases re with
    | int j =>
      obtain ⟨hc, h⟩ := sat_if h
      exact op_mod pins s σ H _ _ v u Q I rx ry ⟨i, j, rfl, rfl, hc, h G H _ (Ext.refl ex) (.int _)⟩
    | _ => exact h.elim
  | _ => cases re <;> exact h.elim
theorem od_pow : OpD X (binaryOp .Pow) dPow := by
  intro pins s σ H x y v u Q I rx ry h
  obtain ⟨G, d, e, ex, rd, re, h⟩ := h
  cases rd with
  | int i =>
    cases re with
    | int j =>
      obtain ⟨hc, h⟩ := sat_if h
      exact op_pow pins s σ H _ _ v u Q I rx ry ⟨i, j, rfl, rfl, hc, h G H _ (Ext.refl ex) (.int _)⟩
    | _ => exact h.elim
  | _ => cases re <;> exact h.elim
/-! ### comparisons -/
theorem od_eq (hu : X.A.units + 64 < cLine) : OpD X (compareOp .Eq) dEq := by
  intro pins s σ H x y v u Q I rx ry h
  obtain ⟨G, d, e, ex, rd, re, h⟩ := h
  obtain ⟨hc, h⟩ := sat_if h
  rw [Bool.and_eq_true] at hc
  refine op_eqD hu pins s σ H x y v u Q I rx ry ⟨_, _, dp_of hc.1 (rd.mono ex), dp_of hc.2 (re.mono ex), cmp_shaped hc.1, cmp_shaped hc.2, ?_⟩
  rw [← eqv_py]
  exact h G H _ (Ext.refl ex) (.bool _)
theorem od_ne (hu : X.A.units + 64 < cLine) : OpD X (compareOp .NotEq) dNe := by
  intro pins s σ H x y v u Q I rx ry h
  obtain ⟨G, d, e, ex, rd, re, h⟩ := h
  obtain ⟨hc, h⟩ := sat_if h
  rw [Bool.and_eq_true] at hc
  refine op_neD hu pins s σ H x y v u Q I rx ry ⟨_, _, dp_of hc.1 (rd.mono ex), dp_of hc.2 (re.mono ex), cmp_shaped hc.1, cmp_shaped hc.2, ?_⟩
  rw [← eqv_py]
  exact h G H _ (Ext.refl ex) (.bool _)
theorem od_lt : OpD X (compareOp .Lt) dLt := by
  intro pins s σ H x y v u Q I rx ry h
  obtain ⟨G, d, e, ex, rd, re, h⟩ := h
  cases rd with
  | int i =>
    cases re with
    | int j => exact op_lt pins s σ H _ _ v u Q I rx ry ⟨i, j, rfl, rfl, h G H _ (Ext.refl ex) (.bool _)⟩
    | _ => exact h.elim
  | str i =>
    cases re with
    | str j => exact op_lt_str pins s σ H _ _ v u Q I rx ry ⟨_, _, rfl, rfl, h G H _ (Ext.refl ex) (.bool _)⟩
    | _ => exact h.elim
  | _ => cases re <;> exact h.elim
theorem od_le : OpD X (compareOp .LtE) dLe := by
  intro pins s σ H x y v u Q I rx ry h
  obtain ⟨G, d, e, ex, rd, re, h⟩ := h
  cases rd with
  | int i =>
    cases re with
    | int j => exact op_le pins s σ H _ _ v u Q I rx ry ⟨i, j, rfl, rfl, h G H _ (Ext.refl ex) (.bool _)⟩
    | _ => exact h.elim
  | _ => cases re <;> exact h.elim
theorem od_gt : OpD X (compareOp .Gt) dGt := by
  intro pins s σ H x y v u Q I rx ry h
  obtain ⟨G, d, e, ex, rd, re, h⟩ := h
  cases rd with
  | int i =>
    cases re with
    | int j => exact op_gt pins s σ H _ _ v u Q I rx ry ⟨i, j, rfl, rfl, h G H _ (Ext.refl ex) (.bool _)⟩
    | _ => exact h.elim
  | _ => cases re <;> exact h.elim
theorem od_ge : OpD X (compareOp .GtE) dGe := by
  intro pins s σ H x y v u Q I rx ry h
  obtain ⟨G, d, e, ex, rd, re, h⟩ := h
  cases rd with
  | int i =>
    cases re with
    | int j => exact op_ge pins s σ H _ _ v u Q I rx ry ⟨i, j, rfl, rfl, h G H _ (Ext.refl ex) (.bool _)⟩
    | _ => exact h.elim
  | _ => cases re <;> exact h.elim
theorem od_isN : OpD X (compareOp .Is) dIsN := by
  intro pins s σ H x y v u Q I rx ry h
  obtain ⟨G, d, e, ex, rd, re, h⟩ := h
  cases re with
  | none =>
    refine op_isN pins s σ H x _ v u Q I rx ry ⟨rfl, ?_⟩
    cases rd <;> exact h G H _ (Ext.refl ex) (.bool _)
  | _ => cases rd <;> exact h.elim
theorem od_notN : OpD X (compareOp .IsNot) dNotN := by
  intro pins s σ H x y v u Q I rx ry h
  obtain ⟨G, d, e, ex, rd, re, h⟩ := h
  cases re with
  | none =>
    refine op_notN pins s σ H x _ v u Q I rx ry ⟨rfl, ?_⟩
    cases rd <;> exact h G H _ (Ext.refl ex) (.bool _)
  | _ => cases rd <;> exact h.elim
theorem od_isB : OpD X (compareOp .Is) dIsB := by
  intro pins s σ H x y v u Q I rx ry h
  obtain ⟨G, d, e, ex, rd, re, h⟩ := h
  cases rd with
  | bool i =>
    cases re with
    | bool j =>
      refine op_isBl pins s σ H _ _ v u Q I rx ry ⟨i, j, rfl, rfl, ?_⟩
      have q := h G H _ (Ext.refl ex) (.bool _)
      rw [Bool.beq_eq_decide_eq] at q
      exact q
    | _ => exact h.elim
  | _ => cases re <;> exact h.elim
theorem od_notB : OpD X (compareOp .IsNot) dNotB := by
  intro pins s σ H x y v u Q I rx ry h
  obtain ⟨G, d, e, ex, rd, re, h⟩ := h
  cases rd with
  | bool i =>
    cases re with
    | bool j =>
      refine op_notBl pins s σ H _ _ v u Q I rx ry ⟨i, j, rfl, rfl, ?_⟩
      have q := h G H _ (Ext.refl ex) (.bool _)
      rw [Bool.beq_eq_decide_eq] at q
      exact q
    | _ => exact h.elim
  | _ => cases re <;> exact h.elim
theorem od_inS : OpD X (compareOp .In) dInS := by
  intro pins s σ H x y v u Q I rx ry h
  obtain ⟨G, d, e, ex, rd, re, h⟩ := h
  cases rd with
  | str i =>
    cases re with
    | str j =>
      match i, h with
      | [c], h => exact op_in_sign pins s σ H _ _ v u Q I rx ry ⟨c, _, rfl, rfl, h G H _ (Ext.refl ex) (.bool _)⟩
      | [], h => exact h.elim
      | _ :: _ :: _, h => exact h.elim
    | _ => rcases i with _ | ⟨c, _ | ⟨c2, r⟩⟩ <;> exact h.elim
  | _ => cases re <;> exact h.elim
/-! ### places -/
theorem at_rp {K : PySem.W.Frag} {G : Hp} {vs : List V} {ds : List D} {i : Int} {d : D} (r : RpAll K G vs ds) (h : at? ds i = some d) : ∃ v, atI vs i = some v ∧ Rp K G v d := by
  unfold at? at h
  cases q : ix ds.length i with
  | none =>
    rw [q] at h
    cases h
  | some j =>
    rw [q] at h
    obtain ⟨v, h1, h2⟩ := r.get (i := j) h
    refine ⟨v, ?_, h2⟩
    have e : ixN vs.length i = some j := by
      rw [r.length]
      exact q
    show (ixN vs.length i).bind (fun j => vs[j]?) = some v
    rw [e]
    exact h1
theorem at_str {s : List Nat} {i : Int} {c : Nat} (h : at? s i = some c) : atI (Sx s).cps.toList i = some c := h
theorem ix_data : IxR X (RD X.K dIdx) := by
  intro value slice pins s σ H x y v u Q I rx ry h hsub
  obtain ⟨G, d, e, ex, rd, re, h⟩ := h
  cases re with
  | int i =>
    cases rd with
    | lst hs r =>
      rename_i a xs ds
      cases q : at? ds i with
      | none => simp [dIdx, q, Res.Sat] at h
      | some z =>
        simp only [dIdx, q] at h
        obtain ⟨w', h1, h2⟩ := at_rp r q
        refine ix_list value slice pins s σ H _ _ v u Q I rx ry ?_ hsub
        exact ⟨_, xs, i, w', rfl, rfl, ex.l hs, h1, h G H _ (Ext.refl ex) h2⟩
    | tup hs r =>
      rename_i a xs ds
      cases q : at? ds i with
      | none => simp [dIdx, q, Res.Sat] at h
      | some z =>
        simp only [dIdx, q] at h
        obtain ⟨w', h1, h2⟩ := at_rp r q
        refine ix_tup value slice pins s σ H _ _ v u Q I rx ry ?_ hsub
        exact ⟨_, xs, i, w', rfl, rfl, ex.t hs, h1, h G H _ (Ext.refl ex) h2⟩
    | str t =>
      obtain ⟨hl, h⟩ := sat_if h
      cases q : at? t i with
      | none => simp [q, Res.Sat] at h
      | some z =>
        simp only [q] at h
        refine ix_str value slice pins s σ H _ _ v u Q I rx ry ?_ hsub
        exact ⟨_, i, z, rfl, rfl, by rw [sx_len, line_eq]; exact hl, q, h G H _ (Ext.refl ex) (.str [z])⟩
    | _ => exact h.elim
  | _ => cases rd <;> exact h.elim
end
end Bk
end
/-! BkSort -/
section
set_option Elab.async false
set_option linter.all false
set_option autoImplicit false
set_option maxRecDepth 100000
set_option maxHeartbeats 4000000
/-! BkSort: sorted of lists, tuples, dicts of data -/
namespace Bk
open PySem PySem.Spec PyProof.Rows L2
/-! ### the order -/
mutual
theorem alike_py : ∀ d e : D, PySem.W.alike (toPy d) (toPy e) = D.alike d e
  | .none, e => by cases e <;> simp [D.alike, toPy, PySem.W.alike]
  | .bool b, e => by cases e <;> simp [D.alike, toPy, PySem.W.alike]
  | .int b, e => by cases e <;> simp [D.alike, toPy, PySem.W.alike]
  | .str b, e => by cases e <;> simp [D.alike, toPy, PySem.W.alike]
  | .tup xs, e => by
    cases e with
    | tup ys => simp only [D.alike, toPy, PySem.W.alike]; exact alike_pys xs ys
    | _ => simp [D.alike, toPy, PySem.W.alike]
  | .lst xs, e => by
    cases e with
    | lst ys => simp only [D.alike, toPy, PySem.W.alike]; exact alike_pys xs ys
    | _ => simp [D.alike, toPy, PySem.W.alike]
  | .dic _, e => by cases e <;> simp [D.alike, toPy, PySem.W.alike]
theorem alike_pys : ∀ xs ys : List D, PySem.W.alikeAll (toPys xs) (toPys ys) = D.alikeAll xs ys
  | [], [] => by simp [D.alikeAll, toPys, PySem.W.alikeAll]
  | [], _ :: _ => by simp [D.alikeAll, toPys, PySem.W.alikeAll]
  | _ :: _, [] => by simp [D.alikeAll, toPys, PySem.W.alikeAll]
  | x :: xs, y :: ys => by
    rw [D.alikeAll, toPys, toPys, PySem.W.alikeAll, alike_py x y, alike_pys xs ys]
end
mutual
theorem lt_py : ∀ d e : D, D.alike d e = true → PySem.W.dataLt (toPy d) (toPy e) = D.lt d e
  | .none, e, h => by
    cases e with
    | none => simp [D.lt, toPy, PySem.W.dataLt, PySem.W.keyToks]; rfl
    | _ => simp [D.alike] at h
  | .bool b, e, h => by
    cases e with
    | bool c =>
      rw [toPy, toPy, PySem.W.dataLt_bool, D.lt]
      cases b <;> cases c <;> rfl
    | _ => simp [D.alike] at h
  | .int b, e, h => by
    cases e with
    | int c => rw [toPy, toPy, PySem.W.dataLt_int, D.lt]
    | _ => simp [D.alike] at h
  | .str b, e, h => by
    cases e with
    | str c => rw [toPy, toPy, PySem.W.dataLt_str, D.lt]
    | _ => simp [D.alike] at h
  | .tup xs, e, h => by
    cases e with
    | tup ys =>
      rw [toPy, toPy, PySem.W.dataLt_tuple, D.lt]
      exact lt_pys xs ys (by simpa [D.alike] using h)
    | _ => simp [D.alike] at h
  | .lst xs, e, h => by
    cases e with
    | lst ys =>
      rw [toPy, toPy, PySem.W.dataLt_list, D.lt]
      exact lt_pys xs ys (by simpa [D.alike] using h)
    | _ => simp [D.alike] at h
  | .dic _, e, h => by cases e <;> simp [D.alike] at h
theorem lt_pys : ∀ xs ys : List D, D.alikeAll xs ys = true → PyProof.Rows.lexLt itemOrd (PySem.W.keyToksAll (toPys xs)) (PySem.W.keyToksAll (toPys ys)) = D.ltAll xs ys
  | [], [], _ => by
    rw [toPys, D.ltAll]
    simp [PySem.W.keyToksAll]
    decide
  | [], y :: ys, _ => by
    rw [toPys, toPys, D.ltAll, PySem.W.keyToksAll, PySem.W.keyToksAll]
    rfl
  | x :: xs, [], _ => by
    rw [toPys, toPys, D.ltAll, PySem.W.keyToksAll, PySem.W.keyToksAll]
    rfl
  | x :: xs, y :: ys, h => by
    rw [D.alikeAll, Bool.and_eq_true] at h
    have ha : PySem.W.alike (toPy x) (toPy y) = true := by rw [alike_py]; exact h.1
    rw [toPys, toPys, D.ltAll, eqv_py]
    by_cases e : PyData.eqv (toPy x) (toPy y) = true
    · rw [PySem.W.dataLt_all_yes ha e, if_pos e]
      exact lt_pys xs ys h.2
    · rw [PySem.W.dataLt_all_no ha (by simpa using e), if_neg e]
      exact lt_py x y h.1
end
theorem merge_congr {α : Type} {f g : α → α → Bool} {xs : List α} (h : ∀ a ∈ xs, ∀ b ∈ xs, f a b = g a b) : xs.mergeSort f = xs.mergeSort g := by
  have e := List.map_mergeSort (r := f) (s := g) (f := id) (l := xs) h
  rw [List.map_id, List.map_id] at e
  exact e
theorem sort_eq {xs : List D} (h : (xs.all fun a => xs.all fun b => D.alike a b) = true) : xs.mergeSort (PySem.W.dataLe false toPy) = xs.mergeSort D.le := by
  refine merge_congr fun a ha b hb => ?_
  have hab : D.alike b a = true := List.all_eq_true.mp (List.all_eq_true.mp h b hb) a ha
  show (!PySem.W.dataLt (toPy b) (toPy a)) = (!D.lt b a)
  rw [lt_py b a hab]

/-! ### the call -/
section
variable {prog : Program} {w : World} {A : Around} {E : Value → Shared → Prop} {s : Shared}
open PySem.W in
theorem sorted_gen {v : Value} {vs : List Value} {ds : List D} {R : Value → D → Prop} {Q : Value → Shared → Prop} (ha : argsOk "sorted" ⟨[v], []⟩)
    (hc : ∀ Q' : List Value → Shared → Prop, (∀ (h' : Heap) (tk : Nat), (∀ b o, s.heap.get? b = some o → h'.get? b = some o) → Q' vs { s with heap := h', toks := tk }) → wpAny (model prog w) A.in1 (collect v) Q' (fun _ _ => False) s)
    (e : EachIs R vs ds) (er : EachIs (fun v d => ∃ as, Reads s.heap v (toPy d) as) vs ds) (hs : sortable ds = true) (hu : A.units + 12 < cLine)
    (h : ∀ (h1 h' : Heap) (tk n : Nat) (out : List Value), (∀ b o, s.heap.get? b = some o → h1.get? b = some o) → (∀ b o, h1.get? b = some o → h'.get? b = some o) → h'.get? h1.objs.size = some (seqObj "list" out.toArray n) → EachIs R out (ds.mergeSort D.le) → Q (.ref h1.objs.size) { s with heap := h', toks := tk }) :
    wpAny (model prog w) A (call (.builtin "sorted") [v]) Q E s := by
  unfold sortable at hs
  simp only [Bool.and_eq_true, decide_eq_true_eq] at hs
  obtain ⟨⟨⟨h1', h2⟩, h3⟩, h4⟩ := hs
  have hal : AllAlike (ds.map toPy) := by
    intro d hd d' hd'
    obtain ⟨b, hb, rfl⟩ := List.mem_map.mp hd
    obtain ⟨b', hb', rfl⟩ := List.mem_map.mp hd'
    rw [alike_py]
    exact List.all_eq_true.mp (List.all_eq_true.mp h1' b hb) b' hb'
  have hk : Sortable (ds.map toPy) := by
    rw [Bool.or_eq_true, List.all_eq_true, List.all_eq_true] at h2
    rcases h2 with h2 | h2
    · refine .inl fun d hd => ?_
      obtain ⟨b, hb, rfl⟩ := List.mem_map.mp hd
      have q := h2 b hb
      cases b with
      | tup xs =>
        cases xs with
        | nil => simp [D.row1] at q
        | cons x r => exact ⟨toPy x, toPys r, by rw [toPy, toPys]⟩
      | _ => simp [D.row1] at q
    · refine .inr fun d hd => ?_
      obtain ⟨b, hb, rfl⟩ := List.mem_map.mp hd
      have q := h2 b hb
      cases b with
      | tup xs => simp [D.row0] at q
      | none => simp [D.row0] at q
      | _ => simp [toPy]
  have hL : vs.length ≤ sizeLine := by rw [er.length, line_eq]; exact h4
  refine call_function_entry_kw (kw := []) kind_sorted plain_sorted entry_sorted ha ?_
  unfold Builtin.«sorted»
  refine wpAny_bind (m := checkCount "sorted" 1 1 _) (wpAny_pure ?_)
  refine wpAny_bind (wpAny_mono (hc _ fun h1 tk k1 => ?_) (fun _ _ z => z) (fun _ _ z => z.elim))
  refine wpAny_bind (wpAny_newList ?_ hL)
  generalize hB : h1.objs.size = B
  have hat : (h1.push { cls := .type "list", data := .seq vs.toArray }).get? B = some (seqObj "list" vs.toArray 0) := by
    rw [← hB]
    exact Heap.get?_push_size _ rfl
  have k2 : ∀ b o, s.heap.get? b = some o → (h1.push { cls := .type "list", data := .seq vs.toArray }).get? b = some o := fun b o q => Heap.get?_push_of_some _ (k1 b o q)
  have hlt : ∀ b o, h1.get? b = some o → b ≠ B := fun b o q => by
    rw [← hB]
    exact Nat.ne_of_lt (Heap.lt_size q)
  have kS : ∀ b o, s.heap.get? b = some o → (sortingHeap (h1.push { cls := .type "list", data := .seq vs.toArray }) B vs).get? b = some o := fun b o q =>
    sortingHeap_old (hlt b o (k1 b o q)) (k2 b o q)
  have er' : EachIs (fun v d => ∃ as, Reads (sortingHeap (h1.push { cls := .type "list", data := .seq vs.toArray }) B vs) v (toPy d) as) vs ds := er.mono fun _ _ ⟨as, r⟩ => ⟨as, PyProof.Rows.Reads.keeps kS r⟩
  refine wpAny_bind (wpAny_holding (wpAny_call_entry_kw slot_list_sort ⟨_, hat, rfl⟩ entry_list_sort ?body (args_list_sort _)))
  case body =>
    have S : SortsAt prog w A.in1.in1 { s with heap := sortingHeap (h1.push { cls := .type "list", data := .seq vs.toArray }) B vs, toks := tk } (dataKind (sortingHeap (h1.push { cls := .type "list", data := .seq vs.toArray }) B vs) (ds.map toPy)) vs :=
      SortsAt.data (s := { s with heap := sortingHeap (h1.push { cls := .type "list", data := .seq vs.toArray }) B vs, toks := tk }) (each_map (R := fun v d => ∃ as, Reads (sortingHeap (h1.push { cls := .type "list", data := .seq vs.toArray }) B vs) v d as) toPy er') hal hk (fun d hd => by
        obtain ⟨b, hb, rfl⟩ := List.mem_map.mp hd
        have q := (cmp_shape 8 b (List.all_eq_true.mp h3 b hb)).2
        show A.units + 1 + 1 + _ < cLine
        omega)
    show wpAny (model prog w) A.in1.in1 (Builtin.«list.sort» ⟨[.ref B], []⟩) _ _ _
    refine wpAny_mono (list_sort_vals (P := fun f s' => f = .done (.ret .none) ∧ s' = { s with heap := sortedHeap (h1.push { cls := .type "list", data := .seq vs.toArray }) B vs (sortVals (dataKind (sortingHeap (h1.push { cls := .type "list", data := .seq vs.toArray }) B vs) (ds.map toPy)) false vs vs).toArray, toks := tk }) hat S hL ⟨rfl, rfl⟩) (fun f s' hf => ?_) fun _ _ e => e
    obtain ⟨rfl, rfl⟩ := hf
    refine ⟨_, rfl, wpAny_pure ⟨_, rfl, ?_⟩⟩
    obtain ⟨n, hn⟩ := sortedHeap_at (out := (sortVals (dataKind (sortingHeap (h1.push { cls := .type "list", data := .seq vs.toArray }) B vs) (ds.map toPy)) false vs vs).toArray) hat
    have fin := sortVals_data (enc := toPy) false e er' hal
    rw [sort_eq h1'] at fin
    subst hB
    refine h h1 _ tk n _ k1 (fun b o q => ?_) hn ?_
    · have q2 := Heap.get?_push_of_some ({ cls := .type "list", data := .seq vs.toArray } : Obj) q
      rw [sortedHeap_old (Nat.ne_of_lt (Heap.lt_size q)) (Heap.lt_size q2)]
      exact q2
    · exact fin
end

/-! ### over the layer -/
theorem each_of {K : PySem.W.Frag} {G : Hp} : ∀ {vs : List V} {us : List Value} {ds : List D}, Vals vs us → RpAll K G vs ds → PySem.W.EachIs (fun u d => ∃ v, RelV v u ∧ Rp K G v d) us ds
  | _, _, _, .nil, .nil => .nil
  | _, _, _, .cons r t, .cons a b => .cons ⟨_, r, a⟩ (each_of t b)
theorem of_each {K : PySem.W.Frag} {G : Hp} : ∀ {us : List Value} {ds : List D}, PySem.W.EachIs (fun u d => ∃ v, RelV v u ∧ Rp K G v d) us ds → ∃ vs, Vals vs us ∧ RpAll K G vs ds
  | _, _, .nil => ⟨[], .nil, .nil⟩
  | _, _, .cons ⟨v, r, a⟩ t =>
    let ⟨vs, h1, h2⟩ := of_each t
    ⟨v :: vs, .cons r h1, .cons a h2⟩
section
variable {X : Cx} {pins : List (Addr × Obj)} {σ : L2.St} {H G : Hp} {s : Shared}
theorem reads_of (I : Inv X pins σ H s) (ex : Ex G H) {n : Nat} {us : List Value} {ds : List D} (h : (ds.all (D.cmp n)) = true) (e : PySem.W.EachIs (fun u d => ∃ v, RelV v u ∧ Rp X.K G v d) us ds) : PySem.W.EachIs (fun u d => ∃ as, Reads s.heap u (toPy d) as) us ds := by
  induction e with
  | nil => exact .nil
  | cons a t ih =>
    rw [List.all_cons, Bool.and_eq_true] at h
    obtain ⟨v, r, q⟩ := a
    exact .cons (Dp.reads I _ _ _ (dp_of h.1 (q.mono ex)) r) (ih h.2)
/-- sorted(v), v walked by collect -/
theorem sorted_lay {v : Value} {vs : List Value} {ds : List D} {Q : VK} (I : Inv X pins σ H s) (ex : Ex G H) (hr : X.A.units + 12 < cLine) (ha : argsOk "sorted" ⟨[v], []⟩)
    (hc : ∀ Q' : List Value → Shared → Prop, (∀ (h' : Heap) (tk : Nat), (∀ b o, s.heap.get? b = some o → h'.get? b = some o) → Q' vs { s with heap := h', toks := tk }) → wpAny (model X.prog X.w) X.A.in1 (collect v) Q' (fun _ _ => False) s)
    (e : PySem.W.EachIs (fun u d => ∃ v, RelV v u ∧ Rp X.K G v d) vs ds) (hs : sortable ds = true) (q : ∀ G' H' p, Ext G H G' H' → Rp X.K G' p (.lst (ds.mergeSort D.le)) → Q p H') :
    wpAny (model X.prog X.w) X.A (call (.builtin "sorted") [v]) (EP X pins σ Q) X.xe s := by
  have hs' := hs
  unfold sortable at hs'
  simp only [Bool.and_eq_true, decide_eq_true_eq] at hs'
  refine sorted_gen ha hc e (reads_of I ex hs'.1.2 e) hs hr fun h1 h' tk n out k1 k2 hat eo => ?_
  obtain ⟨ws, rv, ra⟩ := of_each eo
  have I1 : Inv X pins σ H { s with heap := h1, toks := tk } := I.kept k1
  have hf : H h1.objs.size = none := I1.hok.fresh (Nat.le_refl _)
  have hz : ws.length ≤ sizeLine := by
    rw [ra.length, List.length_mergeSort, line_eq]
    exact hs'.2
  have I2 : Inv X pins σ (upd H h1.objs.size (.lst ws)) { s with heap := h', toks := tk } := I1.laid (t' := tk) k2 (Nat.le_refl _) ⟨hz, out, n, rv, hat⟩
  have hn : Ext G H (upd G h1.objs.size (.lst ws)) (upd H h1.objs.size (.lst ws)) := Ext.new ex hf
  exact ⟨.ref h1.objs.size, _, I2, rfl, q _ _ _ hn (.lst (.inl (.inl upd_same)) (ra.mono hn.g))⟩
end
end Bk
end
/-! BkFns -/
section
set_option Elab.async false
set_option linter.all false
set_option autoImplicit false
set_option maxRecDepth 100000
set_option maxHeartbeats 4000000
/-! BkFns: truth, slices, the built-ins of one and of two things -/
namespace Bk
open PySem PySem.Spec PyProof.Rows L2
/-- v stands for d, known for good, or as a list of the def's own -/
inductive Src (K : PySem.W.Frag) (G H : Hp) : V → D → Prop
  | of {v : V} {d : D} : Rp K G v d → Src K G H v d
  | own {a : Addr} {vs : List V} {ds : List D} : SqL K H a vs → RpAll K G vs ds → Src K G H (.ref a) (.lst ds)
section
variable {K : PySem.W.Frag} {G H : Hp}
theorem Src.lst (ex : Ex G H) {v : V} {ds : List D} (h : Src K G H v (.lst ds)) : ∃ a vs, v = .ref a ∧ SqL K H a vs ∧ RpAll K G vs ds := by
  cases h with
  | of r =>
    cases r with
    | lst hs r => exact ⟨_, _, rfl, ex.l hs, r⟩
  | own hs r => exact ⟨_, _, rfl, hs, r⟩
theorem Src.tup {v : V} {ds : List D} (h : Src K G H v (.tup ds)) : ∃ a vs, v = .ref a ∧ SqT K G a vs ∧ RpAll K G vs ds := by
  cases h with
  | of r =>
    cases r with
    | tup hs r => exact ⟨_, _, rfl, hs, r⟩
theorem Src.str {v : V} {s : List Nat} (h : Src K G H v (.str s)) : v = .str (Sx s) := by
  cases h with
  | of r =>
    cases r
    rfl
theorem Src.bool {v : V} {s : Bool} (h : Src K G H v (.bool s)) : v = .bl s := by
  cases h with
  | of r =>
    cases r
    rfl
theorem Src.int {v : V} {s : Int} (h : Src K G H v (.int s)) : v = .int s := by
  cases h with
  | of r =>
    cases r
    rfl
theorem Src.none {v : V} (h : Src K G H v .none) : v = .non := by
  cases h with
  | of r =>
    cases r
    rfl
end
/-- a call of one thing -/
def RU (K : PySem.W.Frag) (u : D → Res D) : List V → Hp → VK → Prop := fun xs H Q => ∃ x G d, xs = [x] ∧ Ex G H ∧ Src K G H x d ∧ (u d).Sat (fun r => ∀ G' H' v, Ext G H G' H' → Rp K G' v r → Q v H') (fun _ => False)
def CallU (X : Cx) (f : Value) (u : D → Res D) : Prop := CallR X f (RU X.K u)
theorem nat_str (s : List Nat) : (Sx s).length = s.length := sx_len s
section
variable {X : Cx}
theorem cu_len : CallU X (.builtin "len") bLen := by
  intro pins s σ H xs us Q I r h
  obtain ⟨x, G, d, rfl, ex, sr, h⟩ := h
  cases d with
  | str t =>
    obtain ⟨hl, h⟩ := sat_if h
    obtain rfl := sr.str
    refine call_len_str pins s σ H _ us Q I r ⟨_, rfl, by rw [sx_len, line_eq]; exact hl, ?_⟩
    rw [sx_len]
    exact h G H _ (Ext.refl ex) (.int _)
  | lst ds =>
    obtain ⟨a, vs, rfl, hs, ra⟩ := sr.lst ex
    refine call_len_seq pins s σ H _ us Q I r ⟨a, vs, rfl, .inl hs, ?_⟩
    rw [ra.length]
    exact h G H _ (Ext.refl ex) (.int _)
  | tup ds =>
    obtain ⟨a, vs, rfl, hs, ra⟩ := sr.tup
    refine call_len_seq pins s σ H _ us Q I r ⟨a, vs, rfl, .inr (ex.t hs), ?_⟩
    rw [ra.length]
    exact h G H _ (Ext.refl ex) (.int _)
  | _ => exact h.elim
theorem cu_int : CallU X (.type "int") bInt := by
  intro pins s σ H xs us Q I r h
  obtain ⟨x, G, d, rfl, ex, sr, h⟩ := h
  cases d with
  | bool b =>
    obtain rfl := sr.bool
    exact call_int1 pins s σ H _ us Q I r (.inr ⟨b, rfl, h G H _ (Ext.refl ex) (.int _)⟩)
  | int i =>
    obtain rfl := sr.int
    exact call_int1 pins s σ H _ us Q I r (.inl ⟨i, rfl, h G H _ (Ext.refl ex) (.int _)⟩)
  | _ => exact h.elim
theorem least_spec : ∀ (r : List Int) (m : Int), least m r ∈ m :: r ∧ ∀ y ∈ m :: r, least m r ≤ y
  | [], m => by simp [least]
  | x :: r, m => by
    rw [least]
    obtain ⟨h1, h2⟩ := least_spec r (if x < m then x else m)
    refine ⟨?_, fun y hy => ?_⟩
    · rcases List.mem_cons.mp h1 with e | e
      · rw [e]
        split <;> simp
      · simp [e]
    · have h3 := h2 _ List.mem_cons_self
      rcases List.mem_cons.mp hy with e | e
      · subst e
        refine Int.le_trans h3 ?_
        split <;> omega
      · rcases List.mem_cons.mp e with e | e
        · subst e
          refine Int.le_trans h3 ?_
          split <;> omega
        · exact h2 y (List.mem_cons_of_mem _ e)
theorem most_spec : ∀ (r : List Int) (m : Int), most m r ∈ m :: r ∧ ∀ y ∈ m :: r, y ≤ most m r
  | [], m => by simp [most]
  | x :: r, m => by
    rw [most]
    obtain ⟨h1, h2⟩ := most_spec r (if m < x then x else m)
    refine ⟨?_, fun y hy => ?_⟩
    · rcases List.mem_cons.mp h1 with e | e
      · rw [e]
        split <;> simp
      · simp [e]
    · have h3 := h2 _ List.mem_cons_self
      rcases List.mem_cons.mp hy with e | e
      · subst e
        refine Int.le_trans ?_ h3
        split <;> omega
      · rcases List.mem_cons.mp e with e | e
        · subst e
          refine Int.le_trans ?_ h3
          split <;> omega
        · exact h2 y (List.mem_cons_of_mem _ e)
theorem cu_min (hc : X.calm = true) : CallU X (.builtin "min") bMin := by
  intro pins s σ H xs us Q I r h
  obtain ⟨x, G, d, rfl, ex, sr, h⟩ := h
  cases d with
  | lst ds =>
    obtain ⟨a, vs, rfl, hs, ra⟩ := sr.lst ex
    cases q : numsL ds with
    | none => simp [bMin, q, Res.Sat] at h
    | some ns =>
      cases ns with
      | nil => simp [bMin, q, Res.Sat] at h
      | cons m t =>
        simp only [bMin, q] at h
        have e := ra.nums q
        subst e
        refine cr_min hc pins s σ H _ us Q I r ⟨a, _, rfl, hs, by simp, fun k hk hle => ?_⟩
        obtain ⟨s1, s2⟩ := least_spec t m
        have ek : k = least m t := Int.le_antisymm (hle _ s1) (s2 _ hk)
        rw [ek]
        exact h G H _ (Ext.refl ex) (.int _)
  | _ => exact h.elim
theorem cu_max (hc : X.calm = true) : CallU X (.builtin "max") bMax := by
  intro pins s σ H xs us Q I r h
  obtain ⟨x, G, d, rfl, ex, sr, h⟩ := h
  cases d with
  | lst ds =>
    obtain ⟨a, vs, rfl, hs, ra⟩ := sr.lst ex
    cases q : numsL ds with
    | none => simp [bMax, q, Res.Sat] at h
    | some ns =>
      cases ns with
      | nil => simp [bMax, q, Res.Sat] at h
      | cons m t =>
        simp only [bMax, q] at h
        have e := ra.nums q
        subst e
        refine cr_max hc pins s σ H _ us Q I r ⟨a, _, rfl, hs, by simp, fun k hk hle => ?_⟩
        obtain ⟨s1, s2⟩ := most_spec t m
        have ek : k = most m t := Int.le_antisymm (s2 _ hk) (hle _ s1)
        rw [ek]
        exact h G H _ (Ext.refl ex) (.int _)
  | _ => exact h.elim
theorem cu_sum (hc : X.calm = true) : CallU X (.builtin "sum") bSum := by
  intro pins s σ H xs us Q I r h
  obtain ⟨x, G, d, rfl, ex, sr, h⟩ := h
  cases d with
  | lst ds =>
    obtain ⟨a, vs, rfl, hs, ra⟩ := sr.lst ex
    cases q : numsL ds with
    | none => simp [bSum, q, Res.Sat] at h
    | some ns =>
      simp only [bSum, q] at h
      have e := ra.nums q
      subst e
      exact cr_sum hc pins s σ H _ us Q I r ⟨a, _, rfl, hs, h G H _ (Ext.refl ex) (.int _)⟩
  | _ => exact h.elim
theorem cu_all (hc : X.calm = true) : CallU X (.builtin "all") bAll := by
  intro pins s σ H xs us Q I r h
  obtain ⟨x, G, d, rfl, ex, sr, h⟩ := h
  cases d with
  | lst ds =>
    obtain ⟨a, vs, rfl, hs, ra⟩ := sr.lst ex
    cases q : boolsL ds with
    | none => simp [bAll, q, Res.Sat] at h
    | some ns =>
      simp only [bAll, q] at h
      have e := ra.bools q
      subst e
      exact cr_all hc pins s σ H _ us Q I r ⟨a, _, rfl, hs, h G H _ (Ext.refl ex) (.bool _)⟩
  | _ => exact h.elim
theorem newL {G H : Hp} {vs : List V} {ds : List D} {Q : VK} {K : PySem.W.Frag} (ex : Ex G H) (ra : RpAll K G vs ds) (h : ∀ G' H' v, Ext G H G' H' → Rp K G' v (.lst ds) → Q v H') : ∀ p, H p = Option.none → Q (.ref p) (upd H p (.lst vs)) := fun p hp =>
  have hn : Ext G H (upd G p (.lst vs)) (upd H p (.lst vs)) := Ext.new ex hp
  h _ _ _ hn (.lst (.inl (.inl upd_same)) (ra.mono hn.g))
theorem newT {G H : Hp} {vs : List V} {ds : List D} {Q : VK} {K : PySem.W.Frag} (ex : Ex G H) (ra : RpAll K G vs ds) (h : ∀ G' H' v, Ext G H G' H' → Rp K G' v (.tup ds) → Q v H') : ∀ p, H p = Option.none → Q (.ref p) (upd H p (.tup vs)) := fun p hp =>
  have hn : Ext G H (upd G p (.tup vs)) (upd H p (.tup vs)) := Ext.new ex hp
  h _ _ _ hn (.tup (.inl (.inl upd_same)) (ra.mono hn.g))
theorem cu_list : CallU X (.type "list") bList := by
  intro pins s σ H xs us Q I r h
  obtain ⟨x, G, d, rfl, ex, sr, h⟩ := h
  cases d with
  | lst ds =>
    obtain ⟨a, vs, rfl, hs, ra⟩ := sr.lst ex
    exact call_list_of pins s σ H _ us Q I r ⟨a, vs, rfl, .inl hs, newL ex ra h⟩
  | tup ds =>
    obtain ⟨a, vs, rfl, hs, ra⟩ := sr.tup
    exact call_list_of pins s σ H _ us Q I r ⟨a, vs, rfl, .inr (ex.t hs), newL ex ra h⟩
  | _ => exact h.elim
theorem cu_tuple : CallU X (.type "tuple") bTuple := by
  intro pins s σ H xs us Q I r h
  obtain ⟨x, G, d, rfl, ex, sr, h⟩ := h
  cases d with
  | lst ds =>
    obtain ⟨a, vs, rfl, hs, ra⟩ := sr.lst ex
    exact call_tuple_of pins s σ H _ us Q I r ⟨a, vs, rfl, .inl ⟨hs, newT ex ra h⟩⟩
  | tup ds =>
    obtain ⟨a, vs, rfl, hs, ra⟩ := sr.tup
    exact call_tuple_of pins s σ H _ us Q I r ⟨a, vs, rfl, .inr ⟨ex.t hs, h G H _ (Ext.refl ex) (.tup hs ra)⟩⟩
  | _ => exact h.elim
theorem cu_sorted (hu : X.A.units + 12 < cLine) : CallU X (.builtin "sorted") bSorted := by
  intro pins s σ H xs us Q I r h
  obtain ⟨x, G, d, rfl, ex, sr, h⟩ := h
  cases d with
  | lst ds =>
    obtain ⟨hs', h⟩ := sat_if h
    obtain ⟨a, vs, rfl, hs, ra⟩ := sr.lst ex
    obtain ⟨u, rfl, ru⟩ := vals1 r
    cases ru
    obtain ⟨its, rv, ⟨o, n, ho, hcl, hdd, hd⟩, hz⟩ := I.list hs
    exact sorted_lay I ex hu (args_sorted1 _) (fun Q' k => wpAny_collect_seq a (.inl rfl) ho hcl hd (fun h' hk => k h' s.toks hk) (by rw [List.size_toArray, ← rv.length]; exact hz)) (each_of rv ra) hs' h
  | tup ds =>
    obtain ⟨hs', h⟩ := sat_if h
    obtain ⟨a, vs, rfl, hs, ra⟩ := sr.tup
    obtain ⟨u, rfl, ru⟩ := vals1 r
    cases ru
    obtain ⟨its, rv, ⟨o, ho, hcl, n, hd⟩, hz⟩ := I.tuple (ex.t hs)
    exact sorted_lay I ex hu (args_sorted1 _) (fun Q' k => wpAny_collect_seq a (.inr rfl) ho hcl hd (fun h' hk => k h' s.toks hk) (by rw [List.size_toArray, ← rv.length]; exact hz)) (each_of rv ra) hs' h
  | _ => exact h.elim
/-- isinstance, a written type -/
def tyN : Ty → String
  | .str => "str"
  | .int => "int"
  | .bool => "bool"
  | .tuple => "tuple"
theorem isi_run {t : Ty} {d : D} {x : V} {H G : Hp} {pins : List (Addr × Obj)} {σ : L2.St} {s : Shared} {us : List Value} {Q : VK} (I : Inv X pins σ H s) (ex : Ex G H) (rp : Rp X.K G x d) (r : Vals [x, .ty (tyN t)] us) (h : (bIs t d).Sat (fun r => ∀ G' H' v, Ext G H G' H' → Rp X.K G' v r → Q v H') (fun _ => False)) :
    wpAny (model X.prog X.w) X.A (call (.builtin "isinstance") us) (EP X pins σ Q) X.xe s := by
  have go : ∀ (T : String) (b : Bool), TyX X.K H x (.type T) → kitB T (tyN t) = some b → Q (.bl b) H → wpAny (model X.prog X.w) X.A (call (.builtin "isinstance") us) (EP X pins σ Q) X.xe s := fun T b ty hk q =>
    call_isi pins s σ H _ us Q I r ⟨x, .ty (tyN t), .type T, .type (tyN t), b, rfl, .ty _, ty, kit_ty hk, q⟩
  cases rp with
  | none => cases t <;> exact go "NoneType" false (.base .non) (by decide +kernel) (h G H _ (Ext.refl ex) (.bool _))
  | bool b =>
    cases t with
    | str => exact go "bool" false (.base (.bl b)) (by decide +kernel) (h G H _ (Ext.refl ex) (.bool _))
    | int => exact go "bool" true (.base (.bl b)) (by decide +kernel) (h G H _ (Ext.refl ex) (.bool _))
    | bool => exact go "bool" true (.base (.bl b)) (by decide +kernel) (h G H _ (Ext.refl ex) (.bool _))
    | tuple => exact go "bool" false (.base (.bl b)) (by decide +kernel) (h G H _ (Ext.refl ex) (.bool _))
  | int b =>
    cases t with
    | str => exact go "int" false (.base (.int b)) (by decide +kernel) (h G H _ (Ext.refl ex) (.bool _))
    | int => exact go "int" true (.base (.int b)) (by decide +kernel) (h G H _ (Ext.refl ex) (.bool _))
    | bool => exact go "int" false (.base (.int b)) (by decide +kernel) (h G H _ (Ext.refl ex) (.bool _))
    | tuple => exact go "int" false (.base (.int b)) (by decide +kernel) (h G H _ (Ext.refl ex) (.bool _))
  | str b =>
    cases t with
    | str => exact go "str" true (.base (.str _)) (by decide +kernel) (h G H _ (Ext.refl ex) (.bool _))
    | int => exact go "str" false (.base (.str _)) (by decide +kernel) (h G H _ (Ext.refl ex) (.bool _))
    | bool => exact go "str" false (.base (.str _)) (by decide +kernel) (h G H _ (Ext.refl ex) (.bool _))
    | tuple => exact go "str" false (.base (.str _)) (by decide +kernel) (h G H _ (Ext.refl ex) (.bool _))
  | lst hs ra =>
    rename_i a0 _ _
    have ty : TyX X.K H (.ref a0) (.type "list") := by
      rcases ex.l hs with (z | ⟨o, z⟩) | ⟨o, its, n, hk, hc, _⟩
      · exact .base (.lst z)
      · exact .base (.frz z)
      · exact .kList hk hc
    cases t <;> exact go "list" false ty (by decide +kernel) (h G H _ (Ext.refl ex) (.bool _))
  | tup hs ra =>
    rename_i a0 _ _
    have ty : TyX X.K H (.ref a0) (.type "tuple") := by
      rcases ex.t hs with (z | ⟨o, z⟩) | ⟨o, its, n, hk, hc, _⟩
      · exact .base (.tup z)
      · exact .fTuple z
      · exact .kTuple hk hc
    cases t with
    | tuple => exact go "tuple" true ty (by decide +kernel) (h G H _ (Ext.refl ex) (.bool _))
    | str => exact go "tuple" false ty (by decide +kernel) (h G H _ (Ext.refl ex) (.bool _))
    | int => exact go "tuple" false ty (by decide +kernel) (h G H _ (Ext.refl ex) (.bool _))
    | bool => exact go "tuple" false ty (by decide +kernel) (h G H _ (Ext.refl ex) (.bool _))
  | dic _ _ => exact h.elim
/-! ### of two things -/
def RB (K : PySem.W.Frag) (b : D → D → Res D) : List V → Hp → VK → Prop := fun xs H Q => ∃ x y G d e, xs = [x, y] ∧ Ex G H ∧ Rp K G x d ∧ Rp K G y e ∧ (b d e).Sat (fun r => ∀ G' H' v, Ext G H G' H' → Rp K G' v r → Q v H') (fun _ => False)
theorem cb_min2 (hc : X.calm = true) : CallR X (.builtin "min") (RB X.K dMin2) := by
  intro pins s σ H xs us Q I r h
  obtain ⟨x, y, G, d, e, rfl, ex, rd, re, h⟩ := h
  cases rd with
  | int i =>
    cases re with
    | int j => exact call_min2 hc pins s σ H _ us Q I r ⟨i, j, rfl, h G H _ (Ext.refl ex) (.int _)⟩
    | _ => exact h.elim
  | _ => cases re <;> exact h.elim
/-! ### truth -/
theorem truth_rp {G H : Hp} {v : V} {d : D} {b : Bool} (ex : Ex G H) (r : Rp X.K G v d) (h : dTruth d = .ok b) : TruV X.K v H b := by
  cases r with
  | none =>
    simp [dTruth] at h
    show b = false
    exact h
  | bool c =>
    simp [dTruth] at h
    show b = c
    exact h.symm
  | int i =>
    simp only [dTruth, Res.ok.injEq] at h
    exact h.symm
  | str t =>
    simp only [dTruth] at h
    by_cases hl : t.length ≤ lim
    · rw [if_pos hl] at h
      injection h with h
      subst h
      refine ⟨by rw [sx_len, line_eq]; exact hl, ?_⟩
      rw [sx_len]
      cases t with
      | nil => rfl
      | cons c r =>
        have z : ((c :: r).length : Int) ≠ 0 := by
          rw [List.length_cons]
          omega
        show true = (((c :: r).length : Int) != 0)
        exact (bne_iff_ne.mpr z).symm
    · rw [if_neg hl] at h
      cases h
  | lst hs ra =>
    rename_i a xs ds
    simp only [dTruth, Res.ok.injEq] at h
    refine .inl ⟨_, ex.l hs, ?_⟩
    rw [← h]
    have := ra.length
    cases xs <;> cases ds <;> simp_all
  | tup hs ra =>
    rename_i a xs ds
    simp only [dTruth, Res.ok.injEq] at h
    refine .inr (.inl ⟨_, ex.t hs, ?_⟩)
    rw [← h]
    have := ra.length
    cases xs <;> cases ds <;> simp_all
  | dic _ _ => simp [dTruth] at h
/-! ### slices -/
theorem sl_eq (n d : Nat) (o : Option Int) : HT.sIx n d o = sl n d o := by
  cases o <;> rfl
theorem cut_eq {vs : List V} {ds : List D} {K : PySem.W.Frag} {G : Hp} (ra : RpAll K G vs ds) (lo hi : Option Int) : RpAll K G (cutV vs lo hi) (cut ds lo hi) := by
  unfold cutV cut
  rw [ra.length, sl_eq, sl_eq]
  exact (ra.drop _).take _
def RS (K : PySem.W.Frag) : V → Option Int → Option Int → Hp → VK → Prop := fun x lo hi H Q => ∃ G d, Ex G H ∧ Rp K G x d ∧ (dCut d lo hi).Sat (fun r => ∀ G' H' v, Ext G H G' H' → Rp K G' v r → Q v H') (fun _ => False)
theorem sl_data : SlR X (RS X.K) := by
  intro pins s σ H x v vl vu lo hi sl Q I rx hs pl pu h
  obtain ⟨G, d, ex, rd, h⟩ := h
  cases rd with
  | str t =>
    obtain ⟨hl, h⟩ := sat_if h
    refine sl_str pins s σ H _ v vl vu lo hi sl Q I rx hs pl pu ⟨_, rfl, by rw [sx_len, line_eq]; exact hl, ?_⟩
    have e : cutS (Sx t) lo hi = Sx (cut t lo hi) := by
      unfold cutS cut
      rw [sx_len, sl_eq, sl_eq]
    rw [e]
    exact h G H _ (Ext.refl ex) (.str _)
  | lst hl ra => exact sl_list pins s σ H _ v vl vu lo hi sl Q I rx hs pl pu ⟨_, _, rfl, ex.l hl, newL ex (cut_eq ra lo hi) h⟩
  | tup hl ra =>
    obtain ⟨hn, h⟩ := sat_if h
    refine sl_tup pins s σ H _ v vl vu lo hi sl Q I rx hs pl pu ⟨_, _, rfl, ex.t hl, ?_, newT ex (cut_eq ra lo hi) h⟩
    rw [ra.length, sl_eq, sl_eq]
    exact hn
  | _ => exact h.elim
end
end Bk
end
/-! BkRules -/
section
set_option Elab.async false
set_option linter.all false
set_option autoImplicit false
set_option maxRecDepth 100000
set_option maxHeartbeats 4000000
/-! BkRules: the rules of expressions and tests -/
namespace Bk
open PySem PySem.Spec PyProof.Rows L2
section
variable {X : Cx} {B : Bs} {a b c e : Expr} {es : List Expr} {pos p : Pos} {f g h : E} {fs : List E} {t u : T}
/-! ### names and constants -/
theorem eVar_sat {i : Nat} {η : Env} {P : D → Prop} {R : Cls → Prop} (q : (eVar i η).Sat P R) : ∃ d, η[i]? = some (some (.dat d)) ∧ P d := by
  unfold eVar at q
  split at q
  · rename_i d e
    exact ⟨d, e, q⟩
  · exact q.elim
theorem pv (i : Nat) {x : Str} (hN : X.N[i]? = some x := by rfl) (hv : Vis X.env.scope x := by first | exact Or.inl rfl | exact Or.inr (Or.inl rfl) | exact Or.inr (Or.inr rfl)) (hd : (x == ("__debug__" : Str)) = false := by decide)
    (hcd : (x == ("__classdict__" : Str)) = false := by decide) : PE X (.Name x pos) (tX X.K B (eVar i)) := pe_weak (pe_var hN hv hd hcd) fun σ H Q q => by
  obtain ⟨G, η, r, q⟩ := q
  obtain ⟨d, e, q⟩ := eVar_sat q
  obtain ⟨v, h1, h2⟩ := r.dat e
  exact ⟨v, h1, q G H v (Ext.refl r.exg) h2⟩
theorem pc_weak {d : D} {v : V} {e : Expr} (h : PE X e (tC v)) (r : ∀ G, Rp X.K G v d) : PE X e (tX X.K B (eC d)) := pe_weak h fun σ H Q q => by
  obtain ⟨G, η, rp, q⟩ := q
  exact q G H v (Ext.refl rp.exg) (r G)
theorem pv_int {i : Int} {j : Nat} : PE X (.Constant (.int i) j pos) (tX X.K B (eC (.int i))) := pc_weak pe_int fun _ => .int i
theorem pv_bl {i : Bool} {j : Nat} : PE X (.Constant (.bool i) j pos) (tX X.K B (eC (.bool i))) := pc_weak pe_bl fun _ => .bool i
theorem pv_non {j : Nat} : PE X (.Constant .none j pos) (tX X.K B (eC .none)) := pc_weak pe_non fun _ => .none
theorem pv_str (l : List Nat) {x : Str} {j : Nat} (hx : x = Sx l := by decide +kernel) : PE X (.Constant (.str x) j pos) (tX X.K B (eC (.str l))) := pc_weak pe_str fun _ => by
  rw [hx]
  exact .str l
/-! ### operators -/
theorem bin_weak {bo : D → D → Res D} {σ : L2.St} {H : Hp} {Q : VK} (q : tX X.K B (eBin bo f g) σ H Q) : tOp (RD X.K bo) (tX X.K B f) (tX X.K B g) σ H Q := by
  obtain ⟨G, η, r, q⟩ := q
  refine tX.of r (sat_bind q) fun x hx G1 H1 v e1 r1 => ?_
  refine tX.of (r.extd e1) (sat_bind hx) fun y hy G2 H2 w e2 r2 => ?_
  exact ⟨G2, x, y, e2.gh, r1.mono e2.g, r2, Sat.mono (sat_calm hy) (fun d q G' H' u e3 r3 => q G' H' u ((e1.trans e2).trans e3) r3) fun _ z => z⟩
theorem pv_bin {op : Operator} {bo : D → D → Res D} (ho : OpD X (binaryOp op) bo) (ha : PE X a (tX X.K B f)) (hb : PE X b (tX X.K B g)) : PE X (.BinOp a op b pos) (tX X.K B (eBin bo f g)) :=
  pe_weak (pe_op ho ha hb) fun _ _ _ q => bin_weak q
theorem pv_add (ha : PE X a (tX X.K B f)) (hb : PE X b (tX X.K B g)) : PE X (.BinOp a .Add b pos) (tX X.K B (eBin dAdd f g)) := pv_bin od_add ha hb
theorem pv_sub (ha : PE X a (tX X.K B f)) (hb : PE X b (tX X.K B g)) : PE X (.BinOp a .Sub b pos) (tX X.K B (eBin dSub f g)) := pv_bin od_sub ha hb
theorem pv_mul (ha : PE X a (tX X.K B f)) (hb : PE X b (tX X.K B g)) : PE X (.BinOp a .Mult b pos) (tX X.K B (eBin dMul f g)) := pv_bin od_mul ha hb
theorem pv_div (ha : PE X a (tX X.K B f)) (hb : PE X b (tX X.K B g)) : PE X (.BinOp a .FloorDiv b pos) (tX X.K B (eBin dDiv f g)) := pv_bin od_div ha hb
theorem pv_mod (ha : PE X a (tX X.K B f)) (hb : PE X b (tX X.K B g)) : PE X (.BinOp a .Mod b pos) (tX X.K B (eBin dMod f g)) := pv_bin od_mod ha hb
theorem pv_pow (ha : PE X a (tX X.K B f)) (hb : PE X b (tX X.K B g)) : PE X (.BinOp a .Pow b pos) (tX X.K B (eBin dPow f g)) := pv_bin od_pow ha hb
/-- of one thing -/
theorem un_sat {u : D → Res D} {η : Env} {P : D → Prop} {R : Cls → Prop} (q : (eUn u f η).Sat P R) : (f η).Sat (fun x => ∀ R', (u x).Sat P R') R := Sat.mono (sat_bind q) (fun x hx R' => sat_calm hx) fun _ z => z
theorem pv_neg (ha : PE X a (tX X.K B f)) : PE X (.UnaryOp .USub a pos) (tX X.K B (eUn dNeg f)) := pe_weak (pe_un un_neg ha) fun σ H Q q => by
  obtain ⟨G, η, r, q⟩ := q
  refine tX.of r (un_sat q) fun x hx G1 H1 v e1 r1 => ?_
  have hx := hx fun _ => False
  cases r1 with
  | int i => exact ⟨i, rfl, hx G1 H1 _ e1 (.int _)⟩
  | _ => exact hx.elim
/-! ### comparisons -/
theorem pv_cmp {op : CmpOp} {bo : D → D → Res D} (ho : OpD X (compareOp op) bo) (ha : PE X a (tX X.K B f)) (hb : PE X b (tX X.K B g)) (hm : behindInMarks op b = false := by rfl) : PE X (.Compare a [op] [b] pos) (tX X.K B (eBin bo f g)) :=
  pe_weak (pe_cmpR ho ha hb hm) fun _ _ _ q => bin_weak q
theorem bool_sat {η : Env} {P : Bool → Prop} {R : Cls → Prop} (q : ((f η).bind asBool).Sat P R) : (f η).Sat (fun x => ∃ k, x = .bool k ∧ P k) R := by
  refine Sat.mono (sat_bind q) (fun x hx => ?_) fun _ z => z
  cases x with
  | bool k => exact ⟨k, rfl, hx⟩
  | _ => exact hx.elim
theorem tv_cmp {op : CmpOp} {bo : D → D → Res D} (ho : OpD X (compareOp op) bo) (ha : PE X a (tX X.K B f)) (hb : PE X b (tX X.K B g)) (hm : behindInMarks op b = false := by rfl) : PT X (.Compare a [op] [b] pos) (tT X.K B (tE (eBin bo f g))) :=
  pt_weak (pt_cmpR ho ha hb hm) fun σ H Q q => by
    obtain ⟨G, η, r, q⟩ := q
    refine bin_weak (B := B) (tX.of r (bool_sat q) fun x hx G1 H1 v e1 r1 => ?_)
    obtain ⟨k, rfl, q⟩ := hx
    cases r1
    exact ⟨k, rfl, q G1 H1 e1⟩
theorem chain_weak {r r' : D → D → Res D} {σ : L2.St} {H : Hp} {Q : VK} (q : tX X.K B (eChain r r' f g h) σ H Q) : tChain (RD X.K r) (RD X.K r') (tX X.K B f) (tX X.K B g) (tX X.K B h) σ H Q := by
  obtain ⟨G, η, rp, q⟩ := q
  refine tX.of rp (sat_bind q) fun x hx G1 H1 v e1 r1 => ?_
  refine tX.of (rp.extd e1) (sat_bind hx) fun y hy G2 H2 w e2 r2 => ?_
  refine ⟨G2, x, y, e2.gh, r1.mono e2.g, r2, Sat.mono (sat_calm (sat_bind hy)) (fun z hz G3 H3 v3 e3 r3 => ?_) fun _ z => z⟩
  cases r3 with
  | bool k =>
    refine ⟨k, rfl, ?_⟩
    cases k with
    | false =>
      rw [if_neg Bool.false_ne_true]
      exact hz G3 H3 _ ((e1.trans e2).trans e3) (.bool _)
    | true =>
      rw [if_pos rfl]
      refine tX.of (((rp.extd e1).extd e2).extd e3) (sat_bind hz) fun z' hz' G4 H4 v4 e4 r4 => ?_
      exact ⟨G4, y, z', e4.gh, (r2.mono e3.g).mono e4.g, r4, Sat.mono (sat_calm hz') (fun d q G' H' u e5 r5 => q G' H' u ((((e1.trans e2).trans e3).trans e4).trans e5) r5) fun _ z => z⟩
  | _ => exact hz.elim
theorem tv_chain {op op' : CmpOp} {r r' : D → D → Res D} (ho : OpD X (compareOp op) r) (ho' : OpD X (compareOp op') r') (ha : PE X a (tX X.K B f)) (hb : PE X b (tX X.K B g)) (hc : PE X c (tX X.K B h))
    (hm : lastMarks [op, op'] [b, c] = false := by with_unfolding_all rfl) : PT X (.Compare a [op, op'] [b, c] pos) (tT X.K B (tE (eChain r r' f g h))) :=
  pt_weak (pt_chain ho ho' ha hb hc hm) fun σ H Q q => by
    obtain ⟨G, η, rp, q⟩ := q
    refine chain_weak (B := B) (tX.of rp (bool_sat q) fun x hx G1 H1 v e1 r1 => ?_)
    obtain ⟨k, rfl, q⟩ := hx
    cases r1
    exact ⟨k, rfl, q G1 H1 e1⟩
/-! ### and, or, not as values -/
theorem pv_last {op} (ha : PE X a (tX X.K B f)) : PE X (.BoolOp op [a] pos) (tX X.K B f) := pe_one ha
theorem pv_and {rest : List Expr} (ha : PE X a (tX X.K B f)) (hb : PE X (.BoolOp .And (b :: rest) pos) (tX X.K B g)) : PE X (.BoolOp .And (a :: b :: rest) pos) (tX X.K B (eAnd f g)) := pe_weak (pe_and ha hb) fun σ H Q q => by
  obtain ⟨G, η, r, q⟩ := q
  refine tX.of r (sat_bind q) fun x hx G1 H1 v e1 r1 => ?_
  cases r1 with
  | bool k =>
    refine ⟨k, rfl, ?_⟩
    cases k with
    | false =>
      rw [if_neg Bool.false_ne_true]
      exact hx G1 H1 _ e1 (.bool _)
    | true =>
      rw [if_pos rfl]
      exact ⟨G1, η, r.extd e1, Sat.mono hx (fun d q G' H' u e3 r3 => q G' H' u (e1.trans e3) r3) fun _ z => z⟩
  | _ => exact hx.elim
theorem pv_or {rest : List Expr} (ha : PE X a (tX X.K B f)) (hb : PE X (.BoolOp .Or (b :: rest) pos) (tX X.K B g)) : PE X (.BoolOp .Or (a :: b :: rest) pos) (tX X.K B (eOr f g)) := pe_weak (pe_or ha hb) fun σ H Q q => by
  obtain ⟨G, η, r, q⟩ := q
  refine tX.of r (sat_bind q) fun x hx G1 H1 v e1 r1 => ?_
  cases r1 with
  | bool k =>
    refine ⟨k, rfl, ?_⟩
    cases k with
    | true =>
      rw [if_pos rfl]
      exact hx G1 H1 _ e1 (.bool _)
    | false =>
      rw [if_neg Bool.false_ne_true]
      exact ⟨G1, η, r.extd e1, Sat.mono hx (fun d q G' H' u e3 r3 => q G' H' u (e1.trans e3) r3) fun _ z => z⟩
  | _ => exact hx.elim
theorem pv_not (ha : PE X a (tX X.K B f)) : PE X (.UnaryOp .Not a pos) (tX X.K B (eNot f)) := pe_weak (pe_not ha) fun σ H Q q => by
  obtain ⟨G, η, r, q⟩ := q
  refine tX.of r (sat_bind q) fun x hx G1 H1 v e1 r1 => ?_
  cases r1 with
  | bool k => exact ⟨k, rfl, hx G1 H1 _ e1 (.bool _)⟩
  | _ => exact hx.elim
/-! ### tests -/
theorem tv_val (ha : PE X a (tX X.K B f)) (he : ∀ whole, isTrue a X.env whole = (do let v ← whole; standAt a.pos; holding [v] (truthy v)) := by intro _; rfl) : PT X a (tT X.K B (tE f)) := pt_weak (pt_val ha he) fun σ H Q q => by
  obtain ⟨G, η, r, q⟩ := q
  refine tX.of r (bool_sat q) fun x hx G1 H1 v e1 r1 => ?_
  obtain ⟨k, rfl, q⟩ := hx
  cases r1
  exact ⟨k, rfl, q G1 H1 e1⟩
theorem tv_truth (ha : PE X a (tX X.K B f)) (he : ∀ whole, isTrue a X.env whole = (do let v ← whole; standAt a.pos; holding [v] (truthy v)) := by intro _; rfl) : PT X a (tT X.K B (tV f)) := pt_weak (pt_truth ha he) fun σ H Q q => by
  obtain ⟨G, η, r, q⟩ := q
  refine tX.of r (sat_bind q) fun x hx G1 H1 v e1 r1 => ?_
  cases z : dTruth x with
  | ok k =>
    rw [z] at hx
    exact ⟨k, truth_rp e1.gh r1 z, hx G1 H1 e1⟩
  | raise c =>
    cases x <;> simp [dTruth] at z
    split at z <;> cases z
  | bad =>
    rw [z] at hx
    exact hx.elim
theorem tv_own (i : Nat) {x : Str} (hN : X.N[i]? = some x := by rfl) (hv : Vis X.env.scope x := by first | exact Or.inl rfl | exact Or.inr (Or.inl rfl) | exact Or.inr (Or.inr rfl)) (hd : (x == ("__debug__" : Str)) = false := by decide)
    (hcd : (x == ("__classdict__" : Str)) = false := by decide) (he : ∀ whole, isTrue (.Name x pos) X.env whole = (do let v ← whole; standAt (Expr.Name x pos).pos; holding [v] (truthy v)) := by intro _; rfl) : PT X (.Name x pos) (tT X.K B (tOwn i)) := pt_weak (pt_truth (pe_var hN hv hd hcd) he) fun σ H Q q => by
  obtain ⟨G, η, r, q⟩ := q
  unfold tOwn at q
  split at q
  · rename_i ds e
    obtain ⟨v, h1, w, vs, rfl, h0, hg, hh, ra⟩ := r.slot _ _ e
    refine ⟨_, h1, _, .inl ⟨vs, .inl (.inl hh), rfl⟩, ?_⟩
    have e2 : (!vs.isEmpty) = !ds.isEmpty := by
      have := ra.length
      cases vs <;> cases ds <;> simp_all
    rw [e2]
    exact q G H (Ext.refl r.exg)
  · exact q.elim
theorem tv_not (ha : PT X a (tT X.K B t)) : PT X (.UnaryOp .Not a pos) (tT X.K B (tNot t)) := pt_weak (pt_not ha) fun σ H Q q => by
  obtain ⟨G, η, r, q⟩ := q
  exact tT.of r (sat_bind q) fun k hk G1 H1 e1 => hk G1 H1 e1
theorem tw_one1 (ha : PT X a (tT X.K B t)) : PW X (.BoolOp .And [a] pos) (tT X.K B t) := pw_and1 ha
theorem tw_one0 (ha : PT X a (tT X.K B t)) : PW X (.BoolOp .Or [a] pos) (tT X.K B t) := pw_or1 ha
theorem tw_and {rest : List Expr} (ha : PT X a (tT X.K B t)) (hb : PW X (.BoolOp .And (b :: rest) pos) (tT X.K B u)) : PW X (.BoolOp .And (a :: b :: rest) pos) (tT X.K B (tAnd t u)) := pw_weak (pw_and ha hb) fun σ H Q q => by
  obtain ⟨G, η, r, q⟩ := q
  refine tT.of r (sat_bind q) fun k hk G1 H1 e1 => ?_
  cases k with
  | false =>
    rw [if_neg Bool.false_ne_true]
    exact hk G1 H1 e1
  | true =>
    rw [if_pos rfl]
    exact ⟨G1, η, r.extd e1, Sat.mono hk (fun d q G' H' e3 => q G' H' (e1.trans e3)) fun _ z => z⟩
theorem tw_or {rest : List Expr} (ha : PT X a (tT X.K B t)) (hb : PW X (.BoolOp .Or (b :: rest) pos) (tT X.K B u)) : PW X (.BoolOp .Or (a :: b :: rest) pos) (tT X.K B (tOr t u)) := pw_weak (pw_or ha hb) fun σ H Q q => by
  obtain ⟨G, η, r, q⟩ := q
  refine tT.of r (sat_bind q) fun k hk G1 H1 e1 => ?_
  cases k with
  | true =>
    rw [if_pos rfl]
    exact hk G1 H1 e1
  | false =>
    rw [if_neg Bool.false_ne_true]
    exact ⟨G1, η, r.extd e1, Sat.mono hk (fun d q G' H' e3 => q G' H' (e1.trans e3)) fun _ z => z⟩
theorem tw_pt {e : Expr} {t : TT} (h : PW X e t) : PT X e t := h.pt
/-! ### arguments, displays -/
theorem pas_nil : PA X [] (tA X.K B []) := pa_weak pa_nil fun σ H Q q => by
  obtain ⟨G, η, r, q⟩ := q
  exact q G H [] (Ext.refl r.exg) .nil
theorem pas_cons (ha : PE X a (tX X.K B f)) (hr : PA X es (tA X.K B fs)) (hs : starEach (a :: es) X.env = (false, eval a X.env) :: starEach es X.env := by rfl) : PA X (a :: es) (tA X.K B (f :: fs)) := pa_weak (pa_cons ha hr hs) fun σ H Q q => by
  obtain ⟨G, η, r, q⟩ := q
  refine tX.of r (sat_bind q) fun x hx G1 H1 v e1 r1 => ?_
  refine tA.of (r.extd e1) (sat_bind hx) fun xs hxs G2 H2 vs e2 r2 => ?_
  exact hxs G2 H2 (v :: vs) (e1.trans e2) (.cons (r1.mono e2.g) r2)
theorem evals_len {η : Env} : ∀ {fs : List E} {P : List D → Prop} {R : Cls → Prop}, (evals fs η).Sat P R → (evals fs η).Sat (fun ds => ds.length = fs.length ∧ P ds) R
  | [], _, _, q => ⟨rfl, q⟩
  | f :: r, P, R, q => by
    show ((f η).bind fun x => (evals r η).bind fun xs => .ok (x :: xs)).Sat _ _
    have q1 : ((f η).bind fun x => (evals r η).bind fun xs => .ok (x :: xs)).Sat P R := q
    cases h1 : f η with
    | ok x =>
      rw [h1] at q1
      rw [bind_ok] at q1 ⊢
      have q2 := evals_len (sat_bind q1)
      cases h2 : evals r η with
      | ok xs =>
        rw [h2] at q2
        exact ⟨by rw [List.length_cons, List.length_cons, q2.1], q2.2⟩
      | raise c =>
        rw [h2] at q2
        exact q2
      | bad =>
        rw [h2] at q2
        exact q2
    | raise c =>
      rw [h1] at q1
      exact q1
    | bad =>
      rw [h1] at q1
      exact q1
theorem pv_tup {k : Nat} (ha : PA X es (tA X.K B fs)) (hl : fs.length ≤ 1000 := by first | decide | simp) : PE X (.Tuple es k pos) (tX X.K B (eTup fs)) := pe_weak (pe_tup ha) fun σ H Q q => by
  obtain ⟨G, η, r, q⟩ := q
  refine tA.of r (evals_len (sat_bind q)) fun ds hds G1 H1 vs e1 r1 => ?_
  refine ⟨by rw [r1.length, hds.1, line_eq]; show fs.length ≤ 16777216; omega, newT e1.gh r1 fun G' H' v e2 r2 => hds.2 G' H' v (e1.trans e2) r2⟩
theorem pv_lst (ha : PA X es (tA X.K B fs)) (hl : fs.length ≤ 1000 := by first | decide | simp) : PE X (.List es pos) (tX X.K B (eLst fs)) := pe_weak (pe_lst ha) fun σ H Q q => by
  obtain ⟨G, η, r, q⟩ := q
  refine tA.of r (evals_len (sat_bind q)) fun ds hds G1 H1 vs e1 r1 => ?_
  refine ⟨by rw [r1.length, hds.1, line_eq]; show fs.length ≤ 16777216; omega, newL e1.gh r1 fun G' H' v e2 r2 => hds.2 G' H' v (e1.trans e2) r2⟩
/-! ### places and slices -/
theorem pv_ix (ha : PE X a (tX X.K B f)) (hb : PE X b (tX X.K B g)) (hs : PlainIx b := by exact fun _ _ => rfl) : PE X (.Subscript a b pos) (tX X.K B (eBin dIdx f g)) := pe_weak (pe_ix ix_data ha hb hs) fun _ _ _ q => bin_weak q
/-- the def's own list at a place -/
theorem pv_ixO (i : Nat) {x : Str} (hb : PE X b (tX X.K B g)) (hs : PlainIx b := by exact fun _ _ => rfl) (hN : X.N[i]? = some x := by rfl) (hv : Vis X.env.scope x := by first | exact Or.inl rfl | exact Or.inr (Or.inl rfl) | exact Or.inr (Or.inr rfl)) (hd : (x == ("__debug__" : Str)) = false := by decide)
    (hcd : (x == ("__classdict__" : Str)) = false := by decide) : PE X (.Subscript (.Name x p) b pos) (tX X.K B (eOwnB dIdx i g)) := pe_weak (pe_ix ix_list (pe_var hN hv hd hcd) hb hs) fun σ H Q q => by
  obtain ⟨G, η, r, q⟩ := q
  unfold eOwnB at q
  split at q
  · rename_i ds e
    obtain ⟨v, h1, _⟩ := r.slot _ _ e
    refine ⟨v, h1, tX.of r (sat_bind q) fun y hy G1 H1 w e1 r1 => ?_⟩
    obtain ⟨v', h1', aa, vs, ev, h0, hg, hh, ra⟩ := (r.extd e1).slot _ _ e
    rw [h1] at h1'
    cases h1'
    subst ev
    have hy := sat_calm (R' := fun _ => False) hy
    cases r1 with
    | int k =>
      cases z : at? ds k with
      | none => simp [dIdx, z, Res.Sat] at hy
      | some d =>
        simp only [dIdx, z] at hy
        obtain ⟨w', k1, k2⟩ := at_rp ra z
        exact ⟨aa, vs, k, w', rfl, rfl, .inl (.inl hh), k1, hy G1 H1 _ e1 k2⟩
    | _ => exact hy.elim
  · exact q.elim
def tP (K : PySem.W.Frag) (B : Bs) (o : Option E) : TO := fun σ H Q => ∃ G η, RpE K B.G0 B.H0 G H σ η ∧ (ePart o η).Sat (fun d => ∀ G' H', Ext G H G' H' → Q d H') (Rz B)
theorem po_weak {e : Option Expr} {t t' : TO} (h : PO X e t) (w : ∀ σ H Q, t' σ H Q → t σ H Q) : PO X e t' := ⟨fun pins s σ H Q I q => h.run pins s σ H Q I (w σ H Q q)⟩
theorem ps0 : PO X none (tP X.K B none) := po_weak po_none fun σ H Q q => by
  obtain ⟨G, η, r, q⟩ := q
  exact q G H (Ext.refl r.exg)
theorem ps1 (ha : PE X a (tX X.K B f)) : PO X (some a) (tP X.K B (some f)) := po_weak (po_some ha) fun σ H Q q => by
  obtain ⟨G, η, r, q⟩ := q
  refine tX.of r (sat_bind q) fun x hx G1 H1 v e1 r1 => ?_
  cases r1 with
  | int i => exact ⟨i, rfl, hx G1 H1 e1⟩
  | _ => exact hx.elim
theorem pv_sl {lo hi : Option Expr} {l m : Option E} {p2 : Pos} (ha : PE X a (tX X.K B f)) (hl : PO X lo (tP X.K B l)) (hh : PO X hi (tP X.K B m)) : PE X (.Subscript a (.Slice lo hi none p2) pos) (tX X.K B (eSlice f l m)) := pe_weak (pe_slice sl_data ha hl hh) fun σ H Q q => by
  obtain ⟨G, η, r, q⟩ := q
  refine tX.of r (sat_bind q) fun x hx G1 H1 v e1 r1 => ?_
  refine ⟨G1, η, r.extd e1, Sat.mono (sat_bind hx) (fun lo' hlo G2 H2 e2 => ?_) fun _ z => z⟩
  refine ⟨G2, η, (r.extd e1).extd e2, Sat.mono (sat_bind hlo) (fun hi' hhi G3 H3 e3 => ?_) fun _ z => z⟩
  refine ⟨G3, x, e3.gh, (r1.mono e2.g).mono e3.g, ?_⟩
  exact Sat.mono (sat_calm hhi) (fun d q G' H' u e4 r4 => q G' H' u (((e1.trans e2).trans e3).trans e4) r4) fun _ z => z
theorem pv_rev {k : Nat} {p1 p2 p3 : Pos} (ha : PE X a (tX X.K B f)) : PE X (.Subscript a (.Slice none none (some (.UnaryOp .USub (.Constant (.int 1) k p1) p2)) p3) pos) (tX X.K B (eUn bRev f)) := pe_weak (pe_revL ha) fun σ H Q q => by
  obtain ⟨G, η, r, q⟩ := q
  refine tX.of r (un_sat q) fun x hx G1 H1 v e1 r1 => ?_
  have hx := hx fun _ => False
  cases r1 with
  | lst hs ra => exact ⟨_, _, rfl, e1.gh.l hs, newL e1.gh ra.reverse fun G' H' v e2 r2 => hx G' H' v (e1.trans e2) r2⟩
  | _ => exact hx.elim
/-! ### calls of built-ins -/
section
variable {x : Str} {id Ty' : String} {u : D → Res D}
theorem ru_weak {r : List V → Hp → VK → Prop} {σ : L2.St} {H : Hp} {Q : VK} (q : tX X.K B (eUn u f) σ H Q) : tCB (RU X.K u) (tCons (tX X.K B f) tNil) σ H Q := by
  obtain ⟨G, η, r, q⟩ := q
  refine tX.of r (un_sat q) fun x hx G1 H1 v e1 r1 => ?_
  exact ⟨v, G1, x, rfl, e1.gh, .of r1, Sat.mono (hx fun _ => False) (fun d q G' H' u e2 r2 => q G' H' u (e1.trans e2) r2) fun _ z => z⟩
theorem pv_b1 (hc : CallU X (.builtin id) u) (hm : X.mg x = none) (ha : PE X a (tX X.K B f)) (hg : Gl X x := by rfl) (hv : bootBuiltins x = some (.builtin id) := by decide +kernel) (hn : x ≠ "__name__" := by decide) (hdb : (x == ("__debug__" : Str)) = false := by decide)
    (h0 : starEach [a] X.env = (false, eval a X.env) :: starEach [] X.env := by rfl) (hpl : (backTo pos (starEach [] X.env)).any (·.1) = false := by rfl) : PE X (.Call (.Name x p) [a] [] pos) (tX X.K B (eUn u f)) :=
  pe_weak (pe_callB hc hg hm hv (pa_cons ha pa_nil h0) hn hdb h0 hpl) fun _ _ _ q => ru_weak (r := RU X.K u) q
theorem pv_t1 (hc : CallU X (.type Ty') u) (hm : X.mg x = none) (ha : PE X a (tX X.K B f)) (hg : Gl X x := by rfl) (hv : bootBuiltins x = some (.type Ty') := by decide +kernel) (hn : x ≠ "__name__" := by decide) (hdb : (x == ("__debug__" : Str)) = false := by decide)
    (h0 : starEach [a] X.env = (false, eval a X.env) :: starEach [] X.env := by rfl) (hpl : (backTo pos (starEach [] X.env)).any (·.1) = false := by rfl) : PE X (.Call (.Name x p) [a] [] pos) (tX X.K B (eUn u f)) :=
  pe_weak (pe_callTy hc hg hm hv (pa_cons ha pa_nil h0) hn hdb h0 hpl) fun _ _ _ q => ru_weak (r := RU X.K u) q
theorem own_sat {i : Nat} {η : Env} {P : D → Prop} {R : Cls → Prop} (q : (eOwn u i η).Sat P R) : ∃ ds, η[i]? = some (some (.own ds)) ∧ ∀ R', (u (.lst ds)).Sat P R' := by
  unfold eOwn at q
  split at q
  · rename_i ds e
    exact ⟨ds, e, fun R' => sat_calm q⟩
  · exact q.elim
theorem ro_weak {i : Nat} {σ : L2.St} {H : Hp} {Q : VK} (q : tX X.K B (eOwn u i) σ H Q) : tCB (RU X.K u) (tCons (tVar i) tNil) σ H Q := by
  obtain ⟨G, η, r, q⟩ := q
  obtain ⟨ds, e, q⟩ := own_sat q
  obtain ⟨v, h1, aa, vs, rfl, h0, hg, hh, ra⟩ := r.slot _ _ e
  exact ⟨_, h1, _, G, _, rfl, r.exg, .own (.inl (.inl hh)) ra, q fun _ => False⟩
theorem pv_b1O (i : Nat) {y : Str} {py : Pos} (hc : CallU X (.builtin id) u) (hm : X.mg x = none) (hg : Gl X x := by rfl) (hv : bootBuiltins x = some (.builtin id) := by decide +kernel) (hN : X.N[i]? = some y := by rfl) (hy : Vis X.env.scope y := by first | exact Or.inl rfl | exact Or.inr (Or.inl rfl) | exact Or.inr (Or.inr rfl)) (hd : (y == ("__debug__" : Str)) = false := by decide)
    (hcd : (y == ("__classdict__" : Str)) = false := by decide) (hn : x ≠ "__name__" := by decide) (hdb : (x == ("__debug__" : Str)) = false := by decide)
    (h0 : starEach [.Name y py] X.env = (false, eval (.Name y py) X.env) :: starEach [] X.env := by rfl) (hpl : (backTo pos (starEach [] X.env)).any (·.1) = false := by rfl) : PE X (.Call (.Name x p) [.Name y py] [] pos) (tX X.K B (eOwn u i)) :=
  pe_weak (pe_callB hc hg hm hv (pa_cons (pe_var hN hy hd hcd) pa_nil h0) hn hdb h0 hpl) fun _ _ _ q => ro_weak q
theorem pv_t1O (i : Nat) {y : Str} {py : Pos} (hc : CallU X (.type Ty') u) (hm : X.mg x = none) (hg : Gl X x := by rfl) (hv : bootBuiltins x = some (.type Ty') := by decide +kernel) (hN : X.N[i]? = some y := by rfl) (hy : Vis X.env.scope y := by first | exact Or.inl rfl | exact Or.inr (Or.inl rfl) | exact Or.inr (Or.inr rfl)) (hd : (y == ("__debug__" : Str)) = false := by decide)
    (hcd : (y == ("__classdict__" : Str)) = false := by decide) (hn : x ≠ "__name__" := by decide) (hdb : (x == ("__debug__" : Str)) = false := by decide)
    (h0 : starEach [.Name y py] X.env = (false, eval (.Name y py) X.env) :: starEach [] X.env := by rfl) (hpl : (backTo pos (starEach [] X.env)).any (·.1) = false := by rfl) : PE X (.Call (.Name x p) [.Name y py] [] pos) (tX X.K B (eOwn u i)) :=
  pe_weak (pe_callTy hc hg hm hv (pa_cons (pe_var hN hy hd hcd) pa_nil h0) hn hdb h0 hpl) fun _ _ _ q => ro_weak q
/-- min(a, b) -/
theorem pv_b2 {bo : D → D → Res D} (hc : CallR X (.builtin id) (RB X.K bo)) (hm : X.mg x = none) (ha : PE X a (tX X.K B f)) (hb : PE X b (tX X.K B g)) (hg : Gl X x := by rfl) (hv : bootBuiltins x = some (.builtin id) := by decide +kernel) (hn : x ≠ "__name__" := by decide) (hdb : (x == ("__debug__" : Str)) = false := by decide)
    (h0 : starEach [a, b] X.env = (false, eval a X.env) :: starEach [b] X.env := by rfl) (h1 : starEach [b] X.env = (false, eval b X.env) :: starEach [] X.env := by rfl) (hpl : (backTo pos (starEach [b] X.env)).any (·.1) = false := by rfl) : PE X (.Call (.Name x p) [a, b] [] pos) (tX X.K B (eBin bo f g)) :=
  pe_weak (pe_callB hc hg hm hv (pa_cons ha (pa_cons hb pa_nil h1) h0) hn hdb h0 hpl) fun σ H Q q => by
    obtain ⟨G, η, r, q⟩ := q
    refine tX.of r (sat_bind q) fun x hx G1 H1 v e1 r1 => ?_
    refine tX.of (r.extd e1) (sat_bind hx) fun y hy G2 H2 w e2 r2 => ?_
    exact ⟨v, w, G2, x, y, rfl, e2.gh, r1.mono e2.g, r2, Sat.mono (sat_calm hy) (fun d q G' H' u e3 r3 => q G' H' u ((e1.trans e2).trans e3) r3) fun _ z => z⟩
/-- isinstance(a, T) -/
theorem pv_isi (ty : Ty) {y : Str} {py : Pos} (hm : X.mg "isinstance" = none) (hm2 : X.mg y = none) (ha : PE X a (tX X.K B f)) (hv2 : bootBuiltins y = some (.type (tyN ty)) := by decide +kernel) (hg : Gl X "isinstance" := by rfl) (hg2 : Gl X y := by rfl) (hn2 : y ≠ "__name__" := by decide) (hdb2 : (y == ("__debug__" : Str)) = false := by decide)
    (h0 : starEach [a, .Name y py] X.env = (false, eval a X.env) :: starEach [.Name y py] X.env := by rfl) (h1 : starEach [.Name y py] X.env = (false, eval (.Name y py) X.env) :: starEach [] X.env := by rfl) (hpl : (backTo pos (starEach [.Name y py] X.env)).any (·.1) = false := by rfl) :
    PE X (.Call (.Name "isinstance" p) [a, .Name y py] [] pos) (tX X.K B (eUn (bIs ty) f)) := by
  have hc : CallR X (.builtin "isinstance") (fun xs H Q => ∃ x G d, xs = [x, .ty (tyN ty)] ∧ Ex G H ∧ Rp X.K G x d ∧ (bIs ty d).Sat (fun r => ∀ G' H' v, Ext G H G' H' → Rp X.K G' v r → Q v H') (fun _ => False)) := by
    intro pins s σ H xs us Q I r h
    obtain ⟨x, G, d, rfl, ex, rd, h⟩ := h
    exact isi_run I ex rd r h
  have h2 : PE X (.Name y py) (tC (.ty (tyN ty))) := pe_bltn hg2 hm2 hv2 rfl hn2 hdb2
  refine pe_weak (pe_callB hc hg hm (by decide +kernel) (pa_cons ha (pa_cons h2 pa_nil h1) h0) (by decide) (by decide) h0 hpl) fun σ H Q q => ?_
  obtain ⟨G, η, r, q⟩ := q
  refine tX.of r (un_sat q) fun x hx G1 H1 v e1 r1 => ?_
  exact ⟨v, G1, x, rfl, e1.gh, r1, Sat.mono (hx fun _ => False) (fun d q G' H' u e2 r2 => q G' H' u (e1.trans e2) r2) fun _ z => z⟩
end
end
end Bk
end
/-! BkLoops -/
section
set_option Elab.async false
set_option linter.all false
set_option autoImplicit false
set_option maxRecDepth 100000
set_option maxHeartbeats 4000000
/-! BkLoops: targets, what is walked, comprehensions, statements, loops -/
namespace Bk
open PySem PySem.Spec PyProof.Rows L2
section
variable {X : Cx} {B : Bs} {a b c e tg iter : Expr} {es : List Expr} {pos p : Pos} {f g h : E} {fs : List E} {t u : T}
/-! ### targets -/
def tGo (K : PySem.W.Frag) (B : Bs) (own : List Nat) (g : G) : TG := fun v σ H Q => ∃ G η d, RpE K B.G0 B.H0 G H σ η ∧ Rp K G v d ∧ (g d η).Sat (fun η' => ∀ σ', RpE K B.G0 B.H0 G H σ' η' → wipe σ' own = wipe σ own → Q σ' H) (fun _ => False)
theorem set_none_of {α : Type} {l : List (Option α)} {i : Nat} (h : l[i]? = some none) : l.set i none = l := by
  refine List.ext_getElem? fun j => ?_
  by_cases hj : i = j
  · subst hj
    rw [List.getElem?_set_self (lt_of_get h), h]
  · rw [List.getElem?_set_ne hj]
theorem wipe_get {σ : L2.St} {i : Nat} : ∀ {vs : List Nat}, i ∈ vs → i < σ.length → (wipe σ vs)[i]? = some none
  | v :: vs, h, hl => by
    show ((wipe σ vs).set v none)[i]? = some none
    have hl2 : i < (wipe σ vs).length := by rw [wipe_length]; exact hl
    by_cases hv : v = i
    · subst hv
      exact List.getElem?_set_self hl2
    · rw [List.getElem?_set_ne hv]
      rcases List.mem_cons.mp h with e | e
      · exact absurd e.symm hv
      · exact wipe_get e hl
theorem wipe_set {σ : L2.St} {i : Nat} {x : Option V} : ∀ {vs : List Nat}, i ∈ vs → wipe (σ.set i x) vs = wipe σ vs
  | v :: vs, h => by
    show (wipe (σ.set i x) vs).set v none = (wipe σ vs).set v none
    by_cases hv : i ∈ vs
    · rw [wipe_set hv]
    · have e : i = v := by
        rcases List.mem_cons.mp h with e | e
        · exact e
        · exact absurd e hv
      subst e
      have aux : ∀ ws : List Nat, i ∉ ws → wipe (σ.set i x) ws = (wipe σ ws).set i x := by
        intro ws
        induction ws with
        | nil => intro _; rfl
        | cons w ws ih =>
          intro hw
          simp only [List.mem_cons, not_or] at hw
          show (wipe (σ.set i x) ws).set w none = ((wipe σ ws).set w none).set i x
          rw [ih hw.2, List.set_comm _ _ hw.1]
      rw [aux vs hv, List.set_set]
theorem pg_n (i : Nat) (own : List Nat) {x : Str} (hN : X.N.Nodup) (hi : X.N[i]? = some x := by rfl) (hx : Loc X.env.scope x := by first | exact .inl rfl | exact .inr rfl) (ho : i ∈ own := by decide) (hf : X.fn x = true ∨ X.env.scope.names.lookup x = some .local := by first | exact .inl rfl | exact .inr rfl) :
    PG X (.Name x pos) (tGo X.K B own (gName i)) := pg_weak (L2.pg_name hN hi hx hf) fun v σ H Q q => by
  obtain ⟨G, η, d, r, rd, q⟩ := q
  exact q _ (r.set i rd) (wipe_set ho)
theorem pgs_n (i : Nat) {x : Str} (hN : X.N.Nodup) (hi : X.N[i]? = some x := by rfl) (hx : Loc X.env.scope x := by first | exact .inl rfl | exact .inr rfl) (hf : X.fn x = true ∨ X.env.scope.names.lookup x = some .local := by first | exact .inl rfl | exact .inr rfl) :
    PG X (.Name x pos) (L2.gName i) := L2.pg_name hN hi hx hf
theorem pg_2 {i j : Nat} (own : List Nat) {k : Nat} (hc : X.calm = true) (ha : PG X a (L2.gName i)) (hb : PG X b (L2.gName j)) (ho : i ∈ own := by decide) (ho2 : j ∈ own := by decide)
    (h1 : (assignEach [a, b] X.env).map (·.2) = assign a X.env :: (assignEach [b] X.env).map (·.2) := by rfl) (h2 : (assignEach [b] X.env).map (·.2) = assign b X.env :: (assignEach [] X.env).map (·.2) := by rfl)
    (hn : (assignEach [a, b] X.env).length = 2 := by rfl) (hst : (assignEach [a, b] X.env).findIdx? (·.1) = none := by rfl) : PG X (.Tuple [a, b] k pos) (tGo X.K B own (gPair i j)) :=
  pg_weak (L2.pg_tup hc (L2.pgs_cons ha (L2.pgs_cons hb L2.pgs_nil h2) h1) hn hst) fun v σ H Q q => by
    obtain ⟨G, η, d, r, rd, q⟩ := q
    cases rd with
    | tup hs ra =>
      rename_i aa vs ds
      rcases ds with _ | ⟨d1, _ | ⟨d2, _ | ⟨d3, ds⟩⟩⟩
      · exact q.elim
      · exact q.elim
      · cases ra with
        | cons r1 ra =>
          cases ra with
          | cons r2 ra =>
            cases ra
            refine ⟨_, _, rfl, r.exg.t hs, rfl, _, _, rfl, _, _, rfl, rfl, ?_⟩
            refine q _ ((r.set i r1).set j r2) ?_
            rw [wipe_set ho2, wipe_set ho]
      · exact q.elim
    | _ => exact q.elim
theorem pg_2L {i j : Nat} (own : List Nat) {k : Nat} (hc : X.calm = true) (ha : PG X a (L2.gName i)) (hb : PG X b (L2.gName j)) (ho : i ∈ own := by decide) (ho2 : j ∈ own := by decide)
    (h1 : (assignEach [a, b] X.env).map (·.2) = assign a X.env :: (assignEach [b] X.env).map (·.2) := by rfl) (h2 : (assignEach [b] X.env).map (·.2) = assign b X.env :: (assignEach [] X.env).map (·.2) := by rfl)
    (hn : (assignEach [a, b] X.env).length = 2 := by rfl) (hst : (assignEach [a, b] X.env).findIdx? (·.1) = none := by rfl) : PG X (.Tuple [a, b] k pos) (tGo X.K B own (gPairL i j)) :=
  pg_weak (L2.pg_lst hc (L2.pgs_cons ha (L2.pgs_cons hb L2.pgs_nil h2) h1) hn hst) fun v σ H Q q => by
    obtain ⟨G, η, d, r, rd, q⟩ := q
    cases rd with
    | lst hs ra =>
      rename_i aa vs ds
      rcases ds with _ | ⟨d1, _ | ⟨d2, _ | ⟨d3, ds⟩⟩⟩
      · exact q.elim
      · exact q.elim
      · cases ra with
        | cons r1 ra =>
          cases ra with
          | cons r2 ra =>
            cases ra
            refine ⟨_, _, rfl, r.exg.l hs, rfl, _, _, rfl, _, _, rfl, rfl, ?_⟩
            refine q _ ((r.set i r1).set j r2) ?_
            rw [wipe_set ho2, wipe_set ho]
      · exact q.elim
    | _ => exact q.elim
theorem pg_3 {i j l : Nat} (own : List Nat) {k : Nat} (hc : X.calm = true) (ha : PG X a (L2.gName i)) (hb : PG X b (L2.gName j)) (hd : PG X c (L2.gName l)) (ho : i ∈ own := by decide) (ho2 : j ∈ own := by decide) (ho3 : l ∈ own := by decide)
    (h1 : (assignEach [a, b, c] X.env).map (·.2) = assign a X.env :: (assignEach [b, c] X.env).map (·.2) := by rfl) (h2 : (assignEach [b, c] X.env).map (·.2) = assign b X.env :: (assignEach [c] X.env).map (·.2) := by rfl) (h3 : (assignEach [c] X.env).map (·.2) = assign c X.env :: (assignEach [] X.env).map (·.2) := by rfl)
    (hn : (assignEach [a, b, c] X.env).length = 3 := by rfl) (hst : (assignEach [a, b, c] X.env).findIdx? (·.1) = none := by rfl) : PG X (.Tuple [a, b, c] k pos) (tGo X.K B own (gTri i j l)) :=
  pg_weak (L2.pg_tup hc (L2.pgs_cons ha (L2.pgs_cons hb (L2.pgs_cons hd L2.pgs_nil h3) h2) h1) hn hst) fun v σ H Q q => by
    obtain ⟨G, η, d, r, rd, q⟩ := q
    cases rd with
    | tup hs ra =>
      rename_i aa vs ds
      rcases ds with _ | ⟨d1, _ | ⟨d2, _ | ⟨d3, _ | ⟨d4, ds⟩⟩⟩⟩
      · exact q.elim
      · exact q.elim
      · exact q.elim
      · cases ra with
        | cons r1 ra =>
          cases ra with
          | cons r2 ra =>
            cases ra with
            | cons r3 ra =>
              cases ra
              refine ⟨_, _, rfl, r.exg.t hs, rfl, _, _, rfl, _, _, rfl, _, _, rfl, rfl, ?_⟩
              refine q _ (((r.set i r1).set j r2).set l r3) ?_
              rw [wipe_set ho3, wipe_set ho2, wipe_set ho]
      · exact q.elim
    | _ => exact q.elim
/-! ### what is walked -/
structure WalkD (K : PySem.W.Frag) (J : It) (G0 : Hp) (ds : List D) : Prop where
  goes : ∀ i H, i < ds.length → Ex G0 H → J.go i H
  stops : ∀ H, Ex G0 H → J.stop ds.length H
  yields : ∀ (i : Nat) H x H' d, ds[i]? = some d → Ex G0 H → J.yld i H x H' → ∀ G, Ex G0 G → Ex G H → ∃ G', Ext G H G' H' ∧ Rp K G' x d
def tI (K : PySem.W.Frag) (B : Bs) (fi : I) : TI := fun σ H R => ∃ G η, RpE K B.G0 B.H0 G H σ η ∧ (fi η).Sat (fun ds => ∀ G' H' J, Ext G H G' H' → WalkD K J G' ds → R J H') (Rz B)
theorem pi_weak {t t' : TI} (h : PI X tg e t) (w : ∀ σ H Q, t' σ H Q → t σ H Q) : PI X tg e t' := ⟨fun pins s σ H Q I q => h.run pins s σ H Q I (w σ H Q q)⟩
theorem walkd_list {K : PySem.W.Frag} {G : Hp} {aa : Addr} {vs : List V} {ds : List D} (hs : SqL K G aa vs) (ra : RpAll K G vs ds) : WalkD K (Itl K aa) G ds := by
  refine ⟨fun i H hi ex => ?_, fun H ex => ⟨vs, ex.l hs, Nat.le_of_eq ra.length⟩, fun i H x H' d hd ex y G1 e1 e2 => ?_⟩
  · have hi' : i < vs.length := by rw [ra.length]; exact hi
    exact ⟨vs, vs[i], ex.l hs, List.getElem?_eq_getElem hi'⟩
  · obtain ⟨rfl, y⟩ := y
    obtain ⟨v, h1, h2⟩ := ra.get hd
    have := y vs (ex.l hs)
    rw [h1] at this
    cases this
    exact ⟨G1, Ext.refl e2, h2.mono e1⟩
theorem walkd_tup {K : PySem.W.Frag} {G : Hp} {aa : Addr} {vs : List V} {ds : List D} (hs : SqT K G aa vs) (ra : RpAll K G vs ds) : WalkD K (Itt K aa) G ds := by
  refine ⟨fun i H hi ex => ?_, fun H ex => ⟨vs, ex.t hs, Nat.le_of_eq ra.length⟩, fun i H x H' d hd ex y G1 e1 e2 => ?_⟩
  · have hi' : i < vs.length := by rw [ra.length]; exact hi
    exact ⟨vs, vs[i], ex.t hs, List.getElem?_eq_getElem hi'⟩
  · obtain ⟨rfl, y⟩ := y
    obtain ⟨v, h1, h2⟩ := ra.get hd
    have := y vs (ex.t hs)
    rw [h1] at this
    cases this
    exact ⟨G1, Ext.refl e2, h2.mono e1⟩
theorem signs_len (s : List Nat) : (signs s).length = s.length := by simp [signs]
theorem walkd_str {K : PySem.W.Frag} {G : Hp} (s : List Nat) : WalkD K (Its (Sx s)) G (signs s) := by
  refine ⟨fun i H hi _ => ?_, fun H _ => ?_, fun i H x H' d hd _ y G1 e1 e2 => ?_⟩
  · rw [signs_len] at hi
    show i < s.toArray.size
    simpa using hi
  · show s.toArray.size ≤ (signs s).length
    rw [signs_len]
    simp
  · obtain ⟨rfl, c, h1, rfl⟩ := y
    have h1 : s.toArray[i]? = some c := h1
    rw [List.getElem?_toArray] at h1
    unfold signs at hd
    rw [List.getElem?_map, h1] at hd
    cases hd
    exact ⟨G1, Ext.refl e2, .str [c]⟩
theorem numbers_len (lo : Int) (n : Nat) : (numbers lo n).length = n := by simp [numbers]
theorem walkd_range {K : PySem.W.Frag} {G : Hp} (lo : Int) (n : Nat) : WalkD K (Itr lo n) G (numbers lo n) := by
  refine ⟨fun i H hi _ => by rw [numbers_len] at hi; exact hi, fun H _ => by rw [numbers_len]; exact Nat.le_refl _, fun i H x H' d hd _ y G1 e1 e2 => ?_⟩
  obtain ⟨rfl, rfl⟩ := y
  have hi : i < n := by
    have := lt_of_get hd
    rw [numbers_len] at this
    exact this
  unfold numbers at hd
  rw [List.getElem?_map, List.getElem?_range hi] at hd
  cases hd
  exact ⟨G1, Ext.refl e2, .int _⟩
/-- any of a list, a tuple, a text -/
theorem pi_any (ha : PE X e (tX X.K B f)) : PI X tg e (tI X.K B (iAny f)) := by
  have hl := L2.pi_list (tg := tg) ha
  have ht := L2.pi_tup (tg := tg) ha
  have hs := L2.pi_str (tg := tg) ha
  refine ⟨fun pins s σ H R I q => ?_⟩
  obtain ⟨G, η, r, q⟩ := q
  have q := sat_bind q
  cases z : f η with
  | ok d =>
    rw [z] at q
    have fin : ∀ Q : VK, (∀ G' H' v, Ext G H G' H' → Rp X.K G' v d → Q v H') → tX X.K B f σ H Q := fun Q k => ⟨G, η, r, by rw [z]; exact k⟩
    cases d with
    | lst ds => exact hl.run pins s σ H R I (fin _ fun G1 H1 v e1 r1 => by
        cases r1 with
        | lst hs ra => exact ⟨_, rfl, ⟨_, e1.gh.l hs⟩, q G1 H1 _ e1 (walkd_list hs ra)⟩)
    | tup ds => exact ht.run pins s σ H R I (fin _ fun G1 H1 v e1 r1 => by
        cases r1 with
        | tup hs ra => exact ⟨_, rfl, ⟨_, e1.gh.t hs⟩, q G1 H1 _ e1 (walkd_tup hs ra)⟩)
    | str ds => exact hs.run pins s σ H R I (fin _ fun G1 H1 v e1 r1 => by
        cases r1
        exact ⟨_, rfl, q G1 H1 _ e1 (walkd_str ds)⟩)
    | _ => exact q.elim
  | raise cl =>
    rw [z] at q
    exact hl.run pins s σ H R I ⟨G, η, r, by rw [z]; exact q⟩
  | bad =>
    rw [z] at q
    exact q.elim
theorem rng_ok {i : Int} (h : rngOk i = true) : -(2 ^ 62) ≤ i ∧ i < 2 ^ 62 := by
  unfold rngOk at h
  rw [Bool.and_eq_true, decide_eq_true_eq, decide_eq_true_eq] at h
  exact h
theorem pi_rng1 (hm : X.mg "range" = none) (ha : PE X a (tX X.K B f)) (hg : Gl X "range" := by rfl) (h0 : starEach [a] X.env = (false, eval a X.env) :: starEach [] X.env := by rfl) (hs : starEach [a] X.env = [(false, eval a X.env)] := by rfl) : PI X tg (.Call (.Name "range" p) [a] [] pos) (tI X.K B (iRange1 f)) :=
  pi_weak (L2.pi_range1 hg hm (pa_cons ha pa_nil h0) hs) fun σ H R q => by
    obtain ⟨G, η, r, q⟩ := q
    refine tX.of r (sat_bind q) fun x hx G1 H1 v e1 r1 => ?_
    cases r1 with
    | int n =>
      obtain ⟨hr, hx⟩ := sat_if hx
      obtain ⟨h1, h2⟩ := rng_ok hr
      exact ⟨n, rfl, h1, h2, hx G1 H1 _ e1 (walkd_range 0 n.toNat)⟩
    | _ => exact hx.elim
theorem pi_rng2 (hm : X.mg "range" = none) (ha : PE X a (tX X.K B f)) (hb : PE X b (tX X.K B g)) (hg : Gl X "range" := by rfl) (h0 : starEach [a, b] X.env = (false, eval a X.env) :: starEach [b] X.env := by rfl) (h1 : starEach [b] X.env = (false, eval b X.env) :: starEach [] X.env := by rfl) (hs : starEach [a, b] X.env = [(false, eval a X.env), (false, eval b X.env)] := by rfl) (hs2 : starEach [b] X.env = [(false, eval b X.env)] := by rfl) :
    PI X tg (.Call (.Name "range" p) [a, b] [] pos) (tI X.K B (iRange2 f g)) :=
  pi_weak (L2.pi_range2 hg hm (pa_cons ha (pa_cons hb pa_nil h1) h0) hs hs2) fun σ H R q => by
    obtain ⟨G, η, r, q⟩ := q
    refine tX.of r (sat_bind q) fun x hx G1 H1 v e1 r1 => ?_
    refine tX.of (r.extd e1) (sat_bind hx) fun y hy G2 H2 w e2 r2 => ?_
    cases r1 with
    | int n =>
      cases r2 with
      | int m =>
        obtain ⟨hr, hx⟩ := sat_if hy
        rw [Bool.and_eq_true] at hr
        obtain ⟨k1, k2⟩ := rng_ok hr.1
        obtain ⟨k3, k4⟩ := rng_ok hr.2
        exact ⟨n, m, rfl, ⟨k1, k2, k3, k4⟩, hx G2 H2 _ (e1.trans e2) (walkd_range n (m - n).toNat)⟩
      | _ => exact hy.elim
    | _ => exact hy.elim
/-! ### comprehensions -/
theorem pts_y : PTs X [] (tT X.K B tYes) := ⟨fun pins s σ H Q I q => pts_nil.run pins s σ H Q I (by
  obtain ⟨G, η, r, q⟩ := q
  exact q G H (Ext.refl r.exg))⟩
theorem pts_1 (ha : PT X a (tT X.K B t)) : PTs X [a] (tT X.K B t) := pts_one ha
theorem lc_weak {own : List Nat} {fi : I} {gg : G} {σ : L2.St} {H : Hp} {Q : VK} {te : E} (q : tX X.K B (eComp own fi gg t te) σ H Q) :
    tLc (tI X.K B fi) (tGo X.K B own gg) (tT X.K B.calm t) (tX X.K B.calm te) own σ H Q := by
  obtain ⟨G, η, r, q⟩ := q
  refine ⟨G, η, r, Sat.mono (sat_bind q) (fun ds hds G1 H1 J e1 wk D hD => ?_) fun _ z => z⟩
  obtain ⟨hl, hds⟩ := sat_if hds
  have hds := sat_bind (sat_calm (R' := fun _ => False) hds)
  have r1 := r.extd e1
  have gD : G1 D = Option.none := e1.gh.none hD
  have e0 : Ext G H G1 (upd H1 D (.lst [])) := e1.trans (Ext.drop e1.gh hD)
  have nD : H D = Option.none := e1.h.none hD
  refine ⟨fun i m H' => m = ds.length - i ∧ i ≤ ds.length ∧ ∃ G' acc ys, Ext G H G' H' ∧ Ex G1 G' ∧ G' D = Option.none ∧ H' D = some (.lst acc) ∧ RpAll X.K G' acc ys ∧ ys.length ≤ i ∧
    (comp gg t te (wipes η own) (ds.drop i)).Sat (fun zs => ∀ G' H' v, Ext G H G' H' → Rp X.K G' v (.lst (ys ++ zs)) → Q v H') (fun _ => False),
    ⟨ds.length, by simp, Nat.zero_le _, G1, [], [], e0, Ex.refl _, gD, upd_same, .nil, Nat.zero_le _, hds⟩, ?_⟩
  rintro i m H' ⟨rfl, hi, G', acc, ys, x, xg, dn, hacc, ra, hyl, hc⟩
  have exH : Ex G1 H' := xg.trans x.gh
  by_cases hlt : i < ds.length
  · right
    refine ⟨wk.goes i H' hlt exH, fun H2 => i + 1 ≤ ds.length ∧ ∃ G' acc ys, Ext G H G' H2 ∧ Ex G1 G' ∧ G' D = Option.none ∧ H2 D = some (.lst acc) ∧ RpAll X.K G' acc ys ∧ ys.length ≤ i + 1 ∧
      (comp gg t te (wipes η own) (ds.drop (i + 1))).Sat (fun zs => ∀ G' H' v, Ext G H G' H' → Rp X.K G' v (.lst (ys ++ zs)) → Q v H') (fun _ => False), fun H2 hN => ⟨ds.length - (i + 1), by omega, rfl, hN⟩, fun v H2 yl => ?_⟩
    have hd : ds[i]? = some ds[i] := List.getElem?_eq_getElem hlt
    obtain ⟨G2, x2, rv⟩ := wk.yields i H' v H2 _ hd exH yl G' xg x.gh
    rw [List.drop_eq_getElem_cons hlt] at hc
    have hc := sat_bind hc
    have rw2 := wipe_rel (r.extd (x.trans x2)) own
    refine ⟨G2, wipes η own, ds[i], rw2, rv, Sat.mono (sat_calm hc) (fun η1 h1 σ2 r2 hw => ⟨?_, ?_⟩) fun _ z => z⟩
    · rw [hw]
      have idem : ∀ (vs : List Nat) (τ : L2.St), wipe (wipe τ vs) vs = wipe τ vs := by
        intro vs
        have aux : ∀ (ws : List Nat) (τ : L2.St), (∀ w ∈ ws, w < τ.length → τ[w]? = some none) → wipe τ ws = τ := by
          intro ws
          induction ws with
          | nil => intro τ _; rfl
          | cons w ws ih =>
            intro τ hτ
            show (wipe τ ws).set w none = τ
            rw [ih τ fun w' hw' => hτ w' (List.mem_cons_of_mem _ hw')]
            by_cases hl : w < τ.length
            · exact set_none_of (hτ w List.mem_cons_self hl)
            · exact List.set_eq_of_length_le (by omega)
        intro τ
        exact aux vs _ fun w hw hl => wipe_get hw (by rw [wipe_length] at hl; exact hl)
      exact idem own σ
    · refine tT.of (B := B.calm) (G := G2) (η := η1) r2 (P := fun bb => (if bb = true then (te η1).bind fun y => (comp gg t te (wipes η own) (ds.drop (i + 1))).bind fun ys => .ok (y :: ys) else comp gg t te (wipes η own) (ds.drop (i + 1))).Sat (fun zs => ∀ G' H' v, Ext G H G' H' → Rp X.K G' v (.lst (ys ++ zs)) → Q v H') (fun _ => False)) (Sat.mono (sat_bind h1) (fun _ z => z) fun _ z => z.elim) fun bb hb G3 H3 x3 => ?_
      have hD3 : H3 D = some (.lst acc) := x3.h _ _ (x2.h _ _ hacc)
      have dn2 : G2 D = Option.none := x2.fr D dn (by rw [hacc]; exact fun z => nomatch z)
      have dn3 : G3 D = Option.none := x3.fr D dn2 (by rw [x2.h _ _ hacc]; exact fun z => nomatch z)
      have xx3 : Ext G H G3 H3 := (x.trans x2).trans x3
      cases bb with
      | false =>
        rw [if_neg Bool.false_ne_true] at hb ⊢
        exact ⟨hlt, G3, acc, ys, xx3, (xg.trans x2.g).trans x3.g, dn3, hD3, (ra.mono x2.g).mono x3.g, by omega, hb⟩
      | true =>
        rw [if_pos rfl] at hb ⊢
        have r3 : RpE X.K B.G0 B.H0 G3 H3 σ2 η1 := r2.extd x3
        refine tX.of (B := B.calm) (G := G3) (η := η1) r3 (Sat.mono (sat_bind hb) (fun _ z => z) fun _ z => z.elim) fun y hy G4 H4 w x4 rw4 => ?_
        have hy := sat_bind hy
        have hD4 : H4 D = some (.lst acc) := x4.h _ _ hD3
        have dn4 : G4 D = Option.none := x4.fr D dn3 (by rw [hD3]; exact fun z => nomatch z)
        have xx4 : Ext G H G4 H4 := xx3.trans x4
        have al := ra.length
        have hl' : ds.length ≤ 16777216 := hl
        refine ⟨acc, hD4, by rw [line_eq]; show acc.length < 16777216; omega, hlt, G4, acc ++ [w], ys ++ [y], ⟨xx4.g, fun b o z => ?_, fun b o z => ?_, xx4.fr⟩, ((xg.trans x2.g).trans x3.g).trans x4.g, dn4, upd_same, (((ra.mono x2.g).mono x3.g).mono x4.g).snoc rw4, by rw [List.length_append, List.length_singleton]; omega, Sat.mono hy (fun zs q G' H' v e r => q G' H' v e (by rw [List.append_assoc] at r; exact r)) fun _ z => z⟩
        · rw [upd_ne (ne_of_none z dn4)]
          exact xx4.gh b o z
        · rw [upd_ne (ne_of_none z nD)]
          exact xx4.h b o z
  · left
    have ei : i = ds.length := by omega
    subst ei
    refine ⟨wk.stops H' exH, ?_⟩
    rw [List.drop_length] at hc
    have hc : ∀ G' H' v, Ext G H G' H' → Rp X.K G' v (.lst (ys ++ [])) → Q v H' := hc
    rw [List.append_nil] at hc
    refine hc (upd G' D (.lst acc)) H' (.ref D) ⟨fun b o z => ?_, fun b o z => ?_, x.h, fun b h1 h2 => ?_⟩ (.lst (.inl (.inl upd_same)) (ra.mono (Ex.new dn)))
    · rw [upd_ne (ne_of_none (x.g b o z) dn)]
      exact x.g b o z
    · by_cases hb : b = D
      · subst hb
        rw [upd_same] at z
        cases z
        exact hacc
      · rw [upd_ne hb] at z
        exact x.gh b o z
    · have hb : b ≠ D := fun z => by
        subst z
        exact h2 nD
      rw [upd_ne hb]
      exact x.fr b h1 h2
theorem pv_lc (own : List (Str × Nat)) {own' : List Nat} {elt : Expr} {ifs : List Expr} {scope : Scope} {fi : I} {gg : G} {te : E} (hc : X.calm = true) (hN : X.N.Nodup) (hi : PI X tg iter (tI X.K B fi)) (ok : BlkOk X.N X.env.scope scope own)
    (hg : ∀ (s : Shared) (H : Hp) (C : Addr) (cl : List (Str × Addr)) (fp : List Addr), PG (X.blk s H scope (compEnvC scope cl C X.env) fp) tg (tGo X.K B own' gg)) (ht : ∀ (s : Shared) (H : Hp) (C : Addr) (cl : List (Str × Addr)) (fp : List Addr), PTs (X.blk s H scope (compEnvC scope cl C X.env) fp) ifs (tT X.K B.calm t))
    (he : ∀ (s : Shared) (H : Hp) (C : Addr) (cl : List (Str × Addr)) (fp : List Addr), PE (X.blk s H scope (compEnvC scope cl C X.env) fp) elt (tX X.K B.calm te)) (ho : own' = own.map (·.2) := by rfl) (hs : ∀ x, foldedSetIterable iter X.env x = pure x := by intro _; rfl) :
    PE X (.ListComp elt [⟨tg, iter, ifs, 0⟩] scope pos) (tX X.K B (eComp own' fi gg t te)) := by
  subst ho
  exact pe_weak (pe_lc hc hN hi ok hg ht he hs) fun σ H Q q => lc_weak q
end
end Bk
end
/-! BkStmts -/
section
set_option Elab.async false
set_option linter.all false
set_option autoImplicit false
set_option maxRecDepth 100000
set_option maxHeartbeats 4000000
/-! BkStmts: statements, loops, defs and their calls -/
namespace Bk
open PySem PySem.Spec PyProof.Rows L2
theorem Fin.ofSat {K : PySem.W.Frag} {B : Bs} {D : Ends} {G : Hp} {α : Type} {m : Res α} {k : α → Out} {P : α → Prop} (h : m.Sat P (Rz B)) (q : ∀ a, P a → Fin K B D G (k a)) : Fin K B D G (outOf m k) := by
  cases m with
  | ok a => exact q a h
  | raise c => exact h
  | bad => exact h.elim
section
variable {X : Cx} {B : Bs} {a b c e tg iter : Expr} {es : List Expr} {pos p : Pos} {f g h : E} {fs : List E} {t u : T} {st : Stmt} {rest body orelse : List Stmt} {s1 s2 : St}
theorem ss_nil : PSs X [] (tS X.K B sSkip) := pss_weak pss_nil fun D σ H q => by
  obtain ⟨G, η, r, q⟩ := q
  exact q G H σ (Ex.refl G) r
theorem ss_cons (h1 : PS X st (tS X.K B s1)) (h2 : PSs X rest (tS X.K B s2)) : PSs X (st :: rest) (tS X.K B (sSeq s1 s2)) := pss_weak (pss_cons h1 h2) fun D σ H q => by
  obtain ⟨G, η, r, q⟩ := q
  exact ⟨G, η, r, Fin.andThen q⟩
theorem ss_one (h1 : PS X st (tS X.K B s1)) : PSs X [st] (tS X.K B s1) := pss_one h1
/-- x = e, where nothing is to be said of tuples -/
theorem asg_weak {own : List Nat} {gg : G} (q : ∃ σ H D, tS X.K B (sAsg f gg) D σ H) : True := True.intro
theorem asg_w {own : List Nat} {gg : G} {D : Ends} {σ : L2.St} {H : Hp} (q : tS X.K B (sAsg f gg) D σ H) : tAsg (tX X.K B f) (tGo X.K B own gg) D σ H := by
  obtain ⟨G, η, r, q⟩ := q
  refine tX.of r (Fin.ofRes q) fun d hd G1 H1 v e1 r1 => ?_
  have hd : Fin X.K B D G (outOf (gg d η).calm fun η' => .next η') := hd
  refine ⟨G1, η, d, r.extd e1, r1, ?_⟩
  cases z : gg d η with
  | ok η' =>
    rw [z] at hd
    exact fun σ' r2 _ => hd G1 H1 σ' e1.g r2
  | raise cl =>
    rw [z] at hd
    exact hd.elim
  | bad =>
    rw [z] at hd
    exact hd.elim
theorem s_asg {own : List Nat} {gg : G} (ha : PE X a (tX X.K B f)) (hg : PG X tg (tGo X.K B own gg)) (hs : swapsWithSole [tg] a pos.line X.env = pure false := by rfl) (hw : swappedStores [tg] a X.env = pure none := by rfl)
    (h1 : (assignEach [tg] X.env).map (·.2) = [assign tg X.env] := by rfl) : PS X (.Assign [tg] a pos) (tS X.K B (sAsg f gg)) := ps_weak (ps_asg ha hg hs hw h1) fun D σ H q => asg_w q
theorem s_set (i : Nat) {x : Str} {px : Pos} (hN : X.N.Nodup) (ha : PE X a (tX X.K B f)) (hi : X.N[i]? = some x := by rfl) (hx : Loc X.env.scope x := by first | exact .inl rfl | exact .inr rfl) (hs : swapsWith a (some (.Name x px)) pos.line X.env = pure false := by rfl) (hf : X.fn x = true ∨ X.env.scope.names.lookup x = some .local := by first | exact .inl rfl | exact .inr rfl) :
    PS X (.Assign [.Name x px] a pos) (tS X.K B (sSet i f)) := ps_weak (ps_set hN hi hx ha hs hf) fun D σ H q => by
  obtain ⟨G, η, r, q⟩ := q
  refine tX.of r (Fin.ofRes q) fun d hd G1 H1 v e1 r1 => ?_
  have hd : Fin X.K B D G (.next (η.set i (some (.dat d)))) := hd
  exact hd G1 H1 _ e1.g ((r.extd e1).set i r1)
/-- x = [.. for ..] on one line -/
theorem s_setLc (i : Nat) (own : List (Str × Nat)) {own' : List Nat} {y : Str} {py : Pos} {elt : Expr} {ifs : List Expr} {scope : Scope} {spos : Pos} {fi : I} {gg : G} {te : E} (hc : X.calm = true) (hN : X.N.Nodup) (hi : PI X tg iter (tI X.K B fi)) (ok : BlkOk X.N X.env.scope scope own)
    (hg : ∀ (s : Shared) (H : Hp) (C : Addr) (cl : List (Str × Addr)) (fp : List Addr), PG (X.blk s H scope (compEnvC scope cl C X.env) fp) tg (tGo X.K B own' gg)) (ht : ∀ (s : Shared) (H : Hp) (C : Addr) (cl : List (Str × Addr)) (fp : List Addr), PTs (X.blk s H scope (compEnvC scope cl C X.env) fp) ifs (tT X.K B.calm t))
    (he : ∀ (s : Shared) (H : Hp) (C : Addr) (cl : List (Str × Addr)) (fp : List Addr), PE (X.blk s H scope (compEnvC scope cl C X.env) fp) elt (tX X.K B.calm te)) (ho : own' = own.map (·.2) := by rfl) (hy : X.N[i]? = some y := by rfl) (hyl : X.env.scope.names.lookup y = some .local := by rfl)
    (hsw : swapsWith (.ListComp elt [⟨tg, iter, ifs, 0⟩] scope pos) (some (.Name y py)) spos.line X.env = pure true := by exact sw_true rfl rfl rfl (by decide +kernel)) (hs : ∀ x, foldedSetIterable iter X.env x = pure x := by intro _; rfl) :
    PS X (.Assign [.Name y py] (.ListComp elt [⟨tg, iter, ifs, 0⟩] scope pos) spos) (tS X.K B (sSet i (eComp own' fi gg t te))) := by
  subst ho
  refine ps_weak (ps_setLc hc hN hy hyl hsw hi ok hg ht he hs) fun D σ H q => ?_
  obtain ⟨G, η, r, q⟩ := q
  refine lc_weak (B := B) (tX.of r (Fin.ofRes q) fun d hd G1 H1 v e1 r1 => ?_)
  have hd : Fin X.K B D G (.next (η.set i (some (.dat d)))) := hd
  exact hd G1 H1 _ e1.g ((r.extd e1).set i r1)
theorem s_drop (ha : PE X a (tX X.K B f)) (hs : swapsWith a none pos.line X.env = pure false := by rfl) : PS X (.Expr a pos) (tS X.K B (sDrop f)) := ps_weak (ps_expr ha hs) fun D σ H q => by
  obtain ⟨G, η, r, q⟩ := q
  refine tX.of r (Fin.ofRes q) fun d hd G1 H1 v e1 r1 => ?_
  have hd : Fin X.K B D G (.next η) := hd
  exact hd G1 H1 _ e1.g (r.extd e1)
theorem s_ret (ha : PE X a (tX X.K B f)) : PS X (.Return (some a) pos) (tS X.K B (sRet f)) := ps_weak (ps_ret ha) fun D σ H q => by
  obtain ⟨G, η, r, q⟩ := q
  refine tX.of r (Fin.ofRes q) fun d hd G1 H1 v e1 r1 => ?_
  have hd : Fin X.K B D G (.ret d) := hd
  exact hd G1 H1 v e1.g (r.ext.trans e1) r1
/-- return of the def's own list -/
theorem s_retO (i : Nat) {x : Str} (hN : X.N[i]? = some x := by rfl) (hv : Vis X.env.scope x := by first | exact Or.inl rfl | exact Or.inr (Or.inl rfl) | exact Or.inr (Or.inr rfl)) (hd : (x == ("__debug__" : Str)) = false := by decide)
    (hcd : (x == ("__classdict__" : Str)) = false := by decide) : PS X (.Return (some (.Name x p)) pos) (tS X.K B (sRetOwn i)) := ps_weak (ps_ret (pe_var hN hv hd hcd)) fun D σ H q => by
  obtain ⟨G, η, r, q⟩ := q
  unfold sRetOwn at q
  split at q
  · rename_i ds e
    obtain ⟨v, h1, aa, vs, rfl, h0, hg, hh, ra⟩ := r.slot _ _ e
    refine ⟨_, h1, q (upd G aa (.lst vs)) H (.ref aa) (Ex.new hg) ⟨fun z o w => ?_, fun z o w => ?_, r.ext.h, fun z w1 w2 => ?_⟩ (.lst (.inl (.inl upd_same)) (ra.mono (Ex.new hg)))⟩
    · rw [upd_ne (ne_of_none (r.ext.g z o w) hg)]
      exact r.ext.g z o w
    · by_cases hz : z = aa
      · subst hz
        rw [upd_same] at w
        cases w
        exact hh
      · rw [upd_ne hz] at w
        exact r.ext.gh z o w
    · have hz : z ≠ aa := fun y => by
        subst y
        exact w2 h0
      rw [upd_ne hz]
      exact r.ext.fr z w1 w2
  · exact q.elim
theorem s_if (hc : PT X a (tT X.K B t)) (h1 : PSs X body (tS X.K B s1)) (h2 : PSs X orelse (tS X.K B s2)) : PS X (.If a body orelse pos) (tS X.K B (sIf t s1 s2)) := ps_weak (ps_if hc h1 h2) fun D σ H q => by
  obtain ⟨G, η, r, q⟩ := q
  refine tT.of r (Fin.ofRes q) fun k hk G1 H1 e1 => ?_
  cases k with
  | true =>
    rw [if_pos rfl] at hk ⊢
    exact ⟨G1, η, r.extd e1, Fin.up e1.g hk⟩
  | false =>
    rw [if_neg Bool.false_ne_true] at hk ⊢
    exact ⟨G1, η, r.extd e1, Fin.up e1.g hk⟩
theorem s_brk : PS X (.Break pos) (tS X.K B sBrk) := ps_weak ps_break fun D σ H q => by
  obtain ⟨G, η, r, q⟩ := q
  exact q G H σ (Ex.refl G) r
theorem s_cont : PS X (.Continue pos) (tS X.K B sCont) := ps_weak ps_continue fun D σ H q => by
  obtain ⟨G, η, r, q⟩ := q
  exact q G H σ (Ex.refl G) r
/-! ### loops -/
theorem loop_step {K : PySem.W.Frag} {D : Ends} {G : Hp} {gg : Bk.G} {b : St} {d : Bk.D} {ds : List Bk.D} {η : Env} (h : Fin K B D G (loop gg b (d :: ds) η)) : (gg d η).Sat (fun η1 => Fin K B D G (match b η1 with
    | .next η' => loop gg b ds η'
    | .ct η' => loop gg b ds η'
    | .brk η' => .next η'
    | o => o)) (fun _ => False) := by
  have h : Fin K B D G (outOf (gg d η).calm fun η1 => match b η1 with
    | .next η' => loop gg b ds η'
    | .ct η' => loop gg b ds η'
    | .brk η' => .next η'
    | o => o) := h
  cases z : gg d η with
  | ok η' =>
    rw [z] at h
    exact h
  | raise cl =>
    rw [z] at h
    exact h.elim
  | bad =>
    rw [z] at h
    exact h.elim
theorem s_for {own : List Nat} {fi : I} {gg : G} (hp : PassesOwn (model X.prog X.w) X.A X.env X.xe) (hc : X.calm = true) (hi : PI X tg iter (tI X.K B fi)) (hg : PG X tg (tGo X.K B own gg)) (hb : PSs X body (tS X.K B s1))
    (hs : ∀ x, foldedSetIterable iter X.env x = pure x := by intro _; rfl) : PS X (.For tg iter body [] pos) (tS X.K B (sFor fi gg s1)) := ps_weak (ps_for hp hc hi hg hb hs) fun D σ H q => by
  obtain ⟨G, η, r, q⟩ := q
  refine ⟨G, η, r, Sat.mono (Fin.ofRes q) (fun ds hds G1 H1 J e1 wk => ?_) fun _ z => z⟩
  refine ⟨fun i m σ' H' => m = ds.length - i ∧ i ≤ ds.length ∧ ∃ G' η', Ex G1 G' ∧ RpE X.K B.G0 B.H0 G' H' σ' η' ∧ Fin X.K B D G' (loop gg s1 (ds.drop i) η'), ⟨ds.length, by simp, Nat.zero_le _, G1, η, Ex.refl _, r.extd e1, Fin.up e1.g hds⟩, ?_⟩
  rintro i m σ' H' ⟨rfl, hi', G', η', xg, r', hq⟩
  have exH : Ex G1 H' := xg.trans r'.exg
  by_cases hlt : i < ds.length
  · right
    refine ⟨wk.goes i H' hlt exH, fun σ2 H2 => i + 1 ≤ ds.length ∧ ∃ G' η', Ex G1 G' ∧ RpE X.K B.G0 B.H0 G' H2 σ2 η' ∧ Fin X.K B D G' (loop gg s1 (ds.drop (i + 1)) η'), fun σ2 H2 hN => ⟨ds.length - (i + 1), by omega, rfl, hN⟩, fun v H2 yl => ?_⟩
    have hd : ds[i]? = some ds[i] := List.getElem?_eq_getElem hlt
    obtain ⟨G2, x2, rv⟩ := wk.yields i H' v H2 _ hd exH yl G' xg r'.exg
    rw [List.drop_eq_getElem_cons hlt] at hq
    refine ⟨G2, η', ds[i], r'.extd x2, rv, Sat.mono (loop_step hq) (fun η1 h1 σ3 r3 _ => ⟨G2, η1, r3, ?_⟩) fun _ z => z⟩
    cases z : s1 η1 with
    | next η2 =>
      rw [z] at h1
      exact fun G4 H4 σ4 x4 r4 => ⟨hlt, G4, η2, (xg.trans x2.g).trans x4, r4, Fin.up (x2.g.trans x4) h1⟩
    | ct η2 =>
      rw [z] at h1
      exact fun G4 H4 σ4 x4 r4 => ⟨hlt, G4, η2, (xg.trans x2.g).trans x4, r4, Fin.up (x2.g.trans x4) h1⟩
    | brk η2 =>
      rw [z] at h1
      exact fun G4 H4 σ4 x4 r4 => h1 G4 H4 σ4 (x2.g.trans x4) r4
    | ret d =>
      rw [z] at h1
      exact fun G4 H4 v4 x4 r4 => h1 G4 H4 v4 (x2.g.trans x4) r4
    | raise cl =>
      rw [z] at h1
      exact h1
    | bad =>
      rw [z] at h1
      exact h1
  · left
    have ei : i = ds.length := by omega
    subst ei
    rw [List.drop_length] at hq
    exact ⟨wk.stops H' exH, hq G' H' σ' (Ex.refl _) r'⟩
theorem s_while (n : Nat) (hp : PassesOwn (model X.prog X.w) X.A X.env X.xe) (hc : PT X a (tT X.K B t)) (hb : PSs X body (tS X.K B s1)) : PS X (.While a body [] pos) (tS X.K B (sWhile n t s1)) := ps_weak (ps_while hp hc hb) fun D σ H q => by
  obtain ⟨G, η, r, q⟩ := q
  refine ⟨fun m σ' H' => ∃ G' η', Ex G G' ∧ RpE X.K B.G0 B.H0 G' H' σ' η' ∧ Fin X.K B D G' (whil t s1 m η'), ⟨n, G, η, Ex.refl _, r, q⟩, ?_⟩
  rintro m σ' H' ⟨G', η', xg, r', hq⟩
  cases m with
  | zero => exact hq.elim
  | succ m =>
    refine tT.of r' (Fin.ofRes hq) fun k hk G1 H1 e1 => ?_
    cases k with
    | false =>
      rw [if_neg Bool.false_ne_true] at hk ⊢
      exact hk G1 H1 σ' e1.g (r'.extd e1)
    | true =>
      rw [if_pos rfl] at hk ⊢
      refine ⟨fun σ2 H2 => ∃ G' η', Ex G G' ∧ RpE X.K B.G0 B.H0 G' H2 σ2 η' ∧ Fin X.K B D G' (whil t s1 m η'), fun σ2 H2 hN => ⟨m, Nat.lt_succ_self m, hN⟩, ⟨G1, η', r'.extd e1, ?_⟩⟩
      cases z : s1 η' with
      | next η2 =>
        rw [z] at hk
        exact fun G4 H4 σ4 x4 r4 => ⟨G4, η2, (xg.trans e1.g).trans x4, r4, Fin.up (e1.g.trans x4) hk⟩
      | ct η2 =>
        rw [z] at hk
        exact fun G4 H4 σ4 x4 r4 => ⟨G4, η2, (xg.trans e1.g).trans x4, r4, Fin.up (e1.g.trans x4) hk⟩
      | brk η2 =>
        rw [z] at hk
        exact fun G4 H4 σ4 x4 r4 => hk G4 H4 σ4 (e1.g.trans x4) r4
      | ret d =>
        rw [z] at hk
        exact fun G4 H4 v4 x4 r4 => hk G4 H4 v4 (e1.g.trans x4) r4
      | raise cl =>
        rw [z] at hk
        exact hk
      | bad =>
        rw [z] at hk
        exact hk
/-! ### the def's own lists -/
/-- x = [..] -/
theorem s_new (i : Nat) {x : Str} {px p2 : Pos} (hN : X.N.Nodup) (ha : PA X es (tA X.K B fs)) (hl : fs.length ≤ 1000 := by first | decide | simp) (hi : X.N[i]? = some x := by rfl) (hx : Loc X.env.scope x := by first | exact .inl rfl | exact .inr rfl) (hs : swapsWith (.List es p2) (some (.Name x px)) pos.line X.env = pure false := by rfl) (hf : X.fn x = true ∨ X.env.scope.names.lookup x = some .local := by first | exact .inl rfl | exact .inr rfl) :
    PS X (.Assign [.Name x px] (.List es p2) pos) (tS X.K B (sNew i fs)) := ps_weak (ps_set hN hi hx (pe_lst ha) hs hf) fun D σ H q => by
  obtain ⟨G, η, r, q⟩ := q
  refine tA.of r (evals_len (Fin.ofRes q)) fun ds hds G1 H1 vs e1 r1 => ?_
  have hd : Fin X.K B D G (.next (η.set i (some (.own ds)))) := hds.2
  refine ⟨by rw [r1.length, hds.1, line_eq]; show fs.length ≤ 16777216; omega, fun p hp => ?_⟩
  have r2 := r.extd e1
  refine hd G1 (upd H1 p (.lst vs)) _ e1.g (r2.setNew i hp ⟨p, vs, rfl, r2.ext.h.none hp, e1.gh.none hp, upd_same, r1⟩)
theorem s_newD (i : Nat) {x : Str} {px p2 : Pos} (hN : X.N.Nodup) (hi : X.N[i]? = some x := by rfl) (hx : Loc X.env.scope x := by first | exact .inl rfl | exact .inr rfl) (hs : swapsWith (.Dict [] [] p2) (some (.Name x px)) pos.line X.env = pure false := by rfl) (hf : X.fn x = true ∨ X.env.scope.names.lookup x = some .local := by first | exact .inl rfl | exact .inr rfl) :
    PS X (.Assign [.Name x px] (.Dict [] [] p2) pos) (tS X.K B (sNewD i)) := ps_weak (ps_set hN hi hx pe_dnewK hs hf) fun D σ H q => by
  obtain ⟨G, η, r, q⟩ := q
  intro p hp
  exact q G (upd H p (.dK [])) _ (Ex.refl G) (r.setNew i hp ⟨p, [], rfl, r.ext.h.none hp, r.exg.none hp, upd_same, .nil⟩)
theorem app_fin {K : PySem.W.Frag} {D : Ends} {G H : Hp} {σ : L2.St} {η : Env} {i : Nat} {d : Bk.D} {v : V} (r : RpE K B.G0 B.H0 G H σ η) (rd : Rp K G v d) (q : Fin K B D G (appTo i d η)) :
    ∃ aa vs, σ[i]? = some (some (.ref aa)) ∧ H aa = some (.lst vs) ∧ vs.length < sizeLine ∧ D.nx σ (upd H aa (.lst (vs ++ [v]))) := by
  unfold appTo at q
  split at q
  · rename_i ds e
    by_cases hl : ds.length < lim
    · rw [if_pos hl] at q
      obtain ⟨w, h1, aa, vs, rfl, h0, hg, hh, ra⟩ := r.slot _ _ e
      refine ⟨aa, vs, h1, hh, by rw [ra.length, line_eq]; exact hl, ?_⟩
      exact q G _ σ (Ex.refl G) (r.mut e rfl rfl h1 h0 hg ⟨aa, _, rfl, h0, hg, upd_same, ra.snoc rd⟩)
    · rw [if_neg hl] at q
      exact q.elim
  · exact q.elim
/-- x.append(e) -/
theorem s_app (i : Nat) {x : Str} {px apos cpos : Pos} (ha : PE X a (tX X.K B f)) (hN : X.N[i]? = some x := by rfl) (hv : Vis X.env.scope x := by first | exact Or.inl rfl | exact Or.inr (Or.inl rfl) | exact Or.inr (Or.inr rfl)) (hd : (x == ("__debug__" : Str)) = false := by decide)
    (hcd : (x == ("__classdict__" : Str)) = false := by decide) (h0 : starEach [a] X.env = (false, eval a X.env) :: starEach [] X.env := by rfl)
    (hpe : ∀ {to : TE} {t : TA}, PE X (.Name x px) to → PA X [a] t → PE X (.Call (.Attribute (.Name x px) "append" apos) [a] [] cpos) (tBM X.K "list" rAppend to t) := by intro _ _ h1 h2; exact pe_bm PySem.F.plainAttrs_list PySem.F.slot_list_append PySem.F.type_list_append mt_append h1 h2)
    (hs : swapsWith (.Call (.Attribute (.Name x px) "append" apos) [a] [] cpos) none pos.line X.env = pure false := by rfl) : PS X (.Expr (.Call (.Attribute (.Name x px) "append" apos) [a] [] cpos) pos) (tS X.K B (sApp i f)) :=
  ps_weak (ps_expr (hpe (pe_var hN hv hd hcd) (pa_cons ha pa_nil h0)) hs) fun D σ H q => by
    obtain ⟨G, η, r, q⟩ := q
    unfold sApp at q
    split at q
    · rename_i ds e
      obtain ⟨w, h1, aa, vs, rfl, hh0, hg, hh, ra⟩ := r.slot _ _ e
      refine ⟨_, h1, .inl ⟨rfl, vs, .inl (.inl hh)⟩, tX.of r (Fin.ofRes q) fun d hd G1 H1 v e1 r1 => ?_⟩
      obtain ⟨aa', vs', k1, k2, k3, k4⟩ := app_fin (r.extd e1) r1 (Fin.up e1.g hd)
      rw [h1] at k1
      cases k1
      exact ⟨aa, vs', v, rfl, rfl, k2, k3, k4⟩
    · exact q.elim
/-! x.extend(e) -/
theorem ext_listW (l : Addr) (items : Array Value) (n : Nat) (b : Addr) (items2 : Array Value) (n2 : Nat) (dd2 : Option Addr) (sl2 : Array (Option Value)) (hc0 : ¬(!items.isEmpty && Builtin.List.listTooLong (items.size + items2.size)) = true) (hc1 : items.size ≤ sizeLine) (hs2 : items.size + items2.size ≤ sizeLine + 1) :
    Meets (Builtin.«list.extend» ⟨[.ref l, .ref b], []⟩) (fun _ R s => s.heap.get? l = some { cls := .type "list", dict := none, data := .seq items n, slots := #[] } ∧ s.heap.get? b = some { cls := .type "list", dict := dd2, data := .seq items2 n2, slots := sl2 } ∧ R (.ok (.ret Value.none)) { s with heap := s.heap.update l (Obj.mapSeq fun x => x ++ items2), toks := s.toks }) :=
  .of_wp fun prog w A R s h => by
    obtain ⟨hp, g, d, tk, os⟩ := s; obtain ⟨hl, hb, h⟩ := h; have f1 := AutoSeq1.idx_int; have f2 := AutoSeq1.sub_tuple_tuple; have f3 := AutoSeq1.sub_list_list; have f4 := AutoSeq1.sub_tuple_list; have f5 := AutoSeq1.sub_list_tuple;
    have hz' : (items ++ items2).size ≤ sizeLine + 1 := by rw [Array.size_append]; exact hs2
    wp_walk using (wpAny_updateSeq hl rfl (hz := hc1) (_hz' := hz')), AutoSeq1.wpAny_loadPart' hl, AutoSeq1.wpAny_loadPart' hb; exact ⟨_, rfl, h⟩
theorem ext_tupW (l : Addr) (items : Array Value) (n : Nat) (b : Addr) (items2 : Array Value) (n2 : Nat) (dd2 : Option Addr) (sl2 : Array (Option Value)) (hc0 : ¬(!items.isEmpty && Builtin.List.listTooLong (items.size + items2.size)) = true) (hc1 : items.size ≤ sizeLine) (hs2 : items.size + items2.size ≤ sizeLine + 1) :
    Meets (Builtin.«list.extend» ⟨[.ref l, .ref b], []⟩) (fun _ R s => s.heap.get? l = some { cls := .type "list", dict := none, data := .seq items n, slots := #[] } ∧ s.heap.get? b = some { cls := .type "tuple", dict := dd2, data := .seq items2 n2, slots := sl2 } ∧ R (.ok (.ret Value.none)) { s with heap := s.heap.update l (Obj.mapSeq fun x => x ++ items2), toks := s.toks }) :=
  .of_wp fun prog w A R s h => by
    obtain ⟨hp, g, d, tk, os⟩ := s; obtain ⟨hl, hb, h⟩ := h; have f1 := AutoSeq1.idx_int; have f2 := AutoSeq1.sub_tuple_tuple; have f3 := AutoSeq1.sub_list_list; have f4 := AutoSeq1.sub_tuple_list; have f5 := AutoSeq1.sub_list_tuple;
    have hz' : (items ++ items2).size ≤ sizeLine + 1 := by rw [Array.size_append]; exact hs2
    wp_walk using (wpAny_updateSeq hl rfl (hz := hc1) (_hz' := hz')), AutoSeq1.wpAny_loadPart' hl, AutoSeq1.wpAny_loadPart' hb; exact ⟨_, rfl, h⟩
def rExtD (K : PySem.W.Frag) : V → List V → Hp → VK → Prop := fun x vs H Q => ∃ l b xs zs, x = .ref l ∧ vs = [.ref b] ∧ H l = some (.lst xs) ∧ (SqL K H b zs ∨ SqT K H b zs) ∧ xs.length + zs.length ≤ sizeLine ∧ Q .non (upd H l (.lst (xs ++ zs)))
theorem mt_extD : MtM X "list.extend" (rExtD X.K) := by
  intro pins s σ H x vs v us Q I rx rv h
  obtain ⟨l, b, xs, zs, rfl, rfl, hH, hB, hz, q⟩ := h
  cases rx
  obtain ⟨u, rfl, ru⟩ := rv.one
  cases ru
  obtain ⟨z, its, n, r, hl, e⟩ := I.lstM hH
  have fin : ∀ its2 : List Value, Vals zs its2 → EP X pins σ Q Value.none { s with heap := s.heap.update l (Obj.mapSeq fun x => x ++ its2.toArray), toks := s.toks } := fun its2 r2 =>
    ⟨.non, _, I.lset (its' := its ++ its2) hH e (by simp) (r.append r2) (by rw [List.length_append]; exact hz), rfl, q⟩
  rcases hB with hB | hB
  · obtain ⟨its2, r2, ⟨⟨cls2, dd2, data2, sl2⟩, n2, ho2, hc2, hdd2, hd2⟩, z2⟩ := I.list hB
    simp only at hc2 hd2
    subst hc2 hd2
    have l2 := r2.length
    have hsz : its.toArray.size + its2.toArray.size ≤ sizeLine := by rw [List.size_toArray, List.size_toArray]; omega
    have hlong : ¬ (!its.toArray.isEmpty && Builtin.List.listTooLong (its.toArray.size + its2.toArray.size)) = true := by
      rw [notLongL hsz, Bool.and_false]
      exact Bool.false_ne_true
    exact call_meets F.slot_list_extend ⟨_, e, rfl⟩ F.entry_list_extend (F.args_list_extend_2 _ _) (ext_listW l its.toArray n b its2.toArray n2 dd2 sl2 hlong (by rw [List.size_toArray]; omega) (by omega)) ⟨e, ho2, fin its2 r2⟩
  · obtain ⟨its2, r2, ⟨⟨cls2, dd2, data2, sl2⟩, ho2, hc2, n2, hd2⟩, z2⟩ := I.tuple hB
    simp only at hc2 hd2
    subst hc2 hd2
    have l2 := r2.length
    have hsz : its.toArray.size + its2.toArray.size ≤ sizeLine := by rw [List.size_toArray, List.size_toArray]; omega
    have hlong : ¬ (!its.toArray.isEmpty && Builtin.List.listTooLong (its.toArray.size + its2.toArray.size)) = true := by
      rw [notLongL hsz, Bool.and_false]
      exact Bool.false_ne_true
    exact call_meets F.slot_list_extend ⟨_, e, rfl⟩ F.entry_list_extend (F.args_list_extend_2 _ _) (ext_tupW l its.toArray n b its2.toArray n2 dd2 sl2 hlong (by rw [List.size_toArray]; omega) (by omega)) ⟨e, ho2, fin its2 r2⟩
theorem s_ext (i : Nat) {x : Str} {px apos cpos : Pos} (ha : PE X a (tX X.K B f)) (hN : X.N[i]? = some x := by rfl) (hv : Vis X.env.scope x := by first | exact Or.inl rfl | exact Or.inr (Or.inl rfl) | exact Or.inr (Or.inr rfl)) (hd : (x == ("__debug__" : Str)) = false := by decide)
    (hcd : (x == ("__classdict__" : Str)) = false := by decide) (h0 : starEach [a] X.env = (false, eval a X.env) :: starEach [] X.env := by rfl)
    (hpe : ∀ {to : TE} {t : TA}, PE X (.Name x px) to → PA X [a] t → PE X (.Call (.Attribute (.Name x px) "extend" apos) [a] [] cpos) (tBM X.K "list" (rExtD X.K) to t) := by intro _ _ h1 h2; exact pe_bm PySem.F.plainAttrs_list PySem.F.slot_list_extend PySem.F.type_list_extend mt_extD h1 h2)
    (hs : swapsWith (.Call (.Attribute (.Name x px) "extend" apos) [a] [] cpos) none pos.line X.env = pure false := by rfl) : PS X (.Expr (.Call (.Attribute (.Name x px) "extend" apos) [a] [] cpos) pos) (tS X.K B (sExt i f)) :=
  ps_weak (ps_expr (hpe (pe_var hN hv hd hcd) (pa_cons ha pa_nil h0)) hs) fun D σ H q => by
    obtain ⟨G, η, r, q⟩ := q
    unfold sExt at q
    split at q
    · rename_i ds e
      obtain ⟨w, h1, aa, vs, rfl, hh0, hg, hh, ra⟩ := r.slot _ _ e
      refine ⟨_, h1, .inl ⟨rfl, vs, .inl (.inl hh)⟩, tX.of r (Fin.ofRes q) fun d hd G1 H1 v e1 r1 => ?_⟩
      have r2 := r.extd e1
      obtain ⟨w', h1', aa', vs', ew, hh0', hg', hh', ra'⟩ := r2.slot _ _ e
      rw [h1] at h1'
      cases h1'
      cases ew
      unfold extTo at hd
      rw [e] at hd
      have hd : Fin X.K B D G (outOf (seqOf d) fun xs => if ds.length + xs.length ≤ lim then .next (η.set i (some (.own (ds ++ xs)))) else .bad) := hd
      have close : ∀ (zs : List V) (xs : List Bk.D), RpAll X.K G1 zs xs → Fin X.K B D G (if ds.length + xs.length ≤ lim then .next (η.set i (some (.own (ds ++ xs)))) else .bad) → vs'.length + zs.length ≤ sizeLine ∧ D.nx σ (upd H1 aa (.lst (vs' ++ zs))) := fun zs xs rz hq => by
        by_cases hl : ds.length + xs.length ≤ lim
        · rw [if_pos hl] at hq
          refine ⟨by rw [ra'.length, rz.length, line_eq]; exact hl, ?_⟩
          exact hq G1 _ σ e1.g (r2.mut e rfl rfl h1 hh0' hg' ⟨aa, _, rfl, hh0', hg', upd_same, ra'.append rz⟩)
        · rw [if_neg hl] at hq
          exact hq.elim
      cases r1 with
      | lst hs rz =>
        obtain ⟨c1, c2⟩ := close _ _ rz hd
        exact ⟨aa, _, vs', _, rfl, rfl, hh', .inl (e1.gh.l hs), c1, c2⟩
      | tup hs rz =>
        obtain ⟨c1, c2⟩ := close _ _ rz hd
        exact ⟨aa, _, vs', _, rfl, rfl, hh', .inr (e1.gh.t hs), c1, c2⟩
      | _ => exact hd.elim
    · exact q.elim
/-! x.append(y.pop()) -/
theorem pop_rp {K : PySem.W.Frag} {G H : Hp} {σ : L2.St} {η η' : Env} {j : Nat} {d : Bk.D} (r : RpE K B.G0 B.H0 G H σ η) (h : popOf j η = .ok (d, η')) :
    ∃ aa vs v, σ[j]? = some (some (.ref aa)) ∧ H aa = some (.lst vs) ∧ vs[vs.length - 1]? = some v ∧ Rp K G v d ∧ RpE K B.G0 B.H0 G (upd H aa (.lst vs.dropLast)) σ η' := by
  unfold popOf at h
  split at h
  · rename_i ds e
    split at h
    · rename_i d' e2
      cases h
      obtain ⟨w, h1, aa, vs, rfl, h0, hg, hh, ra⟩ := r.slot _ _ e
      rw [← ra.length] at e2
      obtain ⟨v, k1, k2⟩ := ra.get e2
      exact ⟨aa, vs, v, h1, hh, k1, k2, r.mut e rfl rfl h1 h0 hg ⟨aa, _, rfl, h0, hg, upd_same, ra.dropLast⟩⟩
    · cases h
  · cases h
theorem s_appPop (i j : Nat) {x y : Str} {px py apos cpos apos2 cpos2 : Pos} (hN : X.N[i]? = some x := by rfl) (hv : Vis X.env.scope x := by first | exact Or.inl rfl | exact Or.inr (Or.inl rfl) | exact Or.inr (Or.inr rfl)) (hd : (x == ("__debug__" : Str)) = false := by decide)
    (hcd : (x == ("__classdict__" : Str)) = false := by decide) (hN2 : X.N[j]? = some y := by rfl) (hv2 : Vis X.env.scope y := by first | exact Or.inl rfl | exact Or.inr (Or.inl rfl) | exact Or.inr (Or.inr rfl)) (hd2 : (y == ("__debug__" : Str)) = false := by decide)
    (hcd2 : (y == ("__classdict__" : Str)) = false := by decide) (h0 : starEach [.Call (.Attribute (.Name y py) "pop" apos2) [] [] cpos2] X.env = (false, eval (.Call (.Attribute (.Name y py) "pop" apos2) [] [] cpos2) X.env) :: starEach [] X.env := by rfl)
    (hpp : ∀ {to : TE}, PE X (.Name y py) to → PE X (.Call (.Attribute (.Name y py) "pop" apos2) [] [] cpos2) (tBM0 X.K "list" rPop to) := by intro _ h1; exact pe_bm0 PySem.F.plainAttrs_list PySem.F.slot_list_pop PySem.F.type_list_pop mt_pop h1)
    (hpe : ∀ {to : TE} {t : TA}, PE X (.Name x px) to → PA X [.Call (.Attribute (.Name y py) "pop" apos2) [] [] cpos2] t → PE X (.Call (.Attribute (.Name x px) "append" apos) [.Call (.Attribute (.Name y py) "pop" apos2) [] [] cpos2] [] cpos) (tBM X.K "list" rAppend to t) := by intro _ _ h1 h2; exact pe_bm PySem.F.plainAttrs_list PySem.F.slot_list_append PySem.F.type_list_append mt_append h1 h2)
    (hs : swapsWith (.Call (.Attribute (.Name x px) "append" apos) [.Call (.Attribute (.Name y py) "pop" apos2) [] [] cpos2] [] cpos) none pos.line X.env = pure false := by rfl) : PS X (.Expr (.Call (.Attribute (.Name x px) "append" apos) [.Call (.Attribute (.Name y py) "pop" apos2) [] [] cpos2] [] cpos) pos) (tS X.K B (sAppPop i j)) :=
  ps_weak (ps_expr (hpe (pe_var hN hv hd hcd) (pa_cons (hpp (pe_var hN2 hv2 hd2 hcd2)) pa_nil h0)) hs) fun D σ H q => by
    obtain ⟨G, η, r, q⟩ := q
    unfold sAppPop at q
    split at q
    · rename_i ds e
      obtain ⟨w, h1, aa, vs, rfl, hh0, hg, hh, ra⟩ := r.slot _ _ e
      cases z : popOf j η with
      | ok p =>
        obtain ⟨d, η'⟩ := p
        rw [z] at q
        obtain ⟨ab, vs2, v, k1, k2, k3, k4, r2⟩ := pop_rp r z
        obtain ⟨aa', vs', c1, c2, c3, c4⟩ := app_fin r2 k4 q
        rw [h1] at c1
        cases c1
        exact ⟨_, h1, .inl ⟨rfl, vs, .inl (.inl hh)⟩, _, k1, .inl ⟨rfl, vs2, .inl (.inl k2)⟩, ab, vs2, v, rfl, rfl, k2, k3, aa, vs', v, rfl, rfl, c2, c3, c4⟩
      | raise cl =>
        rw [z] at q
        exact q.elim
      | bad =>
        rw [z] at q
        exact q.elim
    · exact q.elim
/-! ### the def's own dicts -/
theorem keyV_kV {K : PySem.W.Frag} {G : Hp} {v : V} {d : Bk.D} (rd : Rp K G v d) (h : keyD d = true) : ∃ k, keyV d = some k ∧ v = kV k := by
  cases rd with
  | int i => exact ⟨.inl i, rfl, rfl⟩
  | str s => exact ⟨.inr (Sx s), rfl, rfl⟩
  | _ => simp [keyD] at h
theorem sameKey_eq {d e : Bk.D} {k l : Key} (hd : keyV d = some k) (he : keyV e = some l) : sameKey d e = decide (k = l) := by
  cases d <;> simp [keyV] at hd <;> cases e <;> simp [keyV] at he
  · subst hd he
    simp [sameKey]
    rw [Bool.beq_eq_decide_eq]
  · subst hd he
    simp [sameKey]
  · subst hd he
    simp [sameKey]
  · subst hd he
    simp [sameKey]
    rw [Bool.beq_eq_decide_eq]
theorem kv_get {K : PySem.W.Frag} {G : Hp} : ∀ {kvs : List (Key × V)} {ks : List (Bk.D × Bk.D)} {kd : Bk.D} {k : Key}, RpKV K G kvs ks → keyV kd = some k → (∀ d, dget ks kd = some d → ∃ v, valV kvs k = some v ∧ Rp K G v d) ∧ (dget ks kd = Option.none → valV kvs k = Option.none)
  | _, _, kd, k, .nil, _ => ⟨fun d h => by simp [dget] at h, fun _ => rfl⟩
  | _, _, kd, k, .cons (k := k1) (v := v1) (kd := kd1) (d := d1) e1 r1 rr, e => by
    rename_i kvs ks
    obtain ⟨ih1, ih2⟩ := kv_get rr e
    have hs := sameKey_eq e1 e
    by_cases h : k1 = k
    · rw [decide_eq_true h] at hs
      have z : dget ((kd1, d1) :: ks) kd = some d1 := by simp [dget, hs]
      have z2 : valV ((k1, v1) :: kvs) k = some v1 := valV_pos h
      exact ⟨fun d hd => by rw [z] at hd; cases hd; exact ⟨v1, z2, r1⟩, fun hn => by rw [z] at hn; cases hn⟩
    · rw [decide_eq_false h] at hs
      have z : dget ((kd1, d1) :: ks) kd = dget ks kd := by simp [dget, hs]
      have z2 : valV ((k1, v1) :: kvs) k = valV kvs k := valV_neg h
      rw [z, z2]
      exact ⟨ih1, ih2⟩
theorem kv_len {K : PySem.W.Frag} {G : Hp} : ∀ {kvs : List (Key × V)} {ks : List (Bk.D × Bk.D)}, RpKV K G kvs ks → kvs.length = ks.length
  | _, _, .nil => rfl
  | _, _, .cons _ _ r => congrArg (· + 1) (kv_len r)
theorem kv_any {K : PySem.W.Frag} {G : Hp} {kd : Bk.D} {k : Key} (e : keyV kd = some k) : ∀ {kvs : List (Key × V)} {ks : List (Bk.D × Bk.D)}, RpKV K G kvs ks → (kvs.any fun kv => decide (kv.1 = k)) = ks.any fun kv => sameKey kv.1 kd
  | _, _, .nil => rfl
  | _, _, .cons e1 _ r => by
    rw [List.any_cons, List.any_cons, kv_any e r, sameKey_eq e1 e]
theorem kv_map {K : PySem.W.Frag} {G : Hp} {kd d : Bk.D} {k : Key} {v : V} (e : keyV kd = some k) (rv : Rp K G v d) : ∀ {kvs : List (Key × V)} {ks : List (Bk.D × Bk.D)}, RpKV K G kvs ks → RpKV K G (kvs.map fun kv => if kv.1 = k then (kv.1, v) else kv) (ks.map fun kv => if sameKey kv.1 kd = true then (kv.1, d) else kv)
  | _, _, .nil => .nil
  | _, _, .cons (k := k1) (v := v1) (kd := kd1) (d := d1) e1 r1 r => by
    rw [List.map_cons, List.map_cons]
    have hs := sameKey_eq e1 e
    by_cases h : k1 = k
    · rw [decide_eq_true h] at hs
      rw [if_pos h, if_pos hs]
      exact .cons e1 rv (kv_map e rv r)
    · rw [decide_eq_false h] at hs
      rw [if_neg h, if_neg (by show ¬ sameKey kd1 kd = true; rw [hs]; exact Bool.false_ne_true)]
      exact .cons e1 r1 (kv_map e rv r)
theorem kv_app {K : PySem.W.Frag} {G : Hp} : ∀ {kvs kvs2 : List (Key × V)} {ks ks2 : List (Bk.D × Bk.D)}, RpKV K G kvs ks → RpKV K G kvs2 ks2 → RpKV K G (kvs ++ kvs2) (ks ++ ks2)
  | _, _, _, _, .nil, h => h
  | _, _, _, _, .cons a b r, h => .cons a b (kv_app r h)
theorem kv_put {K : PySem.W.Frag} {G : Hp} {kvs : List (Key × V)} {ks : List (Bk.D × Bk.D)} {kd d : Bk.D} {k : Key} {v : V} (r : RpKV K G kvs ks) (e : keyV kd = some k) (rv : Rp K G v d) : RpKV K G (putK kvs k v) (dput ks kd d) := by
  unfold putK dput
  rw [kv_any e r]
  by_cases h : (ks.any fun kv => sameKey kv.1 kd) = true
  · rw [if_pos h, if_pos h]
    exact kv_map e rv r
  · rw [if_neg h, if_neg h]
    exact kv_app r (.cons e rv .nil)
theorem put_fin {K : PySem.W.Frag} {D : Ends} {G H : Hp} {σ : L2.St} {η : Env} {i : Nat} {kd d : Bk.D} {kv v : V} (r : RpE K B.G0 B.H0 G H σ η) (rk : Rp K G kv kd) (rd : Rp K G v d) (q : Fin K B D G (putTo i kd d η)) :
    ∃ aa H', σ[i]? = some (some (.ref aa)) ∧ DPut H aa kv v H' ∧ D.nx σ H' := by
  unfold putTo at q
  split at q
  · rename_i ks e
    by_cases hl : ks.length < lim ∧ keyD kd = true
    · rw [if_pos hl] at q
      obtain ⟨w, h1, aa, kvs, rfl, h0, hg, hh, ra⟩ := r.slot _ _ e
      obtain ⟨k, ek, rfl⟩ := keyV_kV rk hl.2
      exact ⟨aa, _, h1, DPut.k hh (by rw [kv_len ra, line_eq]; exact hl.1), q G _ σ (Ex.refl G) (r.mut e rfl rfl h1 h0 hg ⟨aa, _, rfl, h0, hg, upd_same, kv_put ra ek rd⟩)⟩
    · rw [if_neg hl] at q
      exact q.elim
  · exact q.elim
/-- x[k] = v -/
theorem s_put (i : Nat) {x : Str} {px pt : Pos} (hu : X.A.units + 1 < cLine) (hk : PE X b (tX X.K B g)) (ha : PE X a (tX X.K B f)) (hN : X.N[i]? = some x := by rfl) (hv : Vis X.env.scope x := by first | exact Or.inl rfl | exact Or.inr (Or.inl rfl) | exact Or.inr (Or.inr rfl)) (hd : (x == ("__debug__" : Str)) = false := by decide)
    (hcd : (x == ("__classdict__" : Str)) = false := by decide) (hs : swapsWith a (some (.Subscript (.Name x px) b pt)) pos.line X.env = pure false := by rfl) : PS X (.Assign [.Subscript (.Name x px) b pt] a pos) (tS X.K B (sPut i g f)) :=
  ps_weak (ps_dput hu (pe_var hN hv hd hcd) hk ha hs) fun D σ H q => by
    obtain ⟨G, η, r, q⟩ := q
    refine tX.of r (Fin.ofRes q) fun d hd' G1 H1 v e1 r1 => ?_
    split at hd'
    · rename_i ks e
      have r2 := r.extd e1
      obtain ⟨w, h1, aa, kvs, rfl, h0, hg, hh, ra⟩ := r.slot _ _ e
      refine ⟨_, h1, tX.of r2 (Fin.ofRes hd') fun kd hk2 G2 H2 kv e2 rk => ?_⟩
      obtain ⟨aa', H', k1, k2, k3⟩ := put_fin (r2.extd e2) rk (r1.mono e2.g) (Fin.up (e1.g.trans e2.g) hk2)
      rw [h1] at k1
      cases k1
      exact ⟨aa, H', rfl, k2, k3⟩
    · exact hd'.elim
/-- x[k] = y.pop() -/
theorem s_putPop (i j : Nat) {x y : Str} {px pt py apos2 cpos2 : Pos} (hu : X.A.units + 1 < cLine) (hk : PE X b (tX X.K B g)) (hN : X.N[i]? = some x := by rfl) (hv : Vis X.env.scope x := by first | exact Or.inl rfl | exact Or.inr (Or.inl rfl) | exact Or.inr (Or.inr rfl)) (hd : (x == ("__debug__" : Str)) = false := by decide)
    (hcd : (x == ("__classdict__" : Str)) = false := by decide) (hN2 : X.N[j]? = some y := by rfl) (hv2 : Vis X.env.scope y := by first | exact Or.inl rfl | exact Or.inr (Or.inl rfl) | exact Or.inr (Or.inr rfl)) (hd2 : (y == ("__debug__" : Str)) = false := by decide)
    (hcd2 : (y == ("__classdict__" : Str)) = false := by decide)
    (hpp : ∀ {to : TE}, PE X (.Name y py) to → PE X (.Call (.Attribute (.Name y py) "pop" apos2) [] [] cpos2) (tBM0 X.K "list" rPop to) := by intro _ h1; exact pe_bm0 PySem.F.plainAttrs_list PySem.F.slot_list_pop PySem.F.type_list_pop mt_pop h1)
    (hs : swapsWith (.Call (.Attribute (.Name y py) "pop" apos2) [] [] cpos2) (some (.Subscript (.Name x px) b pt)) pos.line X.env = pure false := by rfl) : PS X (.Assign [.Subscript (.Name x px) b pt] (.Call (.Attribute (.Name y py) "pop" apos2) [] [] cpos2) pos) (tS X.K B (sPutPop i g j)) :=
  ps_weak (ps_dput hu (pe_var hN hv hd hcd) hk (hpp (pe_var hN2 hv2 hd2 hcd2)) hs) fun D σ H q => by
    obtain ⟨G, η, r, q⟩ := q
    unfold sPutPop at q
    cases z : popOf j η with
    | ok p =>
      obtain ⟨d, η'⟩ := p
      rw [z] at q
      obtain ⟨ab, vs2, v, k1, k2, k3, k4, r2⟩ := pop_rp r z
      have q : Fin X.K B D G (match η'[i]? with
        | some (some (.dic _)) => outOf (g η') fun k => putTo i k d η'
        | _ => .bad) := q
      split at q
      · rename_i ks e
        obtain ⟨w, h1, aa, kvs, rfl, h0, hg, hh, ra⟩ := r2.slot _ _ e
        refine ⟨_, k1, .inl ⟨rfl, vs2, .inl (.inl k2)⟩, ab, vs2, v, rfl, rfl, k2, k3, _, h1, tX.of r2 (Fin.ofRes q) fun kd hk2 G2 H2 kv e2 rk => ?_⟩
        obtain ⟨aa', H', c1, c2, c3⟩ := put_fin (r2.extd e2) rk (k4.mono e2.g) (Fin.up e2.g hk2)
        rw [h1] at c1
        cases c1
        exact ⟨aa, H', rfl, c2, c3⟩
      · exact q.elim
    | raise cl =>
      rw [z] at q
      exact q.elim
    | bad =>
      rw [z] at q
      exact q.elim
/-- x[k] -/
theorem pv_dget (i : Nat) {x : Str} {px : Pos} (hu : X.A.units + 1 < cLine) (hk : PE X b (tX X.K B g)) (hs : NoSl b := by exact fun _ _ => rfl) (hN : X.N[i]? = some x := by rfl) (hv : Vis X.env.scope x := by first | exact Or.inl rfl | exact Or.inr (Or.inl rfl) | exact Or.inr (Or.inr rfl)) (hd : (x == ("__debug__" : Str)) = false := by decide)
    (hcd : (x == ("__classdict__" : Str)) = false := by decide) : PE X (.Subscript (.Name x px) b pos) (tX X.K B (eDGet i g)) := pe_weak (pe_dget hu (pe_var hN hv hd hcd) hk hs) fun σ H Q q => by
  obtain ⟨G, η, r, q⟩ := q
  unfold eDGet at q
  split at q
  · rename_i ks e
    obtain ⟨w, h1, _⟩ := r.slot _ _ e
    refine ⟨_, h1, tX.of r (sat_bind q) fun kd hk2 G1 H1 kv e1 rk => ?_⟩
    obtain ⟨w', h1', aa, kvs, rfl, h0, hg, hh, ra⟩ := (r.extd e1).slot _ _ e
    rw [h1] at h1'
    cases h1'
    obtain ⟨hkd, hk2⟩ := sat_if hk2
    obtain ⟨k, ek, rfl⟩ := keyV_kV rk hkd
    cases z : dget ks kd with
    | none =>
      rw [z] at hk2
      exact hk2.elim
    | some d =>
      rw [z] at hk2
      obtain ⟨v, z1, z2⟩ := (kv_get ra ek).1 d z
      refine ⟨aa, v, rfl, ?_, hk2 G1 H1 v e1 z2⟩
      rw [← z1]
      exact DGet.k hh
  · exact q.elim
/-- x.get(k, d) -/
theorem pv_dget2 (i : Nat) {x : Str} {px apos cpos : Pos} (hu : X.A.units + 1 < cLine) (hk : PE X b (tX X.K B g)) (hz : PE X c (tX X.K B h)) (m : M2 X (.Name x px) "get" apos b c cpos := by exact ⟨rfl, rfl, rfl, rfl⟩) (hN : X.N[i]? = some x := by rfl) (hv : Vis X.env.scope x := by first | exact Or.inl rfl | exact Or.inr (Or.inl rfl) | exact Or.inr (Or.inr rfl)) (hd : (x == ("__debug__" : Str)) = false := by decide)
    (hcd : (x == ("__classdict__" : Str)) = false := by decide) : PE X (.Call (.Attribute (.Name x px) "get" apos) [b, c] [] cpos) (tX X.K B (eDGet2 i g h)) := pe_weak (L2.pe_dget2 hu (pe_var hN hv hd hcd) hk hz m) fun σ H Q q => by
  obtain ⟨G, η, r, q⟩ := q
  unfold eDGet2 at q
  split at q
  · rename_i ks e
    obtain ⟨w, h1, aa, kvs, rfl, h0, hg, hh, ra⟩ := r.slot _ _ e
    refine ⟨_, h1, aa, rfl, .inl ⟨kvs, .inl hh⟩, tX.of r (sat_bind q) fun kd hk2 G1 H1 kv e1 rk => ?_⟩
    refine tX.of (r.extd e1) (sat_bind hk2) fun zd hz2 G2 H2 zv e2 rz => ?_
    obtain ⟨w', h1', aa', kvs', ew, h0', hg', hh', ra'⟩ := ((r.extd e1).extd e2).slot _ _ e
    rw [h1] at h1'
    cases h1'
    cases ew
    obtain ⟨hkd, hz2⟩ := sat_if hz2
    obtain ⟨k, ek, rfl⟩ := keyV_kV rk hkd
    refine ⟨valV kvs' k, DGet.k hh', ?_⟩
    cases z : dget ks kd with
    | none =>
      rw [z] at hz2
      rw [(kv_get ra' ek).2 z]
      exact hz2 G2 H2 zv (e1.trans e2) rz
    | some d =>
      rw [z] at hz2
      obtain ⟨v, z1, z2⟩ := (kv_get ra' ek).1 d z
      rw [z1]
      exact hz2 G2 H2 v (e1.trans e2) z2
  · exact q.elim
end
end Bk
end
/-! BkDefs -/
section
set_option Elab.async false
set_option linter.all false
set_option autoImplicit false
set_option maxRecDepth 100000
set_option maxHeartbeats 4000000
/-! BkDefs: defs, what they promise, their calls, refusals -/
namespace Bk
open PySem PySem.Spec PyProof.Rows L2
/-- the promise of a def that gives what φ gives -/
def spD (K : PySem.W.Frag) (cl : Cls → Addr) (n : Nat) (φ : List D → Res D) : Sp := fun vs H Q E => vs.length = n ∧ ∃ G ds, Ex G H ∧ RpAll K G vs ds ∧ (φ ds).Sat (fun d => ∀ G' H' v, Ext G H G' H' → Rp K G' v d → Q v H') (fun c => ∀ H', Ex H H' → E (.ref (cl c)) none H')
/-- the def x, of n arguments, stands in the module and keeps its promise at level k -/
structure DefOk (P : Program) (w : World) (K : PySem.W.Frag) (mg : Str → Option Value) (base : Heap) (cl : Cls → Addr) (k : Nat) (x : Str) (n : Nat) (φ : List D → Res D) : Prop where
  ex : ∃ (f : Addr) (fd : FuncData) (ps : List Str), FnOk P w K mg base (L2.CX P w) k f fd ps (spD K cl n φ) ∧ mg x = some (.ref f) ∧ PySem.W.keepIn K (.ref f) = true ∧ Binds K fd ps []
theorem DefOk.mono {P : Program} {w : World} {K : PySem.W.Frag} {mg : Str → Option Value} {base : Heap} {cl : Cls → Addr} {j k : Nat} {x : Str} {n : Nat} {φ : List D → Res D} (F : DefOk P w K mg base cl j x n φ) (h : j ≤ k) : DefOk P w K mg base cl k x n φ := by
  obtain ⟨f, fd, ps, F, r⟩ := F.ex
  exact ⟨⟨f, fd, ps, F.mono h, r⟩⟩
section
variable {X : Cx} {B : Bs} {a b c e : Expr} {es : List Expr} {pos p : Pos} {f g h : E} {fs : List E}
/-- f(e, ..) -/
theorem pv_call {k n : Nat} {x : Str} {φ : List D → Res D} (F : DefOk X.prog X.w X.K X.mg X.base B.cl k x n φ) (hr : Room k X.A) (hx : Passes (L2.CX X.prog X.w) X B.ex) (ha : PA X (e :: es) (tA X.K B fs)) (hn : fs.length = n := by rfl) (hg : Gl X x := by rfl)
    (hdb : (x == ("__debug__" : Str)) = false := by decide) (he : starEach (e :: es) X.env = (false, eval e X.env) :: starEach es X.env := by rfl) (hpl : (backTo pos (starEach es X.env)).any (·.1) = false := by rfl) :
    PE X (.Call (.Name x p) (e :: es) [] pos) (tX X.K B (eCall φ fs)) := by
  obtain ⟨fa, fd, ps, F, hm, hk, hb⟩ := F.ex
  refine pe_weak (pe_call F hr hg hm hk hb .nil hx ha hdb he hpl) fun σ H Q q => ?_
  obtain ⟨G, η, r, q⟩ := q
  refine tA.of r (evals_len (sat_bind q)) fun ds hds G1 H1 vs e1 r1 => ?_
  have e0 : vs ++ ([] : List V) = vs := List.append_nil vs
  rw [e0]
  refine ⟨by rw [r1.length, hds.1, hn], G1, ds, e1.gh, r1, Sat.mono hds.2 (fun d q G' H' v e2 r2 => q G' H' v (e1.trans e2) r2) fun c z H' x => z H' ((r.extd e1).ext.h.trans x)⟩
/-- a def's body -/
theorem fn_ok {P : Program} {w : World} {K : PySem.W.Frag} {mg : Str → Option Value} {base : Heap} {cl : Cls → Addr} {k : Nat} {x : Str} {n : Nat} {st : Stmt} {fa : Addr} {fd : FuncData} {N ps : List Str} {g : Bk.St} {sp : Sp} (F : Fun K x x st fa fd) (S : FnScope N ps (defScope st)) (hn : ps.length = n)
    (hsp : ∀ vs H Q E, sp vs H Q E → spD K cl n (runDef N.length g) vs H Q E)
    (hbody : ∀ (cdv : Value) (A : Around) (outer : List PySem.Env) (s : Shared) (H : Hp) (E : XK) (G : Hp), Room k (A.deeper (envOfC x (defScope st) s.heap.objs.size fa cdv)) →
      PSs (cxOf (L2.CX P w) P w K mg base N x (defScope st) fa cdv A outer s H E) (defBody st) (tS K { G0 := G, H0 := H, cl := cl, ex := E } g)) :
    FnOk P w K mg base (L2.CX P w) (k + 1) fa fd ps sp := by
  refine F.okX S (fun vs H Q E h => (hsp _ _ _ _ h).1.trans hn.symm) (fun cdv A outer s H vs Q E hr h => ?_)
  obtain ⟨hl, G, ds, ex, ra, h⟩ := hsp _ _ _ _ h
  refine ⟨_, hbody cdv A outer s H E G hr, G, ds.map (fun d => some (Bk.S.dat d)) ++ List.replicate (N.length - ds.length) Option.none, ⟨Ext.refl ex, ?_, fun i t e => ?_, fun i j t u v hij e1 e2 o1 _ => ?_⟩, ?_⟩
  · unfold L2.start
    rw [List.length_append, List.length_append, List.length_map, List.length_map, List.length_replicate, List.length_replicate, ra.length]
  · rw [List.getElem?_append] at e
    rw [List.length_map] at e
    by_cases hi : i < ds.length
    · rw [if_pos hi, List.getElem?_map] at e
      obtain ⟨d, hd⟩ : ∃ d, ds[i]? = some d := ⟨ds[i], List.getElem?_eq_getElem hi⟩
      rw [hd] at e
      cases e
      obtain ⟨v, h1, h2⟩ := ra.get hd
      refine ⟨v, ?_, h2⟩
      unfold L2.start
      rw [List.getElem?_append_left (by rw [List.length_map, ra.length]; exact hi), List.getElem?_map, h1]
      rfl
    · rw [if_neg hi, List.getElem?_replicate] at e
      split at e <;> cases e
  · rw [List.getElem?_append] at e1
    split at e1
    · rw [List.getElem?_map] at e1
      cases z : ds[i]? with
      | none =>
        rw [z] at e1
        cases e1
      | some d =>
        rw [z] at e1
        cases e1
        cases o1
    · rw [List.getElem?_replicate] at e1
      split at e1 <;> cases e1
  · unfold runDef at h
    cases z : g (ds.map (fun d => some (Bk.S.dat d)) ++ List.replicate (N.length - ds.length) Option.none) with
    | next η =>
      rw [z] at h
      exact fun G' H' σ' x r => h G' H' .non r.ext (.none)
    | ret d =>
      rw [z] at h
      exact fun G' H' v x r q => h G' H' v r q
    | raise c =>
      rw [z] at h
      exact fun H' x => h H' x
    | brk η =>
      rw [z] at h
      exact h.elim
    | ct η =>
      rw [z] at h
      exact h.elim
    | bad =>
      rw [z] at h
      exact h.elim
theorem DefOk.mk' {P : Program} {w : World} {K : PySem.W.Frag} {mg : Str → Option Value} {base : Heap} {cl : Cls → Addr} {k : Nat} {x : Str} {n : Nat} {st : Stmt} {fa : Addr} {fd : FuncData} {N ps : List Str} {g : Bk.St} (F : Fun K x x st fa fd) (S : FnScope N ps (defScope st)) (hn : ps.length = n) (hm : mg x = some (.ref fa)) (hb : Binds K fd ps [])
    (hbody : ∀ (cdv : Value) (A : Around) (outer : List PySem.Env) (s : Shared) (H : Hp) (E : XK) (G : Hp), Room k (A.deeper (envOfC x (defScope st) s.heap.objs.size fa cdv)) →
      PSs (cxOf (L2.CX P w) P w K mg base N x (defScope st) fa cdv A outer s H E) (defBody st) (tS K { G0 := G, H0 := H, cl := cl, ex := E } g)) :
    DefOk P w K mg base cl (k + 1) x n (runDef N.length g) := ⟨⟨fa, fd, ps, fn_ok F S hn (fun _ _ _ _ h => h) hbody, hm, F.kp, hb⟩⟩
end
/-- what a def's own frame passes on -/
theorem pass1 {P : Program} {w : World} {K : PySem.W.Frag} {mg : Str → Option Value} {base : Heap} {N : List Str} {x : Str} {sc : Scope} {fa : Addr} {cdv : Value} {A : Around} {outer : List PySem.Env} {s : Shared} {H : Hp} {E : XK} :
    Passes (L2.CX P w) (cxOf (L2.CX P w) P w K mg base N x sc fa cdv A outer s H E) E := passes_call (takes_of rfl rfl rfl rfl) fun _ _ _ _ h => h
end Bk
end
/-! BkText -/
section
set_option Elab.async false
set_option linter.all false
set_option autoImplicit false
set_option maxRecDepth 100000
set_option maxHeartbeats 4000000
/-! BkText: walks over texts: enumerate, reversed -/
namespace Bk
open PySem PySem.Spec PyProof.Rows L2
/-! ### enumerate(text) -/
def Itse (x : Str) : It := ⟨fun i _ => i < x.cps.size, fun i H v H' => ∃ T c, x.cps[i]? = some c ∧ v = .ref T ∧ H T = none ∧ H' = upd H T (.tup [.int (i : Nat), .str ⟨#[c]⟩]), fun i _ => x.cps.size ≤ i⟩
theorem draws_str {prog : Program} {w : World} {A : Around} (hh : A.handled = none) (it : Addr) (x : Str) (t : Tok) {ty : String} (hty : ty = "str_ascii_iterator" ∨ ty = "str_iterator") :
    Draws prog w A it [it] x.cps.size (fun i v => ∃ c u, x.cps[i]? = some c ∧ v = .str ⟨#[c]⟩ u) (fun i h => h.IsStrIter it ty x t i) := by
  rcases hty with e | e
  · rw [e]
    exact Draws.strAscii hh it x t
  · rw [e]
    exact Draws.strWide hh it x t
theorem turn_enumS {P : Program} {w : World} {K : PySem.W.Frag} {elts : List Expr} {kk : Nat} {tpos : Pos} (x : Str) (t : Tok) (ty : String) (hty : ty = "str_ascii_iterator" ∨ ty = "str_iterator") (e it : Addr) :
    Turn P w K (.Tuple elts kk tpos) (Itse x) [e, it] e (fun i h => (∃ old, IsEnum h e it ((i : Nat) : Int) old) ∧ h.IsStrIter it ty x t i ∧ e ≠ it) where
  mem := by simp
  obj := fun i h st b hb => by
    obtain ⟨⟨old, he⟩, ⟨o, ho, hc, hd⟩, _⟩ := st
    have e' : b = e ∨ b = it := by simpa using hb
    rcases e' with z | z
    · rw [z]; exact ⟨_, he, fun v q => nomatch q⟩
    · rw [z]; exact ⟨o, ho, fun v q => by rw [hd] at q; cases q⟩
  keep := fun i h h' st k => let ⟨⟨old, he⟩, ⟨o, ho, r⟩, hne⟩ := st; ⟨⟨old, k e (by simp) _ he⟩, ⟨o, k it (by simp) o ho, r⟩, hne⟩
  item := by
    intro X hP hw hK hc i pins s σ H E I hf st hg
    subst hP hw hK
    obtain ⟨⟨old, he⟩, hit, hne⟩ := st
    have hel : e < s.heap.objs.size := Heap.lt_size he
    have hil : it < s.heap.objs.size := by obtain ⟨_, q, _⟩ := hit; exact Heap.lt_size q
    have hef : e ∉ [it] := fun z => hne (List.mem_singleton.mp z)
    have DD := draws_str (prog := X.prog) (w := X.w) (A := X.A.in1) (show X.A.in1.handled = none from I.ok.hd hc) it x t hty
    refine wpAny_pyNext_enum_itemD DD he hit hg hne hef fun v h' tk hv ho hit' hT hsz hk => ?_
    obtain ⟨c, uu, hcx, rfl⟩ := hv
    refine ⟨_, rfl, wpAny_letOwnedTupleGo_enum (s := { s with heap := h', toks := tk + 1 }) ho fun h'' he' sb => ?_⟩
    have hT2 : h''.get? s.heap.objs.size = some { cls := .type "tuple", data := .seq #[.int i tk, .str ⟨#[c]⟩ uu] } := (sb.2 _ (Nat.ne_of_gt hel)).trans hT
    have new : ObjOk X.prog X.w (upd H s.heap.objs.size (.tup [.int (i : Nat), .str ⟨#[c]⟩])) h'' s.heap.objs.size (.tup [.int (i : Nat), .str ⟨#[c]⟩]) :=
      ⟨by show 2 ≤ sizeLine; decide, [.int i tk, .str ⟨#[c]⟩ uu], .cons ⟨_, rfl⟩ (.cons ⟨_, rfl⟩ .nil), ⟨_, hT2, rfl, _, rfl⟩⟩
    have I1 : Inv X pins σ (upd H s.heap.objs.size (.tup [.int (i : Nat), .str ⟨#[c]⟩])) { s with heap := h'', toks := tk + 1 } :=
      I.turnedNew (ch := [e, it]) (fun b ob hb q => (sb.2 b (fun z => hb (by simp [z]))).trans (hk b ob (fun z => hb (by simp [z])) (fun z => hb (by simp [z])) q)) hf (Nat.le_refl _) new
    refine ⟨.ref s.heap.objs.size, _, I1, rfl, ⟨_, c, hcx, rfl, I.hok.fresh (Nat.le_refl _), rfl⟩, ⟨⟨.str ⟨#[c]⟩ uu, ?_⟩, ?_, hne⟩, fun b hb => ?_⟩
    · have e1 : ((i + 1 : Nat) : Int) = (i : Int) + 1 := by omega
      rw [e1]; exact he'
    · obtain ⟨o, q, r⟩ := hit'
      exact ⟨o, (sb.2 it (Ne.symm hne)).trans q, r⟩
    · have hb' : b < s.heap.objs.size := by
        have e' : b = e ∨ b = it := by simpa using hb
        rcases e' with z | z
        · rw [z]; exact hel
        · rw [z]; exact hil
      rw [upd_ne (Nat.ne_of_lt hb')]
      exact (hf b hb).1
  done := by
    intro X hP hw hK hc i pins s σ H E I hf st hg
    subst hP hw hK
    obtain ⟨⟨old, he⟩, hit, hne⟩ := st
    obtain ⟨f0, f1, f2, f3, f4, f5⟩ := hf it (by simp)
    have hit2 : s.heap.IsStrIter it ty x t i := hit
    have hx : x.cps[i]? = none := Array.getElem?_eq_none hg
    have hend : ∀ (A : Around) (hh : A.handled = none) (s : Shared) (Q : Value → Shared → Prop) (E : Value → Shared → Prop), s.heap.IsStrIter it ty x t i →
        (∀ h' e, Heap.ExtBut it s.heap h' → (∃ o, h'.get? e = some o ∧ o.cls = .type "StopIteration") → E (.ref e) { s with heap := h' }) → wpAny (model X.prog X.w) A (Builtin.SmallTypes.nextOf (.ref it)) Q E s := by
      intro A hh s Q E st hE
      rcases hty with z | z
      · rw [z] at st
        exact wpAny_nextOf_ascii_end hh st hx hE
      · rw [z] at st
        exact wpAny_nextOf_wide_end hh st hx hE
    have D : Draws X.prog X.w X.A.in1 it [it] i (fun _ _ => False) (fun j h => j = i ∧ h.IsStrIter it ty x t i) :=
      { live := fun _ _ st => let ⟨_, o, ho, _⟩ := st; ⟨o, ho⟩
        frame := fun _ _ _ st hk => let ⟨e, o, ho, r⟩ := st; ⟨e, o, hk it (by simp) o ho, r⟩
        item := fun j s Q E hi st hQ => absurd st.1 (Nat.ne_of_lt hi)
        done := fun s Q E st hE => hend _ (show X.A.in1.handled = none from I.ok.hd hc) s Q E st.2 hE }
    exact wpAny_pyNext_enum_endD D he ⟨rfl, hit⟩ fun h' eb => ⟨rfl, I.turned (t' := s.toks) (fun b o hb q => eb b o hb q) f0 f1 f3 f4 f5⟩
  self := fun A i s Q E st h => let ⟨⟨_, he⟩, _⟩ := st; wpAny_pyIter_enum he h
def itEnumS (ta : TA) : TI := fun σ H R => ta σ H fun vs H1 => ∃ x, vs = [.str x] ∧ R (Itse x) H1
theorem pi_enumStr {X : Cx} {e : Expr} {ta : TA} {p pos tpos : Pos} {elts : List Expr} {kk : Nat} (hg : Gl X "enumerate") (hm : X.mg "enumerate" = none) (ha : PA X [e] ta) (hs : starEach [e] X.env = [(false, eval e X.env)] := by rfl) :
    PI X (.Tuple elts kk tpos) (.Call (.Name "enumerate" p) [e] [] pos) (itEnumS ta) := by
  refine ⟨fun pins s σ H R I h => ?_⟩
  refine Call_ (ld_blt I hg hm boot_enumerate (PyProof.Rows.callWith_type1 (thn (ha.run pos pins s σ H _ I h) fun us s1 ⟨vs, H1, I1, r1, q1⟩ => ?_) hs rfl))
  obtain ⟨x, ex, q⟩ := q1
  subst ex
  cases r1 with
  | cons r rr =>
    cases rr
    obtain ⟨t, rfl⟩ := r
    refine call_enumerate_str fun h' he hit hsz hk => wpAny_pyIter_enum he ?_
    have I2 : Inv X pins σ H1 { s1 with heap := h' } := I1.kept (t' := s1.toks) hk
    have hty : strIterType x = "str_ascii_iterator" ∨ strIterType x = "str_iterator" := by
      unfold strIterType
      split
      · exact .inl rfl
      · exact .inr rfl
    refine ⟨s1.heap.objs.size + 1, [s1.heap.objs.size + 1, s1.heap.objs.size], _, _, H1, rfl, I2, turn_enumS x t _ hty (s1.heap.objs.size + 1) s1.heap.objs.size, ⟨⟨.none, he⟩, hit, Nat.succ_ne_self _⟩, fun b hb => ?_, q⟩
    have e' : b = s1.heap.objs.size + 1 ∨ b = s1.heap.objs.size := by simpa using hb
    have hle : s1.heap.objs.size ≤ b := by
      rcases e' with z | z
      · rw [z]; exact Nat.le_add_right _ _
      · rw [z]; exact Nat.le_refl _
    exact I1.fpOk hle (I1.hok.fresh hle)

/-! ### reversed(text) -/
theorem norev_str : typeLookup (.type "str") "__reversed__" = pure none := by rw [typeLookup_type, builtinLookup_eq_fast]; kernel_rfl
theorem get_str' : typeLookup (.type "str") "__getitem__" = pure (some (.builtin "str.__getitem__")) := by rw [typeLookup_type, builtinLookup_eq_fast]; kernel_rfl
def rsObj (x : Str) (t : Tok) (i : Int) : Obj := { cls := .type "reversed", data := .fields #[.str x t, rawInt i] }
def IsRs (h : Heap) (a : Addr) (x : Str) (t : Tok) (i : Int) : Prop := ∃ o, h.get? a = some o ∧ o.cls = .type "reversed" ∧ o.data = .fields #[.str x t, rawInt i]
theorem IsRs.at {h h' : Heap} {a : Addr} {x : Str} {t : Tok} {i : Int} (z : IsRs h a x t i) (e : ∀ o, h.get? a = some o → h'.get? a = some o) : IsRs h' a x t i := let ⟨o, ho, r⟩ := z; ⟨o, e _ ho, r⟩
section
variable {prog : Program} {w : World} {A : Around} {E : Value → Shared → Prop} {s : Shared}
theorem IsRs.typeIs {a : Addr} {x : Str} {t : Tok} {i : Int} (z : IsRs s.heap a x t i) : s.TypeIs (.ref a) "reversed" := let ⟨o, ho, hc, _⟩ := z; ⟨o, ho, hc⟩
theorem code_reversed_str {x : Str} {t : Tok} {Q₁ : Value → Shared → Prop} (hl : x.length ≤ sizeLine)
    (h : Q₁ (.ref s.heap.objs.size) { s with heap := s.heap.push (rsObj x t ((x.length : Int) - 1)), toks := s.toks + 1 + 1 }) :
    codeAny (model prog w) A (.call (.builtin "reversed.__new__") ⟨[.type "reversed", .str x t], []⟩) (wants Q₁ E) s := by
  have hT : s.TypeIs (.str x t) "str" := typeIs_str _ _ _
  have hlen : ∀ (A : Around) (E : Value → Shared → Prop) (Q : Value → Shared → Prop), Q (.int x.length (s.toks + 1)) { s with toks := s.toks + 1 + 1 } → wpAny (model prog w) A (call (.builtin "len") [.str x t]) Q E s := fun A E Q k => len_str (by
    rw [line_eq] at hl
    unfold Bk.lim at hl
    omega) k
  refine codeAny_of_tree ?_
  show wpAny _ A.in1 (do checkBuiltinCall "reversed.__new__" ⟨[.type "reversed", .str x t], []⟩; again (.builtin "reversed.__new__" ⟨[.type "reversed", .str x t], []⟩)) _ _ s
  refine wpAny_bind (wpAny_of_eq (F.newCall_reversed_1 _) (wpAny_pure ⟨plainId_quiet F.plain_reversed_new _, codeAny_builtin F.entry_reversed_new ?_⟩))
  rw [Around.under_plainId F.plain_reversed_new _]
  unfold Builtin.«reversed.__new__»
  refine wpAny_bind (wpAny_of_eq (newClass_reversed _) ?_)
  try dsimp only
  refine wpAny_bind (wpAny_of_eq (a := ()) (by first | rfl | kernel_rfl) ?_)
  try dsimp only
  refine wpAny_bind (wpAny_of_eq (a := ()) (by first | rfl | kernel_rfl) ?_)
  try dsimp only
  refine wpAny_bind (wpAny_specialOf hT norev_str ?_)
  try dsimp only
  refine wpAny_bind ?_
  wp_delta
  refine wpAny_bind (wpAny_isInstance (T := "str") (U := "dict") (b := false) hT PySem.F.sub_str_dict ?_)
  try dsimp only
  try rw [if_neg Bool.false_ne_true]
  try dsimp only
  refine wpAny_bind (wpAny_specialOf hT get_str' ?_)
  try dsimp only
  try rw [if_pos (by decide +kernel)]
  refine wpAny_pure ?_
  try dsimp only
  try rw [if_neg (by decide)]
  try dsimp only
  refine wpAny_bind (hlen _ _ _ ?_)
  refine wpAny_bind (wpAny_of_eq (a := some ((x.length : Nat) : Int)) rfl ?_)
  try dsimp only
  refine wpAny_bind ?_
  show wpAny _ _ (newObj (.type "reversed") (.fields #[.str x t, rawInt ((x.length : Int) - 1)])) _ _ _
  refine wpAny_newObj_type ?_
  exact wpAny_pure h
theorem call_reversed_str {x : Str} {t : Tok} {Q : Value → Shared → Prop} (hl : x.length ≤ sizeLine)
    (h : Q (.ref s.heap.objs.size) { s with heap := s.heap.push (rsObj x t ((x.length : Int) - 1)), toks := s.toks + 1 + 1 }) : wpAny (model prog w) A (call (.type "reversed") [.str x t]) Q E s := by
  refine callType_codes (Q₁ := fun obj s₁ => s₁.TypeIs obj "reversed" ∧ Q obj s₁) RT.called_rt (F.typeCall_reversed_1 _) F.entry_object_init
    (code_reversed_str (A := A.in1) hl ⟨⟨_, Heap.get?_push_size _ rfl, rfl⟩, h⟩) fun obj s₁ h₁ => ?_
  exact ⟨h₁.1, F.args_object_init_2 obj _, object_init_meets RT.called_rt.init.lookup RT.called_rt.made (by decide) prog w A.in1 _ s₁ ⟨h₁.1, rfl, h₁.2⟩⟩
theorem next_rs_item {it : Addr} {x : Str} {t : Tok} {i : Nat} {c : Nat} {Q : Option Value → Shared → Prop} (hit : IsRs s.heap it x t (i : Int)) (hx : x.cps[i]? = some c) (hsz : x.length ≤ sizeLine)
    (hQ : ∀ h' u k, IsRs h' it x t ((i : Int) - 1) → Heap.SameBut it s.heap h' → Q (some (.str ⟨#[c]⟩ u)) { s with heap := h', toks := k }) : wpAny (model prog w) A (pyNext (.ref it)) Q E s := by
  obtain ⟨o, ho, hc, hd⟩ := id hit
  have hi : i < x.length := (Array.getElem?_eq_some_iff.mp hx).1
  have hT : s.TypeIs (.str x t) "str" := typeIs_str _ _ _
  rw [sizeLine_eq] at hsz
  unfold pyNext
  refine wpAny_bind (wpAny_attempt (wpAny_callSpecial?_slot (name := Str.ofString "__next__") hit.typeIs RT.slot_rt_next
    (wpAny_call_entry RT.slot_rt_next hit.typeIs RT.entry_rt_next ?_ (RT.args_rt_next _))))
  unfold Builtin.«reversed.__next__»
  refine wpAny_bind (wpAny_of_eq (a := (Value.ref it, [])) rfl ?_)
  try dsimp only
  refine wpAny_bind (wpAny_field ho hd (x := .str x t) rfl ?_)
  try dsimp only
  refine wpAny_bind (wpAny_field ho hd (x := rawInt (i : Int)) rfl ?_)
  show wpAny _ _ (if (i : Int) < 0 then _ else _) _ _ s
  rw [if_neg (by omega)]
  try dsimp only
  refine wpAny_bind (wpAny_specialOf hT get_str' ?_)
  try dsimp only
  try rw [if_neg (by decide)]
  try dsimp only
  refine wpAny_bind (wpAny_mkInt ?_)
  refine wpAny_bind (wpAny_attempt ?_)
  have fin : seqIndex? (i : Int) x.length = some i := seqIndex_of (by omega) (by omega)
  refine PySem.P.getItem_str (s := { s with toks := s.toks + 1 }) (c := c) (by
    have e1 : decide ((i : Int) < -(2 ^ 63 : Int)) = false := decide_eq_false (by omega)
    have e2 : decide ((i : Int) ≥ 2 ^ 63) = false := decide_eq_false (by omega)
    rw [e1, e2, Bool.or_false]) (by rw [fin]; exact hx) ?_
  try dsimp only
  refine wpAny_bind (wpAny_field (s := { s with toks := s.toks + 1 + 1 }) ho hd (x := rawInt (i : Int)) rfl ?_)
  try dsimp only
  refine wpAny_bind (wpAny_setField (s := { s with toks := s.toks + 1 + 1 }) ho hd (by simp) ?_)
  first
  | refine wpAny_pure ⟨_, rfl, wpAny_pure (hQ _ _ _ ?_ (Heap.SameBut.update ..))⟩
  | refine wpAny_bind (wpAny_pure (wpAny_pure ⟨_, rfl, wpAny_pure (hQ _ _ _ ?_ (Heap.SameBut.update ..))⟩))
  exact ⟨_, Heap.get?_update_self _ ho (Obj.isFreed_of_fields (Obj.data_mapFields hd _)), (Obj.cls_mapFields ..).trans hc, by
    rw [Obj.data_mapFields hd]; simp⟩
theorem next_rs_end {it : Addr} {x : Str} {t : Tok} {Q : Option Value → Shared → Prop} (hh : A.handled = none) (hit : IsRs s.heap it x t (-1))
    (hQ : ∀ h', Heap.ExtBut it s.heap h' → Q none { s with heap := h' }) : wpAny (model prog w) A (pyNext (.ref it)) Q E s := by
  obtain ⟨o, ho, hc, hd⟩ := id hit
  unfold pyNext
  refine wpAny_bind (wpAny_attempt (wpAny_callSpecial?_slot (name := Str.ofString "__next__") hit.typeIs RT.slot_rt_next
    (wpAny_call_entry RT.slot_rt_next hit.typeIs RT.entry_rt_next ?_ (RT.args_rt_next _))))
  unfold Builtin.«reversed.__next__»
  refine wpAny_bind (wpAny_of_eq (a := (Value.ref it, [])) rfl ?_)
  try dsimp only
  refine wpAny_bind (wpAny_field ho hd (x := .str x t) rfl ?_)
  try dsimp only
  refine wpAny_bind (wpAny_field ho hd (x := rawInt (-1)) rfl ?_)
  show wpAny _ _ (if (-1 : Int) < 0 then _ else _) _ _ s
  rw [if_pos (by decide)]
  try dsimp only
  refine wpAny_bind (wpAny_rule ?_)
  refine wpAny_bind ?_
  wp_delta
  refine wpAny_bind (wpAny_setField ho hd (by simp) ?_)
  have ho2 := Heap.get?_update_self (Obj.mapFields (·.setIfInBounds 1 (rawInt (-1)))) ho (Obj.isFreed_of_fields (Obj.data_mapFields hd _))
  refine wpAny_setField (s := { s with heap := s.heap.update it (Obj.mapFields (·.setIfInBounds 1 (rawInt (-1)))) }) ho2 (Obj.data_mapFields hd _) (by simp) ?_
  try dsimp only
  first
  | show wpAny _ _ (newExc (.type "StopIteration") [] >>= _) _ _ _
  | (refine wpAny_bind ?_; show wpAny _ _ (newExc (.type "StopIteration") [] >>= _) _ _ _)
  | (refine wpAny_bind ?_; wp_delta; show wpAny _ _ (newExc (.type "StopIteration") [] >>= _) _ _ _)
  refine wpAny_bind ?_
  simp only [newExc, newTuple]
  refine wpAny_bind (wpAny_newObj_type ?_ (by size_fits))
  refine wpAny_bind (m := firstArgMember _ _) (wpAny_of_eq (a := Value.none) (by first | rfl | (simp only [firstArgMember]; rfl)) ?_)
  refine wpAny_newObj_type ?_ (by size_fits)
  simp only [raiseNew]
  refine wpAny_bind (wpAny_handled ?_)
  first | rw [show A.in1.handled = none from hh] | rw [hh]
  refine wpAny_bind (wpAny_pure (wpAny_throw ?_))
  refine wpAny_bind (wpAny_isInstance (T := "StopIteration") (b := true) ⟨_, Heap.get?_push_size _ rfl, rfl⟩ isSubtype_stop ?_)
  refine wpAny_pure (hQ _ ?_)
  refine ((?_ : Heap.ExtBut it s.heap _).push _).push _
  exact fun b ob hb e => (Heap.get?_update_other _ _ (Ne.symm hb)).trans ((Heap.get?_update_other _ _ (Ne.symm hb)).trans e)
theorem iter_rs {it : Addr} {x : Str} {t : Tok} {i : Int} {Q : Value → Shared → Prop} (hit : IsRs s.heap it x t i) (h : Q (.ref it) s) : wpAny (model prog w) A (pyIter (.ref it)) Q E s := by
  refine wpAny_pyIter_slot hit.typeIs RT.slot_rt_iter (wpAny_call_entry RT.slot_rt_iter hit.typeIs RT.entry_rt_iter ?_ (RT.args_rt_iter _))
  show wpAny _ _ (ret (.ref it)) _ _ s
  exact wpAny_pure ⟨_, rfl, "reversed", _, hit.typeIs, RT.slot_rt_next.lookup, h⟩
end
def Itrs (x : Str) : It := ⟨fun i _ => i < x.cps.size, fun i H v H' => H' = H ∧ ∃ c, x.cps[x.cps.size - 1 - i]? = some c ∧ v = .str ⟨#[c]⟩, fun i _ => x.cps.size ≤ i⟩
theorem turn_rs {P : Program} {w : World} {K : PySem.W.Frag} {tg : Expr} (it : Addr) (x : Str) (t : Tok) (hl : x.length ≤ sizeLine) : Turn P w K tg (Itrs x) [it] it (fun i h => i ≤ x.cps.size ∧ IsRs h it x t ((x.cps.size : Int) - 1 - (i : Nat))) where
  mem := by simp
  obj := fun i h st b hb => by
    have e : b = it := by simpa using hb
    subst e
    obtain ⟨_, o, e, c, d⟩ := st
    exact ⟨o, e, fun v z => by rw [d] at z; cases z⟩
  keep := fun i h h' st k => ⟨st.1, st.2.at fun o e => k it (by simp) o e⟩
  item := by
    intro X hP hw hK hc i pins s σ H E I hf st hg
    subst hP hw hK
    have hin : i < x.cps.size := hg
    obtain ⟨f0, f1, f2, f3, f4, f5⟩ := hf it (by simp)
    obtain ⟨_, hit⟩ := st
    have e1 : (x.cps.size : Int) - 1 - ((i : Nat) : Int) = ((x.cps.size - 1 - i : Nat) : Int) := by omega
    rw [e1] at hit
    have hx : x.cps[x.cps.size - 1 - i]? = some x.cps[x.cps.size - 1 - i] := Array.getElem?_eq_getElem (by omega)
    refine next_rs_item hit hx hl fun h' u k st' sb => ?_
    have e2 : ((x.cps.size - 1 - i : Nat) : Int) - 1 = (x.cps.size : Int) - 1 - ((i + 1 : Nat) : Int) := by omega
    rw [e2] at st'
    have I1 : Inv X pins σ H { s with heap := h', toks := k } := I.turned (t' := k) (fun b o hb e => (sb.2 b hb).trans e) f0 f1 f3 f4 f5
    obtain ⟨o, e, c, d⟩ := id st'
    exact ⟨_, rfl, go_of (s := { s with heap := h', toks := k }) e c d (by decide) ⟨.str ⟨#[x.cps[x.cps.size - 1 - i]]⟩, H, I1, ⟨u, rfl⟩, ⟨rfl, _, hx, rfl⟩, ⟨hin, st'⟩, fun b hb => (hf b hb).1⟩⟩
  done := by
    intro X hP hw hK hc i pins s σ H E I hf st hg
    subst hP hw hK
    obtain ⟨f0, f1, f2, f3, f4, f5⟩ := hf it (by simp)
    obtain ⟨hin, hit⟩ := st
    have hge : x.cps.size ≤ i := hg
    have e1 : (x.cps.size : Int) - 1 - ((i : Nat) : Int) = -1 := by omega
    rw [e1] at hit
    exact next_rs_end (I.ok.hd hc) hit fun h' eb => ⟨rfl, I.turned (t' := s.toks) (fun b o hb e => eb b o hb e) f0 f1 f3 f4 f5⟩
  self := fun A i s Q E st h => iter_rs st.2 h
def itRevStr (te : TE) : TI := fun σ H R => te σ H fun v H1 => ∃ x, v = .str x ∧ x.length ≤ sizeLine ∧ R (Itrs x) H1
theorem pi_revStr {X : Cx} {tg e : Expr} {te : TE} {p pos : Pos} (hg : Gl X "reversed") (hm : X.mg "reversed" = none) (he : PE X e te) (hs : starEach [e] X.env = (false, eval e X.env) :: starEach [] X.env := by rfl) : PI X tg (.Call (.Name "reversed" p) [e] [] pos) (itRevStr te) := by
  refine ⟨fun pins s σ H R I h => ?_⟩
  refine Call_ (ld_blt I hg hm PyProof.Rows.boot_reversed (PyProof.Rows.callWith_type1 (args_cons (thn (he.run pins s σ H _ I h) fun u s1 ⟨v, H1, I1, r1, q1⟩ => args_nil ?_) hs) hs rfl))
  obtain ⟨x, rfl, hl, q⟩ := q1
  obtain ⟨t, rfl⟩ := _root_.id r1
  have e1 : ((x.length : Nat) : Int) - 1 = (x.cps.size : Int) - 1 - ((0 : Nat) : Int) := by
    show (x.cps.size : Int) - 1 = _
    omega
  refine call_reversed_str hl (iter_rs (x := x) (t := t) (i := ((x.length : Nat) : Int) - 1) ⟨_, Heap.get?_push_size _ rfl, rfl, rfl⟩ ?_)
  refine pi_one (tk := s1.toks + 1 + 1) I1 _ (turn_rs _ x t hl) ⟨Nat.zero_le _, ?_⟩ q
  rw [← e1]
  exact ⟨_, Heap.get?_push_size _ rfl, rfl, rfl⟩
end Bk
end
/-! BkMore -/
section
set_option Elab.async false
set_option linter.all false
set_option autoImplicit false
set_option maxRecDepth 100000
set_option maxHeartbeats 4000000
/-! BkMore: walks with numbers, from behind; methods of texts; refusals; the defs' heads -/
namespace Bk
open PySem PySem.Spec PyProof.Rows L2
section
variable {X : Cx} {B : Bs} {a b c e tg iter : Expr} {es : List Expr} {pos p : Pos} {f g h : E} {fs : List E}
theorem enumL_len (k : Nat) : ∀ ds : List D, (enumL k ds).length = ds.length
  | [] => rfl
  | _ :: r => congrArg (· + 1) (enumL_len (k + 1) r)
theorem enumL_get : ∀ (k : Nat) (ds : List D) (i : Nat), (enumL k ds)[i]? = (ds[i]?).map fun d => .tup [.int ((k + i : Nat) : Int), d]
  | k, [], i => by simp [enumL]
  | k, d :: r, 0 => by simp [enumL]
  | k, d :: r, i + 1 => by
    have e := enumL_get (k + 1) r i
    have e2 : k + 1 + i = k + (i + 1) := by omega
    rw [e2] at e
    simpa [enumL] using e
theorem newTup {K : PySem.W.Frag} {G H : Hp} {T : Addr} {vs : List V} {ds : List D} (e : Ex G H) (h : H T = none) (ra : RpAll K G vs ds) : Ext G H (upd G T (.tup vs)) (upd H T (.tup vs)) ∧ Rp K (upd G T (.tup vs)) (.ref T) (.tup ds) := by
  have x : Ext G H (upd G T (.tup vs)) (upd H T (.tup vs)) := Ext.new e h
  exact ⟨x, .tup (.inl (.inl upd_same)) (ra.mono x.g)⟩
theorem walkd_enumS {K : PySem.W.Frag} {G : Hp} (s : List Nat) : WalkD K (Itse (Sx s)) G (enumL 0 (signs s)) := by
  refine ⟨fun i H hi _ => ?_, fun H _ => ?_, fun i H x H' d hd _ y G1 e1 e2 => ?_⟩
  · rw [enumL_len, signs_len] at hi
    show i < s.toArray.size
    simpa using hi
  · show s.toArray.size ≤ (enumL 0 (signs s)).length
    rw [enumL_len, signs_len]
    simp
  · obtain ⟨T, c, h1, rfl, hT, rfl⟩ := y
    have h1 : s.toArray[i]? = some c := h1
    rw [List.getElem?_toArray] at h1
    rw [enumL_get] at hd
    unfold signs at hd
    rw [List.getElem?_map, h1] at hd
    cases hd
    rw [Nat.zero_add]
    exact ⟨_, newTup e2 hT (.cons (.int _) (.cons (.str [c]) .nil))⟩
theorem walkd_enumL {K : PySem.W.Frag} {G : Hp} {aa : Addr} {vs : List V} {ds : List D} (hs : SqL K G aa vs) (ra : RpAll K G vs ds) : WalkD K (Ite K aa) G (enumL 0 ds) := by
  refine ⟨fun i H hi ex => ?_, fun H ex => ⟨vs, ex.l hs, by rw [enumL_len]; exact Nat.le_of_eq ra.length⟩, fun i H x H' d hd ex y G1 e1 e2 => ?_⟩
  · rw [enumL_len] at hi
    have hi' : i < vs.length := by rw [ra.length]; exact hi
    exact ⟨vs, vs[i], ex.l hs, List.getElem?_eq_getElem hi'⟩
  · obtain ⟨T, x1, rfl, hT, rfl, y⟩ := y
    rw [enumL_get, Nat.zero_add] at hd
    cases z : ds[i]? with
    | none =>
      rw [z] at hd
      cases hd
    | some d1 =>
      rw [z] at hd
      cases hd
      obtain ⟨v, h1, h2⟩ := ra.get z
      have := y vs (ex.l hs)
      rw [h1] at this
      cases this
      exact ⟨_, newTup e2 hT (.cons (.int _) (.cons (h2.mono e1) .nil))⟩
/-- enumerate of a text, a list -/
theorem pi_enumS {elts : List Expr} {kk : Nat} {tpos : Pos} (hm : X.mg "enumerate" = none) (ha : PE X a (tX X.K B f)) (hg : Gl X "enumerate" := by rfl) (h0 : starEach [a] X.env = (false, eval a X.env) :: starEach [] X.env := by rfl) (hs : starEach [a] X.env = [(false, eval a X.env)] := by rfl) :
    PI X (.Tuple elts kk tpos) (.Call (.Name "enumerate" p) [a] [] pos) (tI X.K B (iEnum f)) := by
  have hl := L2.pi_enum (tpos := tpos) (elts := elts) (kk := kk) (p := p) (pos := pos) hg hm (pa_cons ha pa_nil h0) hs
  have ht := pi_enumStr (tpos := tpos) (elts := elts) (kk := kk) (p := p) (pos := pos) hg hm (pa_cons ha pa_nil h0) hs
  refine ⟨fun pins s σ H R I q => ?_⟩
  obtain ⟨G, η, r, q⟩ := q
  have q := sat_bind q
  cases z : f η with
  | ok d =>
    rw [z] at q
    have fin : ∀ Q : VK, (∀ G' H' v, Ext G H G' H' → Rp X.K G' v d → Q v H') → tX X.K B f σ H Q := fun Q k => ⟨G, η, r, by rw [z]; exact k⟩
    cases d with
    | lst ds => exact hl.run pins s σ H R I (fin _ fun G1 H1 v e1 r1 => by
        cases r1 with
        | lst hs ra => exact ⟨_, _, rfl, e1.gh.l hs, q G1 H1 _ e1 (walkd_enumL hs ra)⟩)
    | str ds => exact ht.run pins s σ H R I (fin _ fun G1 H1 v e1 r1 => by
        cases r1
        exact ⟨_, rfl, q G1 H1 _ e1 (walkd_enumS ds)⟩)
    | _ => exact q.elim
  | raise cl =>
    rw [z] at q
    exact hl.run pins s σ H R I ⟨G, η, r, by rw [z]; exact q⟩
  | bad =>
    rw [z] at q
    exact q.elim
theorem walkd_revS {K : PySem.W.Frag} {G : Hp} (s : List Nat) : WalkD K (Itrs (Sx s)) G (signs s.reverse) := by
  refine ⟨fun i H hi _ => ?_, fun H _ => ?_, fun i H x H' d hd _ y G1 e1 e2 => ?_⟩
  · rw [signs_len, List.length_reverse] at hi
    show i < s.toArray.size
    simpa using hi
  · show s.toArray.size ≤ (signs s.reverse).length
    rw [signs_len, List.length_reverse]
    simp
  · obtain ⟨rfl, c, h1, rfl⟩ := y
    have h1 : s.toArray[s.toArray.size - 1 - i]? = some c := h1
    rw [List.getElem?_toArray, List.size_toArray] at h1
    have hi := lt_of_get hd
    rw [signs_len, List.length_reverse] at hi
    unfold signs at hd
    rw [List.getElem?_map, List.getElem?_reverse hi, h1] at hd
    cases hd
    exact ⟨G1, Ext.refl e2, .str [c]⟩
theorem pi_revS (hm : X.mg "reversed" = none) (ha : PE X a (tX X.K B f)) (hg : Gl X "reversed" := by rfl) (h0 : starEach [a] X.env = (false, eval a X.env) :: starEach [] X.env := by rfl) : PI X tg (.Call (.Name "reversed" p) [a] [] pos) (tI X.K B (iRevS f)) :=
  pi_weak (pi_revStr hg hm ha h0) fun σ H R q => by
    obtain ⟨G, η, r, q⟩ := q
    refine tX.of r (sat_bind q) fun x hx G1 H1 v e1 r1 => ?_
    cases r1 with
    | str s =>
      obtain ⟨hl, hx⟩ := sat_if hx
      exact ⟨_, rfl, by rw [sx_len, line_eq]; exact hl, hx G1 H1 _ e1 (walkd_revS s)⟩
    | _ => exact hx.elim
/-! ### methods of texts -/
theorem joinS_eq (sep : List Nat) : ∀ l : List (List Nat), Txt.join (Sx sep) (l.map Sx) = Sx (joinS sep l) := by
  have key : ∀ (l : List (List Nat)) (acc : List Nat), ((l.map Sx).foldl (fun (acc : Array Nat) (p : Str) => acc ++ (Sx sep).cps ++ p.cps) acc.toArray) = (acc ++ (l.map fun x => sep ++ x).flatten).toArray := by
    intro l
    induction l with
    | nil => intro acc; simp
    | cons x r ih =>
      intro acc
      rw [List.map_cons, List.foldl_cons]
      have e : acc.toArray ++ (Sx sep).cps ++ (Sx x).cps = (acc ++ sep ++ x).toArray := by simp [Sx]
      rw [e, ih]
      simp
  have key2 : ∀ (x : List Nat) (r : List (List Nat)), joinS sep (x :: r) = x ++ (r.map fun x => sep ++ x).flatten := by
    intro x r
    induction r generalizing x with
    | nil => simp [joinS]
    | cons y r ih =>
      show x ++ sep ++ joinS sep (y :: r) = _
      rw [ih]
      simp
  intro l
  cases l with
  | nil => rfl
  | cons x r =>
    rw [key2]
    show Str.mk (((x :: r).map Sx).drop 1 |>.foldl (fun acc p => acc ++ (Sx sep).cps ++ p.cps) _) = _
    rw [List.map_cons, List.drop_succ_cons, List.drop_zero]
    show Str.mk ((r.map Sx).foldl (fun acc p => acc ++ (Sx sep).cps ++ p.cps) x.toArray) = _
    rw [key]
theorem lenSum_eq : ∀ l : List (List Nat), ((l.map Sx).map (·.length)).sum = lenSum l
  | [] => rfl
  | x :: r => by
    rw [List.map_cons, List.map_cons, List.sum_cons, lenSum_eq r, sx_len]
    rfl
theorem pv_join {sep : List Nat} {apos : Pos} (ha : PE X a (tX X.K B (eC (.str sep)))) (hb : PE X b (tX X.K B g)) (hs : starEach [b] X.env = [(false, eval b X.env)] := by rfl) (hbase : attributeBase a "join" X.env (eval a X.env) = eval a X.env := by rfl) (hline : (apos.endLine == pos.line) = true := by rfl) :
    PE X (.Call (.Attribute a "join" apos) [b] [] pos) (tX X.K B (eBin dJoin (eC (.str sep)) g)) := pe_weak (pe_join ha hb hs hbase hline) fun σ H Q q => by
  obtain ⟨G, η, r, q⟩ := q
  refine tX.of r (P := fun x => x = .str sep) rfl fun x hx G1 H1 v e1 r1 => ?_
  subst hx
  cases r1
  refine ⟨⟨_, rfl⟩, tX.of (r.extd e1) (sat_bind q) fun y hy G2 H2 w e2 r2 => ?_⟩
  have hy2 := sat_calm (R' := fun _ => False) hy
  clear hy
  cases r2 with
  | lst hs ra =>
    rename_i aa vs ds
    have hy := hy2
    cases z : strsL ds with
    | none =>
      simp [dJoin, z, Res.Sat] at hy
    | some ss =>
      simp only [dJoin, z] at hy
      obtain ⟨hl, hy⟩ := sat_if hy
      have ev := ra.txts z
      subst ev
      refine ⟨_, _, ss.map Sx, rfl, rfl, .inl (e2.gh.l hs), ?_, ?_⟩
      · rw [lenSum_eq, sx_len, List.length_map]
        exact hl
      · rw [joinS_eq]
        exact hy G2 H2 _ (e1.trans e2) (.str _)
  | _ => exact hy2.elim
theorem cnt_eq (c : Nat) : ∀ l : List Nat, cnt c l = (l.count c : Nat)
  | [] => rfl
  | n :: r => by
    rw [cnt_cons, cnt_eq c r, List.count_cons]
    by_cases h : n = c
    · subst h
      simp
      omega
    · rw [if_neg h]
      simp [h]
/-- s.count(one sign) -/
theorem pv_count {d : D} {apos : Pos} (ha : PE X a (tX X.K B f)) (hb : PE X b (tX X.K B (eC d))) (hs : starEach [b] X.env = [(false, eval b X.env)] := by rfl) (hbase : attributeBase a "count" X.env (eval a X.env) = eval a X.env := by rfl) (hline : (apos.endLine == pos.line) = true := by rfl) :
    PE X (.Call (.Attribute a "count" apos) [b] [] pos) (tX X.K B (eBin dCount f (eC d))) := pe_weak (pe_m1 F.slot_str_count F.type_str_count mt_count ha hb hs hbase hline) fun σ H Q q => by
  obtain ⟨G, η, r, q⟩ := q
  refine tX.of r (sat_bind q) fun x hx G1 H1 v e1 r1 => ?_
  have hx : (dCount x d).calm.Sat _ _ := hx
  have hx := sat_calm (R' := fun _ => False) hx
  cases r1 with
  | str s =>
    cases d with
    | str t =>
      rcases t with _ | ⟨c, _ | ⟨c2, t⟩⟩
      · exact hx.elim
      · obtain ⟨hl, hx⟩ := sat_if hx
        refine ⟨⟨_, rfl⟩, tX.of (r.extd e1) (P := fun x => x = .str [c]) rfl fun y hy G2 H2 w e2 r2 => ?_⟩
        subst hy
        cases r2
        refine ⟨_, _, rfl, rfl, ?_⟩
        have e : Txt.count (Sx s) (Sx [c]) = (s.count c : Nat) := (count_is (Sx s) c).trans (cnt_eq c s)
        rw [e]
        exact hx G2 H2 _ (e1.trans e2) (.int _)
      · exact hx.elim
    | _ => exact hx.elim
  | _ => cases d <;> exact hx.elim
/-- {'(': 1, ')': -1}.get(e, d) -/
theorem pv_sign {p1 p2 p3 p4 p5 apos cpos : Pos} {j1 j2 j3 j4 : Nat} (hu : X.A.units + 1 < cLine) (ha : PE X a (tX X.K B f)) (hb : PE X b (tX X.K B g))
    (m : M2 X (.Dict [some (.Constant (.str "(") j1 p1), some (.Constant (.str ")") j2 p2)] [.Constant (.int 1) j3 p3, .UnaryOp .USub (.Constant (.int 1) j4 p4) p5] p) "get" apos a b cpos := by exact ⟨rfl, rfl, rfl, rfl⟩) :
    PE X (.Call (.Attribute (.Dict [some (.Constant (.str "(") j1 p1), some (.Constant (.str ")") j2 p2)] [.Constant (.int 1) j3 p3, .UnaryOp .USub (.Constant (.int 1) j4 p4) p5] p) "get" apos) [a, b] [] cpos) (tX X.K B (eSign f g)) := by
  have hd := pe_disp (X := X) (pos := p) (pps_cons (pe_str (x := "(") (j := j1) (pos := p1)) (pe_int (i := 1) (j := j3) (pos := p3)) (pps_cons (pe_str (x := ")") (j := j2) (pos := p2)) (pe_un un_neg (pe_int (i := 1) (j := j4) (pos := p4)) (pos := p5)) pps_nil)) rfl rfl (by simp) (by show 2 ≤ 15; decide)
  refine pe_weak (L2.pe_dget2 hu hd ha hb m) fun σ H Q q => ?_
  obtain ⟨G, η, r, q⟩ := q
  intro p0 hp
  refine ⟨1, rfl, ?_⟩
  have hH : upd (upd H p0 (.dK [])) p0 (.dK (mergeK [] [(.inr "(", V.int 1), (.inr ")", V.int (-1))])) = upd H p0 (.dK [(.inr "(", V.int 1), (.inr ")", V.int (-1))]) := by
    funext z
    by_cases hz : z = p0
    · subst hz
      rw [upd_same, upd_same]
      rfl
    · rw [upd_ne hz, upd_ne hz, upd_ne hz]
  refine ⟨upd_same, [(.inr "(", V.int 1), (.inr ")", V.int (-1))], rfl, by decide, ?_⟩
  rw [hH]
  have x0 : Ext G H G (upd H p0 (.dK [(.inr "(", V.int 1), (.inr ")", V.int (-1))])) := Ext.drop r.exg hp
  refine ⟨p0, rfl, .inl ⟨_, .inl upd_same⟩, ?_⟩
  refine tX.of (r.extd x0) (sat_bind q) fun x hx G1 H1 v e1 r1 => ?_
  refine tX.of ((r.extd x0).extd e1) (sat_bind hx) fun y hy G2 H2 w e2 r2 => ?_
  have hy := sat_calm (R' := fun _ => False) hy
  cases r1 with
  | str s =>
    have hh : H2 p0 = some (.dK [(.inr "(", V.int 1), (.inr ")", V.int (-1))]) := e2.h _ _ (e1.h _ _ upd_same)
    refine ⟨_, DGet.k (k := .inr (Sx s)) hh, ?_⟩
    have e40 : ("(" : Str) = Sx [40] := by decide +kernel
    have e41 : (")" : Str) = Sx [41] := by decide +kernel
    by_cases h1 : s = [40]
    · subst h1
      exact hy G2 H2 _ ((x0.trans e1).trans e2) (.int 1)
    · by_cases h2 : s = [41]
      · subst h2
        exact hy G2 H2 _ ((x0.trans e1).trans e2) (.int (-1))
      · have ev : valV (κ := Key) [(.inr "(", V.int 1), (.inr ")", V.int (-1))] (.inr (Sx s)) = none := by
          have k1 : decide ((.inr "(" : Key) = .inr (Sx s)) = false := decide_eq_false fun z => h1 (sx_inj (by rw [← Sum.inr.inj z, e40]))
          have k2 : decide ((.inr ")" : Key) = .inr (Sx s)) = false := decide_eq_false fun z => h2 (sx_inj (by rw [← Sum.inr.inj z, e41]))
          unfold valV
          rw [List.find?_cons, List.find?_cons]
          simp only [k1, k2]
          rfl
        rw [ev]
        have hy : (Res.ok (if s = [40] then D.int 1 else if s = [41] then D.int (-1) else y)).Sat _ _ := hy
        rw [if_neg h1, if_neg h2] at hy
        exact hy G2 H2 _ ((x0.trans e1).trans e2) r2
  | _ => exact hy.elim
end
/-! ### refusals -/
structure ErrC (K : PySem.W.Frag) (mg : Str → Option Value) (C : Addr) (x : Str) : Prop where
  g : mg x = some (.ref C)
  x : PySem.W.excIn K C [.type "ValueError", .type "Exception", .type "BaseException", .type "object"] "ValueError.__new__" = true
  k : PySem.W.keepIn K (.ref C) = true
  b : PySem.W.subIn K (.ref C) (.type "BaseException") = some true
  t : PySem.W.typeIn K (.ref C) = some (.type "type")
structure Errs (K : PySem.W.Frag) (mg : Str → Option Value) (cl : Cls → Addr) : Prop where
  r : ErrC K mg (cl .noRow) "NoRow"
  p : ErrC K mg (cl .noPlace) "NoPlace"
theorem s_raise {X : Cx} {B : Bs} {c : Cls} {x m : Str} {j : Nat} {p p2 pos pos2 : Pos} (E : ErrC X.K X.mg (B.cl c) x) (tk : Takes X (fun cls d _ H => B.ex cls d H)) (hc : X.calm = true := by rfl) (hg : Gl X x := by rfl) (hdb : (x == ("__debug__" : Str)) = false := by decide) :
    PS X (.Raise (some (.Call (.Name x p) [.Constant (.str m) j p2] [] pos2)) none pos) (tS X.K B (sRaise c)) :=
  ps_weak (ps_raise hc tk (pmk_own PySem.F.excBase_ValueError E.x E.g E.k (raises_own E.b E.t) hg hdb)) fun D σ H q => by
    obtain ⟨G, η, r, q⟩ := q
    exact q H r.ext.h
/-! ### heads -/
structure Has (K : PySem.W.Frag) (mg : Str → Option Value) (x : Str) (st : Stmt) (ps : List Str) : Prop where
  ex : ∃ (fa : Addr) (fd : FuncData), Fun K x x st fa fd ∧ mg x = some (.ref fa) ∧ Binds K fd ps []
section
variable {P : Program} {w : World} {K : PySem.W.Frag} {mg : Str → Option Value} {base : Heap} {cl : Cls → Addr} {k : Nat} {x : Str} {st : Stmt} {ps N : List Str} {n : Nat}
theorem Has.ok {g : Bk.St} (F : Has K mg x st ps) (S : FnScope N ps (defScope st)) (hn : ps.length = n)
    (hbody : ∀ (cdv : Value) (A : Around) (outer : List PySem.Env) (s : Shared) (H : Hp) (E : XK) (G : Hp) (fa : Addr), Room k (A.deeper (envOfC x (defScope st) s.heap.objs.size fa cdv)) →
      (A.deeper (envOfC x (defScope st) s.heap.objs.size fa cdv)).units + 64 < cLine → (A.deeper (envOfC x (defScope st) s.heap.objs.size fa cdv)).units + 1 < cLine → (A.deeper (envOfC x (defScope st) s.heap.objs.size fa cdv)).units + 12 < cLine →
      PSs (cxOf (L2.CX P w) P w K mg base N x (defScope st) fa cdv A outer s H E) (defBody st) (tS K { G0 := G, H0 := H, cl := cl, ex := E } g)) :
    DefOk P w K mg base cl (k + 1) x n (runDef N.length g) := by
  obtain ⟨fa, fd, F, hm, hb⟩ := F.ex
  exact DefOk.mk' F S hn hm hb fun cdv A outer s H E G hr => hbody cdv A outer s H E G fa hr hr.units (Nat.lt_of_le_of_lt (Nat.add_le_add_left (by decide) _) hr.units) (Nat.lt_of_le_of_lt (Nat.add_le_add_left (by decide) _) hr.units)
/-- the law's promise: what it gives for data, where it is not refused -/
def spL (K : PySem.W.Frag) (φ : List D → Res D) : Sp := fun vs H Q _ => vs.length = 1 ∧ ∃ G ds, Ex G H ∧ RpAll K G vs ds ∧ (φ ds).Sat (fun d => ∀ G' H' v, Ext G H G' H' → Rp K G' v d → Q v H') (fun _ => False)
theorem fn_okL {g : Bk.St} {fa : Addr} {fd : FuncData} (cl : Cls → Addr) (F : Fun K x x st fa fd) (S : FnScope N ps (defScope st)) (hn : ps.length = 1)
    (hbody : ∀ (cdv : Value) (A : Around) (outer : List PySem.Env) (s : Shared) (H : Hp) (E : XK) (G : Hp), Room k (A.deeper (envOfC x (defScope st) s.heap.objs.size fa cdv)) →
      (A.deeper (envOfC x (defScope st) s.heap.objs.size fa cdv)).units + 64 < cLine → (A.deeper (envOfC x (defScope st) s.heap.objs.size fa cdv)).units + 1 < cLine → (A.deeper (envOfC x (defScope st) s.heap.objs.size fa cdv)).units + 12 < cLine →
      PSs (cxOf (L2.CX P w) P w K mg base N x (defScope st) fa cdv A outer s H E) (defBody st) (tS K { G0 := G, H0 := H, cl := cl, ex := E } g)) :
    FnOk P w K mg base (L2.CX P w) (k + 1) fa fd ps (spL K (runDef N.length g)) :=
  fn_ok F S hn (fun vs H Q E h => let ⟨h1, G, ds, h2, h3, h4⟩ := h; ⟨h1, G, ds, h2, h3, Sat.mono h4 (fun _ z => z) fun _ z => z.elim⟩) fun cdv A outer s H E G hr => hbody cdv A outer s H E G hr hr.units (Nat.lt_of_le_of_lt (Nat.add_le_add_left (by decide) _) hr.units) (Nat.lt_of_le_of_lt (Nat.add_le_add_left (by decide) _) hr.units)
theorem spL_start {φ : List D → Res D} {H : Hp} {a : Addr} {ns : List Int} (hS : SqL K H a (ns.map V.int)) (h : φ [.lst (ns.map D.int)] = .ok (.bool true)) : spL K φ [.ref a] H (fun v _ => v = .bl true) fun _ _ _ => False := by
  refine ⟨rfl, H, [.lst (ns.map D.int)], Ex.refl H, .cons (.lst hS (RpAll.ofInts ns)) .nil, ?_⟩
  rw [h]
  intro G' H' v _ r
  cases r
  rfl
theorem bits_log {z : Int} {n : Nat} (h : Builtin.Int.intBits z ≤ n) : z.natAbs.log2 ≤ n := by
  unfold Builtin.Int.intBits at h
  by_cases e : (z == 0) = true
  · have : z = 0 := by simpa using e
    subst this
    exact Nat.zero_le _
  · rw [if_neg e] at h
    omega
theorem cx_end {P : Program} {w : World} {H : Hp} {s s' : Shared} {e : Value} (h : L2.CX P w [] H s (fun _ _ _ => False) e s') : False := by
  obtain ⟨_, _, _, _, _, _, _, _, _, _, _, _, z⟩ := h
  exact z
theorem Has.zero (F : Has K mg x st ps) (S : FnScope N ps (defScope st)) (hn : ps.length = n) : DefOk P w K mg base cl (k + 1) x n (fun _ => .bad) := by
  obtain ⟨fa, fd, F, hm, hb⟩ := F.ex
  refine ⟨⟨fa, fd, ps, F.okX S (fun vs H Q E h => ?_) (fun cdv A outer s H vs Q E hr h => ?_), hm, F.kp, hb⟩⟩
  · obtain ⟨_, G, ds, _, _, h⟩ := h
    exact h.elim
  · obtain ⟨_, G, ds, _, _, h⟩ := h
    exact h.elim
theorem Has.mk' {f : Addr} {oc : Value} {od an : Option Addr} {osl : Array (Option Value)} {kV doc pm cdv ct : Value} (a : mg x = some (.ref f)) (l : K.lookup f = some ⟨oc, od, .func (PySem.W.fnOf x x (defArgs st) (defBody st) (defScope st) .none kV doc pm an cdv ct), osl⟩)
    (c : PySem.W.codeIn K cdv x = true) (kp : PySem.W.keepIn K (.ref f) = true)
    (b : ∀ (kV doc pm : Value) (an : Option Addr) (cdv ct : Value) (us : List Value), us.length = ps.length → bindArgs (PySem.W.fnOf x x (defArgs st) (defBody st) (defScope st) .none kV doc pm an cdv ct) ⟨us, []⟩ = pure (ps.zip us)) : Has K mg x st ps :=
  ⟨⟨f, _, fun_mk l c kp, a, (fun_mk l c kp).binds b⟩⟩
end
/-- no built-in's name is covered -/
structure Bi (mg : Str → Option Value) : Prop where
  m_len : mg "len" = none
  m_int : mg "int" = none
  m_min : mg "min" = none
  m_max : mg "max" = none
  m_sum : mg "sum" = none
  m_all : mg "all" = none
  m_list : mg "list" = none
  m_tuple : mg "tuple" = none
  m_sorted : mg "sorted" = none
  m_isinstance : mg "isinstance" = none
  m_str : mg "str" = none
  m_bool : mg "bool" = none
  m_range : mg "range" = none
  m_enumerate : mg "enumerate" = none
  m_reversed : mg "reversed" = none
  m_zip : mg "zip" = none
  m_ValueError : mg "ValueError" = none
end Bk
end
/-! BkTry -/
section
set_option Elab.async false
set_option linter.all false
set_option autoImplicit false
set_option maxRecDepth 100000
set_option maxHeartbeats 4000000
/-! BkTry: try: a call that may be refused; except .. as e: what e is -/
namespace Bk
open PySem PySem.Spec PyProof.Rows L2
theorem RpE.forget {K : PySem.W.Frag} {G0 H0 G H : Hp} {σ : L2.St} {η : Env} (r : RpE K G0 H0 G H σ η) (i : Nat) (z : Option V) : RpE K G0 H0 G H (σ.set i z) (η.set i Option.none) := by
  have key : ∀ (j : Nat) s, (η.set i Option.none)[j]? = some (some s) → i ≠ j ∧ η[j]? = some (some s) := fun j s e => by
    by_cases hj : i = j
    · subst hj
      have hl : i < η.length := by simpa using lt_of_get e
      rw [List.getElem?_set_self hl] at e
      cases e
    · rw [List.getElem?_set_ne hj] at e
      exact ⟨hj, e⟩
  refine ⟨r.ext, by rw [List.length_set, List.length_set]; exact r.len, fun j s e => ?_, fun j k s t v hjk e1 e2 o1 o2 w1 => ?_⟩
  · obtain ⟨hj, e⟩ := key j s e
    rw [List.getElem?_set_ne hj]
    exact r.slot j s e
  · obtain ⟨hj, e1⟩ := key j s e1
    obtain ⟨hk, e2⟩ := key k t e2
    rw [List.getElem?_set_ne hj] at w1
    rw [List.getElem?_set_ne hk]
    exact r.apart j k s t v hjk e1 e2 o1 o2 w1
/-! ### in the body -/
def tXW (K : PySem.W.Frag) (B : Bs) (W : WX) (f : E) : TE := fun σ H Q => ∃ G η, RpE K B.G0 B.H0 G H σ η ∧ (f η).Sat (fun d => ∀ G' H' v, Ext G H G' H' → Rp K G' v d → Q v H') (fun c => ∀ G' H', Ext G H G' H' → W (.ref (B.cl c)) Option.none σ H')
def FinW (K : PySem.W.Frag) (B : Bs) (D : Ends) (G H : Hp) (W : WX) (σ : L2.St) : Out → Prop
  | .next η' => ∀ G' H' σ', Ex G G' → RpE K B.G0 B.H0 G' H' σ' η' → D.nx σ' H'
  | .raise c => ∀ G' H', Ext G H G' H' → W (.ref (B.cl c)) Option.none σ H'
  | _ => False
def tSW (K : PySem.W.Frag) (B : Bs) (W : WX) (g : St) : TS := fun D σ H => ∃ G η, RpE K B.G0 B.H0 G H σ η ∧ FinW K B D G H W σ (g η)
section
variable {X : Cx} {B : Bs} {a b c e : Expr} {es : List Expr} {pos p : Pos} {f g h : E} {fs : List E} {t : T} {W : WX}
theorem pv_callW {k n : Nat} {x : Str} {φ : List D → Res D} (F : DefOk X.prog X.w X.K X.mg X.base B.cl k x n φ) (hr : Room k X.A) (tk : Takes X W) (ha : PA X (e :: es) (tA X.K B.calm fs)) (hn : fs.length = n := by rfl) (hg : Gl X x := by rfl)
    (hdb : (x == ("__debug__" : Str)) = false := by decide) (he : starEach (e :: es) X.env = (false, eval e X.env) :: starEach es X.env := by rfl) (hpl : (backTo pos (starEach es X.env)).any (·.1) = false := by rfl) :
    PE X (.Call (.Name x p) (e :: es) [] pos) (tXW X.K B W (eCallT φ fs)) := by
  obtain ⟨fa, fd, ps, F, hm, hk, hb⟩ := F.ex
  refine pe_weak (pe_callS (E := WE W) F hr hg hm hk hb (fun σ => passAt tk σ) ha hdb he hpl) fun σ H Q q => ?_
  obtain ⟨G, η, r, q⟩ := q
  cases z : evals fs η with
  | ok ds0 =>
    unfold eCallT at q
    rw [z] at q
    have hE : (evals fs η).Sat (fun ds => ds = ds0) (Rz B.calm) := by
      rw [z]
      exact rfl
    refine tA.of (B := B.calm) r (evals_len hE) fun ds hds G1 H1 vs e1 r1 => ?_
    obtain ⟨hl, rfl⟩ := hds
    refine ⟨by rw [r1.length, hl, hn], G1, ds, e1.gh, r1, Sat.mono (m := φ ds) q (fun d q G' H' v e2 r2 => q G' H' v (e1.trans e2) r2) fun c z2 H' x => z2 G1 H' (e1.trans ⟨Ex.refl G1, e1.gh.trans x, x, fun _ h _ => h⟩)⟩
  | raise c =>
    unfold eCallT at q
    rw [z] at q
    exact q.elim
  | bad =>
    unfold eCallT at q
    rw [z] at q
    exact q.elim
variable {s1 s2 : St} {body orelse : List Stmt}
theorem s_setW (i : Nat) {x : Str} {px : Pos} (hN : X.N.Nodup) (ha : PE X a (tXW X.K B W f)) (hi : X.N[i]? = some x := by rfl) (hx : Loc X.env.scope x := by first | exact .inl rfl | exact .inr rfl) (hs : swapsWith a (some (.Name x px)) pos.line X.env = pure false := by rfl) (hf : X.fn x = true ∨ X.env.scope.names.lookup x = some .local := by first | exact .inl rfl | exact .inr rfl) :
    PS X (.Assign [.Name x px] a pos) (tSW X.K B W (sSet i f)) := ps_weak (ps_set hN hi hx ha hs hf) fun D σ H q => by
  obtain ⟨G, η, r, q⟩ := q
  refine ⟨G, η, r, ?_⟩
  cases z : f η with
  | ok d =>
    unfold sSet sAsg at q
    rw [z] at q
    exact fun G' H' v e1 r1 => q G' H' _ e1.g ((r.extd e1).set i r1)
  | raise c =>
    unfold sSet sAsg at q
    rw [z] at q
    exact q
  | bad =>
    unfold sSet sAsg at q
    rw [z] at q
    exact q.elim
theorem s_dropW (ha : PE X a (tXW X.K B W f)) (hs : swapsWith a none pos.line X.env = pure false := by rfl) : PS X (.Expr a pos) (tSW X.K B W (sDrop f)) := ps_weak (ps_expr ha hs) fun D σ H q => by
  obtain ⟨G, η, r, q⟩ := q
  refine ⟨G, η, r, ?_⟩
  cases z : f η with
  | ok d =>
    unfold sDrop at q
    rw [z] at q
    exact fun G' H' v e1 r1 => q G' H' _ e1.g (r.extd e1)
  | raise c =>
    unfold sDrop at q
    rw [z] at q
    exact q
  | bad =>
    unfold sDrop at q
    rw [z] at q
    exact q.elim
theorem ss_oneW {st : Stmt} (h1 : PS X st (tSW X.K B W s1)) : PSs X [st] (tSW X.K B W s1) := pss_one h1
theorem FinW.up {D : Ends} {G H G1 H1 : Hp} {σ : L2.St} (x : Ext G H G1 H1) : ∀ {o : Out}, FinW X.K B D G H W σ o → FinW X.K B D G1 H1 W σ o
  | .next _, h => fun G' H' σ' e r => h G' H' σ' (x.g.trans e) r
  | .raise _, h => fun G' H' e => h G' H' (x.trans e)
  | .brk _, h => h
  | .ct _, h => h
  | .ret _, h => h
  | .bad, h => h
theorem s_ifW (hc : PT X a (tT X.K B.calm t)) (h1 : PSs X body (tSW X.K B W s1)) (h2 : PSs X orelse (tSW X.K B W s2)) : PS X (.If a body orelse pos) (tSW X.K B W (sIfC t s1 s2)) := ps_weak (ps_if hc h1 h2) fun D σ H q => by
  obtain ⟨G, η, r, q⟩ := q
  refine ⟨G, η, r, ?_⟩
  cases z : t η with
  | ok k =>
    unfold sIfC at q
    rw [z] at q
    intro G' H' e1
    cases k with
    | true =>
      rw [if_pos rfl]
      exact ⟨G', η, r.extd e1, FinW.up e1 q⟩
    | false =>
      rw [if_neg Bool.false_ne_true]
      exact ⟨G', η, r.extd e1, FinW.up e1 q⟩
  | raise c =>
    unfold sIfC at q
    rw [z] at q
    exact q.elim
  | bad =>
    unfold sIfC at q
    rw [z] at q
    exact q.elim
end
/-! ### what e is -/
structure ErrI (K : PySem.W.Frag) (mg : Str → Option Value) (cl : Cls → Addr) (BE : Addr) : Prop where
  be : mg "BracketError" = some (.ref BE)
  r : mg "NoRow" = some (.ref (cl .noRow))
  p : mg "NoPlace" = some (.ref (cl .noPlace))
  ve : mg "ValueError" = none
  c : ∀ c, ExcC K (cl c)
  x : ∀ c, PySem.W.exmOne K (.ref (cl c)) (.ref BE) = some true
  rr : PySem.W.kitOne K (.ref (cl .noRow)) (.ref (cl .noRow)) = some true
  rp : PySem.W.kitOne K (.ref (cl .noRow)) (.ref (cl .noPlace)) = some false
  pr : PySem.W.kitOne K (.ref (cl .noPlace)) (.ref (cl .noRow)) = some false
  pp : PySem.W.kitOne K (.ref (cl .noPlace)) (.ref (cl .noPlace)) = some true
  v : ∀ c, PySem.W.kitOne K (.ref (cl c)) (.type "ValueError") = some true
theorem kit_ref {K : PySem.W.Frag} {C D : Addr} {b : Bool} (hd : PySem.W.hasDictIn K D = true) (ht : PySem.W.typeIn K (.ref D) = some (.type "type")) (h : PySem.W.subIn K (.ref C) (.ref D) = some b) (hn : C ≠ D) : PySem.W.kitOne K (.ref C) (.ref D) = some b := by
  obtain ⟨cd, hc, _⟩ := PySem.W.any_some hd
  have e0 : ¬ ((Value.ref C == Value.ref D) = true) := by simpa using hn
  have e2 : ((PySem.W.clsIn K D).isSome && PySem.W.typeIn K (.ref D) == some (.type "type")) = true := by rw [hc, ht] <;> rfl
  show (if (Value.ref C == Value.ref D) = true then some true else (if ((PySem.W.clsIn K D).isSome && PySem.W.typeIn K (.ref D) == some (.type "type")) = true then PySem.W.subIn K (.ref C) (.ref D) else none)) = some b
  rw [if_neg e0, if_pos e2]
  exact h
theorem kit_self {K : PySem.W.Frag} {C : Addr} : PySem.W.kitOne K (.ref C) (.ref C) = some true := by
  show (if (Value.ref C == Value.ref C) = true then some true else _) = _
  rw [if_pos (by simp)]
theorem kit_ve {K : PySem.W.Frag} {C : Addr} (h : PySem.W.subIn K (.ref C) (.type "ValueError") = some true) : PySem.W.kitOne K (.ref C) (.type "ValueError") = some true := by
  have e0 : ¬ ((Value.ref C == Value.type "ValueError") = true) := by simp
  have e2 : PySem.W.kitMeta "ValueError" = true := by decide +kernel
  show (if (Value.ref C == Value.type "ValueError") = true then some true else (if PySem.W.kitMeta "ValueError" = true then PySem.W.subIn K (.ref C) (.type "ValueError") else none)) = some true
  rw [if_neg e0, if_pos e2]
  exact h
def rE (i : Nat) (a : Addr) (k : Bool) : TE := fun σ H Q => σ[i]? = some (some (.ref a)) ∧ Q (.bl k) H
def rT (i : Nat) (a : Addr) (k : Bool) : TT := fun σ H Q => σ[i]? = some (some (.ref a)) ∧ Q k H
section
variable {X : Cx} {aa : Addr} {oe : Obj} {pn : List (Addr × Obj)} {i : Nat} {C : Addr} {k : Bool} {pos p p2 p3 : Pos} {y n : Str}
theorem pe_isX {tc : TE} {ce : Expr} {v : V} {cv : Value} (hcC : ExcC X.K C) (hz : Zc (.ref C) none oe) (hf : ∃ vs, oe.data = .fields vs) (hm : X.mg "isinstance" = none) (hc : PE (X.suite aa ((aa, oe) :: pn)) ce (tC v)) (hv : ∀ u, RelV v u → u = cv) (hk : PySem.W.kitOne X.K (.ref C) cv = some k)
    (hN : X.N[i]? = some n := by rfl) (hvis : Vis X.env.scope n := by first | exact Or.inl rfl | exact Or.inr (Or.inl rfl) | exact Or.inr (Or.inr rfl)) (hg : Gl X "isinstance" := by rfl) (hd : (n == ("__debug__" : Str)) = false := by decide)
    (hcd : (n == ("__classdict__" : Str)) = false := by decide) (h0 : starEach [.Name n p2, ce] (X.suite aa ((aa, oe) :: pn)).env = (false, eval (.Name n p2) (X.suite aa ((aa, oe) :: pn)).env) :: starEach [ce] (X.suite aa ((aa, oe) :: pn)).env := by rfl)
    (h1 : starEach [ce] (X.suite aa ((aa, oe) :: pn)).env = (false, eval ce (X.suite aa ((aa, oe) :: pn)).env) :: starEach [] (X.suite aa ((aa, oe) :: pn)).env := by rfl) (hpl : (backTo pos (starEach [ce] (X.suite aa ((aa, oe) :: pn)).env)).any (·.1) = false := by rfl) :
    PE (X.suite aa ((aa, oe) :: pn)) (.Call (.Name "isinstance" p) [.Name n p2, ce] [] pos) (rE i aa k) := by
  refine pe_weak (pe_callB (call_isE hcC hz hf) hg hm (by decide +kernel) (pa_cons (pe_var (X := X.suite aa ((aa, oe) :: pn)) (i := i) hN hvis hd hcd) (pa_cons hc pa_nil h1) h0) (by decide) (by decide) h0 hpl) fun σ H Q q => ?_
  exact ⟨.ref aa, q.1, v, cv, k, rfl, hv, hk, q.2⟩
/-- isinstance(e, an own class) -/
theorem pe_isO {D : Addr} (hcC : ExcC X.K C) (hz : Zc (.ref C) none oe) (hf : ∃ vs, oe.data = .fields vs) (hm : X.mg "isinstance" = none) (hy : X.mg y = some (.ref D)) (hk : PySem.W.kitOne X.K (.ref C) (.ref D) = some k)
    (hN : X.N[i]? = some n := by rfl) (hvis : Vis X.env.scope n := by first | exact Or.inl rfl | exact Or.inr (Or.inl rfl) | exact Or.inr (Or.inr rfl)) (hg : Gl X "isinstance" := by rfl) (hgy : Gl X y := by rfl) (hd : (n == ("__debug__" : Str)) = false := by decide)
    (hcd : (n == ("__classdict__" : Str)) = false := by decide) (hdy : (y == ("__debug__" : Str)) = false := by decide) :
    PE (X.suite aa ((aa, oe) :: pn)) (.Call (.Name "isinstance" p) [.Name n p2, .Name y p3] [] pos) (rE i aa k) :=
  pe_isX (tc := tC (.ref D)) hcC hz hf hm (pe_glob (X := X.suite aa ((aa, oe) :: pn)) (v := .ref D) hgy hy rfl hdy) (fun u h => h) hk hN hvis hg hd hcd
/-- isinstance(e, ValueError) -/
theorem pe_isV (hcC : ExcC X.K C) (hz : Zc (.ref C) none oe) (hf : ∃ vs, oe.data = .fields vs) (hm : X.mg "isinstance" = none) (hy : X.mg "ValueError" = none) (hk : PySem.W.kitOne X.K (.ref C) (.type "ValueError") = some k)
    (hN : X.N[i]? = some n := by rfl) (hvis : Vis X.env.scope n := by first | exact Or.inl rfl | exact Or.inr (Or.inl rfl) | exact Or.inr (Or.inr rfl)) (hg : Gl X "isinstance" := by rfl) (hgy : Gl X "ValueError" := by rfl) (hd : (n == ("__debug__" : Str)) = false := by decide)
    (hcd : (n == ("__classdict__" : Str)) = false := by decide) :
    PE (X.suite aa ((aa, oe) :: pn)) (.Call (.Name "isinstance" p) [.Name n p2, .Name "ValueError" p3] [] pos) (rE i aa k) :=
  pe_isX (tc := tC (.ty "ValueError")) hcC hz hf hm (pe_bltn (X := X.suite aa ((aa, oe) :: pn)) (v := .ty "ValueError") hgy hy (by decide +kernel) rfl (by decide) (by decide)) (fun u h => h) hk hN hvis hg hd hcd
end
section
variable {X : Cx} {i : Nat} {a : Addr} {k l m : Bool} {e e1 e2 e3 : Expr} {p1 p2 p3 pos : Pos}
theorem rE_and (h1 : PE X e1 (rE i a k)) (h2 : PE X e2 (rE i a l)) (h3 : PE X e3 (rE i a m)) : PE X (.BoolOp .And [e1, .UnaryOp .Not e2 p2, e3] pos) (rE i a (k && !l && m)) :=
  pe_weak (pe_and h1 (pe_and (pe_not h2) (pe_one h3))) fun σ H Q q => by
    refine ⟨q.1, k, rfl, ?_⟩
    cases k with
    | false => exact q.2
    | true =>
      rw [if_pos rfl]
      refine ⟨q.1, l, rfl, !l, rfl, ?_⟩
      cases l with
      | true => exact q.2
      | false => exact q
theorem rT_of (h : PE X e (rE i a k)) (he : ∀ whole, isTrue e X.env whole = (do let v ← whole; standAt e.pos; holding [v] (truthy v)) := by intro _; rfl) : PT X e (rT i a k) :=
  pt_weak (pt_val h he) fun σ H Q q => ⟨q.1, k, rfl, q.2⟩
theorem rT_and (h1 : PT X e1 (rT i a k)) (h2 : PT X e2 (rT i a l)) (h3 : PT X e3 (rT i a m)) : PT X (.BoolOp .And [e1, .UnaryOp .Not e2 p2, e3] pos) (rT i a (k && !l && m)) :=
  pt_weak (pw_and h1 (pw_and (pt_not h2) (pw_and1 h3))).pt fun σ H Q q => by
    refine ⟨q.1, ?_⟩
    cases k with
    | false => exact q.2
    | true =>
      rw [if_pos rfl]
      refine ⟨q.1, ?_⟩
      cases l with
      | true => exact q.2
      | false => exact q
end
/-! ### the suite -/
def tSE (K : PySem.W.Frag) (B : Bs) (i : Nat) (a : Addr) (g : St) : TS := fun D σ H => ∃ G η, RpE K B.G0 B.H0 G H σ η ∧ σ[i]? = some (some (.ref a)) ∧ η[i]? = some Option.none ∧ Fin K B D G (g η)
section
variable {X : Cx} {B : Bs} {i j : Nat} {aa : Addr} {k : Bool} {e : Expr} {pos p p2 px : Pos} {x : Str} {z : Nat}
/-- x = the verdict -/
theorem su_set (j : Nat) (hN : X.N.Nodup) (h : PE X e (rE i aa k)) (hi : X.N[j]? = some x := by rfl) (hx : Loc X.env.scope x := by first | exact .inl rfl | exact .inr rfl) (hs : swapsWith e (some (.Name x px)) pos.line X.env = pure false := by rfl) (hf : X.fn x = true ∨ X.env.scope.names.lookup x = some .local := by first | exact .inl rfl | exact .inr rfl) :
    PSs X [.Assign [.Name x px] e pos] (tSE X.K B i aa (sSet j (eC (.bool k)))) := pss_weak (pss_one (ps_set hN hi hx h hs hf)) fun D σ H q => by
  obtain ⟨G, η, r, q1, q2, q⟩ := q
  have q : Fin X.K B D G (.next (η.set j (some (.dat (.bool k))))) := q
  exact ⟨q1, q G H _ (Ex.refl G) (r.set j (.bool k))⟩
/-- if the verdict: x = None -/
theorem su_if (j : Nat) (hN : X.N.Nodup) (h : PT X e (rT i aa k)) (hi : X.N[j]? = some x := by rfl) (hx : Loc X.env.scope x := by first | exact .inl rfl | exact .inr rfl) (hs : swapsWith (.Constant .none z p2) (some (.Name x px)) p.line X.env = pure false := by rfl) (hf : X.fn x = true ∨ X.env.scope.names.lookup x = some .local := by first | exact .inl rfl | exact .inr rfl) :
    PSs X [.If e [.Assign [.Name x px] (.Constant .none z p2) p] [] pos] (tSE X.K B i aa (if k then sSet j (eC .none) else sSkip)) := pss_weak (pss_one (ps_if h (pss_one (ps_set hN hi hx pe_non hs hf)) pss_nil)) fun D σ H q => by
  obtain ⟨G, η, r, q1, q2, q⟩ := q
  refine ⟨q1, ?_⟩
  cases k with
  | true =>
    rw [if_pos rfl]
    have q : Fin X.K B D G (.next (η.set j (some (.dat .none)))) := q
    exact q G H _ (Ex.refl G) (r.set j .none)
  | false =>
    rw [if_neg Bool.false_ne_true]
    have q : Fin X.K B D G (.next η) := q
    exact q G H _ (Ex.refl G) r
end
theorem s_tryAs {X : Cx} {B : Bs} {BE : Addr} {i : Nat} {body suite : List Stmt} {b₀ : Stmt} {n : Str} {np pos pos' : Pos} {b : St} {h : Cls → St} (E : ErrI X.K X.mg B.cl BE) (hN : X.N.Nodup) (tk : Takes X (fun _ _ _ _ => False))
    (hb : ∀ (W : WX) (pn : List (Addr × Obj)) (xe : Value → Shared → Prop), Takes (X.tr pn xe) W → PSs (X.tr pn xe) body (tSW X.K B W b))
    (hsu : ∀ (c : Cls) (a : Addr) (oe : Obj) (pn : List (Addr × Obj)), Zc (.ref (B.cl c)) Option.none oe → (∃ vs, oe.data = .fields vs) → PSs (X.suite a ((a, oe) :: pn)) (b₀ :: suite) (tSE X.K B i a (h c)))
    (hs : X.stack = X.env :: X.outer := by rfl) (hf : X.env.frame = some X.env.locals := by rfl) (hi : X.N[i]? = some n := by rfl) (hln : X.env.kindOf n = some .local := by rfl) (hg : Gl X "BracketError" := by rfl) :
    PS X (.Try body [.ExceptHandler (some (.Name "BracketError" np)) (some n) (b₀ :: suite) pos'] [] [] pos) (tS X.K B (sTryAs i b h)) := by
  refine ps_weak (ps_try_as (i := i) (Wout := fun _ _ _ _ => False) (c := .ref BE) (tb := fun W => tSW X.K B W b) (ts := fun a cls d D σ H => ∃ c, cls = .ref (B.cl c) ∧ d = Option.none ∧ tSE X.K B i a (h c) D σ H) hs hf hN hi hln ⟨hg, by decide, .inl E.be⟩ tk (fun W pn xe tk _ => hb W pn xe tk)
    (fun a oe cls d pn hz hfs => ⟨fun pins s σ H D I q => ?_⟩)) fun D σ H q => ?_
  · obtain ⟨c, rfl, rfl, q⟩ := q
    exact (hsu c a oe pn hz hfs).run pins s σ H D I q
  · obtain ⟨G, η, r, q⟩ := q
    refine ⟨G, η, r, ?_⟩
    unfold sTryAs at q
    cases z : b η with
    | next η' =>
      rw [z] at q
      exact q
    | raise c =>
      rw [z] at q
      dsimp only at q
      by_cases hlen : i < η.length
      · rw [if_pos hlen] at q
        intro G' H' e1
        refine ⟨true, E.x c, fun _ a ha => ?_, fun z => nomatch z⟩
        have hl : i < X.N.length := lt_of_get hi
        have r1 := r.extd e1
        have r2 := r1.forget i (some (.ref a))
        refine ⟨c, rfl, rfl, G', _, r2, List.getElem?_set_self (by rw [r.len]; exact hlen), List.getElem?_set_self hlen, ?_⟩
        cases z2 : h c (η.set i Option.none) with
        | next η' =>
          simp only [z2] at q
          exact fun G2 H2 σ2 e2 r3 => q G2 H2 _ (e1.g.trans e2) (r3.forget i Option.none)
        | _ =>
          simp only [z2] at q
          exact q.elim
      · rw [if_neg hlen] at q
        exact q.elim
    | _ =>
      rw [z] at q
      exact q.elim
end Bk
end
/-! BkIter -/
section
set_option Elab.async false
set_option linter.all false
set_option autoImplicit false
set_option maxRecDepth 100000
set_option maxHeartbeats 4000000
/-! BkIter: zip of two lists, reversed(range(n)) -/
namespace Bk
open PySem PySem.Spec PyProof.Rows L2
section
variable {X : Cx} {B : Bs} {a b c e tg iter : Expr} {es : List Expr} {pos p : Pos} {f g h : E} {fs : List E}
theorem zipL_get : ∀ (xs ys : List D) (i : Nat) (d : D), (zipL xs ys)[i]? = some d → ∃ x y, xs[i]? = some x ∧ ys[i]? = some y ∧ d = .tup [x, y]
  | [], ys, i, d, h => by simp [zipL] at h
  | x :: xs, [], i, d, h => by simp [zipL] at h
  | x :: xs, y :: ys, 0, d, h => by
    simp [zipL] at h
    exact ⟨x, y, rfl, rfl, h.symm⟩
  | x :: xs, y :: ys, i + 1, d, h => by
    simp [zipL] at h
    obtain ⟨x', y', h1, h2, h3⟩ := zipL_get xs ys i d h
    exact ⟨x', y', by simpa using h1, by simpa using h2, h3⟩
theorem zipL_len : ∀ (xs ys : List D), (zipL xs ys).length = min xs.length ys.length
  | [], ys => by simp [zipL]
  | x :: xs, [] => by simp [zipL]
  | x :: xs, y :: ys => by
    simp only [zipL, List.length_cons, zipL_len xs ys]
    omega
theorem walkd_zip {K : PySem.W.Frag} {G : Hp} {a1 a2 : Addr} {xs ys : List V} {ds es : List D} (h1 : SqL K G a1 xs) (r1 : RpAll K G xs ds) (h2 : SqL K G a2 ys) (r2 : RpAll K G ys es) : WalkD K (Itz K a1 a2) G (zipL ds es) := by
  refine ⟨fun i H hi ex => ?_, fun H ex => ⟨xs, ys, ex.l h1, ex.l h2, ?_⟩, fun i H x H' d hd ex y G1 e1 e2 => ?_⟩
  · rw [zipL_len] at hi
    have hx : i < xs.length := by rw [r1.length]; omega
    have hy : i < ys.length := by rw [r2.length]; omega
    exact ⟨xs, ys, xs[i], ys[i], ex.l h1, ex.l h2, List.getElem?_eq_getElem hx, List.getElem?_eq_getElem hy⟩
  · rw [zipL_len, r1.length, r2.length]
    omega
  · obtain ⟨T, x1, y1, rfl, hT, rfl, f1, f2⟩ := y
    obtain ⟨d1, d2, k1, k2, rfl⟩ := zipL_get _ _ _ _ hd
    obtain ⟨v1, j1, j2⟩ := r1.get k1
    obtain ⟨v2, j3, j4⟩ := r2.get k2
    have q1 := f1 xs (ex.l h1)
    have q2 := f2 ys (ex.l h2)
    rw [j1] at q1
    rw [j3] at q2
    cases q1
    cases q2
    exact ⟨_, newTup e2 hT (.cons (j2.mono e1) (.cons (j4.mono e1) .nil))⟩
theorem pi_zipD {elts : List Expr} {kk : Nat} {tpos : Pos} (hm : X.mg "zip" = none) (ha : PE X a (tX X.K B f)) (hb : PE X b (tX X.K B g)) (hg : Gl X "zip" := by rfl) (h0 : starEach [a, b] X.env = (false, eval a X.env) :: starEach [b] X.env := by rfl) (h1 : starEach [b] X.env = (false, eval b X.env) :: starEach [] X.env := by rfl)
    (hpl : (backTo pos (starEach [b] X.env)).any (·.1) = false := by rfl) : PI X (.Tuple elts kk tpos) (.Call (.Name "zip" p) [a, b] [] pos) (tI X.K B (Bk.iZip f g)) :=
  pi_weak (L2.pi_zip hg hm (pa_cons ha (pa_cons hb pa_nil h1) h0) h0 hpl) fun σ H R q => by
    obtain ⟨G, η, r, q⟩ := q
    refine tX.of r (sat_bind q) fun x hx G1 H1 v e1 r1 => ?_
    refine tX.of (r.extd e1) (sat_bind hx) fun y hy G2 H2 w e2 r2 => ?_
    cases r1 with
    | lst hs1 ra1 =>
      cases r2 with
      | lst hs2 ra2 => exact ⟨_, _, _, _, rfl, (e1.gh.l hs1 |> e2.h.l), e2.gh.l hs2, hy G2 H2 _ (e1.trans e2) (walkd_zip (e2.g.l hs1) (ra1.mono e2.g) hs2 ra2)⟩
      | _ => exact hy.elim
    | _ => exact hy.elim
theorem walkd_revR {K : PySem.W.Frag} {G : Hp} (n : Nat) : WalkD K (Itc ((n : Int) - 1) (-1) n) G (numbers 0 n).reverse := by
  refine ⟨fun i H hi _ => ?_, fun H _ => ?_, fun i H x H' d hd _ y G1 e1 e2 => ?_⟩
  · rw [List.length_reverse, numbers_len] at hi
    exact hi
  · rw [List.length_reverse, numbers_len]
    exact Nat.le_refl _
  · obtain ⟨rfl, rfl⟩ := y
    have hi : i < n := by
      have := lt_of_get hd
      rw [List.length_reverse, numbers_len] at this
      exact this
    rw [List.getElem?_reverse (by rw [numbers_len]; exact hi), numbers_len] at hd
    unfold numbers at hd
    rw [List.getElem?_map, List.getElem?_range (by omega)] at hd
    cases hd
    have e : (n : Int) - 1 + (i : Nat) * (-1) = 0 + ((n - 1 - i : Nat) : Int) := by omega
    rw [e]
    exact ⟨G1, Ext.refl e2, .int _⟩
theorem pi_revR1 {p2 pos2 : Pos} (hm : X.mg "reversed" = none) (hm2 : X.mg "range" = none) (ha : PE X a (tX X.K B f)) (hg : Gl X "reversed" := by rfl) (hg2 : Gl X "range" := by rfl) (h0 : starEach [a] X.env = (false, eval a X.env) :: starEach [] X.env := by rfl)
    (hs : starEach [.Call (.Name "range" p2) [a] [] pos2] X.env = (false, eval (.Call (.Name "range" p2) [a] [] pos2) X.env) :: starEach [] X.env := by rfl) :
    PI X tg (.Call (.Name "reversed" p) [.Call (.Name "range" p2) [a] [] pos2] [] pos) (tI X.K B (iRevRange1 f)) :=
  pi_weak (pi_revR hg hm (prg_1 hg2 hm2 ha h0) hs) fun σ H R q => by
    obtain ⟨G, η, r, q⟩ := q
    refine tX.of r (sat_bind q) fun x hx G1 H1 v e1 r1 => ?_
    cases r1 with
    | int n =>
      have hx := sat_bind hx
      obtain ⟨hr, hx⟩ := sat_if hx
      obtain ⟨h1, h2⟩ := rng_ok hr
      refine ⟨n, rfl, by omega, by omega, h1, h2, ?_⟩
      have e1' : (0 : Int) + (((n - 0).toNat : Nat) : Int) - 1 = ((n.toNat : Nat) : Int) - 1 := by
        rw [Int.sub_zero, Int.zero_add]
      have e2' : (n - 0).toNat = n.toNat := by rw [Int.sub_zero]
      rw [e1', e2']
      exact hx G1 H1 _ e1 (walkd_revR n.toNat)
    | _ => exact hx.elim
end
end Bk
end
/-! BkRich -/
section
set_option Elab.async false
set_option linter.all false
set_option autoImplicit false
set_option maxRecDepth 100000
set_option maxHeartbeats 4000000
/-! BkRich: texts in texts, items in lists, own dicts sorted, longer chains -/
namespace Bk
open PySem PySem.Spec PyProof.Rows L2
theorem sx_get (s : List Nat) (i : Nat) : (Sx s).cps.toList[i]? = s[i]? := rfl
theorem at_two (s : List Nat) (a b i : Nat) : StrLaws.At (Sx s) (Sx [a, b]) (Sx s).length i ↔ (s[i]? == some a && s[i + 1]? == some b) = true := by
  unfold StrLaws.At
  rw [StrLaws.subAt_eq, sx_len, sx_len]
  show (i + 2 ≤ s.length ∧ ((s.drop i).take 2 == [a, b]) = true) ↔ _
  rw [Bool.and_eq_true, beq_iff_eq, beq_iff_eq, beq_iff_eq]
  have e0 : s[i]? = (s.drop i)[0]? := by
    rw [List.getElem?_drop]
    rfl
  have e1 : s[i + 1]? = (s.drop i)[1]? := by rw [List.getElem?_drop]
  have el : (s.drop i).length = s.length - i := List.length_drop
  rw [e0, e1]
  rcases q : s.drop i with _ | ⟨x, _ | ⟨y, r⟩⟩
  · simp
  · simp
  · rw [q] at el
    simp at el ⊢
    intro _ _
    omega
theorem find_some {s : List Nat} {a b : Nat} {i : Nat} {r : List Nat} (h : Builtin.Str.occurrences (Sx s) (Sx [a, b]) 0 (Sx s).length 1 = i :: r) : findTwo a b s = some i := by
  rcases StrLaws.occ_head (Sx s) (Sx [a, b]) 1 (Nat.le_refl 1) with ⟨h0, _⟩ | ⟨i', r', h1, h2, h3⟩
  · rw [h0] at h
    cases h
  · rw [h1] at h
    cases h
    unfold findTwo
    rw [List.find?_range_eq_some]
    refine ⟨(at_two s a b i).mp h2, ?_, fun j hj => ?_⟩
    · have := h2.1
      rw [sx_len, sx_len] at this
      simp at this ⊢
      omega
    · have := h3 j hj
      rw [at_two] at this
      rw [Bool.not_eq_true']
      exact Bool.eq_false_iff.mpr this
theorem find_none {s : List Nat} {a b : Nat} (h : Builtin.Str.occurrences (Sx s) (Sx [a, b]) 0 (Sx s).length 1 = []) : findTwo a b s = none := by
  rcases StrLaws.occ_head (Sx s) (Sx [a, b]) 1 (Nat.le_refl 1) with ⟨_, h0⟩ | ⟨i', r', h1, _⟩
  · unfold findTwo
    rw [List.find?_eq_none]
    intro i _
    have := h0 i
    rw [at_two] at this
    exact this
  · rw [h1] at h
    cases h
section
variable {X : Cx} {B : Bs} {a b c e tg iter : Expr} {es : List Expr} {pos p : Pos} {f g h k : E} {fs : List E}
theorem od_inT : OpD X (compareOp .In) dInT := by
  intro pins s σ H x y v u Q I rx ry h
  obtain ⟨G, d, e, ex, rd, re, h⟩ := h
  cases rd with
  | str i =>
    cases re with
    | str j =>
      rcases i with _ | ⟨a, _ | ⟨b, _ | ⟨c, r⟩⟩⟩
      · exact h.elim
      · exact h.elim
      · have h : ∀ G' H' v, Ext G H G' H' → Rp X.K G' v (.bool (findTwo a b j).isSome) → Q v H' := h
        refine op_in_str pins s σ H _ _ v u Q I rx ry ⟨_, _, rfl, rfl, ?_⟩
        cases q : Builtin.Str.occurrences (Sx j) (Sx [a, b]) 0 (Sx j).length 1 with
        | nil =>
          rw [find_none q] at h
          exact h G H _ (Ext.refl ex) (.bool _)
        | cons i r =>
          rw [find_some q] at h
          exact h G H _ (Ext.refl ex) (.bool _)
      · exact h.elim
    | _ => rcases i with _ | ⟨a, _ | ⟨b, _ | ⟨c, r⟩⟩⟩ <;> exact h.elim
  | _ => cases re <;> exact h.elim
/-- s.index(two signs) -/
theorem pv_index {d : D} {apos : Pos} (ha : PE X a (tX X.K B f)) (hb : PE X b (tX X.K B (eC d))) (hs : starEach [b] X.env = [(false, eval b X.env)] := by rfl) (hbase : attributeBase a "index" X.env (eval a X.env) = eval a X.env := by rfl) (hline : (apos.endLine == pos.line) = true := by rfl) :
    PE X (.Call (.Attribute a "index" apos) [b] [] pos) (tX X.K B (eBin dFind f (eC d))) := pe_weak (pe_m1 F.slot_str_index F.type_str_index mt_sindex ha hb hs hbase hline) fun σ H Q q => by
  obtain ⟨G, η, r, q⟩ := q
  refine tX.of r (sat_bind q) fun x hx G1 H1 v e1 r1 => ?_
  have hx : (dFind x d).calm.Sat _ _ := hx
  have hx := sat_calm (R' := fun _ => False) hx
  cases r1 with
  | str s =>
    cases d with
    | str t =>
      rcases t with _ | ⟨a, _ | ⟨b, _ | ⟨c, r⟩⟩⟩
      · exact hx.elim
      · exact hx.elim
      · refine ⟨⟨_, rfl⟩, tX.of (r.extd e1) (P := fun x => x = .str [a, b]) rfl fun y hy G2 H2 w e2 r2 => ?_⟩
        subst hy
        cases r2
        cases q : Builtin.Str.occurrences (Sx s) (Sx [a, b]) 0 (Sx s).length 1 with
        | nil =>
          have hx : (match findTwo a b s with
            | some i => Res.ok (D.int (i : Nat))
            | Option.none => .bad).Sat _ _ := hx
          rw [find_none q] at hx
          exact hx.elim
        | cons i rest =>
          have hx : (match findTwo a b s with
            | some i => Res.ok (D.int (i : Nat))
            | Option.none => .bad).Sat _ _ := hx
          rw [find_some q] at hx
          exact ⟨_, _, i, rest, rfl, rfl, q, hx G2 H2 _ (e1.trans e2) (.int _)⟩
      · exact hx.elim
    | _ => exact hx.elim
  | _ => cases d <;> exact hx.elim
/-! ### in -/
theorem flat_rp {K : PySem.W.Frag} {G : Hp} {v : V} {d : D} (r : Rp K G v d) (h : flatD d = true) : flatV v = true := by
  cases r <;> first | rfl | cases h
theorem flat_all {K : PySem.W.Frag} {G : Hp} : ∀ {vs : List V} {ds : List D}, RpAll K G vs ds → ds.all flatD = true → vs.all flatV = true
  | _, _, .nil, _ => rfl
  | _, _, .cons r t, h => by
    rw [List.all_cons, Bool.and_eq_true] at h ⊢
    exact ⟨flat_rp r h.1, flat_all t h.2⟩
theorem str_beq (x y : List Nat) : (Sx x == Sx y) = (x == y) := by
  by_cases h : x = y
  · subst h
    simp
  · have : ¬ Sx x = Sx y := fun z => h (sx_inj z)
    rw [beq_eq_false_iff_ne.mpr this, beq_eq_false_iff_ne.mpr h]
theorem eqv_flat {K : PySem.W.Frag} {G G2 : Hp} {v w : V} {d e : D} (r : Rp K G v d) (q : Rp K G2 w e) (h1 : flatD d = true) (h2 : flatD e = true) : eqV v w = D.eqv d e := by
  cases r <;> first | cases h1 | skip
  all_goals (cases q <;> first | cases h2 | skip)
  all_goals (unfold D.eqv; first | rfl | exact str_beq _ _)
theorem in_rp {K : PySem.W.Frag} {G G2 : Hp} {v : V} {d : D} (r : Rp K G v d) (h1 : flatD d = true) : ∀ {vs : List V} {ds : List D}, RpAll K G2 vs ds → ds.all flatD = true → inV v vs = inL d ds
  | _, _, .nil, _ => rfl
  | _, _, .cons q t, h => by
    rw [List.all_cons, Bool.and_eq_true] at h
    unfold inV inL
    rw [List.any_cons, List.any_cons, eqv_flat q r h.1 h1]
    have := in_rp r h1 t h.2
    unfold inV inL at this
    rw [this]
theorem od_inL : OpD X (compareOp .In) dInL := by
  intro pins s σ H x y v u Q I rx ry h
  obtain ⟨G, d, e, ex, rd, re, h⟩ := h
  cases re with
  | lst hs ra =>
    obtain ⟨hf, h⟩ := sat_if (by exact h)
    rw [Bool.and_eq_true] at hf
    refine op_in_seq pins s σ H _ _ v u Q I rx ry ⟨_, _, rfl, .inl (ex.l hs), flat_rp rd hf.1, flat_all ra hf.2, ?_⟩
    rw [if_neg Bool.false_ne_true, in_rp rd hf.1 ra hf.2]
    exact h G H _ (Ext.refl ex) (.bool _)
  | tup hs ra =>
    obtain ⟨hf, h⟩ := sat_if (by exact h)
    rw [Bool.and_eq_true] at hf
    refine op_in_seq pins s σ H _ _ v u Q I rx ry ⟨_, _, rfl, .inr (ex.t hs), flat_rp rd hf.1, flat_all ra hf.2, ?_⟩
    rw [if_neg Bool.false_ne_true, in_rp rd hf.1 ra hf.2]
    exact h G H _ (Ext.refl ex) (.bool _)
  | _ => exact h.elim
theorem od_ninL : OpD X (compareOp .NotIn) dNInL := by
  intro pins s σ H x y v u Q I rx ry h
  obtain ⟨G, d, e, ex, rd, re, h⟩ := h
  cases re with
  | lst hs ra =>
    obtain ⟨hf, h⟩ := sat_if (by exact h)
    rw [Bool.and_eq_true] at hf
    refine op_notIn_seq pins s σ H _ _ v u Q I rx ry ⟨_, _, rfl, .inl (ex.l hs), flat_rp rd hf.1, flat_all ra hf.2, ?_⟩
    rw [if_pos rfl, in_rp rd hf.1 ra hf.2]
    exact h G H _ (Ext.refl ex) (.bool _)
  | tup hs ra =>
    obtain ⟨hf, h⟩ := sat_if (by exact h)
    rw [Bool.and_eq_true] at hf
    refine op_notIn_seq pins s σ H _ _ v u Q I rx ry ⟨_, _, rfl, .inr (ex.t hs), flat_rp rd hf.1, flat_all ra hf.2, ?_⟩
    rw [if_pos rfl, in_rp rd hf.1 ra hf.2]
    exact h G H _ (Ext.refl ex) (.bool _)
  | _ => exact h.elim
/-- x in, not in the def's own list -/
theorem ninO : OpR X (compareOp .NotIn) (fun x y H Q => ∃ G aa vs d ds, y = .ref aa ∧ H aa = some (.lst vs) ∧ Ex G H ∧ RpAll X.K G vs ds ∧ Rp X.K G x d ∧ (dNInL d (.lst ds)).Sat (fun r => ∀ G' H' v, Ext G H G' H' → Rp X.K G' v r → Q v H') (fun _ => False)) := by
  intro pins s σ H x y v u Q I rx ry h
  obtain ⟨G, aa, vs, d, ds, rfl, hh, ex, ra, rd, h⟩ := h
  obtain ⟨hf, h⟩ := sat_if (by exact h)
  rw [Bool.and_eq_true] at hf
  refine op_notIn_seq pins s σ H _ _ v u Q I rx ry ⟨_, _, rfl, .inl (.inl (.inl hh)), flat_rp rd hf.1, flat_all ra hf.2, ?_⟩
  rw [if_pos rfl, in_rp rd hf.1 ra hf.2]
  exact h G H _ (Ext.refl ex) (.bool _)
theorem tv_ninO (i : Nat) {x : Str} {px : Pos} (ha : PE X a (tX X.K B f)) (hN : X.N[i]? = some x := by rfl) (hv : Vis X.env.scope x := by first | exact Or.inl rfl | exact Or.inr (Or.inl rfl) | exact Or.inr (Or.inr rfl)) (hd : (x == ("__debug__" : Str)) = false := by decide)
    (hcd : (x == ("__classdict__" : Str)) = false := by decide) (hm : behindInMarks .NotIn (.Name x px) = false := by rfl) : PT X (.Compare a [.NotIn] [.Name x px] pos) (tT X.K B (tE (eBinO dNInL f i))) :=
  pt_weak (pt_cmpR ninO ha (pe_var hN hv hd hcd) hm) fun σ H Q q => by
    obtain ⟨G, η, r, q⟩ := q
    have q := bool_sat q
    refine tX.of r (sat_bind q) fun x hx G1 H1 v e1 r1 => ?_
    split at hx
    · rename_i ds e
      obtain ⟨w, h1, aa, vs, rfl, h0, hg, hh, ra⟩ := (r.extd e1).slot _ _ e
      refine ⟨_, h1, G1, aa, vs, x, ds, rfl, hh, e1.gh, ra, r1, Sat.mono (sat_calm hx) (fun z hz G2 H2 v2 e2 r2 => ?_) fun _ z => z⟩
      obtain ⟨kk, rfl, hz⟩ := hz
      cases r2
      exact ⟨kk, rfl, hz G2 H2 (e1.trans e2)⟩
    · exact hx.elim
/-! ### own dicts -/
theorem keys_str {K : PySem.W.Frag} {G : Hp} : ∀ {kvs : List (Key × V)} {ks : List (D × D)} {ss : List (List Nat)}, RpKV K G kvs ks → strsL (ks.map (·.1)) = some ss → kvs.map (·.1) = (ss.map Sx).map Sum.inr
  | _, _, ss, .nil, h => by
    cases h
    rfl
  | _, _, ss, .cons (k := k) (kd := kd) (rs := rs) e rv t, h => by
    cases kd with
    | str z =>
      rw [List.map_cons] at h
      cases q : strsL (rs.map (·.1)) with
      | none =>
        simp [strsL, q] at h
      | some ts =>
        simp [strsL, q] at h
        subst h
        have e : k = .inr (Sx z) := (Option.some.inj e).symm
        rw [List.map_cons, List.map_cons, List.map_cons, keys_str t q, e]
    | _ => simp [strsL] at h
theorem rising_pair : ∀ {ys : List Str} {x : Str}, risingS x ys = true → (x :: ys).Pairwise fun a b => ¬ b.cps.toList < a.cps.toList
  | [], x, _ => List.pairwise_singleton _ _
  | y :: r, x, h => by
    unfold risingS at h
    rw [Bool.and_eq_true, Bool.not_eq_true', ltCps_eq] at h
    have h1 : ¬ y.cps.toList < x.cps.toList := of_decide_eq_false h.1
    have ih := rising_pair h.2
    refine List.pairwise_cons.mpr ⟨fun z hz => ?_, ih⟩
    rcases List.mem_cons.mp hz with rfl | hz
    · exact h1
    · have h2 := List.rel_of_pairwise_cons ih hz
      rw [List.not_lt] at h1 h2 ⊢
      exact List.le_trans h1 h2
theorem sorted_uniq {ys : List Str} {ss : List (List Nat)} (hp : ys.Perm (ss.map Sx)) (hs : sortedS ys = true) : ys = (ss.mergeSort fun a b => !decide (b < a)).map Sx := by
  have hpw : ys.Pairwise fun a b => ¬ b.cps.toList < a.cps.toList := by
    cases ys with
    | nil => exact .nil
    | cons x r => exact rising_pair hs
  have tr : ∀ a b c : List Nat, (!decide (b < a)) = true → (!decide (c < b)) = true → (!decide (c < a)) = true := fun a b c h1 h2 => by
    rw [Bool.not_eq_true', decide_eq_false_iff_not, List.not_lt] at h1 h2 ⊢
    exact List.le_trans h1 h2
  have to : ∀ a b : List Nat, ((!decide (b < a)) || (!decide (a < b))) = true := fun a b => by
    rw [Bool.or_eq_true, Bool.not_eq_true', Bool.not_eq_true', decide_eq_false_iff_not, decide_eq_false_iff_not, List.not_lt, List.not_lt]
    exact List.le_total a b
  have hm := List.pairwise_mergeSort tr to ss
  have hm2 : ((ss.mergeSort fun a b => !decide (b < a)).map Sx).Pairwise fun a b : Str => ¬ b.cps.toList < a.cps.toList := by
    rw [List.pairwise_map]
    refine hm.imp fun h => ?_
    rw [Bool.not_eq_true', decide_eq_false_iff_not] at h
    exact h
  refine List.Perm.eq_of_pairwise (fun a b _ _ h1 h2 => ?_) hpw hm2 (hp.trans ((List.mergeSort_perm ss _).map Sx).symm)
  rw [List.not_lt] at h1 h2
  have e := List.le_antisymm h1 h2
  rw [← sx_tl a, ← sx_tl b, e]
theorem pv_dsorted (i : Nat) {y : Str} {py : Pos} (hm : X.mg "sorted" = none) (hc : X.calm = true := by rfl) (hg : Gl X "sorted" := by rfl) (hN : X.N[i]? = some y := by rfl) (hy : Vis X.env.scope y := by first | exact Or.inl rfl | exact Or.inr (Or.inl rfl) | exact Or.inr (Or.inr rfl)) (hd : (y == ("__debug__" : Str)) = false := by decide)
    (hcd : (y == ("__classdict__" : Str)) = false := by decide)
    (h0 : starEach [.Name y py] X.env = (false, eval (.Name y py) X.env) :: starEach [] X.env := by rfl) (hpl : (backTo pos (starEach [] X.env)).any (·.1) = false := by rfl) : PE X (.Call (.Name "sorted" p) [.Name y py] [] pos) (tX X.K B (eDSorted i)) :=
  pe_weak (pe_callB (call_sortedD hc) hg hm (by decide +kernel) (pa_cons (pe_var hN hy hd hcd) pa_nil h0) (by decide) (by decide) h0 hpl) fun σ H Q q => by
    obtain ⟨G, η, r, q⟩ := q
    unfold eDSorted at q
    split at q
    · rename_i ks e
      obtain ⟨w, h1, aa, kvs, rfl, _, hg2, hh, ra⟩ := r.slot _ _ e
      split at q
      · rename_i ss hss
        obtain ⟨hl, q⟩ := sat_if q
        refine ⟨_, h1, aa, kvs, ss.map Sx, rfl, .inl hh, keys_str ra hss, by rw [List.length_map]; exact hl, fun ys p0 hp hs hp0 => ?_⟩
        have ey := sorted_uniq hp hs
        subst ey
        have x0 : Ext G H (upd G p0 (.lst (((ss.mergeSort fun a b => !decide (b < a)).map Sx).map V.str))) (upd H p0 (.lst (((ss.mergeSort fun a b => !decide (b < a)).map Sx).map V.str))) := Ext.new r.exg hp0
        exact q _ _ _ x0 (.lst (.inl (.inl upd_same)) (RpAll.ofStrs _))
      · exact q.elim
    · exact q.elim
theorem pv_dlen (i : Nat) {y : Str} {py : Pos} (hm : X.mg "len" = none) (hg : Gl X "len" := by rfl) (hN : X.N[i]? = some y := by rfl) (hy : Vis X.env.scope y := by first | exact Or.inl rfl | exact Or.inr (Or.inl rfl) | exact Or.inr (Or.inr rfl)) (hd : (y == ("__debug__" : Str)) = false := by decide)
    (hcd : (y == ("__classdict__" : Str)) = false := by decide)
    (h0 : starEach [.Name y py] X.env = (false, eval (.Name y py) X.env) :: starEach [] X.env := by rfl) (hpl : (backTo pos (starEach [] X.env)).any (·.1) = false := by rfl) : PE X (.Call (.Name "len" p) [.Name y py] [] pos) (tX X.K B (eDLen i)) :=
  pe_weak (pe_callB call_lenD hg hm (by decide +kernel) (pa_cons (pe_var hN hy hd hcd) pa_nil h0) (by decide) (by decide) h0 hpl) fun σ H Q q => by
    obtain ⟨G, η, r, q⟩ := q
    unfold eDLen at q
    split at q
    · rename_i ks e
      obtain ⟨w, h1, aa, kvs, rfl, _, hg2, hh, ra⟩ := r.slot _ _ e
      refine ⟨_, h1, aa, kvs, rfl, hh, ?_⟩
      rw [kv_len ra]
      exact q G H _ (Ext.refl r.exg) (.int _)
    · exact q.elim
end
end Bk
end
/-! BkPop -/
section
set_option Elab.async false
set_option linter.all false
set_option autoImplicit false
set_option maxRecDepth 100000
set_option maxHeartbeats 4000000
/-! BkPop: a comprehension that takes out of the def's own list; a sum of lists that will change; [..] * int -/
namespace Bk
open PySem PySem.Spec PyProof.Rows L2
theorem rep_rp {K : PySem.W.Frag} {G : Hp} {vs : List V} {ds : List D} (r : RpAll K G vs ds) : ∀ n : Nat, RpAll K G (List.replicate n vs).flatten (List.replicate n ds).flatten
  | 0 => .nil
  | n + 1 => by
    rw [List.replicate_succ, List.replicate_succ, List.flatten_cons, List.flatten_cons]
    exact r.append (rep_rp r n)
section
variable {X : Cx} {B : Bs} {a b c e tg iter : Expr} {es : List Expr} {pos p : Pos} {f g h : E} {fs : List E}
theorem pv_repL {p2 : Pos} (ha : PA X es (tA X.K B fs)) (hb : PE X b (tX X.K B g)) (hl : fs.length ≤ 1000 := by first | decide | simp) : PE X (.BinOp (.List es p2) .Mult b pos) (tX X.K B (eBin dRepL (eLst fs) g)) :=
  pe_weak (pe_op op_rep (pe_lst ha) hb) fun σ H Q q => by
    obtain ⟨G, η, r, q⟩ := q
    refine tA.of r (evals_len (sat_bind (sat_bind q))) fun ds hds G1 H1 vs e1 r1 => ?_
    obtain ⟨hdl, hds⟩ := hds
    have hds : ((g η).bind fun y => (dRepL (.lst ds) y).calm).Sat _ _ := hds
    refine ⟨by rw [r1.length, hdl, line_eq]; show fs.length ≤ 16777216; omega, fun p0 hp0 => ?_⟩
    have x0 : Ext G1 H1 (upd G1 p0 (.lst vs)) (upd H1 p0 (.lst vs)) := Ext.new e1.gh hp0
    refine tX.of ((r.extd e1).extd x0) (sat_bind hds) fun y hy G2 H2 w e2 r2 => ?_
    have hy2 := sat_calm (R' := fun _ => False) hy
    cases r2 with
    | int k =>
      obtain ⟨⟨h0, h1, h2⟩, hy2⟩ := sat_if hy2
      have h2' : vs.length * k.toNat ≤ 16777216 := by
        rw [r1.length]
        exact h2
      have h1' : k ≤ 16777216 := h1
      refine ⟨p0, k, vs, rfl, rfl, e2.h _ _ upd_same, by omega, by omega, by rw [line_eq]; exact h2', fun p1 hp1 => ?_⟩
      have x1 : Ext G2 H2 (upd G2 p1 (.lst (List.replicate k.toNat vs).flatten)) (upd H2 p1 (.lst (List.replicate k.toNat vs).flatten)) := Ext.new e2.gh hp1
      exact hy2 _ _ _ (((e1.trans x0).trans e2).trans x1) (.lst (.inl (.inl upd_same)) (rep_rp (((r1.mono x0.g).mono e2.g).mono x1.g) _))
    | _ => exact hy2.elim
theorem op_sumL : OpR X (binaryOp .Add) (fun x y H Q => ∃ l b xs zs, x = .ref l ∧ y = .ref b ∧ SqL X.K H l xs ∧ SqL X.K H b zs ∧ xs.length + zs.length ≤ sizeLine ∧ ∀ p, H p = none → Q (.ref p) (upd H p (.lst (xs ++ zs)))) := by
  intro pins s σ H x y v u Q I rx ry h
  obtain ⟨l, b, xs, zs, rfl, rfl, hl, hb, hz, q⟩ := h
  cases rx
  cases ry
  exact list_sum I hl hb hz q
theorem s_newCat (i : Nat) {x : Str} {px p2 : Pos} (hN : X.N.Nodup) (ha : PE X a (tX X.K B f)) (hb : PE X b (tX X.K B g)) (hi : X.N[i]? = some x := by rfl) (hx : Loc X.env.scope x := by first | exact .inl rfl | exact .inr rfl) (hs : swapsWith (.BinOp a .Add b p2) (some (.Name x px)) pos.line X.env = pure false := by rfl) (hf : X.fn x = true ∨ X.env.scope.names.lookup x = some .local := by first | exact .inl rfl | exact .inr rfl) :
    PS X (.Assign [.Name x px] (.BinOp a .Add b p2) pos) (tS X.K B (sNewCat i f g)) := ps_weak (ps_set hN hi hx (pe_op op_sumL ha hb) hs hf) fun D σ H q => by
  obtain ⟨G, η, r, q⟩ := q
  refine tX.of r (Fin.ofRes q) fun x hx G1 H1 v e1 r1 => ?_
  refine tX.of (r.extd e1) (Fin.ofRes hx) fun y hy G2 H2 w e2 r2 => ?_
  cases r1 with
  | lst hs1 ra1 =>
    cases r2 with
    | lst hs2 ra2 =>
      rename_i a1 xs1 ds1 a2 xs2 ds2
      have hy : Fin X.K B D G (if ds1.length + ds2.length ≤ Bk.lim then .next (η.set i (some (.own (ds1 ++ ds2)))) else .bad) := hy
      by_cases hl : ds1.length + ds2.length ≤ Bk.lim
      · rw [if_pos hl] at hy
        refine ⟨a1, a2, xs1, xs2, rfl, rfl, (e1.gh.l hs1 |> e2.h.l), e2.gh.l hs2, by rw [ra1.length, ra2.length, line_eq]; exact hl, fun p0 hp0 => ?_⟩
        have r3 := (r.extd e1).extd e2
        exact hy G2 _ _ (e1.g.trans e2.g) (r3.setNew i hp0 ⟨p0, _, rfl, r3.ext.h.none hp0, r3.exg.none hp0, upd_same, (ra1.mono e2.g).append ra2⟩)
      · rw [if_neg hl] at hy
        exact hy.elim
    | _ => exact hy.elim
  | _ => cases y <;> exact hy.elim
/-- another object that nobody holds is changed -/
theorem RpE.far {K : PySem.W.Frag} {G0 H0 G H : Hp} {σ : L2.St} {η : Env} (r : RpE K G0 H0 G H σ η) {p0 : Addr} {o : HO} (hg : G p0 = none) (h0 : H0 p0 = none) (hf : ∀ (j : Nat) s, η[j]? = some (some s) → isOwn s = true → σ[j]? ≠ some (some (.ref p0))) : RpE K G0 H0 G (upd H p0 o) σ η := by
  refine ⟨⟨r.ext.g, fun b u z => ?_, fun b u z => ?_, r.ext.fr⟩, r.len, fun j s e => ?_, r.apart⟩
  · rw [upd_ne (ne_of_none z hg)]
    exact r.ext.gh b u z
  · rw [upd_ne (ne_of_none z h0)]
    exact r.ext.h b u z
  · obtain ⟨v, h1, h2⟩ := r.slot j s e
    refine ⟨v, h1, ?_⟩
    cases s with
    | dat d => exact h2
    | own ds =>
      obtain ⟨aa, vs, rfl, k1, k2, k3, k4⟩ := h2
      have hne : aa ≠ p0 := fun z => by
        subst z
        exact hf j _ e rfl h1
      exact ⟨aa, vs, rfl, k1, k2, by rw [upd_ne hne]; exact k3, k4⟩
    | dic ds =>
      obtain ⟨aa, vs, rfl, k1, k2, k3, k4⟩ := h2
      have hne : aa ≠ p0 := fun z => by
        subst z
        exact hf j _ e rfl h1
      exact ⟨aa, vs, rfl, k1, k2, by rw [upd_ne hne]; exact k3, k4⟩
    | kd ds =>
      obtain ⟨aa, vs, rfl, k1, k2, k3, k4⟩ := h2
      have hne : aa ≠ p0 := fun z => by
        subst z
        exact hf j _ e rfl h1
      exact ⟨aa, vs, rfl, k1, k2, by rw [upd_ne hne]; exact k3, k4⟩
theorem erase_rp {K : PySem.W.Frag} {G : Hp} : ∀ {vs : List V} {ds : List D}, RpAll K G vs ds → ∀ n : Nat, RpAll K G (vs.eraseIdx n) (ds.eraseIdx n)
  | _, _, .nil, _ => .nil
  | _, _, .cons r t, 0 => t
  | _, _, .cons r t, n + 1 => .cons r (erase_rp t n)
theorem wipe_other {σ : L2.St} {i : Nat} : ∀ {vs : List Nat}, i ∉ vs → (wipe σ vs)[i]? = σ[i]?
  | [], _ => rfl
  | v :: vs, h => by
    rw [List.mem_cons, not_or] at h
    show ((wipe σ vs).set v none)[i]? = _
    rw [List.getElem?_set_ne (Ne.symm h.1), wipe_other h.2]
theorem s_retPops (i : Nat) (own : List (Str × Nat)) {own' : List Nat} {x : Str} {px p1 jp ap ap2 cp lp : Pos} {k1 : Nat} {scope : Scope} {fi : I} {gg : G} {fe : E} (hc : X.calm = true) (hN : X.N.Nodup) (hi : PI X tg iter (tI X.K B fi)) (ok : BlkOk X.N X.env.scope scope own)
    (hg : ∀ (s : Shared) (H : Hp) (C : Addr) (cl : List (Str × Addr)) (fp : List Addr), PG (X.blk s H scope (compEnvC scope cl C X.env) fp) tg (tGo X.K B own' gg))
    (he : ∀ (s : Shared) (H : Hp) (C : Addr) (cl : List (Str × Addr)) (fp : List Addr), PE (X.blk s H scope (compEnvC scope cl C X.env) fp) e (tX X.K B.calm fe))
    (hv : ∀ (s : Shared) (H : Hp) (C : Addr) (cl : List (Str × Addr)) (fp : List Addr), PE (X.blk s H scope (compEnvC scope cl C X.env) fp) (.Name x px) (tVar i)) (ho : own' = own.map (·.2) := by rfl) (hs : ∀ x, foldedSetIterable iter X.env x = pure x := by intro _; rfl)
    (hpe : ∀ (s : Shared) (H : Hp) (C : Addr) (cl : List (Str × Addr)) (fp : List Addr) {to : TE} {t : TA}, PE (X.blk s H scope (compEnvC scope cl C X.env) fp) (.Name x px) to → PA (X.blk s H scope (compEnvC scope cl C X.env) fp) [e] t →
      PE (X.blk s H scope (compEnvC scope cl C X.env) fp) (.Call (.Attribute (.Name x px) "pop" ap2) [e] [] cp) (tBM X.K "list" rPopAt to t) := by intro _ _ _ _ _ _ _ h1 h2; exact pe_bm PySem.F.plainAttrs_list PySem.F.slot_list_pop PySem.F.type_list_pop mt_popAt h1 h2)
    (h0 : ∀ (s : Shared) (H : Hp) (C : Addr) (cl : List (Str × Addr)) (fp : List Addr), starEach [e] (X.blk s H scope (compEnvC scope cl C X.env) fp).env = (false, eval e (X.blk s H scope (compEnvC scope cl C X.env) fp).env) :: starEach [] (X.blk s H scope (compEnvC scope cl C X.env) fp).env := by intro _ _ _ _ _; rfl)
    (hj : ∀ {te : TE}, PE X (.ListComp (.Call (.Attribute (.Name x px) "pop" ap2) [e] [] cp) [⟨tg, iter, [], 0⟩] scope lp) te → PE X (.Call (.Attribute (.Constant (.str "") k1 p1) "join" ap) [.ListComp (.Call (.Attribute (.Name x px) "pop" ap2) [e] [] cp) [⟨tg, iter, [], 0⟩] scope lp] [] jp)
      (tM1 (fun x xs H Q => ∃ a p, ∃ ys : List Str, x = .str a ∧ xs = [.ref p] ∧ (SqL X.K H p (ys.map V.str) ∨ SqT X.K H p (ys.map V.str)) ∧ (ys.map (·.length)).sum + ys.length * a.length ≤ 16777216 ∧ Q (.str (Txt.join a ys)) H) (tC (.str "")) te) := by intro _ h1; exact pe_join pe_str h1) :
    PS X (.Return (some (.Call (.Attribute (.Constant (.str "") k1 p1) "join" ap) [.ListComp (.Call (.Attribute (.Name x px) "pop" ap2) [e] [] cp) [⟨tg, iter, [], 0⟩] scope lp] [] jp)) pos) (tS X.K B (sRetPops i own' fi gg fe)) := by
  subst ho
  refine ps_weak (ps_ret (hj (pe_lc (tt := tT X.K B tYes) hc hN hi ok hg (fun s H C cl fp => (pts_y (B := B) : PTs (X.blk s H scope (compEnvC scope cl C X.env) fp) [] (tT X.K B tYes))) (fun s H C cl fp => hpe s H C cl fp (hv s H C cl fp) (pa_cons (he s H C cl fp) pa_nil (h0 s H C cl fp))) hs))) fun D σ H q => ?_
  obtain ⟨G, η, r, q⟩ := q
  refine ⟨⟨_, rfl⟩, G, η, r, Sat.mono (Fin.ofRes q) (fun ds hds G1 H1 J e1 wk L hL => ?_) fun _ z => z⟩
  by_cases hcond : ds.length ≤ Bk.lim ∧ i ∉ own.map (·.2)
  rotate_left
  · rw [if_neg hcond] at hds
    exact hds.elim
  rw [if_pos hcond] at hds
  obtain ⟨hl, hio⟩ := hcond
  have hps := sat_calm (R' := fun _ => False) (Fin.ofRes hds)
  have r1 := r.extd e1
  have gL : G1 L = Option.none := e1.gh.none hL
  have h0L : B.H0 L = Option.none := r1.ext.h.none hL
  have apartL : ∀ (j : Nat) s, η[j]? = some (some s) → isOwn s = true → σ[j]? ≠ some (some (.ref L)) := fun j s ej os z => by
    obtain ⟨v, k1, k2⟩ := r1.slot j s ej
    rw [z] at k1
    cases k1
    cases s with
    | dat d => cases os
    | own ds =>
      obtain ⟨aa, vs, ev, _, _, hh, _⟩ := k2
      cases ev
      rw [hL] at hh
      cases hh
    | dic ds =>
      obtain ⟨aa, vs, ev, _, _, hh, _⟩ := k2
      cases ev
      rw [hL] at hh
      cases hh
    | kd ds =>
      obtain ⟨aa, vs, ev, _, _, hh, _⟩ := k2
      cases ev
      rw [hL] at hh
      cases hh
  refine ⟨fun m m' H' => m' = ds.length - m ∧ m ≤ ds.length ∧ ∃ G' η' acc ys, RpE X.K B.G0 B.H0 G' H' σ η' ∧ Ex G1 G' ∧ G' L = Option.none ∧ H' L = some (.lst acc) ∧ RpAll X.K G' acc ys ∧ ys.length ≤ m ∧ (∀ (j : Nat) s, η'[j]? = some (some s) → isOwn s = true → σ[j]? ≠ some (some (.ref L))) ∧
    (pops i (own.map (·.2)) gg fe (ds.drop m) η').Sat (fun zs => Fin X.K B D G (outOf (dJoin (.str []) (.lst (ys ++ zs))).calm fun r => .ret r)) (fun _ => False),
    ⟨ds.length, by simp, Nat.zero_le _, G1, η, [], [], r1.far gL h0L apartL, Ex.refl _, gL, upd_same, .nil, Nat.zero_le _, apartL, hps⟩, ?_⟩
  rintro m m' H' ⟨rfl, hm, G', η', acc, ys, r', xg, dn, hacc, ra, hyl, ap', hc'⟩
  have exH : Ex G1 H' := xg.trans r'.exg
  by_cases hlt : m < ds.length
  · right
    refine ⟨wk.goes m H' hlt exH, fun H2 => m + 1 ≤ ds.length ∧ ∃ G' η' acc ys, RpE X.K B.G0 B.H0 G' H2 σ η' ∧ Ex G1 G' ∧ G' L = Option.none ∧ H2 L = some (.lst acc) ∧ RpAll X.K G' acc ys ∧ ys.length ≤ m + 1 ∧ (∀ (j : Nat) s, η'[j]? = some (some s) → isOwn s = true → σ[j]? ≠ some (some (.ref L))) ∧
      (pops i (own.map (·.2)) gg fe (ds.drop (m + 1)) η').Sat (fun zs => Fin X.K B D G (outOf (dJoin (.str []) (.lst (ys ++ zs))).calm fun r => .ret r)) (fun _ => False), fun H2 hN2 => ⟨ds.length - (m + 1), by omega, rfl, hN2⟩, fun v H2 yl => ?_⟩
    have hd : ds[m]? = some ds[m] := List.getElem?_eq_getElem hlt
    obtain ⟨G2, x2, rv⟩ := wk.yields m H' v H2 _ hd exH yl G' xg r'.exg
    rw [List.drop_eq_getElem_cons hlt] at hc'
    have hc' := sat_bind hc'
    have r2 := r'.extd x2
    refine ⟨G2, wipes η' (own.map (·.2)), ds[m], wipe_rel r2 _, rv, Sat.mono (sat_calm hc') (fun η1 h1 σ2 r3 hw => ⟨?_, ?_⟩) fun _ z => z⟩
    · rw [hw]
      have idem : ∀ (vs : List Nat) (τ : L2.St), wipe (wipe τ vs) vs = wipe τ vs := by
        intro vs
        have aux : ∀ (ws : List Nat) (τ : L2.St), (∀ w ∈ ws, w < τ.length → τ[w]? = some none) → wipe τ ws = τ := by
          intro ws
          induction ws with
          | nil => intro τ _; rfl
          | cons w ws ih =>
            intro τ hτ
            show (wipe τ ws).set w none = τ
            rw [ih τ fun w' hw' => hτ w' (List.mem_cons_of_mem _ hw')]
            by_cases hl : w < τ.length
            · exact set_none_of (hτ w List.mem_cons_self hl)
            · exact List.set_eq_of_length_le (by omega)
        intro τ
        exact aux vs _ fun w hw hl => wipe_get hw (by rw [wipe_length] at hl; exact hl)
      exact idem _ σ
    · refine ⟨G2, η1, r3, ?_⟩
      show ∀ G' H', Ext G2 H2 G' H' → _
      intro G3 H3 x3
      rw [if_pos rfl]
      have r4 := r2.extd x3
      cases hslot : η'[i]? with
      | none =>
        rw [hslot] at h1
        exact h1.elim
      | some so =>
        cases so with
        | none =>
          rw [hslot] at h1
          exact h1.elim
        | some so =>
          cases so with
          | dat d =>
            rw [hslot] at h1
            exact h1.elim
          | dic d =>
            rw [hslot] at h1
            exact h1.elim
          | kd d =>
            rw [hslot] at h1
            exact h1.elim
          | own xs =>
            rw [hslot] at h1
            obtain ⟨w, k1, aa, vs, rfl, k2, k3, k4, k5⟩ := r4.slot _ _ hslot
            have hσ2 : σ2[i]? = some (some (V.ref aa)) := by
              rw [← wipe_other (σ := σ2) hio, hw, wipe_other hio, wipe_other hio, k1]
            refine ⟨_, hσ2, .inl ⟨rfl, vs, .inl (.inl k4)⟩, tX.of (B := B.calm) (r3.extd x3) (sat_calm (sat_bind h1)) fun y hy G4 H4 w e4 rw4 => ?_⟩
            cases rw4 with
            | int k =>
              obtain ⟨⟨c1, c2, c3⟩, hy⟩ := sat_if (by exact hy)
              have r5 := r4.extd e4
              obtain ⟨w', j1, aa', vs4, ew, j2, j3, j4, j5⟩ := r5.slot _ _ hslot
              rw [k1] at j1
              cases j1
              cases ew
              cases hx : xs[k.toNat]? with
              | none =>
                rw [hx] at hy
                exact hy.elim
              | some d =>
                rw [hx] at hy
                have hy := sat_bind hy
                obtain ⟨vv, g1, g2⟩ := j5.get hx
                have hal := ap' i _ hslot rfl
                have hne : L ≠ aa := fun z => hal (by rw [z]; exact k1)
                have hacc4 : H4 L = some (.lst acc) := e4.h _ _ (x3.h _ _ (x2.h _ _ hacc))
                have dn2 : G2 L = Option.none := x2.fr L dn (by rw [hacc]; exact fun z => nomatch z)
                have dn3 : G3 L = Option.none := x3.fr L dn2 (by rw [x2.h _ _ hacc]; exact fun z => nomatch z)
                have dn4 : G4 L = Option.none := e4.fr L dn3 (by rw [x3.h _ _ (x2.h _ _ hacc)]; exact fun z => nomatch z)
                have r6 := r5.mut hslot rfl (t := .own (xs.eraseIdx k.toNat)) rfl k1 j2 j3 ⟨aa, _, rfl, j2, j3, upd_same, erase_rp j5 k.toNat⟩
                have ap6 : ∀ (j : Nat) s, (η'.set i (some (.own (xs.eraseIdx k.toNat))))[j]? = some (some s) → isOwn s = true → σ[j]? ≠ some (some (.ref L)) := fun j s ej os => by
                  by_cases hji : i = j
                  · subst hji
                    exact hal
                  · rw [List.getElem?_set_ne hji] at ej
                    exact ap' j s ej os
                refine ⟨aa, vs4, k, k.toNat, vv, rfl, rfl, j4, by omega, by omega, seqIndex_of c1 (by rw [j5.length]; exact c2), g1, acc, ?_, ?_, hlt, G4, _, acc ++ [vv], ys ++ [d], r6.far dn4 h0L ap6, ((xg.trans x2.g).trans x3.g).trans e4.g, dn4, upd_same, (((ra.mono x2.g).mono x3.g).mono e4.g).snoc g2, ?_, ap6, ?_⟩
                · rw [upd_ne hne]
                  exact hacc4
                · have al := ra.length
                  have hl' : ds.length ≤ 16777216 := hl
                  rw [line_eq]
                  show acc.length < 16777216
                  omega
                · rw [List.length_append, List.length_singleton]
                  omega
                · refine Sat.mono hy (fun zs hz => ?_) fun _ z => z
                  rw [List.append_assoc]
                  exact hz
            | _ => exact hy.elim
  · left
    have ei : m = ds.length := by omega
    subst ei
    refine ⟨wk.stops H' exH, ?_⟩
    rw [List.drop_length] at hc'
    have hc' : Fin X.K B D G (outOf (dJoin (.str []) (.lst (ys ++ []))).calm fun r => .ret r) := hc'
    rw [List.append_nil] at hc'
    cases z : strsL ys with
    | none =>
      simp [dJoin, z, Res.calm, Fin] at hc'
    | some ss =>
      have hj2 : dJoin (.str []) (.lst ys) = if lenSum ss + ss.length * ([] : List Nat).length ≤ Bk.lim then .ok (.str (joinS [] ss)) else .bad := by
        simp [dJoin, z]
      rw [hj2] at hc'
      by_cases hll : lenSum ss + ss.length * ([] : List Nat).length ≤ Bk.lim
      · rw [if_pos hll] at hc'
        have ev := ra.txts z
        subst ev
        refine ⟨_, L, ss.map Sx, rfl, rfl, .inl (.inl (.inl hacc)), ?_, ?_⟩
        · rw [lenSum_eq, List.length_map]
          exact hll
        · have e0 : ("" : Str) = Sx [] := by decide +kernel
          rw [e0, joinS_eq]
          exact hc' G' H' _ (e1.g.trans xg) r'.ext (.str _)
      · rw [if_neg hll] at hc'
        exact hc'.elim
end
end Bk
end
/-! BkPure2 -/
section
set_option linter.all false
set_option autoImplicit false
/-! BkPure2: further combinators -/
namespace Bk
/-- list.count of a pair of numbers; the receiver is known to be a list ahead of the argument -/
def eCountL (f g : E) : E := fun η => (f η).bind fun x => match x with
  | .lst _ => (g η).bind fun y => (dCountL x y).calm
  | _ => .bad
/-! list(range(n)) -/
def eListRange (f : E) : E := fun η => (f η).bind fun x => match x with
  | .int n => if 0 ≤ n ∧ n ≤ lim then .ok (.lst (numbers 0 n.toNat)) else .bad
  | _ => .bad
/-! dicts whose keys are tuples -/
mutual
def keyN : Nat → D → Bool
  | _, .none => true
  | _, .bool _ => true
  | _, .int _ => true
  | n + 1, .tup xs => keyNAll n xs
  | _, _ => false
def keyNAll : Nat → List D → Bool
  | _, [] => true
  | n, x :: xs => keyN n x && keyNAll n xs
end
def isTup : D → Bool
  | .tup _ => true
  | _ => false
def isNon : D → Bool
  | .none => true
  | _ => false
def kPut (ks : List D) (k : D) : List D := if ks.any (fun x => D.eqv x k) then ks else ks ++ [k]
def kdPut (ks : List D) (k : D) : Option (List D) := match ks with
  | [] => if isNon k then some [k] else if isTup k && keyN 8 k then some [k] else Option.none
  | _ => if decide (ks.length < lim) && isTup k && keyN 8 k && ks.all isTup then some (kPut ks k) else Option.none
/-- x[k] = True -/
def putKTo (i : Nat) (k : D) : St := fun η => match η[i]? with
  | some (some (.dic [])) => match kdPut [] k with
    | some ks => .next (η.set i (some (.kd ks)))
    | Option.none => .bad
  | some (some (.kd (k0 :: r))) => match kdPut (k0 :: r) k with
    | some ks => .next (η.set i (some (.kd ks)))
    | Option.none => .bad
  | _ => .bad
def kdSlot : Option (Option S) → Bool
  | some (some (.dic _)) => true
  | some (some (.kd _)) => true
  | _ => false
def sPutK (i : Nat) (fk fv : E) : St := fun η => outOf (fv η) fun _ => if kdSlot η[i]? then outOf (fk η) fun k => putKTo i k η else .bad
def eKLen (i : Nat) : E := fun η => match η[i]? with
  | some (some (.kd ks)) => .ok (.int ks.length)
  | _ => .bad
/-- [f, g, ..][i](x) -/
def ePick (φs : List (List D → Res D)) (f g : E) : E := fun η => (f η).bind fun x => match x with
  | .int j => match at? φs j with
    | some φ => (g η).bind fun d => φ [d]
    | Option.none => .bad
  | _ => .bad
end Bk
end
/-! BkRich2 -/
section
set_option Elab.async false
set_option linter.all false
set_option autoImplicit false
set_option maxRecDepth 100000
set_option maxHeartbeats 4000000
/-! BkRich2: list.count of pairs of numbers; a < b < c < d -/
namespace Bk
open PySem PySem.Spec PyProof.Rows L2
theorem pair_form {d : D} (h : pairNum d = true) : ∃ a b, d = .tup [.int a, .int b] := by
  unfold pairNum at h
  split at h
  · exact ⟨_, _, rfl⟩
  · cases h
theorem pair_lay {d : D} (h : pairNum d = true) : (toPy d).canLay0 = true ∧ (toPy d).depth ≤ 2 ∧ ∀ n, D.cmp (n + 1) d = true := by
  obtain ⟨a, b, rfl⟩ := pair_form h
  refine ⟨?_, ?_, fun n => ?_⟩
  · simp [toPy, toPys, PyData.canLay0, PyData.canLayAll0]
  · simp [toPy, toPys, PyData.depth, PyData.depthAll]
  · unfold D.cmp D.cmpAll D.cmpAll D.cmpAll
    cases n <;> simp [D.cmp]
theorem pairs_lay : ∀ {xs : List D}, xs.all pairNum = true → PyData.canLayAll0 (toPys xs) = true ∧ ∀ n, D.cmpAll (n + 1) xs = true
  | [], _ => ⟨by simp [toPys, PyData.canLayAll0], fun n => by unfold D.cmpAll; rfl⟩
  | x :: xs, h => by
    rw [List.all_cons, Bool.and_eq_true] at h
    obtain ⟨h1, h2⟩ := pairs_lay h.2
    obtain ⟨k1, _, k3⟩ := pair_lay h.1
    refine ⟨by simp [toPys, PyData.canLayAll0, k1, h1], fun n => ?_⟩
    unfold D.cmpAll
    rw [k3 n, h2 n]
    rfl
section
variable {X : Cx} {B : Bs} {a b c e tg iter : Expr} {es : List Expr} {pos p : Pos} {f g h k : E} {fs : List E}
theorem countP_py (y : D) : ∀ xs : List D, (toPys xs).countP (fun z => PyData.eqv z (toPy y)) = xs.countP fun x => D.eqv x y
  | [] => by simp [toPys]
  | x :: xs => by
    rw [toPys, List.countP_cons, List.countP_cons, countP_py y xs, eqv_py x y]
theorem mt_countP (hu : X.A.units + 64 < cLine) : MtR X "list.count" (fun x xs H Q => ∃ q G ds y, xs = [q] ∧ Ex G H ∧ Rp X.K G x (.lst ds) ∧ Rp X.K G q y ∧ pairNum y = true ∧ ds.all pairNum = true ∧ Q (.int (ds.countP fun x => D.eqv x y : Nat)) H) := by
  intro pins s σ H x xs v us Q I rx rxs hh
  obtain ⟨q, G, ds, y, rfl, ex, rd, ry, hy, hds, hq⟩ := hh
  obtain ⟨u, rfl, ru⟩ := rxs.one
  have hcl : D.cmp 64 (.lst ds) = true := by
    unfold D.cmp
    exact (pairs_lay hds).2 62
  obtain ⟨as, r1⟩ := Dp.reads I _ x v (dp_of hcl (rd.mono ex)) rx
  obtain ⟨bs, r2⟩ := Dp.reads I _ q u (dp_of ((pair_lay hy).2.2 63) (ry.mono ex)) ru
  have e0 : toPy (.lst ds) = .list (toPys ds) := by rw [toPy]
  rw [e0] at r1
  cases r1 with
  | list h1 h2 h3 h4 =>
    rename_i l o vs n as'
    obtain ⟨cls, dd, data, sl⟩ := o
    simp only at h2 h3
    subst h2 h3
    have hE := SeqAt.items_eqAt (A := X.A) h4 r2 (pairs_lay hds).1 (pair_lay hy).1 (by
      have := (pair_lay hy).2.1
      have h2 : min (PyData.depthAll (toPys ds)) (toPy y).depth ≤ 2 := Nat.le_trans (Nat.min_le_right _ _) this
      omega)
    refine call_meets PySem.F.slot_list_count ⟨_, h1, rfl⟩ PySem.F.entry_list_count (PySem.F.args_list_count_2 _ _)
      (SeqAt.list_countAt l vs n dd sl u (fun z => PyData.eqv (SeqAt.readOf s.heap z) (toPy y))) ⟨h1, fun z hz => hE z hz, ?_⟩
    refine ⟨.int (ds.countP fun x => D.eqv x y : Nat), H, I.tok _, ⟨s.toks, ?_⟩, hq⟩
    have ec : vs.toList.countP (fun z => PyData.eqv (SeqAt.readOf s.heap z) (toPy y)) = ds.countP fun x => D.eqv x y := by
      rw [← countP_py, ← SeqAt.readsAll_map _ _ _ (pairs_lay hds).1 h4, List.countP_map]
      rfl
    show Value.int ((vs.toList.countP _ : Nat) : Int) s.toks = Value.int ((ds.countP _ : Nat) : Int) s.toks
    rw [ec]
theorem pv_countL {apos : Pos} (hu : X.A.units + 64 < cLine) (ha : PE X a (tX X.K B f)) (hb : PE X b (tX X.K B g)) (h0 : starEach [b] X.env = (false, eval b X.env) :: starEach [] X.env := by rfl)
    (hpe : ∀ {to : TE} {t : TA}, PE X a to → PA X [b] t → PE X (.Call (.Attribute a "count" apos) [b] [] pos) (tBM X.K "list" (fun x xs H Q => ∃ q G ds y, xs = [q] ∧ Ex G H ∧ Rp X.K G x (.lst ds) ∧ Rp X.K G q y ∧ pairNum y = true ∧ ds.all pairNum = true ∧ Q (.int (ds.countP fun x => D.eqv x y : Nat)) H) to t) := by
      intro _ _ h1 h2; exact pe_bm PySem.F.plainAttrs_list PySem.F.slot_list_count PySem.F.type_list_count (mt_countP (by assumption)) h1 h2) :
    PE X (.Call (.Attribute a "count" apos) [b] [] pos) (tX X.K B (eCountL f g)) := pe_weak (hpe ha (pa_cons hb pa_nil h0)) fun σ H Q q => by
  obtain ⟨G, η, r, q⟩ := q
  refine tX.of r (sat_bind q) fun x hx G1 H1 v e1 r1 => ?_
  cases r1 with
  | lst hs ra =>
    rename_i ad xs ds
    refine ⟨.inl ⟨rfl, _, e1.gh.l hs⟩, ?_⟩
    refine tX.of (r.extd e1) (sat_bind hx) fun y hy G2 H2 w e2 r2 => ?_
    have hy : (dCountL (.lst ds) y).Sat _ (fun _ => False) := sat_calm hy
    obtain ⟨hc, hy⟩ := sat_if hy
    rw [Bool.and_eq_true] at hc
    exact ⟨w, G2, ds, y, rfl, e2.gh, (Rp.lst hs ra).mono e2.g, r2, hc.1, hc.2, hy G2 H2 _ (e1.trans e2) (.int _)⟩
  | _ => exact hx.elim
theorem tv_chain3 {op op' op2 : CmpOp} {d : Expr} {r r' r2 : D → D → Res D} (ho : OpD X (compareOp op) r) (ho' : OpD X (compareOp op') r') (ho2 : OpD X (compareOp op2) r2) (ha : PE X a (tX X.K B f)) (hb : PE X b (tX X.K B g)) (hc : PE X c (tX X.K B h)) (hd : PE X d (tX X.K B k))
    (hm : lastMarks [op, op', op2] [b, c, d] = false := by with_unfolding_all rfl) : PT X (.Compare a [op, op', op2] [b, c, d] pos) (tT X.K B (tE (eChain3 r r' r2 f g h k))) := by
  refine ⟨fun pins s σ H Q I q => ?_⟩
  obtain ⟨G, η, rp, q⟩ := q
  have q := bool_sat q
  refine isTrue_chain (thn (ha.run pins s σ H (fun v H1 => ∃ G1 x, Ext G H G1 H1 ∧ Rp X.K G1 v x ∧ ((g η).bind fun y => (r x y).calm.bind fun z => match z with
    | D.bool true => (h η).bind fun w => (r' y w).calm.bind fun z2 => match z2 with
      | D.bool true => (k η).bind fun v => (r2 w v).calm
      | D.bool false => .ok (D.bool false)
      | _ => .bad
    | D.bool false => .ok (D.bool false)
    | _ => .bad).Sat (fun z => ∃ k, z = D.bool k ∧ ∀ G' H', Ext G H G' H' → Q k H') (Rz B)) I (tX.of rp (sat_bind q) fun x hx G1 H1 v e1 r1 => ⟨G1, x, e1, r1, hx⟩)) fun v s1 hh => ?_) hm
  obtain ⟨xv, H1, I1, rx, G1, x, e1, r1, hx⟩ := hh
  refine test_link (thn (hb.run pins s1 σ H1 (fun u H2 => ∃ G2 y, Ext G1 H1 G2 H2 ∧ Rp X.K G2 u y ∧ ((r x y).calm.bind fun z => match z with
    | D.bool true => (h η).bind fun w => (r' y w).calm.bind fun z2 => match z2 with
      | D.bool true => (k η).bind fun v => (r2 w v).calm
      | D.bool false => .ok (D.bool false)
      | _ => .bad
    | D.bool false => .ok (D.bool false)
    | _ => .bad).Sat (fun z => ∃ k, z = D.bool k ∧ ∀ G' H', Ext G H G' H' → Q k H') (Rz B)) I1 (tX.of (rp.extd e1) (sat_bind hx) fun y hy G2 H2 w e2 r2 => ⟨G2, y, e2, r2, hy⟩)) fun u s2 hh => ?_)
  obtain ⟨yv, H2, I2, ry, G2, y, e2, r2', hy⟩ := hh
  have hy := sat_calm (R' := fun _ => False) (sat_bind hy)
  refine thn (ho pins s2 σ H2 xv yv v u (fun z H3 => ∃ G3 zd, Ext G2 H2 G3 H3 ∧ Rp X.K G3 z zd ∧ (match zd with
    | D.bool true => (h η).bind fun w => (r' y w).calm.bind fun z2 => match z2 with
      | D.bool true => (k η).bind fun v => (r2 w v).calm
      | D.bool false => .ok (D.bool false)
      | _ => .bad
    | D.bool false => .ok (D.bool false)
    | _ => .bad).Sat (fun z => ∃ k, z = D.bool k ∧ ∀ G' H', Ext G H G' H' → Q k H') (Rz B)) I2 rx ry ⟨G2, x, y, e2.gh, r1.mono e2.g, r2', Sat.mono hy (fun zd hz G3 H3 z e3 r3 => ⟨G3, zd, e3, r3, hz⟩) fun _ z => z⟩) fun dd s3 hh => ?_
  obtain ⟨z, H3, I3, rz, G3, zd, e3, r3, hz⟩ := hh
  cases r3 with
  | bool kb =>
    cases rz
    refine wpAny_truthy_bool ?_
    cases kb with
    | false =>
      obtain ⟨k', e', q'⟩ := hz
      cases e'
      exact ite_ff ⟨H3, I3, q' G3 H3 ((e1.trans e2).trans e3)⟩
    | true =>
      have hz : ((h η).bind fun w => (r' y w).calm.bind fun z2 => match z2 with
        | D.bool true => (k η).bind fun v => (r2 w v).calm
        | D.bool false => .ok (D.bool false)
        | _ => .bad).Sat (fun z => ∃ k, z = D.bool k ∧ ∀ G' H', Ext G H G' H' → Q k H') (Rz B) := hz
      refine ite_tt (test_link (thn (hc.run pins s3 σ H3 (fun w H4 => ∃ G4 wd, Ext G3 H3 G4 H4 ∧ Rp X.K G4 w wd ∧ ((r' y wd).calm.bind fun z2 => match z2 with
        | D.bool true => (k η).bind fun v => (r2 wd v).calm
        | D.bool false => .ok (D.bool false)
        | _ => .bad).Sat (fun z => ∃ k, z = D.bool k ∧ ∀ G' H', Ext G H G' H' → Q k H') (Rz B)) I3 (tX.of (((rp.extd e1).extd e2).extd e3) (sat_bind hz) fun y hy G2 H2 w e2 r2 => ⟨G2, y, e2, r2, hy⟩)) fun w' s4 hh => ?_))
      obtain ⟨wv, H4, I4, rw', G4, wd, e4, r4, hw⟩ := hh
      have hw := sat_calm (R' := fun _ => False) (sat_bind hw)
      refine thn (ho' pins s4 σ H4 yv wv u w' (fun z H5 => ∃ G5 zd, Ext G4 H4 G5 H5 ∧ Rp X.K G5 z zd ∧ (match zd with
        | D.bool true => (k η).bind fun v => (r2 wd v).calm
        | D.bool false => .ok (D.bool false)
        | _ => .bad).Sat (fun z => ∃ k, z = D.bool k ∧ ∀ G' H', Ext G H G' H' → Q k H') (Rz B)) I4 ry rw' ⟨G4, y, wd, e4.gh, (r2'.mono e3.g).mono e4.g, r4, Sat.mono hw (fun zd hz G3 H3 z e3 r3 => ⟨G3, zd, e3, r3, hz⟩) fun _ z => z⟩) fun dd s5 hh => ?_
      obtain ⟨z5, H5, I5, rz5, G5, zd5, e5, r5, hz5⟩ := hh
      cases r5 with
      | bool kb =>
        cases rz5
        refine wpAny_truthy_bool ?_
        have ee := ((((e1.trans e2).trans e3).trans e4).trans e5)
        cases kb with
        | false =>
          obtain ⟨k', e', q'⟩ := hz5
          cases e'
          exact ite_ff ⟨H5, I5, q' G5 H5 ee⟩
        | true =>
          have hz5 : ((k η).bind fun v => (r2 wd v).calm).Sat (fun z => ∃ k, z = D.bool k ∧ ∀ G' H', Ext G H G' H' → Q k H') (Rz B) := hz5
          refine ite_tt (test_last (thn (hd.run pins s5 σ H5 (fun w H6 => ∃ G6 vd, Ext G5 H5 G6 H6 ∧ Rp X.K G6 w vd ∧ ((r2 wd vd).calm).Sat (fun z => ∃ k, z = D.bool k ∧ ∀ G' H', Ext G H G' H' → Q k H') (Rz B)) I5 (tX.of (rp.extd ee) (sat_bind hz5) fun y hy G2 H2 w e2 r2 => ⟨G2, y, e2, r2, hy⟩)) fun v6 s6 hh => ?_))
          obtain ⟨vv, H6, I6, rv6, G6, vd, e6, r6, hv⟩ := hh
          refine thn (ho2 pins s6 σ H6 wv vv w' v6 (fun z H7 => ∃ kk, z = .bl kk ∧ Q kk H7) I6 rw' rv6 ⟨G6, wd, vd, e6.gh, (r4.mono e5.g).mono e6.g, r6, Sat.mono (sat_calm hv) (fun zd hz G7 H7 z e7 r7 => ?_) fun _ z => z⟩) fun dd s7 hh => ?_
          · obtain ⟨kk, rfl, hz⟩ := hz
            cases r7
            exact ⟨kk, rfl, hz G7 H7 ((ee.trans e6).trans e7)⟩
          · obtain ⟨z7, H7, I7, rz7, kk, rfl, q7⟩ := hh
            cases rz7
            exact wpAny_truthy_bool ⟨H7, I7, q7⟩
      | _ => exact hz5.elim
  | _ => exact hz.elim
end
end Bk
end
/-! BkRich3 -/
section
set_option Elab.async false
set_option linter.all false
set_option autoImplicit false
set_option maxRecDepth 100000
set_option maxHeartbeats 4000000
/-! BkRich3: dicts whose keys are tuples; a call of one of several defs; list(range(n)) -/
namespace Bk
open PySem PySem.Spec PyProof.Rows L2
/-- where the law knows one class of refusals alone -/
structure ErrsR (K : PySem.W.Frag) (mg : Str → Option Value) (cl : Cls → Addr) : Prop where
  r : ErrC K mg (cl .noRow) "NoRow"
/-! ### keys -/
mutual
theorem eqv_nkey : ∀ {a b : D} {x y : NestedKey}, nkey a = some x → nkey b = some y → D.eqv a b = NestedKey.beq x y
  | .none, b, x, y, ha, hb => by
    cases ha
    cases b <;> simp [nkey] at hb
    · subst hb; rfl
    · subst hb; rfl
    · subst hb; rfl
    · obtain ⟨ks, _, rfl⟩ := hb; rfl
  | .bool i, b, x, y, ha, hb => by
    cases ha
    cases b <;> simp [nkey] at hb
    · subst hb; rfl
    · rename_i c
      subst hb
      cases i <;> cases c <;> rfl
    · subst hb
      simp only [D.eqv, NestedKey.beq]
      exact Bool.beq_eq_decide_eq _ _
    · obtain ⟨ks, _, rfl⟩ := hb; rfl
  | .int i, b, x, y, ha, hb => by
    cases ha
    cases b <;> simp [nkey] at hb
    · subst hb; rfl
    · subst hb
      simp only [D.eqv, NestedKey.beq]
      exact Bool.beq_eq_decide_eq _ _
    · subst hb
      simp only [D.eqv, NestedKey.beq]
      exact Bool.beq_eq_decide_eq _ _
    · obtain ⟨ks, _, rfl⟩ := hb; rfl
  | .tup as, b, x, y, ha, hb => by
    simp [nkey] at ha
    obtain ⟨xs, hxs, rfl⟩ := ha
    cases b <;> simp [nkey] at hb
    · subst hb; rfl
    · subst hb; rfl
    · subst hb; rfl
    · obtain ⟨ks, hks, rfl⟩ := hb
      simp only [D.eqv, NestedKey.beq]
      exact eqv_nkeys hxs hks
  | .str _, _, _, _, ha, _ => by simp [nkey] at ha
  | .lst _, _, _, _, ha, _ => by simp [nkey] at ha
  | .dic _, _, _, _, ha, _ => by simp [nkey] at ha
theorem eqv_nkeys : ∀ {as bs : List D} {xs ys : List NestedKey}, nkeys as = some xs → nkeys bs = some ys → D.eqvAll as bs = NestedKey.beqAll xs ys
  | [], bs, xs, ys, ha, hb => by
    cases ha
    cases bs with
    | nil => cases hb; rfl
    | cons b bs =>
      cases h1 : nkey b with
      | none => simp [nkeys, h1] at hb
      | some y1 =>
        cases h2 : nkeys bs with
        | none => simp [nkeys, h1, h2] at hb
        | some y2 =>
          simp [nkeys, h1, h2] at hb
          subst hb
          rfl
  | a :: as, bs, xs, ys, ha, hb => by
    cases g1 : nkey a with
    | none => simp [nkeys, g1] at ha
    | some x1 =>
      cases g2 : nkeys as with
      | none => simp [nkeys, g1, g2] at ha
      | some x2 =>
        simp [nkeys, g1, g2] at ha
        subst ha
        cases bs with
        | nil => cases hb; rfl
        | cons b bs =>
          cases h1 : nkey b with
          | none => simp [nkeys, h1] at hb
          | some y1 =>
            cases h2 : nkeys bs with
            | none => simp [nkeys, h1, h2] at hb
            | some y2 =>
              simp [nkeys, h1, h2] at hb
              subst hb
              simp only [D.eqvAll, NestedKey.beqAll]
              rw [eqv_nkey g1 h1, eqv_nkeys g2 h2]
end
mutual
theorem keyN_nkey : ∀ {n : Nat} {d : D}, keyN n d = true → ∃ k, nkey d = some k ∧ k.depth ≤ n
  | _, .none, _ => ⟨.none, rfl, Nat.zero_le _⟩
  | _, .bool b, _ => ⟨_, rfl, Nat.zero_le _⟩
  | _, .int i, _ => ⟨_, rfl, Nat.zero_le _⟩
  | n + 1, .tup xs, h => by
    obtain ⟨ks, h1, h2⟩ := keyNs_nkeys (n := n) (ds := xs) (by simpa [keyN] using h)
    exact ⟨.tup ks, by simp [nkey, h1], by simp only [NestedKey.depth]; omega⟩
  | 0, .tup xs, h => by simp [keyN] at h
  | _, .str _, h => by simp [keyN] at h
  | _, .lst _, h => by simp [keyN] at h
  | _, .dic _, h => by simp [keyN] at h
theorem keyNs_nkeys : ∀ {n : Nat} {ds : List D}, keyNAll n ds = true → ∃ ks, nkeys ds = some ks ∧ NestedKey.depthAll ks ≤ n
  | _, [], _ => ⟨[], rfl, Nat.zero_le _⟩
  | n, d :: ds, h => by
    simp only [keyNAll, Bool.and_eq_true] at h
    obtain ⟨k, h1, h2⟩ := keyN_nkey h.1
    obtain ⟨ks, h3, h4⟩ := keyNs_nkeys h.2
    exact ⟨k :: ks, by simp [nkeys, h1, h3], by simp only [NestedKey.depthAll]; omega⟩
end
mutual
theorem nkey_hash (w w' : World) : ∀ {d : D} {k : NestedKey}, nkey d = some k → k.hash w = k.hash w'
  | .none, _, h => by cases h; rfl
  | .bool _, _, h => by cases h; rfl
  | .int _, _, h => by cases h; rfl
  | .tup ds, k, h => by
    simp [nkey] at h
    obtain ⟨ks, h1, rfl⟩ := h
    simp only [NestedKey.hash]
    rw [nkeys_hash w w' h1]
  | .str _, _, h => by simp [nkey] at h
  | .lst _, _, h => by simp [nkey] at h
  | .dic _, _, h => by simp [nkey] at h
theorem nkeys_hash (w w' : World) : ∀ {ds : List D} {ks : List NestedKey}, nkeys ds = some ks → NestedKey.hashes w ks = NestedKey.hashes w' ks
  | [], _, h => by cases h; rfl
  | d :: ds, ks, h => by
    cases g1 : nkey d with
    | none => simp [nkeys, g1] at h
    | some x1 =>
      cases g2 : nkeys ds with
      | none => simp [nkeys, g1, g2] at h
      | some x2 =>
        simp [nkeys, g1, g2] at h
        subst h
        simp only [NestedKey.hashes]
        rw [nkey_hash w w' g1, nkeys_hash w w' g2]
end
section
variable {X : Cx} {pins : List (Addr × Obj)} {σ : L2.St} {H G : Hp} {s : Shared}
mutual
theorem nested_of (I : Inv X pins σ H s) (ex : Ex G H) : ∀ {v : V} {d : D} {nk : NestedKey} {u : Value}, Rp X.K G v d → nkey d = some nk → RelV v u → NestedIs s.heap nk u
  | _, _, _, _, .none, e, r => by
    cases e
    cases r
    exact .none
  | _, _, _, _, .bool b, e, r => by
    cases e
    cases r
    exact .bool rfl
  | _, _, _, _, .int i, e, r => by
    cases e
    obtain ⟨t, rfl⟩ := r
    exact .int _ _
  | _, _, _, _, .str _, e, _ => by simp [nkey] at e
  | _, _, _, _, .lst _ _, e, _ => by simp [nkey] at e
  | _, _, _, _, .dic _ _, e, _ => by simp [nkey] at e
  | _, _, _, _, .tup h r', e, r => by
    simp [nkey] at e
    obtain ⟨ks, h1, rfl⟩ := e
    cases r
    obtain ⟨its, rv, ⟨o, ho, hc, n, hd⟩, _⟩ := I.tuple (ex.t h)
    exact .tup ho hc hd (by simpa using nested_all I ex r' h1 rv)
theorem nested_all (I : Inv X pins σ H s) (ex : Ex G H) : ∀ {vs : List V} {ds : List D} {ks : List NestedKey} {us : List Value}, RpAll X.K G vs ds → nkeys ds = some ks → Vals vs us → NestedAll s.heap ks us
  | _, _, _, _, .nil, e, r => by
    cases e
    cases r
    exact .nil
  | _, _, ks, _, .cons (d := d) (ds := ds) h t, e, r => by
    cases g1 : nkey d with
    | none => simp [nkeys, g1] at e
    | some x1 =>
      cases g2 : nkeys ds with
      | none => simp [nkeys, g1, g2] at e
      | some x2 =>
        simp [nkeys, g1, g2] at e
        subst e
        cases r with
        | cons r1 r2 => exact .cons (nested_of I ex h g1 r1) (nested_all I ex t g2 r2)
end
end
theorem ents_eq {K : PySem.W.Frag} {G : Hp} : ∀ {ks : List D} {xs : List (NestedKey × Addr × Value)}, RpKs K G ks xs → ∀ (P P' : Program) (w w' : World), xs.map (entryOfKey (nestedKind P w)) = xs.map (entryOfKey (nestedKind P' w'))
  | _, _, .nil, _, _, _, _ => rfl
  | _, _, .cons h1 h2 h3 r, P, P', w, w' => by
    rw [List.map_cons, List.map_cons, ents_eq r P P' w w']
    congr 1
    show DictEntry.mk _ _ _ = DictEntry.mk _ _ _
    congr 1
    exact nkey_hash w w' h1
theorem rpks_len {K : PySem.W.Frag} {G : Hp} : ∀ {ks : List D} {xs : List (NestedKey × Addr × Value)}, RpKs K G ks xs → xs.length = ks.length
  | _, _, .nil => rfl
  | _, _, .cons _ _ _ r => congrArg (· + 1) (rpks_len r)
theorem rpks_app {K : PySem.W.Frag} {G : Hp} : ∀ {ks ls : List D} {xs ys : List (NestedKey × Addr × Value)}, RpKs K G ks xs → RpKs K G ls ys → RpKs K G (ks ++ ls) (xs ++ ys)
  | _, _, _, _, .nil, h => h
  | _, _, _, _, .cons a b c r, h => .cons a b c (rpks_app r h)
theorem rpks_put {K : PySem.W.Frag} {G : Hp} {nk : NestedKey} {v : Value} : ∀ {ks : List D} {xs : List (NestedKey × Addr × Value)}, RpKs K G ks xs → RpKs K G ks (xs.map (putAt nk v))
  | _, _, .nil => .nil
  | _, _, .cons (nk := n1) h1 h2 h3 r => by
    rw [List.map_cons]
    by_cases h : n1 = nk
    · simp only [putAt, if_pos h]
      exact .cons h1 h2 h3 (rpks_put r)
    · simp only [putAt, if_neg h]
      exact .cons h1 h2 h3 (rpks_put r)
theorem rpks_any {K : PySem.W.Frag} {G : Hp} {k : D} {nk : NestedKey} (e : nkey k = some nk) : ∀ {ks : List D} {xs : List (NestedKey × Addr × Value)}, RpKs K G ks xs → (ks.any fun x => D.eqv x k) = xs.any fun x => decide (x.1 = nk)
  | _, _, .nil => rfl
  | _, _, .cons h1 h2 h3 r => by
    rw [List.any_cons, List.any_cons, rpks_any e r, eqv_nkey h1 e, NestedKey.decide_eq]
theorem rpks_mem {K : PySem.W.Frag} {G : Hp} : ∀ {ks : List D} {xs : List (NestedKey × Addr × Value)}, RpKs K G ks xs → ∀ x ∈ xs, ∃ k, nkey k = some x.1 ∧ x.1.depth ≤ 8 ∧ Rp K G (.ref x.2.1) k
  | _, _, .nil, x, h => nomatch h
  | _, _, .cons h1 h2 h3 r, x, h => by
    rcases List.mem_cons.mp h with rfl | h
    · exact ⟨_, h1, h2, h3⟩
    · exact rpks_mem r x h
/-! ### the store -/
section
variable {X : Cx} {a e o i : Expr} {pos pos' p : Pos} {f g : E} {B : Bs}
/-- what behind a[y] = r stands -/
def KPut (X : Cx) (H : Hp) (a : Addr) (y : V) (r : Value) (H' : Hp) : Prop := ∀ (pins : List (Addr × Obj)) (σ : L2.St) (s : Shared) (u : Value) (A : Around) (E : Value → Shared → Prop) (Q : Unit → Shared → Prop),
  A.units + 9 < cLine → Inv X pins σ H s → RelV y u → (∀ s', Inv X pins σ H' s' → Q () s') → wpAny (model X.prog X.w) A (setItem (.ref a) u r) Q E s
def sKPut (X : Cx) (td ty tv : TE) : TS := fun D σ H => tv σ H fun v H1 => td σ H1 fun x H2 => ty σ H2 fun y H3 => ∃ a, x = .ref a ∧ ∀ r, RelV v r → ∃ H4, KPut X H3 a y r H4 ∧ D.nx σ H4
theorem ps_kput {td ty tv : TE} {value : Expr} (hu : X.A.units + 9 < cLine) (ho : PE X o td) (hi : PE X i ty) (hv : PE X value tv) (hs : swapsWith value (some (.Subscript o i pos')) pos.line X.env = pure false) :
    PS X (.Assign [.Subscript o i pos'] value pos) (sKPut X td ty tv) := by
  refine ⟨fun pins s σ H D I h => ?_⟩
  refine wpAny_Assign_Subscript (thn (hv.run pins s σ H _ I h) fun r s1 ⟨v, H1, I1, rv, q1⟩ => thn (ho.run pins s1 σ H1 _ I1 q1) fun u s2 ⟨x, H2, I2, rx, q2⟩ => thn (hi.run pins s2 σ H2 _ I2 q2) fun iv s3 ⟨y, H3, I3, ry, a, ex, g⟩ => ?_) hs
  subst ex
  obtain rfl : u = Value.ref a := rx
  obtain ⟨H4, g, q3⟩ := g r rv
  exact g pins σ s3 iv _ _ _ hu I3 ry fun s4 I4 => ⟨σ, H4, I4, q3⟩
/-- the empty dict as one of nested keys -/
theorem empty_raw {P : Program} {w : World} {H : Hp} {h : Heap} {a : Addr} (ok : HOk P w H h) (e : H a = some (.dK [])) : (a == sysModules) = false ∧ ∃ o ep, h.get? a = some o ∧ o.ExactDict ∧ o.data = .dict #[] ep := by
  obtain ⟨_, hd, vs, rel, o, es, ep, h1, h2, h3, _, h5, _⟩ := ok a _ e
  cases rel
  have : es = #[] := by
    cases es with
    | mk l =>
      cases l with
      | nil => rfl
      | cons x r => cases h5
  subst this
  exact ⟨hd, o, ep, h1, h2, h3⟩
theorem dictOfH_stay {P : Program} {w : World} {a : Addr} {xs : List (NestedKey × Addr × Value)} {h1 h2 : Heap} (x : ∃ o es ep, h1.get? a = some o ∧ o.ExactDict ∧ o.data = .dict es ep ∧ es.toList = xs.map (entryOfKey (nestedKind P w))) (k : ∀ o, h1.get? a = some o → h2.get? a = some o) :
    ∃ o es ep, h2.get? a = some o ∧ o.ExactDict ∧ o.data = .dict es ep ∧ es.toList = xs.map (entryOfKey (nestedKind P w)) := by
  obtain ⟨o, es, ep, e, r⟩ := x
  exact ⟨o, es, ep, k _ e, r⟩
/-- the entries of a dict of nested keys -/
abbrev kdφ (P : Program) (w : World) (a : Addr) (xs : List (NestedKey × Addr × Value)) : Heap → Prop := fun h => (a == sysModules) = false ∧ ∃ o es ep, h.get? a = some o ∧ o.ExactDict ∧ o.data = .dict es ep ∧ es.toList = xs.map (entryOfKey (nestedKind P w))
theorem kd_ok {K : PySem.W.Frag} {G : Hp} {P : Program} {w : World} {a : Addr} {ks : List D} {xs : List (NestedKey × Addr × Value)} (hl : ks.length ≤ lim) (hn : (xs.map (·.1)).Nodup) (r : RpKs K G ks xs) : KdOk K G a (kdφ P w a xs) ks := by
  refine ⟨hl, fun h ⟨hd, o, es, ep, h1, h2, h3, h4⟩ => ⟨hd, es, ep, ⟨o, h1, h2, h3⟩, ?_⟩, .inr ⟨xs, fun P' w' h ⟨hd, o, es, ep, h1, h2, h3, h4⟩ => ⟨o, es, ep, h1, h2, h3, ?_⟩, hn, r⟩⟩
  · rw [← rpks_len r, ← Array.length_toList, h4, List.length_map]
  · rw [h4]
    exact ents_eq r _ _ _ _
/-- a[k] = r, k a tuple -/
theorem kput_tup {H G : Hp} {ad b : Addr} {xs : List (NestedKey × Addr × Value)} {ks : List D} {k : D} {nk : NestedKey} {r : Value} (ex : Ex G H) (mu : Mut (H ad)) (hraw : ∀ h, HOk X.prog X.w H h → kdφ X.prog X.w ad xs h) (hn : (xs.map (·.1)).Nodup) (rk : RpKs X.K G ks xs) (hl : ks.length < lim)
    (e : nkey k = some nk) (hdp : nk.depth ≤ 8) (rv : Rp X.K G (.ref b) k) : KPut X H ad (.ref b) r (upd H ad (.ext (kdφ X.prog X.w ad (storedH xs nk b r)))) := by
  intro pins σ s u A E Q hu I ry q
  cases ry
  obtain ⟨hd, o, es, ep, h1, h2, h3, h4⟩ := hraw s.heap I.hok
  have hm : s.heap.DictOfH (nestedKind X.prog X.w) ad xs := ⟨o, es, ep, h1, h2, h3, h4, fun x hx => by
    obtain ⟨k', k1, k2, k3⟩ := rpks_mem rk x hx
    exact ⟨nested_of I ex k3 k1 rfl, k2⟩, hn⟩
  refine wpAny_setItem_heap (knd := nestedKind X.prog X.w) (hsz := by rw [rpks_len rk, line_eq]; exact Nat.le_of_lt hl) (by show A.units + 1 + 8 < cLine; omega) ⟨nested_of I ex rv e rfl, hdp⟩ hm fun h' hm' hs => q _ ?_
  obtain ⟨o', es', ep', k1, k2, k3, k4, k5, k6⟩ := hm'
  exact d_write I mu hs ⟨o', k1⟩ ⟨⟨hd, o', es', ep', k1, k2, k3, k4⟩, ⟨o', k1⟩, fun _ _ x y => ⟨x.1, dictOfH_stay x.2 y⟩⟩
/-- a[None] = r, a the empty dict -/
abbrev knφ (P : Program) (w : World) (a : Addr) (r : Value) : Heap → Prop := fun h => (a == sysModules) = false ∧ h.DictOf (leafKind P w) a [(Leaf.none, r)]
theorem kput_non {H : Hp} {ad : Addr} {r : Value} (e : H ad = some (.dK [])) : KPut X H ad .non r (upd H ad (.ext (knφ X.prog X.w ad r))) := by
  intro pins σ s u A E Q hu I ry q
  cases ry
  obtain ⟨hd, o, ep, h1, h2, h3⟩ := empty_raw I.hok e
  have hm : s.heap.DictOf (leafKind X.prog X.w) ad [] := ⟨o, #[], ep, h1, h2, h3, fun _ h => by simp at h, .nil, List.nodup_nil⟩
  refine wpAny_setItem_pairs (knd := leafKind X.prog X.w) (k := Leaf.none) rfl hm fun h' hm' hs => q _ ?_
  obtain ⟨o', es', ep', k1, k2⟩ := id hm'
  exact d_write I (by rw [e]; exact True.intro) hs ⟨o', k1⟩ ⟨⟨hd, hm'⟩, ⟨o', k1⟩, fun _ _ ⟨hd, o, es, ep, x1, x2⟩ y => ⟨hd, o, es, ep, y _ x1, x2⟩⟩
theorem kn_ok {K : PySem.W.Frag} {G : Hp} {P : Program} {w : World} {a : Addr} {r : Value} : KdOk K G a (knφ P w a r) [.none] := by
  refine ⟨by decide, fun h ⟨hd, hm⟩ => ?_, .inl rfl⟩
  obtain ⟨es, ep, h1, h2, _⟩ := hm.raw
  exact ⟨hd, es, ep, h1, h2⟩
theorem putAt_keys {nk : NestedKey} {v : Value} (xs : List (NestedKey × Addr × Value)) : (xs.map (putAt nk v)).map (·.1) = xs.map (·.1) := by
  rw [List.map_map]
  refine List.map_congr_left fun x _ => ?_
  show (putAt nk v x).1 = x.1
  unfold putAt
  split <;> rfl
theorem atKey_any (xs : List (NestedKey × Addr × Value)) (k : NestedKey) : (atKey xs k).isSome = xs.any fun x => decide (x.1 = k) := by
  unfold atKey
  rw [Option.isSome_map]
  induction xs with
  | nil => rfl
  | cons x xs ih =>
    rw [List.find?_cons, List.any_cons]
    cases h : decide (x.1 = k) with
    | true => rfl
    | false => rw [ih, Bool.false_or]
theorem stored_rp {K : PySem.W.Frag} {G : Hp} {ks : List D} {xs : List (NestedKey × Addr × Value)} {k : D} {nk : NestedKey} {b : Addr} {r : Value} (rk : RpKs K G ks xs) (hn : (xs.map (·.1)).Nodup) (e : nkey k = some nk) (hdp : nk.depth ≤ 8) (rv : Rp K G (.ref b) k) :
    RpKs K G (kPut ks k) (storedH xs nk b r) ∧ ((storedH xs nk b r).map (·.1)).Nodup := by
  unfold storedH kPut
  rw [atKey_any, rpks_any e rk]
  by_cases h : (xs.any fun x => decide (x.1 = nk)) = true
  · rw [if_pos h, if_pos h]
    exact ⟨rpks_put rk, by rw [putAt_keys]; exact hn⟩
  · rw [if_neg h, if_neg h]
    refine ⟨rpks_app rk (.cons e hdp rv .nil), ?_⟩
    rw [List.map_append, List.nodup_append]
    refine ⟨hn, by simp, fun x hx y hy z => h ?_⟩
    subst z
    obtain ⟨p, hp, ep⟩ := List.mem_map.mp hx
    simp at hy
    exact List.any_eq_true.mpr ⟨p, hp, decide_eq_true (ep.trans hy)⟩
theorem kPut_len (ks : List D) (k : D) : (kPut ks k).length ≤ ks.length + 1 := by
  unfold kPut
  split <;> simp
/-- x[k] = v -/
theorem s_putK (i : Nat) {b : Expr} {x : Str} {px pt : Pos} (hu : X.A.units + 12 < cLine) (hk : PE X b (tX X.K B g)) (ha : PE X a (tX X.K B f)) (hN : X.N[i]? = some x := by rfl) (hv : Vis X.env.scope x := by first | exact Or.inl rfl | exact Or.inr (Or.inl rfl) | exact Or.inr (Or.inr rfl)) (hd : (x == ("__debug__" : Str)) = false := by decide)
    (hcd : (x == ("__classdict__" : Str)) = false := by decide) (hs : swapsWith a (some (.Subscript (.Name x px) b pt)) pos.line X.env = pure false := by rfl) : PS X (.Assign [.Subscript (.Name x px) b pt] a pos) (tS X.K B (sPutK i g f)) :=
  ps_weak (ps_kput (by omega) (pe_var hN hv hd hcd) hk ha hs) fun D σ H q => by
    obtain ⟨G, η, r, q⟩ := q
    refine tX.of r (Fin.ofRes q) fun d hd' G1 H1 v e1 r1 => ?_
    have hd' : Fin X.K B D G (if kdSlot η[i]? = true then outOf (g η) fun k => putKTo i k η else .bad) := hd'
    by_cases hsl : kdSlot η[i]? = true
    · rw [if_pos hsl] at hd'
      have r2 := r.extd e1
      obtain ⟨w, h1, ad, ew⟩ : ∃ w, σ[i]? = some (some w) ∧ ∃ ad, w = V.ref ad := by
        cases z : η[i]? with
        | none => rw [z] at hsl; exact absurd hsl Bool.false_ne_true
        | some so =>
          rw [z] at hsl
          cases so with
          | none => exact absurd hsl Bool.false_ne_true
          | some so =>
            cases so with
            | dat d => exact absurd hsl Bool.false_ne_true
            | own d => exact absurd hsl Bool.false_ne_true
            | dic d =>
              obtain ⟨w, h1, aa, _, e, _⟩ := r.slot _ _ z
              exact ⟨w, h1, aa, e⟩
            | kd d =>
              obtain ⟨w, h1, aa, _, e, _⟩ := r.slot _ _ z
              exact ⟨w, h1, aa, e⟩
      subst ew
      refine ⟨_, h1, tX.of r2 (Fin.ofRes hd') fun kd hk2 G2 H2 kv e2 rk => ⟨ad, rfl, fun rr rvv => ?_⟩⟩
      have r3 := r2.extd e2
      unfold putKTo at hk2
      split at hk2
      · rename_i e
        obtain ⟨w', k1, aa, kvs, rfl, c0, cg, ch, ck⟩ := r3.slot _ _ e
        rw [h1] at k1
        cases k1
        cases ck
        split at hk2
        · rename_i ks ek
          have ek : (if isNon kd = true then some [kd] else if (isTup kd && keyN 8 kd) = true then some [kd] else Option.none) = some ks := ek
          by_cases hn : isNon kd = true
          · rw [if_pos hn] at ek
            cases ek
            cases kd <;> simp [isNon] at hn
            cases rk
            exact ⟨_, kput_non ch, hk2 G2 _ σ (e1.g.trans e2.g) (r3.mut e rfl rfl h1 c0 cg ⟨ad, _, rfl, c0, cg, upd_same, kn_ok⟩)⟩
          · rw [if_neg hn] at ek
            by_cases ht : (isTup kd && keyN 8 kd) = true
            · rw [if_pos ht] at ek
              cases ek
              rw [Bool.and_eq_true] at ht
              obtain ⟨nk, n1, n2⟩ := keyN_nkey ht.2
              cases kd <;> simp [isTup] at ht
              obtain ⟨b, rfl⟩ : ∃ b, kv = V.ref b := by
                cases rk
                exact ⟨_, rfl⟩
              have pr := stored_rp (r := rr) (RpKs.nil (K := X.K) (G := G2)) List.nodup_nil n1 n2 rk
              exact ⟨_, kput_tup r3.exg (by rw [ch]; exact True.intro) (fun h ok => let ⟨z, o, ep, z1, z2, z3⟩ := empty_raw ok ch; ⟨z, o, #[], ep, z1, z2, z3, rfl⟩) (xs := []) List.nodup_nil (.nil) (by decide) n1 n2 rk, hk2 G2 _ σ (e1.g.trans e2.g) (r3.mut e rfl rfl h1 c0 cg ⟨ad, _, rfl, c0, cg, upd_same, kd_ok (by show 1 ≤ 16777216; omega) pr.2 pr.1⟩)⟩
            · rw [if_neg ht] at ek
              cases ek
        · exact hk2.elim
      · rename_i k0 rs e
        obtain ⟨w', k1, aa, φ, rfl, c0, cg, ch, cl, craw, ck⟩ := r3.slot _ _ e
        rw [h1] at k1
        cases k1
        split at hk2
        · rename_i ks ek
          have ek : (if (decide ((k0 :: rs).length < lim) && isTup kd && keyN 8 kd && (k0 :: rs).all isTup) = true then some (kPut (k0 :: rs) kd) else Option.none) = some ks := ek
          by_cases ht : (decide ((k0 :: rs).length < lim) && isTup kd && keyN 8 kd && (k0 :: rs).all isTup) = true
          · rw [if_pos ht] at ek
            cases ek
            rw [Bool.and_eq_true, Bool.and_eq_true, Bool.and_eq_true] at ht
            obtain ⟨⟨⟨t1, t2⟩, t3⟩, t4⟩ := ht
            have t1 := of_decide_eq_true t1
            obtain ⟨nk, n1, n2⟩ := keyN_nkey t3
            obtain ⟨b, rfl⟩ : ∃ b, kv = V.ref b := by
              cases kd <;> simp [isTup] at t2
              cases rk
              exact ⟨_, rfl⟩
            rcases ck with ck | ⟨xs, c1, c2, c3⟩
            · rw [ck] at t4
              simp [isTup] at t4
            · have pr := stored_rp (r := rr) c3 c2 n1 n2 rk
              exact ⟨_, kput_tup r3.exg (by rw [ch]; exact True.intro) (fun h ok => ⟨(craw h (ok ad _ ch).1).1, c1 _ _ h (ok ad _ ch).1⟩) c2 c3 t1 n1 n2 rk, hk2 G2 _ σ (e1.g.trans e2.g) (r3.mut e rfl rfl h1 c0 cg ⟨ad, _, rfl, c0, cg, upd_same, kd_ok (Nat.le_trans (kPut_len _ _) t1) pr.2 pr.1⟩)⟩
          · rw [if_neg ht] at ek
            cases ek
        · exact hk2.elim
      · exact hk2.elim
    · rw [if_neg hsl] at hd'
      exact hd'.elim
/-- len of it -/
theorem call_lenK : CallR X (.builtin "len") (fun xs H Q => ∃ a φ n, xs = [V.ref a] ∧ H a = some (.ext φ) ∧ n ≤ lim ∧ (∀ h, φ h → (a == sysModules) = false ∧ ∃ es ep, h.DictRaw a es ep ∧ es.size = n) ∧ Q (.int n) H) := by
  intro pins s σ H xs us Q I r h
  obtain ⟨a, φ, n, rfl, ha, hn, hr, q⟩ := h
  obtain ⟨u, rfl, ru⟩ := vals1 r
  cases ru
  obtain ⟨hd, es, ep, hm, rfl⟩ := hr _ (I.hok a _ ha).1
  have hz : ¬ (es.size : Int) ≥ 9223372036854775808 := by
    have h1 : (es.size : Int) ≤ 16777216 := Int.ofNat_le.mpr hn
    omega
  refine PyProof.Rows.call_len_slot (n := es.size) hm.typeIs F.slot_dict_len (fun Q' hq => call_len_raw hd hm hq) (by omega) hz ?_
  exact ⟨.int es.size, H, I.tok _, ⟨_, rfl⟩, q⟩
theorem pv_klen (i : Nat) {y : Str} {py : Pos} (hm : X.mg "len" = none) (hg : Gl X "len" := by rfl) (hN : X.N[i]? = some y := by rfl) (hy : Vis X.env.scope y := by first | exact Or.inl rfl | exact Or.inr (Or.inl rfl) | exact Or.inr (Or.inr rfl)) (hd : (y == ("__debug__" : Str)) = false := by decide)
    (hcd : (y == ("__classdict__" : Str)) = false := by decide)
    (h0 : starEach [.Name y py] X.env = (false, eval (.Name y py) X.env) :: starEach [] X.env := by rfl) (hpl : (backTo pos (starEach [] X.env)).any (·.1) = false := by rfl) : PE X (.Call (.Name "len" p) [.Name y py] [] pos) (tX X.K B (eKLen i)) :=
  pe_weak (pe_callB call_lenK hg hm (by decide +kernel) (pa_cons (pe_var hN hy hd hcd) pa_nil h0) (by decide) (by decide) h0 hpl) fun σ H Q q => by
    obtain ⟨G, η, r, q⟩ := q
    unfold eKLen at q
    split at q
    · rename_i ks e
      obtain ⟨w, h1, aa, φ, rfl, _, hg2, hh, ck⟩ := r.slot _ _ e
      exact ⟨_, h1, aa, φ, ks.length, rfl, hh, ck.1, ck.2.1, q G H _ (Ext.refl r.exg) (.int _)⟩
    · exact q.elim
/-! ### one of four defs -/
theorem pv_pick4 {k : Nat} {x1 x2 x3 x4 : Str} {p1 p2 p3 p4 pl ps : Pos} {e : Expr} {φ1 φ2 φ3 φ4 : List D → Res D} (F1 : DefOk X.prog X.w X.K X.mg X.base B.cl k x1 1 φ1) (F2 : DefOk X.prog X.w X.K X.mg X.base B.cl k x2 1 φ2) (F3 : DefOk X.prog X.w X.K X.mg X.base B.cl k x3 1 φ3) (F4 : DefOk X.prog X.w X.K X.mg X.base B.cl k x4 1 φ4)
    (hr : Room k X.A) (hx : Passes (L2.CX X.prog X.w) X B.ex) (hi : PE X i (tX X.K B f)) (ha : PE X e (tX X.K B g)) (hs : PlainIx i := by exact fun _ _ => rfl) (hg1 : Gl X x1 := by rfl) (hg2 : Gl X x2 := by rfl) (hg3 : Gl X x3 := by rfl) (hg4 : Gl X x4 := by rfl)
    (hd1 : (x1 == ("__debug__" : Str)) = false := by decide) (hd2 : (x2 == ("__debug__" : Str)) = false := by decide) (hd3 : (x3 == ("__debug__" : Str)) = false := by decide) (hd4 : (x4 == ("__debug__" : Str)) = false := by decide)
    (ht : eval (.Call (.Subscript (.List [.Name x1 p1, .Name x2 p2, .Name x3 p3, .Name x4 p4] pl) i ps) [e] [] pos) X.env = (do callWith pos (← eval (.Subscript (.List [.Name x1 p1, .Name x2 p2, .Name x3 p3, .Name x4 p4] pl) i ps) X.env) [] (backTo pos (starEach [e] X.env)) (backToKw pos (keywordEach [] X.env))) := by rfl)
    (he : starEach [e] X.env = (false, eval e X.env) :: starEach [] X.env := by rfl) (hpl : (backTo pos (starEach [] X.env)).any (·.1) = false := by rfl)
    (h1' : starEach [.Name x1 p1, .Name x2 p2, .Name x3 p3, .Name x4 p4] X.env = (false, eval (.Name x1 p1) X.env) :: starEach [.Name x2 p2, .Name x3 p3, .Name x4 p4] X.env := by rfl)
    (h2' : starEach [.Name x2 p2, .Name x3 p3, .Name x4 p4] X.env = (false, eval (.Name x2 p2) X.env) :: starEach [.Name x3 p3, .Name x4 p4] X.env := by rfl)
    (h3' : starEach [.Name x3 p3, .Name x4 p4] X.env = (false, eval (.Name x3 p3) X.env) :: starEach [.Name x4 p4] X.env := by rfl)
    (h4' : starEach [.Name x4 p4] X.env = (false, eval (.Name x4 p4) X.env) :: starEach [] X.env := by rfl) :
    PE X (.Call (.Subscript (.List [.Name x1 p1, .Name x2 p2, .Name x3 p3, .Name x4 p4] pl) i ps) [e] [] pos) (tX X.K B (ePick [φ1, φ2, φ3, φ4] f g)) := by
  obtain ⟨a1, fd1, ps1, F1, m1, k1, b1⟩ := F1.ex
  obtain ⟨a2, fd2, ps2, F2, m2, k2, b2⟩ := F2.ex
  obtain ⟨a3, fd3, ps3, F3, m3, k3, b3⟩ := F3.ex
  obtain ⟨a4, fd4, ps4, F4, m4, k4, b4⟩ := F4.ex
  have hl := pe_lst (pos := pl) (pa_cons (pe_glob (pos := p1) hg1 m1 (v := .ref a1) rfl hd1) (pa_cons (pe_glob (pos := p2) hg2 m2 (v := .ref a2) rfl hd2) (pa_cons (pe_glob (pos := p3) hg3 m3 (v := .ref a3) rfl hd3) (pa_cons (pe_glob (pos := p4) hg4 m4 (v := .ref a4) rfl hd4) pa_nil h4') h3') h2') h1')
  have hf := pe_ix (pos := ps) ix_list hl hi hs
  refine ⟨fun pins s σ H Q I h => ?_⟩
  obtain ⟨G, η, r, q⟩ := h
  refine Call_ (thn (hf.run pins s σ H (fun x H1 => ∃ (ad : Addr) (φ : List D → Res D) (G1 : Hp), x = .ref ad ∧ ((ad = a1 ∧ φ = φ1) ∨ (ad = a2 ∧ φ = φ2) ∨ (ad = a3 ∧ φ = φ3) ∨ (ad = a4 ∧ φ = φ4)) ∧ Ext G H G1 H1 ∧
    ((g η).bind fun d => φ [d]).Sat (fun d => ∀ G' H' v, Ext G H G' H' → Rp X.K G' v d → Q v H') (Rz B)) I ?_) fun u s1 ⟨x, H1, I1, rx, ad, φ, G1, ex, hor, e1, q1⟩ => ?_) ht
  · show (4 ≤ sizeLine) ∧ _
    refine ⟨by rw [sizeLine_eq]; omega, fun p0 hp0 => ?_⟩
    have x0 : Ext G H G (upd H p0 (.lst [.ref a1, .ref a2, .ref a3, .ref a4])) := Ext.drop r.exg hp0
    refine tX.of (r.extd x0) (sat_bind q) fun d hd G2 H2 v e2 rv => ?_
    cases rv with
    | int j =>
      have hd : Res.Sat (match at? [φ1, φ2, φ3, φ4] j with
        | some φ => (g η).bind fun d => φ [d]
        | Option.none => .bad) (fun d => ∀ G' H' v, Ext G H G' H' → Rp X.K G' v d → Q v H') (Rz B) := hd
      split at hd
      · rename_i φ hφ
        have hH2 : SqL X.K H2 p0 [.ref a1, .ref a2, .ref a3, .ref a4] := .of (e2.h _ _ upd_same)
        have hφ : (ix 4 j).bind (fun n => [φ1, φ2, φ3, φ4][n]?) = some φ := hφ
        cases z : ix 4 j with
        | none => rw [z] at hφ; cases hφ
        | some n =>
          rw [z] at hφ
          have hφ : [φ1, φ2, φ3, φ4][n]? = some φ := hφ
          have ha : ∀ w, [V.ref a1, .ref a2, .ref a3, .ref a4][n]? = some w → atI [V.ref a1, .ref a2, .ref a3, .ref a4] j = some w := fun w hw => by
            show (ix 4 j).bind (fun n => [V.ref a1, .ref a2, .ref a3, .ref a4][n]?) = some w
            rw [z]
            exact hw
          match n, hφ, ha with
          | 0, hφ, ha => exact ⟨p0, _, j, _, rfl, rfl, hH2, ha _ rfl, a1, φ, G2, rfl, .inl ⟨rfl, (Option.some.inj hφ).symm⟩, x0.trans e2, hd⟩
          | 1, hφ, ha => exact ⟨p0, _, j, _, rfl, rfl, hH2, ha _ rfl, a2, φ, G2, rfl, .inr (.inl ⟨rfl, (Option.some.inj hφ).symm⟩), x0.trans e2, hd⟩
          | 2, hφ, ha => exact ⟨p0, _, j, _, rfl, rfl, hH2, ha _ rfl, a3, φ, G2, rfl, .inr (.inr (.inl ⟨rfl, (Option.some.inj hφ).symm⟩)), x0.trans e2, hd⟩
          | 3, hφ, ha => exact ⟨p0, _, j, _, rfl, rfl, hH2, ha _ rfl, a4, φ, G2, rfl, .inr (.inr (.inr ⟨rfl, (Option.some.inj hφ).symm⟩)), x0.trans e2, hd⟩
          | n + 4, hφ, ha => exact nomatch hφ
      · exact hd.elim
    | _ => exact hd.elim
  · subst ex
    obtain rfl : u = Value.ref ad := rx
    have arg : (tCons (tX X.K B g) tNil) σ H1 fun vs H2 => spD X.K B.cl 1 φ vs H2 Q B.ex := by
      refine tX.of (r.extd e1) (sat_bind q1) fun d hd G2 H2 v e2 rv => ?_
      refine ⟨rfl, G2, [d], e2.gh, .cons rv .nil, Sat.mono hd (fun d q G' H' v e3 r3 => q G' H' v ((e1.trans e2).trans e3) r3) fun c z H' x => z H' (((r.extd e1).extd e2).ext.h.trans x)⟩
    have e0 : ∀ vs : List V, vs ++ ([] : List V) = vs := List.append_nil
    rcases hor with ⟨rfl, rfl⟩ | ⟨rfl, rfl⟩ | ⟨rfl, rfl⟩ | ⟨rfl, rfl⟩
    · refine PySem.W.callWith_K (h₀ := X.base) I1.ok.mod.kin k1 (thn ((pa_cons ha pa_nil he).run pos pins s1 σ H1 _ I1 arg) fun us s2 ⟨vs, H2, I2, r2, q2⟩ => ⟨I2.kIn, ?_⟩) he hpl
      exact run_fn (dvs := []) F1 hr b1 .nil hx I2 r2 (by rw [e0]; exact q2)
    · refine PySem.W.callWith_K (h₀ := X.base) I1.ok.mod.kin k2 (thn ((pa_cons ha pa_nil he).run pos pins s1 σ H1 _ I1 arg) fun us s2 ⟨vs, H2, I2, r2, q2⟩ => ⟨I2.kIn, ?_⟩) he hpl
      exact run_fn (dvs := []) F2 hr b2 .nil hx I2 r2 (by rw [e0]; exact q2)
    · refine PySem.W.callWith_K (h₀ := X.base) I1.ok.mod.kin k3 (thn ((pa_cons ha pa_nil he).run pos pins s1 σ H1 _ I1 arg) fun us s2 ⟨vs, H2, I2, r2, q2⟩ => ⟨I2.kIn, ?_⟩) he hpl
      exact run_fn (dvs := []) F3 hr b3 .nil hx I2 r2 (by rw [e0]; exact q2)
    · refine PySem.W.callWith_K (h₀ := X.base) I1.ok.mod.kin k4 (thn ((pa_cons ha pa_nil he).run pos pins s1 σ H1 _ I1 arg) fun us s2 ⟨vs, H2, I2, r2, q2⟩ => ⟨I2.kIn, ?_⟩) he hpl
      exact run_fn (dvs := []) F4 hr b4 .nil hx I2 r2 (by rw [e0]; exact q2)
end
end Bk
end
/-! BkT1 -/
section
set_option linter.all false
set_option autoImplicit false
set_option maxRecDepth 100000
/-! terms printed by gen.py -/
namespace Bk
def b_heights_1 : St := (sApp 1 (eBin dSub (eBin dAdd (eOwnB dIdx 1 (eUn dNeg (eC (.int 1)))) (eC (.int 1))) (eBin dMul (eC (.int 2)) (eUn bInt (eBin dEq (eVar 2) (eC (.str [41])))))))
def g_heights : St := (sSeq (sNew 1 [(eC (.int 0))])
  (sSeq (sFor (iAny (eVar 0)) (gName 2) b_heights_1)
  (sRetOwn 1)))
def φ_heights : List D → Res D := runDef 3 g_heights
def c_is_whole_1 : E := (eComp [1] (iAny (eVar 0)) (gName 1) tYes (eBin dInS (eVar 1) (eC (.str [40, 41]))))
def g_is_whole : St := (sSeq (sIf (tOr (tNot (tV (eUn (bIs .str) (eVar 0)))) (tOr (tE (eBin dGt (eUn bLen (eVar 0)) (eC (.int 120)))) (tNot (tV (eUn bAll c_is_whole_1))))) (sRet (eC (.bool false))) sSkip)
  (sSeq (sSet 2 (eCall φ_heights [(eVar 0)]))
  (sRet (eAnd (eBin dEq (eUn bMin (eVar 2)) (eC (.int 0))) (eBin dEq (eBin dIdx (eVar 2) (eUn dNeg (eC (.int 1)))) (eC (.int 0)))))))
def φ_is_whole : List D → Res D := runDef 3 g_is_whole
def g_depth : St := (sRet (eUn bMax (eCall φ_heights [(eVar 0)])))
def φ_depth : List D → Res D := runDef 1 g_depth
def b_partner_1 : St := (sIf (tE (eBin dEq (eVar 5) (eC (.str [40])))) (sApp 2 (eVar 4)) (sSeq (sPutPop 3 (eVar 4) 2)
  (sPut 3 (eDGet 3 (eVar 4)) (eVar 4))))
def g_partner : St := (sSeq (sIf (tNot (tE (eChain dLe dLt (eC (.int 0)) (eVar 1) (eUn bLen (eVar 0))))) (sRaise .noPlace) sSkip)
  (sSeq (sNew 2 [])
  (sSeq (sNewD 3)
  (sSeq (sFor (iEnum (eVar 0)) (gPair 4 5) b_partner_1)
  (sRet (eDGet 3 (eVar 1)))))))
def φ_partner : List D → Res D := runDef 6 g_partner
def c_backward_1 : E := (eComp [1] (iRevS (eVar 0)) (gName 1) tYes (eBin dIdx (eC (.str [41, 40])) (eUn bInt (eBin dEq (eVar 1) (eC (.str [41]))))))
def g_backward : St := (sRet (eBin dJoin (eC (.str [])) c_backward_1))
def φ_backward : List D → Res D := runDef 2 g_backward
def g_l_cell : St := (sSeq (sIf (tE (eBin dLt (eVar 1) (eUn bLen (eVar 0)))) (sRet (eBin dIdx (eVar 0) (eVar 1))) sSkip)
  (sRet (eC (.int 0))))
def φ_l_cell : List D → Res D := runDef 2 g_l_cell
def g_l_mix : St := (sRet (eBin dMod (eBin dMod (eBin dMul (eVar 0) (eC (.int 48271))) (eVar 1)) (eVar 2)))
def φ_l_mix : List D → Res D := runDef 3 g_l_mix
def b_l_row_1 : St := (sSeq (sSet 5 (eBin dSub (eBin dMul (eC (.int 2)) (eVar 1)) (eVar 4)))
  (sIf (tOr (tE (eBin dEq (eVar 3) (eC (.int 0)))) (tAnd (tE (eBin dLt (eVar 3) (eVar 5))) (tE (eBin dLt (eCall φ_l_mix [(eBin dAdd (eVar 0) (eBin dMul (eC (.int 17)) (eVar 4))), (eC (.int 9973)), (eC (.int 5))]) (eC (.int 3)))))) (sSeq (sSet 2 (eBin dAdd (eVar 2) (eC (.str [40]))))
  (sSet 3 (eBin dAdd (eVar 3) (eC (.int 1))))) (sSeq (sSet 2 (eBin dAdd (eVar 2) (eC (.str [41]))))
  (sSet 3 (eBin dSub (eVar 3) (eC (.int 1)))))))
def g_l_row : St := (sSeq (sSet 2 (eC (.str [])))
  (sSeq (sSet 3 (eC (.int 0)))
  (sSeq (sFor (iRange1 (eBin dMul (eC (.int 2)) (eVar 1))) (gName 4) b_l_row_1)
  (sRet (eVar 2)))))
def φ_l_row : List D → Res D := runDef 6 g_l_row
def g_l_whole : St := (sRet (eAnd (eUn (bIs .int) (eVar 0)) (eNot (eUn (bIs .bool) (eVar 0)))))
def φ_l_whole : List D → Res D := runDef 1 g_l_whole
def b_l_is_whole_1 : St := (sSeq (sSet 1 (eBin dAdd (eVar 1) (eSign (eVar 2) (eUn dNeg (eC (.int 999))))))
  (sIf (tE (eBin dLt (eVar 1) (eC (.int 0)))) (sRet (eC (.bool false))) sSkip))
def g_l_is_whole : St := (sSeq (sSet 1 (eC (.int 0)))
  (sSeq (sFor (iAny (eVar 0)) (gName 2) b_l_is_whole_1)
  (sRet (eBin dEq (eVar 1) (eC (.int 0))))))
def φ_l_is_whole : List D → Res D := runDef 3 g_l_is_whole
def g_l_spoilt : St := (sSeq (sSet 2 (eBin dMod (eBin dDiv (eVar 1) (eC (.int 4))) (eBin dAdd (eUn bLen (eVar 0)) (eC (.int 1)))))
  (sSeq (sSet 3 (eBin dIdx (eC (.str [40, 41, 32, 91, 120, 41, 40])) (eBin dMod (eBin dDiv (eVar 1) (eC (.int 512))) (eC (.int 7)))))
  (sSeq (sIf (tE (eBin dEq (eBin dMod (eVar 1) (eC (.int 4))) (eC (.int 0)))) (sRet (eBin dAdd (eSlice (eVar 0) none (some (eVar 2))) (eSlice (eVar 0) (some (eBin dAdd (eVar 2) (eC (.int 1)))) none))) sSkip)
  (sSeq (sIf (tE (eBin dEq (eBin dMod (eVar 1) (eC (.int 4))) (eC (.int 1)))) (sRet (eBin dAdd (eBin dAdd (eSlice (eVar 0) none (some (eVar 2))) (eSlice (eVar 0) (some (eVar 2)) (some (eBin dAdd (eVar 2) (eC (.int 1)))))) (eSlice (eVar 0) (some (eVar 2)) none))) sSkip)
  (sRet (eBin dAdd (eBin dAdd (eSlice (eVar 0) none (some (eVar 2))) (eVar 3)) (eSlice (eVar 0) (some (eBin dSub (eBin dAdd (eVar 2) (eBin dMod (eVar 1) (eC (.int 4)))) (eC (.int 2)))) none)))))))
def φ_l_spoilt : List D → Res D := runDef 4 g_l_spoilt
def g_l_partner : St := (sSeq (sSet 2 (eC (.str [111, 116, 104, 101, 114])))
  (sSeq (sTryAs 3 (sSet 2 (eCallT φ_partner [(eVar 0), (eVar 1)])) (fun c => match c with | .noPlace => if (true && !false && true) then sSet 2 (eC .none) else sSkip | .noRow => if (false && !true && true) then sSet 2 (eC .none) else sSkip))
  (sRet (eVar 2))))
def φ_l_partner : List D → Res D := runDef 4 g_l_partner
end Bk
end
/-! BkT2 -/
section
set_option linter.all false
set_option autoImplicit false
set_option maxRecDepth 100000
/-! terms printed by gen.py -/
namespace Bk
def c_ways_row_1 : E := (eComp [3] (iRange1 (eBin dAdd (eVar 1) (eC (.int 1)))) (gName 3) tYes (eUn bInt (eBin dEq (eVar 3) (eC (.int 0)))))
def c_ways_row_2 : E := (eComp [7, 8] (iZip (eVar 5) (eVar 6)) (gPair 7 8) tYes (eBin dAdd (eVar 7) (eVar 8)))
def b_ways_row_1 : St := (sSeq (sSet 5 (eBin dAdd (eSlice (eVar 2) (some (eC (.int 1))) none) (eLst [(eC (.int 0))])))
  (sSeq (sSet 6 (eBin dAdd (eLst [(eC (.int 0))]) (eSlice (eVar 2) none (some (eUn dNeg (eC (.int 1)))))))
  (sSet 2 c_ways_row_2)))
def g_ways_row : St := (sSeq (sSet 2 c_ways_row_1)
  (sSeq (sFor (iRange1 (eVar 0)) (gName 4) b_ways_row_1)
  (sRet (eVar 2))))
def φ_ways_row : List D → Res D := runDef 9 g_ways_row
def g_count : St := (sRet (eBin dIdx (eCall φ_ways_row [(eBin dMul (eC (.int 2)) (eVar 0)), (eBin dMin2 (eVar 1) (eVar 0))]) (eC (.int 0))))
def φ_count : List D → Res D := runDef 2 g_count
def c_l_all_1 (self : List D → Res D) : E := (eComp [4] (iAny (eCall self [(eBin dSub (eBin dSub (eVar 0) (eC (.int 1))) (eVar 2))])) (gName 4) tYes (eBin dAdd (eBin dAdd (eBin dAdd (eC (.str [40])) (eVar 3)) (eC (.str [41]))) (eVar 4)))
def b_l_all_1 (self : List D → Res D) : St := (sExt 1 (c_l_all_1 self))
def b_l_all_2 (self : List D → Res D) : St := (sFor (iAny (eCall self [(eVar 2)])) (gName 3) (b_l_all_1 self))
def g_l_all (self : List D → Res D) : St := (sSeq (sIf (tE (eBin dEq (eVar 0) (eC (.int 0)))) (sRet (eLst [(eC (.str []))])) sSkip)
  (sSeq (sNew 1 [])
  (sSeq (sFor (iRange1 (eVar 0)) (gName 2) (b_l_all_2 self))
  (sRet (eOwn bSorted 1)))))
def φ_l_all : Nat → List D → Res D
  | 0 => fun _ => .bad
  | n + 1 => runDef 5 (g_l_all (φ_l_all n))
def c_l_depth_1 : E := (eComp [1] (iRange1 (eBin dAdd (eUn bLen (eVar 0)) (eC (.int 1)))) (gName 1) tYes (eBin dSub (eBin dCount (eSlice (eVar 0) none (some (eVar 1))) (eC (.str [40]))) (eBin dCount (eSlice (eVar 0) none (some (eVar 1))) (eC (.str [41])))))
def g_l_depth : St := (sRet (eUn bMax c_l_depth_1))
def φ_l_depth : List D → Res D := runDef 2 g_l_depth
def b_l_choices_1 : St := (sSet 2 (eBin dDiv (eBin dMul (eVar 2) (eBin dSub (eVar 0) (eVar 3))) (eBin dAdd (eVar 3) (eC (.int 1)))))
def g_l_choices : St := (sSeq (sSet 2 (eC (.int 1)))
  (sSeq (sFor (iRange1 (eVar 1)) (gName 3) b_l_choices_1)
  (sRet (eVar 2))))
def φ_l_choices : List D → Res D := runDef 4 g_l_choices
def b_choices_1 : St := (sSet 2 (eBin dDiv (eBin dMul (eVar 2) (eBin dSub (eVar 0) (eVar 3))) (eBin dAdd (eVar 3) (eC (.int 1)))))
def g_choices : St := (sSeq (sIf (tE (eBin dLt (eVar 1) (eC (.int 0)))) (sRet (eC (.int 0))) sSkip)
  (sSeq (sSet 2 (eC (.int 1)))
  (sSeq (sFor (iRange1 (eVar 1)) (gName 3) b_choices_1)
  (sRet (eVar 2)))))
def φ_choices : List D → Res D := runDef 4 g_choices
def g_ways : St := (sSeq (sIf (tOr (tE (eBin dLt (eVar 1) (eC (.int 0)))) (tOr (tE (eBin dGt (eVar 1) (eVar 0))) (tE (eBin dEq (eBin dMod (eBin dSub (eVar 0) (eVar 1)) (eC (.int 2))) (eC (.int 1)))))) (sRet (eC (.int 0))) sSkip)
  (sSeq (sSet 2 (eBin dDiv (eBin dSub (eVar 0) (eVar 1)) (eC (.int 2))))
  (sRet (eBin dSub (eCall φ_choices [(eVar 0), (eVar 2)]) (eCall φ_choices [(eVar 0), (eBin dSub (eVar 2) (eC (.int 1)))])))))
def φ_ways : List D → Res D := runDef 3 g_ways
def b_number_1 : St := (sIf (tE (eBin dEq (eVar 4) (eC (.str [41])))) (sSeq (sSet 1 (eBin dAdd (eVar 1) (eCall φ_ways [(eBin dSub (eBin dSub (eUn bLen (eVar 0)) (eVar 3)) (eC (.int 1))), (eBin dAdd (eVar 2) (eC (.int 1)))])))
  (sSet 2 (eBin dSub (eVar 2) (eC (.int 1))))) (sSet 2 (eBin dAdd (eVar 2) (eC (.int 1)))))
def g_number : St := (sSeq (sIf (tNot (tV (eCall φ_is_whole [(eVar 0)]))) (sRaise .noRow) sSkip)
  (sSeq (sSet 1 (eC (.int 0)))
  (sSeq (sSet 2 (eC (.int 0)))
  (sSeq (sFor (iEnum (eVar 0)) (gPair 3 4) b_number_1)
  (sRet (eVar 1))))))
def φ_number : List D → Res D := runDef 5 g_number
def b_row_of_1 : St := (sSeq (sSet 5 (eCall φ_ways [(eVar 4), (eBin dAdd (eVar 3) (eC (.int 1)))]))
  (sIf (tE (eBin dLt (eVar 1) (eVar 5))) (sSeq (sSet 2 (eBin dAdd (eVar 2) (eC (.str [40]))))
  (sSet 3 (eBin dAdd (eVar 3) (eC (.int 1))))) (sSeq (sSet 1 (eBin dSub (eVar 1) (eVar 5)))
  (sSeq (sSet 2 (eBin dAdd (eVar 2) (eC (.str [41]))))
  (sSet 3 (eBin dSub (eVar 3) (eC (.int 1))))))))
def g_row_of : St := (sSeq (sIf (tNot (tE (eChain dLe dLt (eC (.int 0)) (eVar 1) (eCall φ_count [(eVar 0), (eVar 0)])))) (sRaise .noRow) sSkip)
  (sSeq (sSet 2 (eC (.str [])))
  (sSeq (sSet 3 (eC (.int 0)))
  (sSeq (sFor (iRevRange1 (eBin dMul (eC (.int 2)) (eVar 0))) (gName 4) b_row_of_1)
  (sRet (eVar 2))))))
def φ_row_of : List D → Res D := runDef 6 g_row_of
def g_next_row : St := (sSeq (sSet 1 (eBin dAdd (eCall φ_number [(eVar 0)]) (eC (.int 1))))
  (sSeq (sSet 2 (eBin dDiv (eUn bLen (eVar 0)) (eC (.int 2))))
  (sSeq (sIf (tE (eBin dEq (eVar 1) (eCall φ_count [(eVar 2), (eVar 2)]))) (sRet (eC .none)) sSkip)
  (sRet (eCall φ_row_of [(eVar 2), (eVar 1)])))))
def φ_next_row : List D → Res D := runDef 3 g_next_row
def g_l_refused : St := (sSeq (sSet 3 (eC (.bool false)))
  (sSeq (sTryAs 4 (sIfC (tE (eBin dEq (eVar 0) (eC (.int 0)))) (sDrop (eCallT φ_number [(eVar 2)])) (sIfC (tE (eBin dEq (eVar 0) (eC (.int 1)))) (sDrop (eCallT φ_next_row [(eVar 2)])) (sDrop (eCallT φ_row_of [(eVar 1), (eVar 2)])))) (fun c => match c with | .noPlace => sSet 3 (eC (.bool (false && !true && true))) | .noRow => sSet 3 (eC (.bool (true && !false && true)))))
  (sRet (eVar 3))))
def φ_l_refused : List D → Res D := runDef 5 g_l_refused
def g_l_right : St := (sSeq (sIf (tOr (tNot (tV (eCall φ_l_whole [(eVar 2)]))) (tOr (tNot (tE (eChain dLe dLt (eC (.int 0)) (eVar 2) (eCall φ_count [(eVar 1), (eVar 1)])))) (tE (eBin dNe (eCall φ_row_of [(eVar 1), (eVar 2)]) (eVar 0))))) (sRet (eC (.bool false))) sSkip)
  (sSeq (sSet 3 (eCall φ_next_row [(eVar 0)]))
  (sSeq (sIf (tE (eBin dEq (eBin dAdd (eVar 2) (eC (.int 1))) (eCall φ_count [(eVar 1), (eVar 1)]))) (sRet (eAnd (eBin dIsN (eVar 3) (eC .none)) (eBin dEq (eVar 0) (eBin dMul (eC (.str [40, 41])) (eVar 1))))) sSkip)
  (sRet (eAnd (eBin dNotN (eVar 3) (eC .none)) (eAnd (eBin dLt (eVar 0) (eVar 3)) (eAnd (eCall φ_l_is_whole [(eVar 3)]) (eBin dEq (eCall φ_number [(eVar 3)]) (eBin dAdd (eVar 2) (eC (.int 1)))))))))))
def φ_l_right : List D → Res D := runDef 4 g_l_right
end Bk
end
/-! BkT5 -/
section
set_option linter.all false
set_option autoImplicit false
set_option maxRecDepth 100000
/-! terms printed by gen.py -/
namespace Bk
def b_parts_of_1 : St := (sSeq (sSet 2 (eBin dSub (eBin dAdd (eVar 2) (eC (.int 1))) (eBin dMul (eC (.int 2)) (eUn bInt (eBin dEq (eVar 5) (eC (.str [41])))))))
  (sIf (tE (eBin dEq (eVar 2) (eC (.int 0)))) (sSeq (sApp 1 (eSlice (eVar 0) (some (eBin dAdd (eVar 3) (eC (.int 1)))) (some (eVar 4))))
  (sSet 3 (eBin dAdd (eVar 4) (eC (.int 1))))) sSkip))
def g_parts_of : St := (sSeq (sNew 1 [])
  (sSeq (sSet 2 (eC (.int 0)))
  (sSeq (sSet 3 (eC (.int 0)))
  (sSeq (sFor (iEnum (eVar 0)) (gPair 4 5) b_parts_of_1)
  (sRetOwn 1)))))
def φ_parts_of : List D → Res D := runDef 6 g_parts_of
def c_forest_of_1 (self : List D → Res D) : E := (eComp [1] (iAny (eCall φ_parts_of [(eVar 0)])) (gName 1) tYes (eCall self [(eVar 1)]))
def g_forest_of (self : List D → Res D) : St := (sRet (eUn bTuple (c_forest_of_1 self)))
def φ_forest_of : Nat → List D → Res D
  | 0 => fun _ => .bad
  | n + 1 => runDef 2 (g_forest_of (φ_forest_of n))
def c_row_by_forest_1 (self : List D → Res D) : E := (eComp [1] (iAny (eVar 0)) (gName 1) tYes (eBin dAdd (eBin dAdd (eC (.str [40])) (eCall self [(eVar 1)])) (eC (.str [41]))))
def g_row_by_forest (self : List D → Res D) : St := (sRet (eBin dJoin (eC (.str [])) (c_row_by_forest_1 self)))
def φ_row_by_forest : Nat → List D → Res D
  | 0 => fun _ => .bad
  | n + 1 => runDef 2 (g_row_by_forest (φ_row_by_forest n))
def g_tree_of (self : List D → Res D) : St := (sSeq (sIf (tE (eBin dEq (eVar 0) (eC (.str [])))) (sRet (eC .none)) sSkip)
  (sSeq (sSet 1 (eBin dIdx (eCall φ_parts_of [(eVar 0)]) (eC (.int 0))))
  (sRet (eTup [(eCall self [(eVar 1)]), (eCall self [(eSlice (eVar 0) (some (eBin dAdd (eUn bLen (eVar 1)) (eC (.int 2)))) none)])]))))
def φ_tree_of : Nat → List D → Res D
  | 0 => fun _ => .bad
  | n + 1 => runDef 2 (g_tree_of (φ_tree_of n))
def g_row_by_tree (self : List D → Res D) : St := (sSeq (sIf (tE (eBin dIsN (eVar 0) (eC .none))) (sRet (eC (.str []))) sSkip)
  (sRet (eBin dAdd (eBin dAdd (eBin dAdd (eC (.str [40])) (eCall self [(eBin dIdx (eVar 0) (eC (.int 0)))])) (eC (.str [41]))) (eCall self [(eBin dIdx (eVar 0) (eC (.int 1)))]))))
def φ_row_by_tree : Nat → List D → Res D
  | 0 => fun _ => .bad
  | n + 1 => runDef 1 (g_row_by_tree (φ_row_by_tree n))
def g_mirrored (self : List D → Res D) : St := (sSeq (sIf (tE (eBin dIsN (eVar 0) (eC .none))) (sRet (eC .none)) sSkip)
  (sRet (eTup [(eCall self [(eBin dIdx (eVar 0) (eC (.int 1)))]), (eCall self [(eBin dIdx (eVar 0) (eC (.int 0)))])])))
def φ_mirrored : Nat → List D → Res D
  | 0 => fun _ => .bad
  | n + 1 => runDef 1 (g_mirrored (φ_mirrored n))
def b_l_forest_1 : St := (sSet 3 (eBin dAdd (eVar 3) (eC (.int 1))))
def b_l_forest_2 (self : List D → Res D) : St := (sSeq (sSet 3 (eC (.int 1)))
  (sSeq (sWhile 1000 (tE (eBin dNe (eBin dCount (eSlice (eVar 2) none (some (eVar 3))) (eC (.str [40]))) (eBin dCount (eSlice (eVar 2) none (some (eVar 3))) (eC (.str [41]))))) b_l_forest_1)
  (sSeq (sApp 1 (eCall self [(eSlice (eVar 2) (some (eC (.int 1))) (some (eBin dSub (eVar 3) (eC (.int 1)))))]))
  (sSet 2 (eSlice (eVar 2) (some (eVar 3)) none)))))
def g_l_forest (self : List D → Res D) : St := (sSeq (sNew 1 [])
  (sSeq (sSet 2 (eVar 0))
  (sSeq (sWhile 1000 (tV (eVar 2)) (b_l_forest_2 self))
  (sRet (eOwn bTuple 1)))))
def φ_l_forest : Nat → List D → Res D
  | 0 => fun _ => .bad
  | n + 1 => runDef 4 (g_l_forest (φ_l_forest n))
def g_l_tree (self : List D → Res D) : St := (sSeq (sIf (tNot (tV (eVar 0))) (sRet (eC .none)) sSkip)
  (sRet (eTup [(eCall self [(eBin dIdx (eVar 0) (eC (.int 0)))]), (eCall self [(eSlice (eVar 0) (some (eC (.int 1))) none)])])))
def φ_l_tree : Nat → List D → Res D
  | 0 => fun _ => .bad
  | n + 1 => runDef 1 (g_l_tree (φ_l_tree n))
def g_l_mirrored (self : List D → Res D) : St := (sSeq (sIf (tE (eBin dIsN (eVar 0) (eC .none))) (sRet (eC .none)) sSkip)
  (sSeq (sAsg (eVar 0) (gPair 1 2))
  (sRet (eTup [(eCall self [(eVar 2)]), (eCall self [(eVar 1)])]))))
def φ_l_mirrored : Nat → List D → Res D
  | 0 => fun _ => .bad
  | n + 1 => runDef 3 (g_l_mirrored (φ_l_mirrored n))
end Bk
end
/-! BkT7 -/
section
set_option linter.all false
set_option autoImplicit false
set_option maxRecDepth 100000
/-! terms printed by gen.py -/
namespace Bk
def g_threes (self : List D → Res D) : St := (sSeq (sIf (tE (eBin dEq (eVar 0) (eC (.str [])))) (sRet (eLst [])) sSkip)
  (sSeq (sSet 2 (eBin dIdx (eCall φ_parts_of [(eVar 0)]) (eC (.int 0))))
  (sSeq (sSet 3 (eSlice (eVar 0) (some (eBin dAdd (eUn bLen (eVar 2)) (eC (.int 2)))) none))
  (sSeq (sSet 4 (eBin dAdd (eBin dAdd (eVar 1) (eBin dDiv (eUn bLen (eVar 2)) (eC (.int 2)))) (eC (.int 1))))
  (sRet (eBin dAdd (eBin dAdd (eLst [(eTup [(eVar 1), (eVar 4), (eBin dAdd (eBin dAdd (eVar 4) (eBin dDiv (eUn bLen (eVar 3)) (eC (.int 2)))) (eC (.int 1)))])]) (eCall self [(eVar 2), (eVar 1)])) (eCall self [(eVar 3), (eVar 4)])))))))
def φ_threes : Nat → List D → Res D
  | 0 => fun _ => .bad
  | n + 1 => runDef 5 (g_threes (φ_threes n))
def c_cut_of_1 : E := (eComp [1, 2, 3] (iAny (eCall (φ_threes 26) [(eVar 0), (eC (.int 0))])) (gTri 1 2 3) tYes (eTup [(eVar 1), (eVar 2), (eVar 3)]))
def g_cut_of : St := (sRet (eUn bTuple (eUn bSorted c_cut_of_1)))
def φ_cut_of : List D → Res D := runDef 4 g_cut_of
def c_row_between_1 : E := (eComp [4] (iAny (eVar 0)) (gName 4) (tAnd (tE (eBin dEq (eBin dIdx (eVar 4) (eC (.int 0))) (eVar 1))) (tE (eBin dEq (eBin dIdx (eVar 4) (eC (.int 2))) (eVar 2)))) (eBin dIdx (eVar 4) (eC (.int 1))))
def g_row_between (self : List D → Res D) : St := (sSeq (sIf (tE (eBin dEq (eVar 2) (eBin dAdd (eVar 1) (eC (.int 1))))) (sRet (eC (.str []))) sSkip)
  (sSeq (sSet 3 (eBin dIdx c_row_between_1 (eC (.int 0))))
  (sRet (eBin dAdd (eBin dAdd (eBin dAdd (eC (.str [40])) (eCall self [(eVar 0), (eVar 1), (eVar 3)])) (eC (.str [41]))) (eCall self [(eVar 0), (eVar 3), (eVar 2)])))))
def φ_row_between : Nat → List D → Res D
  | 0 => fun _ => .bad
  | n + 1 => runDef 5 (g_row_between (φ_row_between n))
def g_row_by_cut : St := (sRet (eCall (φ_row_between 26) [(eVar 0), (eC (.int 0)), (eBin dAdd (eUn bLen (eVar 0)) (eC (.int 1)))]))
def φ_row_by_cut : List D → Res D := runDef 1 g_row_by_cut
def g_l_size (self : List D → Res D) : St := (sSeq (sIf (tE (eBin dIsN (eVar 0) (eC .none))) (sRet (eC (.int 0))) sSkip)
  (sRet (eBin dAdd (eBin dAdd (eC (.int 1)) (eCall self [(eBin dIdx (eVar 0) (eC (.int 0)))])) (eCall self [(eBin dIdx (eVar 0) (eC (.int 1)))]))))
def φ_l_size : Nat → List D → Res D
  | 0 => fun _ => .bad
  | n + 1 => runDef 1 (g_l_size (φ_l_size n))
def g_l_threes (self : List D → Res D) : St := (sSeq (sIf (tE (eBin dIsN (eVar 0) (eC .none))) (sRet (eLst [])) sSkip)
  (sSeq (sSet 3 (eBin dAdd (eBin dAdd (eVar 1) (eC (.int 1))) (eCall (φ_l_size 26) [(eBin dIdx (eVar 0) (eC (.int 0)))])))
  (sSeq (sSet 4 (eBin dAdd (eCall self [(eBin dIdx (eVar 0) (eC (.int 0))), (eVar 1), (eVar 3)]) (eCall self [(eBin dIdx (eVar 0) (eC (.int 1))), (eVar 3), (eVar 2)])))
  (sRet (eBin dAdd (eVar 4) (eLst [(eTup [(eVar 1), (eVar 3), (eVar 2)])]))))))
def φ_l_threes : Nat → List D → Res D
  | 0 => fun _ => .bad
  | n + 1 => runDef 5 (g_l_threes (φ_l_threes n))
def b_l_sides_right_1 : St := (sSet 2 (eBin dAdd (eVar 2) (eLst [(eTup [(eVar 3), (eVar 4)]), (eTup [(eVar 4), (eVar 5)]), (eTup [(eVar 3), (eVar 5)])])))
def c_l_sides_right_1 : E := (eComp [8] (iAny (eVar 2)) (gName 8) (tE (eChain3 dLt dLt dLt (eVar 6) (eBin dIdx (eVar 8) (eC (.int 0))) (eVar 7) (eBin dIdx (eVar 8) (eC (.int 1))))) (eVar 8))
def b_l_sides_right_2 : St := (sSeq (sIf (tOr (tE (eBin dEq (eVar 7) (eBin dAdd (eVar 6) (eC (.int 1))))) (tE (eBin dEq (eBin dSub (eVar 7) (eVar 6)) (eBin dAdd (eVar 1) (eC (.int 1)))))) (sIf (tE (eBin dNe (eCountL (eVar 2) (eTup [(eVar 6), (eVar 7)])) (eC (.int 1)))) (sRet (eC (.bool false))) sSkip) (sIf (tE (eBin dNe (eCountL (eVar 2) (eTup [(eVar 6), (eVar 7)])) (eC (.int 2)))) (sRet (eC (.bool false))) sSkip))
  (sIf (tV c_l_sides_right_1) (sRet (eC (.bool false))) sSkip))
def g_l_sides_right : St := (sSeq (sSet 2 (eLst []))
  (sSeq (sFor (iAny (eVar 0)) (gTri 3 4 5) b_l_sides_right_1)
  (sSeq (sFor (iAny (eVar 2)) (gPair 6 7) b_l_sides_right_2)
  (sRet (eC (.bool true))))))
def φ_l_sides_right : List D → Res D := runDef 9 g_l_sides_right
end Bk
end
/-! BkTP -/
section
set_option linter.all false
set_option autoImplicit false
set_option maxRecDepth 100000
/-! terms printed by gen.py -/
namespace Bk
def b_parting_of_1 : St := (sIf (tE (eBin dEq (eVar 5) (eC (.str [40])))) (sSeq (sIf (tOwn 3) (sSeq (sApp 1 (eUn bTuple (eOwn bSorted 3)))
  (sNew 3 [])) sSkip)
  (sSeq (sApp 2 (eVar 4))
  (sSet 4 (eBin dAdd (eVar 4) (eC (.int 1)))))) (sAppPop 3 2))
def g_parting_of : St := (sSeq (sNew 1 [])
  (sSeq (sNew 2 [])
  (sSeq (sNew 3 [])
  (sSeq (sSet 4 (eC (.int 0)))
  (sSeq (sFor (iAny (eBin dAdd (eVar 0) (eC (.str [40])))) (gName 5) b_parting_of_1)
  (sRet (eUn bTuple (eOwn bSorted 1))))))))
def φ_parting_of : List D → Res D := runDef 6 g_parting_of
end Bk
end
/-! BkSim -/
section
set_option linter.all false
set_option autoImplicit false
set_option maxRecDepth 100000
/-! BkSim: what the terms give, for simp; loops and comprehensions by invariants -/
namespace Bk
section
variable {i j k n : Nat} {f g h : E} {fs : List E} {t u : T} {η : Env} {d x y : D} {a b : St} {u1 : D → Res D} {b1 b2 : D → D → Res D}
@[simp] theorem x_eVar : eVar i η = (match η[i]? with | some (some (.dat d)) => .ok d | _ => .bad) := id rfl
@[simp] theorem x_eC : eC d η = .ok d := id rfl
@[simp] theorem x_eUn : eUn u1 f η = (f η).bind fun x => (u1 x).calm := id rfl
@[simp] theorem x_eBin : eBin b1 f g η = (f η).bind fun x => (g η).bind fun y => (b1 x y).calm := id rfl
@[simp] theorem x_eAnd : eAnd f g η = (f η).bind fun x => match x with
  | .bool true => g η
  | .bool false => .ok (.bool false)
  | _ => .bad := id rfl
@[simp] theorem x_eOr : eOr f g η = (f η).bind fun x => match x with
  | .bool true => .ok (.bool true)
  | .bool false => g η
  | _ => .bad := id rfl
@[simp] theorem x_eNot : eNot f η = (f η).bind fun x => match x with
  | .bool b => .ok (.bool (!b))
  | _ => .bad := id rfl
@[simp] theorem x_eChain : eChain b1 b2 f g h η = (f η).bind fun x => (g η).bind fun y => (b1 x y).calm.bind fun z => match z with
  | .bool true => (h η).bind fun w => (b2 y w).calm
  | .bool false => .ok (.bool false)
  | _ => .bad := id rfl
@[simp] theorem x_evals0 : evals [] η = .ok [] := id rfl
@[simp] theorem x_evals1 : evals (f :: fs) η = (f η).bind fun x => (evals fs η).bind fun xs => .ok (x :: xs) := id rfl
@[simp] theorem x_eTup : eTup fs η = (evals fs η).bind fun ds => .ok (.tup ds) := id rfl
@[simp] theorem x_eLst : eLst fs η = (evals fs η).bind fun ds => .ok (.lst ds) := id rfl
@[simp] theorem x_eCall {φ : List D → Res D} : eCall φ fs η = (evals fs η).bind φ := id rfl
@[simp] theorem x_eCallT {φ : List D → Res D} : eCallT φ fs η = (evals fs η).calm.bind φ := id rfl
@[simp] theorem x_ePart0 : ePart Option.none η = .ok Option.none := id rfl
@[simp] theorem x_ePart1 : ePart (some f) η = (f η).bind fun x => match x with
  | .int i => .ok (some i)
  | _ => .bad := id rfl
@[simp] theorem x_eSlice {lo hi : Option E} : eSlice f lo hi η = (f η).bind fun x => (ePart lo η).bind fun a => (ePart hi η).bind fun b => (dCut x a b).calm := id rfl
@[simp] theorem x_eOwn : eOwn u1 i η = (match η[i]? with
  | some (some (.own ds)) => (u1 (.lst ds)).calm
  | _ => .bad) := id rfl
@[simp] theorem x_eOwnB : eOwnB b1 i g η = (match η[i]? with
  | some (some (.own ds)) => (g η).bind fun y => (b1 (.lst ds) y).calm
  | _ => .bad) := id rfl
@[simp] theorem x_tE : tE f η = (f η).bind asBool := id rfl
@[simp] theorem x_tV : tV f η = (f η).bind dTruth := id rfl
@[simp] theorem x_tAnd : tAnd t u η = (t η).bind fun b => if b then u η else .ok false := id rfl
@[simp] theorem x_tOr : tOr t u η = (t η).bind fun b => if b then .ok true else u η := id rfl
@[simp] theorem x_tNot : tNot t η = (t η).bind fun b => .ok (!b) := id rfl
@[simp] theorem x_tYes : tYes η = .ok true := id rfl
@[simp] theorem x_tOwn : tOwn i η = (match η[i]? with
  | some (some (.own ds)) => .ok (!ds.isEmpty)
  | _ => .bad) := id rfl
@[simp] theorem x_iAny : iAny f η = (f η).bind items := id rfl
@[simp] theorem x_iRange1 : iRange1 f η = (f η).bind rng1 := id rfl
@[simp] theorem x_iRange2 : iRange2 f g η = (f η).bind fun a => (g η).bind fun b => rng2 a b := id rfl
@[simp] theorem x_iRevRange1 : iRevRange1 f η = (f η).bind fun a => (rng1 a).bind fun xs => .ok xs.reverse := id rfl
@[simp] theorem x_iEnum : iEnum f η = (f η).bind fun x => match x with
  | .lst xs => .ok (enumL 0 xs)
  | .str s => .ok (enumL 0 (signs s))
  | _ => .bad := id rfl
@[simp] theorem x_iRevS : iRevS f η = (f η).bind fun x => match x with
  | .str s => if s.length ≤ lim then .ok (signs s.reverse) else .bad
  | _ => .bad := id rfl
@[simp] theorem x_gName : gName i d η = .ok (η.set i (some (.dat d))) := id rfl
@[simp] theorem x_gPair : gPair i j (.tup [x, y]) η = .ok ((η.set i (some (.dat x))).set j (some (.dat y))) := id rfl
@[simp] theorem x_gPairL : gPairL i j (.lst [x, y]) η = .ok ((η.set i (some (.dat x))).set j (some (.dat y))) := id rfl
@[simp] theorem x_gTri {z : D} : gTri i j k (.tup [x, y, z]) η = .ok (((η.set i (some (.dat x))).set j (some (.dat y))).set k (some (.dat z))) := id rfl
@[simp] theorem x_wipes0 : wipes η [] = η := id rfl
@[simp] theorem x_wipes1 {v : Nat} {vs : List Nat} : wipes η (v :: vs) = (wipes η vs).set v Option.none := id rfl
@[simp] theorem x_sSkip : sSkip η = .next η := id rfl
@[simp] theorem x_sSeq : sSeq a b η = (a η).andThen b := id rfl
@[simp] theorem x_sAsg {gg : G} : sAsg f gg η = outOf (f η) fun d => outOf (gg d η).calm fun η' => .next η' := id rfl
@[simp] theorem x_sSet : sSet i f η = outOf (f η) fun d => .next (η.set i (some (.dat d))) := id rfl
@[simp] theorem x_sDrop : sDrop f η = outOf (f η) fun _ => .next η := id rfl
@[simp] theorem x_sRet : sRet f η = outOf (f η) fun d => .ret d := id rfl
@[simp] theorem x_sIf : sIf t a b η = outOf (t η) fun c => if c then a η else b η := id rfl
@[simp] theorem x_sIfC : sIfC t a b η = outOf (t η).calm fun c => if c then a η else b η := id rfl
@[simp] theorem x_sRaise {c : Cls} : sRaise c η = .raise c := id rfl
@[simp] theorem x_sBrk : sBrk η = .brk η := id rfl
@[simp] theorem x_sCont : sCont η = .ct η := id rfl
@[simp] theorem x_sFor {fi : I} {gg : G} : sFor fi gg b η = outOf (fi η) fun ds => loop gg b ds η := id rfl
@[simp] theorem x_sNew : sNew i fs η = outOf (evals fs η) fun ds => .next (η.set i (some (.own ds))) := id rfl
@[simp] theorem x_sNewD : sNewD i η = .next (η.set i (some (.dic []))) := id rfl
@[simp] theorem x_appTo : appTo i d η = (match η[i]? with
  | some (some (.own ds)) => if ds.length < lim then .next (η.set i (some (.own (ds ++ [d])))) else .bad
  | _ => .bad) := id rfl
@[simp] theorem x_sApp : sApp i f η = (match η[i]? with
  | some (some (.own _)) => outOf (f η) fun d => appTo i d η
  | _ => .bad) := id rfl
@[simp] theorem x_extTo : extTo i d η = (match η[i]? with
  | some (some (.own ds)) => outOf (seqOf d) fun xs => if ds.length + xs.length ≤ lim then .next (η.set i (some (.own (ds ++ xs)))) else .bad
  | _ => .bad) := id rfl
@[simp] theorem x_sExt : sExt i f η = (match η[i]? with
  | some (some (.own _)) => outOf (f η) fun d => extTo i d η
  | _ => .bad) := id rfl
@[simp] theorem x_popOf : popOf j η = (match η[j]? with
  | some (some (.own ds)) => match ds[ds.length - 1]? with
    | some d => .ok (d, η.set j (some (.own ds.dropLast)))
    | Option.none => .bad
  | _ => .bad) := id rfl
@[simp] theorem x_sAppPop : sAppPop i j η = (match η[i]? with
  | some (some (.own _)) => outOf (popOf j η).calm fun p => appTo i p.1 p.2
  | _ => .bad) := id rfl
@[simp] theorem x_putTo {v : D} : putTo i d v η = (match η[i]? with
  | some (some (.dic kvs)) => if kvs.length < lim ∧ keyD d then .next (η.set i (some (.dic (dput kvs d v)))) else .bad
  | _ => .bad) := id rfl
@[simp] theorem x_sPut : sPut i f g η = outOf (g η) fun v => match η[i]? with
  | some (some (.dic _)) => outOf (f η) fun k => putTo i k v η
  | _ => .bad := id rfl
@[simp] theorem x_sPutPop : sPutPop i f j η = outOf (popOf j η).calm fun p => match p.2[i]? with
  | some (some (.dic _)) => outOf (f p.2) fun k => putTo i k p.1 p.2
  | _ => .bad := id rfl
@[simp] theorem x_eDGet : eDGet i f η = (match η[i]? with
  | some (some (.dic kvs)) => (f η).bind fun k => if keyD k then (match dget kvs k with
    | some v => .ok v
    | Option.none => .bad) else .bad
  | _ => .bad) := id rfl
@[simp] theorem x_eDGet2 : eDGet2 i f g η = (match η[i]? with
  | some (some (.dic kvs)) => (f η).bind fun k => (g η).bind fun d => if keyD k then .ok ((dget kvs k).getD d) else .bad
  | _ => .bad) := id rfl
@[simp] theorem x_eSign : eSign f g η = (f η).bind fun x => (g η).bind fun y => (dSign x y).calm := id rfl
@[simp] theorem x_sRetOwn : sRetOwn i η = (match η[i]? with
  | some (some (.own ds)) => .ret (.lst ds)
  | _ => .bad) := id rfl
end
/-! ### operators -/
section
variable {a b : Int} {s r : List Nat} {x y : List D} {p q : Bool}
@[simp] theorem y_add : dAdd (.int a) (.int b) = .ok (.int (a + b)) := id rfl
@[simp] theorem y_addS : dAdd (.str s) (.str r) = if s.length + r.length ≤ lim then .ok (.str (s ++ r)) else .bad := id rfl
@[simp] theorem y_addL : dAdd (.lst x) (.lst y) = if x.length + y.length ≤ lim then .ok (.lst (x ++ y)) else .bad := id rfl
@[simp] theorem y_addT : dAdd (.tup x) (.tup y) = if x.length + y.length ≤ lim ∧ x ≠ [] then .ok (.tup (x ++ y)) else .bad := id rfl
@[simp] theorem y_sub : dSub (.int a) (.int b) = .ok (.int (a - b)) := id rfl
@[simp] theorem y_neg : dNeg (.int a) = .ok (.int (-a)) := id rfl
@[simp] theorem y_lt : dLt (.int a) (.int b) = .ok (.bool (decide (a < b))) := id rfl
@[simp] theorem y_ltS : dLt (.str s) (.str r) = .ok (.bool (decide (s < r))) := id rfl
@[simp] theorem y_le : dLe (.int a) (.int b) = .ok (.bool (decide (a ≤ b))) := id rfl
@[simp] theorem y_gt : dGt (.int a) (.int b) = .ok (.bool (decide (b < a))) := id rfl
@[simp] theorem y_ge : dGe (.int a) (.int b) = .ok (.bool (decide (b ≤ a))) := id rfl
@[simp] theorem y_lenS : bLen (.str s) = if s.length ≤ lim then .ok (.int s.length) else .bad := id rfl
@[simp] theorem y_lenL : bLen (.lst x) = .ok (.int x.length) := id rfl
@[simp] theorem y_lenT : bLen (.tup x) = .ok (.int x.length) := id rfl
@[simp] theorem y_intB : bInt (.bool p) = .ok (.int (if p then 1 else 0)) := id rfl
@[simp] theorem y_int : bInt (.int a) = .ok (.int a) := id rfl
@[simp] theorem y_isB : dIsB (.bool p) (.bool q) = .ok (.bool (p == q)) := id rfl
@[simp] theorem y_notB : dNotB (.bool p) (.bool q) = .ok (.bool (!(p == q))) := id rfl
@[simp] theorem y_asBool : asBool (.bool p) = .ok p := id rfl
@[simp] theorem y_truB : dTruth (.bool p) = .ok p := id rfl
@[simp] theorem y_truL : dTruth (.lst x) = .ok (!x.isEmpty) := id rfl
@[simp] theorem y_truT : dTruth (.tup x) = .ok (!x.isEmpty) := id rfl
@[simp] theorem y_truS : dTruth (.str s) = if s.length ≤ lim then .ok (!s.isEmpty) else .bad := id rfl
@[simp] theorem y_cutL {lo hi : Option Int} : dCut (.lst x) lo hi = .ok (.lst (cut x lo hi)) := id rfl
@[simp] theorem y_cutS {lo hi : Option Int} : dCut (.str s) lo hi = if s.length ≤ lim then .ok (.str (cut s lo hi)) else .bad := id rfl
@[simp] theorem y_itL : items (.lst x) = .ok x := id rfl
@[simp] theorem y_itT : items (.tup x) = .ok x := id rfl
@[simp] theorem y_itS : items (.str s) = .ok (signs s) := id rfl
@[simp] theorem y_tuple : bTuple (.lst x) = .ok (.tup x) := id rfl
@[simp] theorem y_list : bList (.lst x) = .ok (.lst x) := id rfl
@[simp] theorem y_listT : bList (.tup x) = .ok (.lst x) := id rfl
@[simp] theorem y_idxL : dIdx (.lst x) (.int a) = (match at? x a with | some d => .ok d | Option.none => .bad) := id rfl
@[simp] theorem y_idxT : dIdx (.tup x) (.int a) = (match at? x a with | some d => .ok d | Option.none => .bad) := id rfl
@[simp] theorem y_idxS : dIdx (.str s) (.int a) = if s.length ≤ lim then (match at? s a with | some c => .ok (.str [c]) | Option.none => .bad) else .bad := id rfl
@[simp] theorem y_eqI : dEq (.int a) (.int b) = .ok (.bool (decide (a = b))) := by
  show (if (true && true) = true then Res.ok (D.bool (D.eqv (.int a) (.int b))) else .bad) = _
  unfold D.eqv
  by_cases h : a = b <;> simp [h]
@[simp] theorem y_neI : dNe (.int a) (.int b) = .ok (.bool (!decide (a = b))) := by
  show (if (true && true) = true then Res.ok (D.bool (!D.eqv (.int a) (.int b))) else .bad) = _
  unfold D.eqv
  by_cases h : a = b <;> simp [h]
@[simp] theorem y_neB : dNe (.bool p) (.bool q) = .ok (.bool (!(p == q))) := id rfl
theorem y_eqS (h1 : plainS s = true) (h2 : plainS r = true) (h3 : s.length ≤ lim) (h4 : r.length ≤ lim) : dEq (.str s) (.str r) = .ok (.bool (decide (s = r))) := by
  have e : (D.cmp 64 (.str s) && D.cmp 64 (.str r)) = true := by
    show ((plainS s && decide (s.length ≤ lim)) && (plainS r && decide (r.length ≤ lim))) = true
    rw [h1, h2, decide_eq_true h3, decide_eq_true h4]
    rfl
  unfold dEq
  rw [if_pos e]
  unfold D.eqv
  by_cases h : s = r <;> simp [h]
theorem y_neS (h1 : plainS s = true) (h2 : plainS r = true) (h3 : s.length ≤ lim) (h4 : r.length ≤ lim) : dNe (.str s) (.str r) = .ok (.bool (!decide (s = r))) := by
  have e : (D.cmp 64 (.str s) && D.cmp 64 (.str r)) = true := by
    show ((plainS s && decide (s.length ≤ lim)) && (plainS r && decide (r.length ≤ lim))) = true
    rw [h1, h2, decide_eq_true h3, decide_eq_true h4]
    rfl
  unfold dNe
  rw [if_pos e]
  unfold D.eqv
  by_cases h : s = r <;> simp [h]
end
theorem run_of {n : Nat} {g : St} {ds : List D} {d : D} (h : g (ds.map (fun d => some (S.dat d)) ++ List.replicate (n - ds.length) Option.none) = .ret d) : runDef n g ds = .ok d := by
  unfold runDef
  rw [h]
theorem run_raise {n : Nat} {g : St} {ds : List D} {c : Cls} (h : g (ds.map (fun d => some (S.dat d)) ++ List.replicate (n - ds.length) Option.none) = .raise c) : runDef n g ds = .raise c := by
  unfold runDef
  rw [h]
theorem y_mulL {a b : Int} (h : small a) : dMul (.int a) (.int b) = .ok (.int (a * b)) := if_pos (.inl h)
theorem y_mulR {a b : Int} (h : small b) : dMul (.int a) (.int b) = .ok (.int (a * b)) := if_pos (.inr (.inl h))
theorem y_mod {a b : Int} (h : 0 < b) : dMod (.int a) (.int b) = .ok (.int (a % b)) := if_pos h
theorem y_div {a b : Int} (h : 0 < b) (h2 : b < 1073741824) : dDiv (.int a) (.int b) = .ok (.int (a / b)) := if_pos ⟨h, h2⟩
theorem small2 : small 2 := by decide
theorem small17 : small 17 := by decide
/-! ### places -/
theorem at_nat {α : Type} {xs : List α} {i : Nat} : at? xs (i : Int) = xs[i]? := by
  unfold at? ix
  rw [if_pos (Int.natCast_nonneg i)]
  by_cases h : i < xs.length
  · rw [if_pos (by omega)]
    rfl
  · rw [if_neg (by omega), List.getElem?_eq_none (by omega)]
    rfl
theorem at_zero {α : Type} {xs : List α} {x : α} : at? (x :: xs) (0 : Int) = some x := at_nat (xs := x :: xs) (i := 0)
theorem at_last {α : Type} {xs : List α} {x : α} : at? (xs ++ [x]) (-1) = some x := by
  unfold at? ix
  rw [if_neg (by omega), if_pos (by rw [List.length_append, List.length_singleton]; omega), List.length_append, List.length_singleton]
  have e : (-1 + ((xs.length + 1 : Nat) : Int)).toNat = xs.length := by omega
  show (some (-1 + ((xs.length + 1 : Nat) : Int)).toNat).bind _ = _
  rw [e]
  simp
theorem sl_nat (n d i : Nat) : sl n d (some (i : Int)) = min i n := by
  show (if (i : Int) < 0 then ((i : Int) + (n : Int)).toNat else min (i : Int).toNat n) = _
  rw [if_neg (by omega), Int.toNat_natCast]
theorem sl_none (n d : Nat) : sl n d Option.none = d := rfl
theorem cut_to {α : Type} (xs : List α) (i : Nat) : cut xs Option.none (some (i : Int)) = xs.take i := by
  unfold cut
  rw [sl_nat, sl_none, List.drop_zero, Nat.sub_zero]
  by_cases h : i ≤ xs.length
  · rw [Nat.min_eq_left h]
  · rw [Nat.min_eq_right (by omega), List.take_of_length_le (by omega), List.take_of_length_le (by omega)]
theorem cut_from {α : Type} (xs : List α) (i : Nat) : cut xs (some (i : Int)) Option.none = xs.drop i := by
  unfold cut
  rw [sl_nat, sl_none]
  by_cases h : i ≤ xs.length
  · rw [Nat.min_eq_left h, List.take_of_length_le (by rw [List.length_drop]; omega)]
  · rw [Nat.min_eq_right (by omega), List.drop_of_length_le (Nat.le_refl _), List.drop_of_length_le (by omega)]
    simp
theorem cut_mid {α : Type} (xs : List α) (i j : Nat) : cut xs (some (i : Int)) (some (j : Int)) = (xs.take j).drop i := by
  unfold cut
  rw [sl_nat, sl_nat]
  by_cases h : i ≤ xs.length
  · rw [Nat.min_eq_left h]
    by_cases h2 : j ≤ xs.length
    · rw [Nat.min_eq_left h2, List.drop_take]
    · rw [Nat.min_eq_right (by omega), List.take_of_length_le (by rw [List.length_drop]; omega), List.take_of_length_le (by omega)]
  · have e : min i xs.length = xs.length := Nat.min_eq_right (by omega)
    rw [e, List.drop_of_length_le (Nat.le_refl xs.length)]
    rw [List.drop_of_length_le (by rw [List.length_take]; omega)]
    simp
abbrev nd (n : Nat) : D := .int (n : Int)
theorem nd_mul (a b : Nat) : D.int ((a : Int) * (b : Int)) = nd (a * b) := by
  show _ = D.int ((a * b : Nat) : Int)
  rw [Int.natCast_mul]
theorem nd_add (a b : Nat) : D.int ((a : Int) + (b : Int)) = nd (a + b) := by
  show _ = D.int ((a + b : Nat) : Int)
  rw [Int.natCast_add]
theorem nd_of {i : Int} (h : 0 ≤ i) : D.int i = nd i.toNat := by
  show _ = D.int ((i.toNat : Nat) : Int)
  rw [Int.toNat_of_nonneg h]
/-! ### loops -/
theorem loop_nil {g : G} {b : St} {η : Env} : loop g b [] η = .next η := rfl
theorem loop_cons {g : G} {b : St} {d : D} {ds : List D} {η η1 : Env} (h : g d η = .ok η1) : loop g b (d :: ds) η = (match b η1 with
    | .next η' => loop g b ds η'
    | .ct η' => loop g b ds η'
    | .brk η' => .next η'
    | o => o) := by
  show outOf (g d η).calm _ = _
  rw [h]
  rfl
theorem loop_next {g : G} {b : St} {d : D} {ds : List D} {η η1 η2 : Env} (h : g d η = .ok η1) (h2 : b η1 = .next η2) : loop g b (d :: ds) η = loop g b ds η2 := by
  rw [loop_cons h, h2]
theorem loop_ret {g : G} {b : St} {d v : D} {ds : List D} {η η1 : Env} (h : g d η = .ok η1) (h2 : b η1 = .ret v) : loop g b (d :: ds) η = .ret v := by
  rw [loop_cons h, h2]
/-- every turn keeps P -/
theorem loop_inv {g : G} {b : St} (P : Nat → Env → Prop) : ∀ (ds : List D) (k : Nat) (η : Env), P k η → (∀ i d η, ds[i]? = some d → P (k + i) η → ∃ η1 η2, g d η = .ok η1 ∧ (b η1 = .next η2 ∨ b η1 = .ct η2) ∧ P (k + i + 1) η2) → ∃ η', loop g b ds η = .next η' ∧ P (k + ds.length) η'
  | [], k, η, h, _ => ⟨η, rfl, h⟩
  | d :: ds, k, η, h, step => by
    obtain ⟨η1, η2, h1, h2, h3⟩ := step 0 d η rfl h
    obtain ⟨η', e1, e2⟩ := loop_inv (g := g) (b := b) P ds (k + 1) η2 h3 (fun i d' η hi hp => by
      have e : k + 1 + i = k + (i + 1) := by omega
      rw [e] at hp ⊢
      exact step (i + 1) d' η (by simpa using hi) hp)
    refine ⟨η', ?_, ?_⟩
    · rw [loop_cons h1]
      rcases h2 with h2 | h2 <;> rw [h2] <;> exact e1
    · have e : k + 1 + ds.length = k + (d :: ds).length := by
        rw [List.length_cons]
        omega
      rw [e] at e2
      exact e2
/-- .. and nothing is asked of the turn's number -/
theorem loop_all {g : G} {b : St} (P : Env → Prop) (ds : List D) {η : Env} (h : P η) (step : ∀ d, d ∈ ds → ∀ η, P η → ∃ η1 η2, g d η = .ok η1 ∧ (b η1 = .next η2 ∨ b η1 = .ct η2) ∧ P η2) : ∃ η', loop g b ds η = .next η' ∧ P η' := by
  obtain ⟨η', e1, e2⟩ := loop_inv (g := g) (b := b) (fun _ => P) ds 0 η h (fun i d η hi hp => step d (List.mem_of_getElem? hi) η hp)
  exact ⟨η', e1, e2⟩
/-- a while that turns m times -/
theorem whil_up {t : T} {b : St} (st : Nat → Env) : ∀ (m k n : Nat), m < n → (∀ i, k ≤ i → i < k + m → t (st i) = .ok true ∧ b (st i) = .next (st (i + 1))) → t (st (k + m)) = .ok false → whil t b n (st k) = .next (st (k + m))
  | 0, k, n + 1, _, _, h => by
    show outOf (t (st k)) _ = _
    rw [Nat.add_zero] at h ⊢
    rw [h]
    rfl
  | m + 1, k, n + 1, hn, hs, h => by
    obtain ⟨h1, h2⟩ := hs k (Nat.le_refl _) (by omega)
    have e : k + (m + 1) = k + 1 + m := by omega
    rw [e] at h ⊢
    have ih := whil_up st m (k + 1) n (by omega) (fun i h3 h4 => hs i (by omega) (by omega)) h
    show outOf (t (st k)) _ = _
    rw [h1, outOf_ok, if_pos rfl, h2]
    exact ih
/-! ### comprehensions -/
theorem comp_nil {g : G} {t : T} {e : E} {η : Env} : comp g t e η [] = .ok [] := rfl
theorem comp_map {g : G} {t : T} {e : E} {η : Env} (p : D → Bool) (v : D → D) : ∀ (ds : List D), (∀ d, d ∈ ds → ∃ η1, g d η = .ok η1 ∧ t η1 = .ok (p d) ∧ (p d = true → e η1 = .ok (v d))) → comp g t e η ds = .ok ((ds.filter p).map v)
  | [], _ => rfl
  | d :: ds, h => by
    obtain ⟨η1, h1, h2, h3⟩ := h d List.mem_cons_self
    have ih := comp_map p v ds fun d hd => h d (List.mem_cons_of_mem _ hd)
    show (g d η).calm.bind _ = _
    rw [h1, calm_ok, bind_ok, h2, bind_ok]
    cases hp : p d with
    | true => rw [if_pos rfl, h3 hp, bind_ok, ih, bind_ok, List.filter_cons_of_pos hp, List.map_cons]
    | false => rw [if_neg Bool.false_ne_true, ih, List.filter_cons_of_neg (by rw [hp]; exact Bool.false_ne_true)]
theorem comp_all {g : G} {t : T} {e : E} {η : Env} (v : D → D) (ds : List D) (h : ∀ d, d ∈ ds → ∃ η1, g d η = .ok η1 ∧ t η1 = .ok true ∧ e η1 = .ok (v d)) : comp g t e η ds = .ok (ds.map v) := by
  have e1 := comp_map (g := g) (t := t) (e := e) (η := η) (fun _ => true) v ds fun d hd => by
    obtain ⟨η1, h1, h2, h3⟩ := h d hd
    exact ⟨η1, h1, h2, fun _ => h3⟩
  rw [List.filter_eq_self.mpr fun _ _ => rfl] at e1
  exact e1
theorem comp_list {α : Type} {g : G} {t : T} {e : E} {η : Env} (f v : α → D) : ∀ (xs : List α), (∀ a, a ∈ xs → ∃ η1, g (f a) η = .ok η1 ∧ t η1 = .ok true ∧ e η1 = .ok (v a)) → comp g t e η (xs.map f) = .ok (xs.map v)
  | [], _ => rfl
  | a :: xs, h => by
    obtain ⟨η1, h1, h2, h3⟩ := h a List.mem_cons_self
    have ih := comp_list f v xs fun d hd => h d (List.mem_cons_of_mem _ hd)
    show (g (f a) η).calm.bind _ = _
    rw [h1, calm_ok, bind_ok, h2, bind_ok, if_pos rfl, h3, bind_ok, ih, bind_ok, List.map_cons]
theorem eComp_of {own : List Nat} {fi : I} {g : G} {t : T} {e : E} {η : Env} {ds ys : List D} (h1 : fi η = .ok ds) (h2 : ds.length ≤ lim) (h3 : comp g t e (wipes η own) ds = .ok ys) : eComp own fi g t e η = .ok (.lst ys) := by
  unfold eComp
  rw [h1, bind_ok, if_pos h2, h3]
  rfl
/-! ### lists of data -/
@[simp] theorem nums_map (l : List Int) : numsL (l.map D.int) = some l := by
  induction l with
  | nil => rfl
  | cons x r ih =>
    show (numsL (r.map D.int)).map (x :: ·) = _
    rw [ih]
    rfl
@[simp] theorem strs_map (l : List (List Nat)) : strsL (l.map D.str) = some l := by
  induction l with
  | nil => rfl
  | cons x r ih =>
    show (strsL (r.map D.str)).map (x :: ·) = _
    rw [ih]
    rfl
@[simp] theorem bools_map (l : List Bool) : boolsL (l.map D.bool) = some l := by
  induction l with
  | nil => rfl
  | cons x r ih =>
    show (boolsL (r.map D.bool)).map (x :: ·) = _
    rw [ih]
    rfl
theorem bMin_map (x : Int) (l : List Int) : bMin (.lst ((x :: l).map D.int)) = .ok (.int (least x l)) := by
  show (match numsL ((x :: l).map D.int) with
    | some (x :: r) => Res.ok (D.int (least x r))
    | _ => .bad) = _
  rw [nums_map]
theorem bMax_map (x : Int) (l : List Int) : bMax (.lst ((x :: l).map D.int)) = .ok (.int (most x l)) := by
  show (match numsL ((x :: l).map D.int) with
    | some (x :: r) => Res.ok (D.int (most x r))
    | _ => .bad) = _
  rw [nums_map]
theorem bAll_map (l : List Bool) : bAll (.lst (l.map D.bool)) = .ok (.bool (l.all id)) := by
  show (match boolsL (l.map D.bool) with
    | some bs => Res.ok (D.bool (bs.all id))
    | _ => .bad) = _
  rw [bools_map]
theorem bSum_map (l : List Int) : bSum (.lst (l.map D.int)) = .ok (.int l.sum) := by
  show (match numsL (l.map D.int) with
    | some ns => Res.ok (D.int ns.sum)
    | _ => .bad) = _
  rw [nums_map]
theorem dJoin_map (sep : List Nat) (l : List (List Nat)) (h : lenSum l + l.length * sep.length ≤ lim) : dJoin (.str sep) (.lst (l.map D.str)) = .ok (.str (joinS sep l)) := by
  show (match strsL (l.map D.str) with
    | some ss => if lenSum ss + ss.length * sep.length ≤ lim then Res.ok (D.str (joinS sep ss)) else .bad
    | _ => .bad) = _
  rw [strs_map]
  exact if_pos h
theorem joinS_nil (l : List (List Nat)) : joinS [] l = l.flatten := by
  induction l with
  | nil => rfl
  | cons x r ih =>
    cases r with
    | nil => simp [joinS]
    | cons y r =>
      show x ++ [] ++ joinS [] (y :: r) = _
      rw [ih]
      simp
theorem lenSum_ones (l : List Nat) : lenSum (l.map fun c => [c]) = l.length := by
  induction l with
  | nil => rfl
  | cons x r ih =>
    show 1 + lenSum (r.map fun c => [c]) = _
    rw [ih, List.length_cons]
    omega
@[simp] theorem numbers_len' (lo : Int) (n : Nat) : (numbers lo n).length = n := by simp [numbers]
theorem numbers_get {lo : Int} {n i : Nat} {d : D} (h : (numbers lo n)[i]? = some d) : i < n ∧ d = .int (lo + (i : Int)) := by
  unfold numbers at h
  rw [List.getElem?_map] at h
  by_cases hi : i < n
  · rw [List.getElem?_range hi] at h
    cases h
    exact ⟨hi, rfl⟩
  · rw [List.getElem?_eq_none (by simpa using hi)] at h
    cases h
theorem numbers_mem {lo : Int} {n : Nat} {d : D} (h : d ∈ numbers lo n) : ∃ i : Nat, i < n ∧ d = .int (lo + (i : Int)) := by
  obtain ⟨i, hi⟩ := List.getElem?_of_mem h
  exact ⟨i, numbers_get hi⟩
theorem rng1_nat (n : Nat) (h : n ≤ 2 ^ 40) : rng1 (.int (n : Int)) = .ok (numbers 0 n) := by
  have e : rngOk (n : Int) = true := by
    unfold rngOk
    rw [decide_eq_true (by omega), decide_eq_true (by omega)]
    rfl
  show (if rngOk (n : Int) then Res.ok (numbers 0 (n : Int).toNat) else .bad) = _
  rw [if_pos e, Int.toNat_natCast]
end Bk
end
/-! BkRows -/
section
set_option linter.all false
set_option autoImplicit false
set_option maxRecDepth 100000
/-! BkRows: rows of brackets: heights, is_whole, depth, backward; the laws' own rows -/
namespace Bk
/-- what a sign adds -/
def up (c : Nat) : Int := if c = 41 then -1 else 1
def hts (h : Int) : List Nat → List Int
  | [] => [h]
  | c :: r => h :: hts (h + up c) r
theorem hts_len (h : Int) (s : List Nat) : (hts h s).length = s.length + 1 := by
  induction s generalizing h with
  | nil => rfl
  | cons c r ih =>
    show (hts (h + up c) r).length + 1 = _
    rw [ih]
    rfl
theorem signs_mem {s : List Nat} {d : D} (h : d ∈ signs s) : ∃ c, c ∈ s ∧ d = .str [c] := by
  unfold signs at h
  rw [List.mem_map] at h
  obtain ⟨c, h1, h2⟩ := h
  exact ⟨c, h1, h2.symm⟩
theorem plain_one {c : Nat} (h : c < 128) : plainS [c] = true := by
  unfold plainS
  simp [h]
theorem plain_mem {s : List Nat} (h : plainS s = true) {c : Nat} (hc : c ∈ s) : c < 128 := by
  unfold plainS at h
  rw [List.all_eq_true] at h
  exact of_decide_eq_true (h c hc)
theorem plain_cons {c : Nat} {s : List Nat} (h : plainS (c :: s) = true) : c < 128 ∧ plainS s = true := ⟨plain_mem h List.mem_cons_self, by
  unfold plainS at h ⊢
  rw [List.all_cons, Bool.and_eq_true] at h
  exact h.2⟩
/-- sign == ')' -/
theorem one_lim : (1 : Nat) ≤ lim := by decide
theorem eq_sign {c x : Nat} (h : c < 128) (hx : x < 128) : dEq (.str [c]) (.str [x]) = .ok (.bool (decide (c = x))) := by
  rw [y_eqS (plain_one h) (plain_one hx) one_lim one_lim]
  simp
theorem eq_shut {c : Nat} (h : c < 128) : dEq (.str [c]) (.str [41]) = .ok (.bool (decide (c = 41))) := eq_sign h (by decide)
theorem eq_open {c : Nat} (h : c < 128) : dEq (.str [c]) (.str [40]) = .ok (.bool (decide (c = 40))) := eq_sign h (by decide)
theorem ne_shut {c : Nat} (h : c < 128) : dNe (.str [c]) (.str [41]) = .ok (.bool (!decide (c = 41))) := by
  rw [y_neS (plain_one h) (plain_one (by decide)) one_lim one_lim]
  simp
theorem ne_open {c : Nat} (h : c < 128) : dNe (.str [c]) (.str [40]) = .ok (.bool (!decide (c = 40))) := by
  rw [y_neS (plain_one h) (plain_one (by decide)) one_lim one_lim]
  simp
theorem heights_loop : ∀ (s : List Nat) (acc : List Int) (h : Int) (d : D) (z : Option S), plainS s = true → acc.length + s.length < 16777000 →
    ∃ z', loop (gName 2) b_heights_1 (signs s)
      [some (.dat d), some (.own ((acc ++ [h]).map D.int)), z] = .next [some (.dat d), some (.own ((acc ++ hts h s).map D.int)), z']
  | [], acc, h, d, z, _, _ => ⟨z, rfl⟩
  | c :: r, acc, h, d, z, hp, hl => by
    obtain ⟨h1, h2⟩ := plain_cons hp
    rw [List.length_cons] at hl
    obtain ⟨z', ih⟩ := heights_loop r (acc ++ [h]) (h + up c) d (some (.dat (.str [c]))) h2 (by
      rw [List.length_append, List.length_singleton]
      omega)
    refine ⟨z', ?_⟩
    have e0 : acc ++ hts h (c :: r) = acc ++ [h] ++ hts (h + up c) r := by
      show acc ++ (h :: hts (h + up c) r) = _
      simp
    rw [e0, ← ih]
    refine loop_next (η1 := [some (.dat d), some (.own ((acc ++ [h]).map D.int)), some (.dat (.str [c]))]) rfl ?_
    have hl2 : acc.length + 1 < lim := by
      show _ < 16777216
      omega
    have e3 : h + 1 - 2 * (if c = 41 then 1 else 0) = h + up c := by
      unfold up
      by_cases k : c = 41
      · simp [k]
        omega
      · simp [k]
    simp [b_heights_1, eq_shut h1, at_last, dMul, small2, hl2, e3]
theorem heights_of {s : List Nat} (hp : plainS s = true) (hl : s.length < 16777000) : φ_heights [.str s] = .ok (.lst ((hts 0 s).map D.int)) := by
  obtain ⟨z', h⟩ := heights_loop s [] 0 (.str s) none hp (by simpa using hl)
  refine run_of (g := g_heights) ?_
  simp only [List.map_nil, List.nil_append] at h
  simp at h
  simp [g_heights, h]
/-! ### whole rows -/
/-- whole from a height on -/
def wholeF : Nat → List Nat → Bool
  | h, [] => h == 0
  | h, c :: r => if c = 40 then wholeF (h + 1) r else if c = 41 then (match h with
    | 0 => false
    | h + 1 => wholeF h r) else false
def whole (s : List Nat) : Bool := wholeF 0 s
def brack (s : List Nat) : Bool := s.all fun c => decide (c = 40) || decide (c = 41)
theorem brack_cons {c : Nat} {s : List Nat} : brack (c :: s) = ((decide (c = 40) || decide (c = 41)) && brack s) := rfl
theorem brack_mem {s : List Nat} (h : brack s = true) {c : Nat} (hc : c ∈ s) : c = 40 ∨ c = 41 := by
  unfold brack at h
  rw [List.all_eq_true] at h
  simpa using h c hc
theorem brack_plain {s : List Nat} (h : brack s = true) : plainS s = true := by
  unfold plainS
  rw [List.all_eq_true]
  intro c hc
  rcases brack_mem h hc with rfl | rfl <;> decide
theorem whole_brack : ∀ (s : List Nat) (h : Nat), wholeF h s = true → brack s = true
  | [], _, _ => rfl
  | c :: r, h, w => by
    unfold wholeF at w
    rw [brack_cons]
    by_cases k : c = 40
    · rw [if_pos k] at w
      simp [k, whole_brack r _ w]
    · rw [if_neg k] at w
      by_cases k2 : c = 41
      · rw [if_pos k2] at w
        cases h with
        | zero => cases w
        | succ h => simp [k2, whole_brack r _ w]
      · rw [if_neg k2] at w
        cases w
theorem least_low : ∀ (r : List Int) (m : Int), least m r = m ↔ ∀ y ∈ r, m ≤ y := by
  have le : ∀ (r : List Int) (m : Int), least m r ≤ m := by
    intro r
    induction r with
    | nil => exact fun m => Int.le_refl m
    | cons x r ih =>
      intro m
      show least (if x < m then x else m) r ≤ m
      by_cases h : x < m
      · rw [if_pos h]
        have := ih x
        omega
      · rw [if_neg h]
        exact ih m
  intro r
  induction r with
  | nil =>
    intro m
    exact ⟨fun _ _ h => (nomatch h), fun _ => rfl⟩
  | cons x r ih =>
    intro m
    show least (if x < m then x else m) r = m ↔ _
    by_cases h : x < m
    · rw [if_pos h]
      constructor
      · intro e
        have := le r x
        omega
      · intro e
        have := e x List.mem_cons_self
        omega
    · rw [if_neg h, ih]
      constructor
      · intro e y hy
        rcases List.mem_cons.mp hy with rfl | hy
        · omega
        · exact e y hy
      · exact fun e y hy => e y (List.mem_cons_of_mem _ hy)
theorem hts_last : ∀ (s : List Nat) (h : Int), ∃ pre z, hts h s = pre ++ [z] ∧ (brack s = true → ∀ n : Nat, h = n → ((∀ y ∈ hts h s, 0 ≤ y) ∧ z = 0 ↔ wholeF n s = true))
  | [], h => ⟨[], h, rfl, fun _ n hn => by
      unfold hts wholeF
      simp
      omega⟩
  | c :: r, h => by
    obtain ⟨pre, z, e, ih⟩ := hts_last r (h + up c)
    refine ⟨h :: pre, z, by show h :: hts (h + up c) r = _; rw [e]; rfl, fun hb n hn => ?_⟩
    rw [brack_cons, Bool.and_eq_true] at hb
    have hc : c = 40 ∨ c = 41 := by simpa using hb.1
    have e0 : (∀ y ∈ hts h (c :: r), 0 ≤ y) ↔ 0 ≤ h ∧ ∀ y ∈ hts (h + up c) r, 0 ≤ y := by
      show (∀ y ∈ h :: hts (h + up c) r, 0 ≤ y) ↔ _
      simp
    rw [e0]
    subst hn
    rcases hc with rfl | rfl
    · have := ih hb.2 (n + 1) (by unfold up; simp)
      show _ ↔ wholeF (n + 1) r = true
      rw [← this]
      simp
    · cases n with
      | zero =>
        have h1 : (up 41 : Int) ∈ hts (((0 : Nat) : Int) + up 41) r := by
          cases r with
          | nil => simp [hts]
          | cons x r => simp [hts]
        show _ ↔ false = true
        constructor
        · intro q
          have := q.1.2 _ h1
          unfold up at this
          simp at this
        · intro q
          cases q
      | succ n =>
        have := ih hb.2 n (by unfold up; simp; omega)
        show _ ↔ wholeF n r = true
        rw [← this]
        simp
        omega
theorem isTy_str {s : List Nat} : bIs .str (.str s) = .ok (.bool true) := rfl
theorem inS_eq {c : Nat} : dInS (.str [c]) (.str [40, 41]) = .ok (.bool (decide (c = 40) || decide (c = 41))) := by
  show Res.ok (D.bool (decide (c ∈ [40, 41]))) = _
  by_cases h : c = 40
  · simp [h]
  · by_cases h2 : c = 41 <;> simp [h, h2]
/-- is_whole of a text -/
theorem is_whole_of {s : List Nat} (hp : plainS s = true) (hl : s.length < 16777000) : φ_is_whole [.str s] = .ok (.bool (decide (s.length ≤ 120) && whole s)) := by
  have hll : s.length ≤ lim := by
    show _ ≤ 16777216
    omega
  obtain ⟨L, hc, hb⟩ : ∃ L, c_is_whole_1 [some (.dat (.str s)), none, none] = .ok (.lst L) ∧ bAll (.lst L) = .ok (.bool (brack s)) := by
    refine ⟨(s.map fun c => decide (c = 40) || decide (c = 41)).map D.bool, ?_, by
      rw [bAll_map, List.all_map]
      rfl⟩
    refine eComp_of (ds := signs s) (by simp) (by unfold signs; rw [List.length_map]; exact hll) ?_
    have e := comp_all (g := gName 1) (t := tYes) (e := eBin dInS (eVar 1) (eC (.str [40, 41]))) (η := wipes [some (.dat (.str s)), none, none] [1]) (fun d => match d with | .str [c] => .bool (decide (c = 40) || decide (c = 41)) | _ => .none) (signs s) (fun d hd => by
      obtain ⟨c, _, rfl⟩ := signs_mem hd
      exact ⟨_, rfl, rfl, by simp [inS_eq]⟩)
    rw [e]
    unfold signs
    rw [List.map_map, List.map_map]
    rfl
  obtain ⟨pre, z, e1, e2⟩ := hts_last s 0
  refine run_of (g := g_is_whole) ?_
  unfold g_is_whole
  by_cases h120 : s.length ≤ 120
  · have h120' : ¬ (120 : Int) < s.length := by omega
    cases hbr : brack s with
    | false =>
      have hw : whole s = false := by
        cases q : whole s with
        | false => rfl
        | true =>
          have := whole_brack s 0 q
          rw [hbr] at this
          cases this
      simp [isTy_str, hll, hc, hb, hbr, hw, h120']
    | true =>
      have key : (decide (least 0 (hts 0 s).tail = 0) && decide (z = 0)) = whole s := by
        have k := e2 hbr 0 rfl
        have h0 : ∃ r, hts 0 s = 0 :: r := by
          cases s with
          | nil => exact ⟨[], rfl⟩
          | cons c r => exact ⟨_, rfl⟩
        obtain ⟨r, h0⟩ := h0
        rw [h0] at k ⊢
        have k2 := least_low r 0
        unfold whole
        rw [Bool.eq_iff_iff, ← k, Bool.and_eq_true, decide_eq_true_eq, decide_eq_true_eq, List.tail_cons, k2]
        simp
      have hm : bMin (.lst ((hts 0 s).map D.int)) = .ok (.int (least 0 (hts 0 s).tail)) := by
        cases s with
        | nil => exact bMin_map 0 []
        | cons c r => exact bMin_map 0 _
      have hz : at? ((hts 0 s).map D.int) (-1) = some (.int z) := by
        rw [e1, List.map_append]
        exact at_last
      have hh : ∃ L, φ_heights [.str s] = .ok (.lst L) ∧ bMin (.lst L) = .ok (.int (least 0 (hts 0 s).tail)) ∧ at? L (-1) = some (.int z) := ⟨_, heights_of hp hl, hm, hz⟩
      obtain ⟨L2, hh, hm, hz⟩ := hh
      rw [← key]
      simp [isTy_str, hll, hc, hb, hbr, h120', h120, hh, hm, hz]
      cases k : decide (least 0 (hts 0 s).tail = 0) <;> simp_all
  · have h120' : (120 : Int) < s.length := by omega
    simp [isTy_str, hll, h120, h120']
/-! ### the laws' own tools -/
def mix (c p m : Int) : Int := c * 48271 % p % m
theorem mix_of {c p m : Int} (hp : 0 < p) (hm : 0 < m) : φ_l_mix [.int c, .int p, .int m] = .ok (.int (mix c p m)) := by
  have h : small 48271 := by decide
  refine run_of (g := g_l_mix) ?_
  simp [g_l_mix, y_mulR h, y_mod hp, y_mod hm, mix]
theorem mix_range {c p m : Int} (hm : 0 < m) : 0 ≤ mix c p m ∧ mix c p m < m := ⟨Int.emod_nonneg _ (by omega), Int.emod_lt_of_pos _ hm⟩
theorem l_whole_int {i : Int} : φ_l_whole [.int i] = .ok (.bool true) := by
  rfl
theorem sign_dict {c : Nat} {z : D} : dSign (.str [c]) z = .ok (if c = 40 then .int 1 else if c = 41 then .int (-1) else z) := by
  show Res.ok (if [c] = [40] then D.int 1 else if [c] = [41] then D.int (-1) else z) = _
  simp
theorem l_is_whole_loop : ∀ (s : List Nat) (h : Nat) (x : D) (z : Option S), h + s.length ≤ 900 →
    ∃ o, loop (gName 2) b_l_is_whole_1 (signs s) [some (.dat x), some (.dat (.int h)), z] = o ∧
      ((o = .ret (.bool false) ∧ wholeF h s = false) ∨ ∃ (h' : Nat) (z' : Option S), o = .next [some (.dat x), some (.dat (.int h')), z'] ∧ decide (h' = 0) = wholeF h s)
  | [], h, x, z, _ => ⟨_, rfl, .inr ⟨h, z, rfl, by
      unfold wholeF
      rfl⟩⟩
  | c :: r, h, x, z, hl => by
    rw [List.length_cons] at hl
    by_cases k : c = 40
    · subst k
      obtain ⟨o, e, q⟩ := l_is_whole_loop r (h + 1) x (some (.dat (.str [40]))) (by omega)
      refine ⟨o, ?_, q⟩
      rw [← e]
      refine loop_next (η1 := [some (.dat x), some (.dat (.int h)), some (.dat (.str [40]))]) rfl ?_
      have e2 : ¬ ((h : Int) + 1 < 0) := by omega
      simp [b_l_is_whole_1, sign_dict, e2]
    · by_cases k2 : c = 41
      · subst k2
        cases h with
        | zero =>
          refine ⟨_, loop_ret (η1 := [some (.dat x), some (.dat (.int 0)), some (.dat (.str [41]))]) rfl ?_, .inl ⟨rfl, rfl⟩⟩
          simp [b_l_is_whole_1, sign_dict]
        | succ h =>
          obtain ⟨o, e, q⟩ := l_is_whole_loop r h x (some (.dat (.str [41]))) (by omega)
          refine ⟨o, ?_, q⟩
          rw [← e]
          refine loop_next (η1 := [some (.dat x), some (.dat (.int (h + 1 : Nat))), some (.dat (.str [41]))]) rfl ?_
          have e2 : ((h : Int) + 1 + -1) = h := by omega
          have e3 : ¬ ((h : Int) < 0) := by omega
          simp [b_l_is_whole_1, sign_dict, e2, e3]
      · refine ⟨_, loop_ret (η1 := [some (.dat x), some (.dat (.int h)), some (.dat (.str [c]))]) rfl ?_, .inl ⟨rfl, ?_⟩⟩
        · have e2 : ((h : Int) + -999 < 0) := by omega
          simp [b_l_is_whole_1, sign_dict, k, k2, e2]
        · unfold wholeF
          rw [if_neg k, if_neg k2]
theorem l_is_whole_of {s : List Nat} (hl : s.length ≤ 900) : φ_l_is_whole [.str s] = .ok (.bool (whole s)) := by
  obtain ⟨o, e, q⟩ := l_is_whole_loop s 0 (.str s) none (by omega)
  refine run_of (g := g_l_is_whole) ?_
  unfold g_l_is_whole
  rcases q with ⟨rfl, q⟩ | ⟨h', z', rfl, q⟩
  · simp at e
    simp [e, whole, q]
  · simp at e
    have q2 : decide (h' = 0) = whole s := q
    simp [e, q2]
/-- the law's own row: some whole row of its size -/
def RowAt (c : Int) (n k : Nat) (η : Env) : Prop := ∃ (s : List Nat) (h : Nat) (z4 z5 : Option S), η = [some (.dat (.int c)), some (.dat (.int n)), some (.dat (.str s)), some (.dat (.int h)), z4, z5] ∧ s.length = k ∧ h + k ≤ 2 * n ∧ (h + k) % 2 = 0 ∧ ∀ t, wholeF 0 (s ++ t) = wholeF h t
theorem row_turn (c : Int) {n k : Nat} (hn : n ≤ 1000) (hk : k < 2 * n) {η : Env} (h : RowAt c n k η) : ∃ η1 η2, gName 4 (.int (k : Int)) η = .ok η1 ∧ (b_l_row_1 η1 = .next η2 ∨ b_l_row_1 η1 = .ct η2) ∧ RowAt c n (k + 1) η2 := by
  obtain ⟨s, h, z4, z5, rfl, hs, hle, hev, hw⟩ := h
  have hls : s.length + 1 ≤ lim := by
    show _ ≤ 16777216
    omega
  by_cases hc : h = 0 ∨ (h : Int) < 2 * n - k ∧ mix (c + 17 * k) 9973 5 < 3
  · have h3 : h + k + 2 ≤ 2 * n := by
      rcases hc with hc | hc <;> omega
    refine ⟨_, [some (.dat (.int c)), some (.dat (.int n)), some (.dat (.str (s ++ [40]))), some (.dat (.int (h + 1 : Nat))), some (.dat (.int k)), some (.dat (.int (2 * n - k)))], rfl, .inl ?_, s ++ [40], h + 1, _, _, rfl, by simp [hs], by omega, by omega, fun t => ?_⟩
    · by_cases h0 : h = 0
      · simp [b_l_row_1, y_mulL small2, y_mulL small17, mix_of, hls, h0]
      · have hc := hc.resolve_left h0
        simp [b_l_row_1, y_mulL small2, y_mulL small17, mix_of, hls, h0, hc]
    · rw [List.append_assoc, hw]
      rfl
  · have h0 : h ≠ 0 := fun z => hc (.inl z)
    obtain ⟨h', rfl⟩ : ∃ h', h = h' + 1 := ⟨h - 1, by omega⟩
    refine ⟨_, [some (.dat (.int c)), some (.dat (.int n)), some (.dat (.str (s ++ [41]))), some (.dat (.int h')), some (.dat (.int k)), some (.dat (.int (2 * n - k)))], rfl, .inl ?_, s ++ [41], h', _, _, rfl, by simp [hs], by omega, by omega, fun t => ?_⟩
    · have hz : ¬ ((h' : Int) + 1 = 0) := by omega
      by_cases h1 : (h' : Int) + 1 < 2 * n - k
      · have h2 : ¬ mix (c + 17 * k) 9973 5 < 3 := fun z => hc (.inr ⟨by omega, z⟩)
        simp [b_l_row_1, y_mulL small2, y_mulL small17, mix_of, hls, hz, h1, h2]
      · simp [b_l_row_1, y_mulL small2, y_mulL small17, mix_of, hls, hz, h1]
    · rw [List.append_assoc, hw]
      rfl

theorem hrng1 (n : Nat) (hn : n ≤ 1000) : rng1 (.int (2 * (n : Int))) = .ok (numbers 0 (2 * n)) := by
    have h := rng1_nat (2 * n) (by omega)
    have e : ((2 * n : Nat) : Int) = 2 * (n : Int) := by omega
    rw [e] at h
    exact h
theorem l_row_of (c : Int) {n : Nat} (hn : n ≤ 1000) : ∃ s, φ_l_row [.int c, .int n] = .ok (.str s) ∧ s.length = 2 * n ∧ whole s = true := by
  have hrng := hrng1 n hn
  obtain ⟨η', e1, e2⟩ := loop_inv (g := gName 4) (b := b_l_row_1) (RowAt c n) (numbers 0 (2 * n)) 0 [some (.dat (.int c)), some (.dat (.int n)), some (.dat (.str [])), some (.dat (.int 0)), none, none]
    ⟨[], 0, none, none, rfl, rfl, by omega, rfl, fun t => rfl⟩ (fun i d η hi hP => by
      obtain ⟨hin, rfl⟩ := numbers_get hi
      rw [Nat.zero_add] at hP
      rw [Nat.zero_add, Int.zero_add]
      exact row_turn c hn hin hP)
  rw [numbers_len', Nat.zero_add] at e2
  obtain ⟨s, h, z4, z5, rfl, hs, hle, hev, hw⟩ := e2
  have h0 : h = 0 := by omega
  subst h0
  refine ⟨s, ?_, hs, by
    have := hw []
    rw [List.append_nil] at this
    rw [show whole s = wholeF 0 s from rfl, this]
    rfl⟩
  have hm : g_l_row [some (.dat (.int c)), some (.dat (.int n)), none, none, none, none] = .ret (.str s) := by
    simp [g_l_row, y_mulL small2, hrng, e1]
  exact run_of (g := g_l_row) hm
theorem depth_of {s : List Nat} (hp : plainS s = true) (hl : s.length < 16777000) : φ_depth [.str s] = .ok (.int (most 0 (hts 0 s).tail)) := by
  have hm : ∃ L, φ_heights [.str s] = .ok (.lst L) ∧ bMax (.lst L) = .ok (.int (most 0 (hts 0 s).tail)) := by
    refine ⟨_, heights_of hp hl, ?_⟩
    cases s with
    | nil => exact bMax_map 0 []
    | cons c r => exact bMax_map 0 _
  obtain ⟨L, h1, h2⟩ := hm
  refine run_of (g := g_depth) ?_
  simp [g_depth, h1, h2]
/-! ### backward -/
def flip (c : Nat) : Nat := if c = 41 then 40 else 41
def back (s : List Nat) : List Nat := s.reverse.map flip
theorem back_len (s : List Nat) : (back s).length = s.length := by simp [back]
theorem back_of {s : List Nat} (hp : plainS s = true) (hl : s.length < 16777000) : φ_backward [.str s] = .ok (.str (back s)) := by
  have hll : s.length ≤ lim := by
    show _ ≤ 16777216
    omega
  have hc : ∃ L, c_backward_1 [some (.dat (.str s)), none] = .ok (.lst L) ∧ dJoin (.str []) (.lst L) = .ok (.str (back s)) := by
    refine ⟨((back s).map fun c => [c]).map D.str, ?_, ?_⟩
    · refine eComp_of (ds := signs s.reverse) (by simp [hll]) (by unfold signs; rw [List.length_map, List.length_reverse]; exact hll) ?_
      rw [comp_all (fun d => match d with | .str [c] => .str [flip c] | _ => .none) (signs s.reverse) (fun d hd => ?_)]
      · unfold signs back
        rw [List.map_map, List.map_map, List.map_map]
        rfl
      · obtain ⟨c, hc, rfl⟩ := signs_mem hd
        have h1 : c < 128 := plain_mem hp (List.mem_reverse.mp hc)
        have h2 : (2 : Nat) ≤ lim := by decide
        refine ⟨_, rfl, rfl, ?_⟩
        by_cases h : c = 41
        · subst h
          have h3 : at? [41, 40] (1 : Int) = some 40 := rfl
          simp [eq_shut h1, flip, h2, h3]
        · have h3 : at? [41, 40] (0 : Int) = some 41 := rfl
          simp [eq_shut h1, flip, h, h2, h3]
    · rw [dJoin_map, joinS_nil]
      · congr 2
        induction back s with
        | nil => rfl
        | cons c r ih => simp [ih]
      · rw [lenSum_ones, back_len]
        simp
        exact hll
  obtain ⟨L, h1, h2⟩ := hc
  refine run_of (g := g_backward) ?_
  simp [g_backward, h1, h2]
theorem brack_append {a b : List Nat} : brack (a ++ b) = (brack a && brack b) := by
  unfold brack
  rw [List.all_append]
theorem back_brack {s : List Nat} (h : brack s = true) : brack (back s) = true := by
  unfold brack
  rw [List.all_eq_true]
  intro c hc
  unfold back at hc
  rw [List.mem_map] at hc
  obtain ⟨x, _, rfl⟩ := hc
  unfold flip
  split <;> rfl
theorem back_back {s : List Nat} (h : brack s = true) : back (back s) = s := by
  unfold back
  rw [← List.map_reverse, List.reverse_reverse, List.map_map]
  have : ∀ c ∈ s, (flip ∘ flip) c = c := by
    intro c hc
    rcases brack_mem h hc with rfl | rfl <;> rfl
  rw [List.map_congr_left this]
  simp
/-- the walk of a row that is put together -/
def total (s : List Nat) : Int := (s.map up).sum
theorem hts_append (a b : List Nat) (h : Int) : hts h (a ++ b) = (hts h a).dropLast ++ hts (h + total a) b := by
  induction a generalizing h with
  | nil => simp [hts, total]
  | cons c r ih =>
    show h :: hts (h + up c) (r ++ b) = _
    rw [ih]
    have e : hts h (c :: r) = h :: hts (h + up c) r := rfl
    have ne : hts (h + up c) r ≠ [] := by
      have := hts_len (h + up c) r
      intro z
      rw [z] at this
      simp at this
    rw [e, List.dropLast_cons_of_ne_nil ne]
    have e2 : h + total (c :: r) = h + up c + total r := by
      show h + ((c :: r).map up).sum = _
      rw [List.map_cons, List.sum_cons]
      unfold total
      omega
    rw [e2]
    rfl
theorem hts_snoc (s : List Nat) (h : Int) : ∃ pre, hts h s = pre ++ [h + total s] := by
  induction s generalizing h with
  | nil => exact ⟨[], by simp [hts, total]⟩
  | cons c r ih =>
    obtain ⟨pre, e⟩ := ih (h + up c)
    refine ⟨h :: pre, ?_⟩
    show h :: hts (h + up c) r = _
    rw [e]
    have e2 : h + total (c :: r) = h + up c + total r := by
      show h + ((c :: r).map up).sum = _
      rw [List.map_cons, List.sum_cons]
      unfold total
      omega
    rw [e2]
    rfl
theorem wholeF_iff {s : List Nat} {n : Nat} : wholeF n s = true ↔ brack s = true ∧ (∀ y ∈ hts n s, 0 ≤ y) ∧ n + total s = 0 := by
  obtain ⟨pre, z, e1, e2⟩ := hts_last s n
  obtain ⟨pre2, e3⟩ := hts_snoc s n
  have ez : z = n + total s := by
    rw [e1] at e3
    have := congrArg (fun l : List Int => l.getLast?) e3
    simpa using this
  constructor
  · intro h
    have hb := whole_brack s n h
    have := (e2 hb n rfl).mpr h
    exact ⟨hb, this.1, by omega⟩
  · rintro ⟨hb, h1, h2⟩
    exact (e2 hb n rfl).mp ⟨h1, by omega⟩
theorem whole_iff {s : List Nat} : whole s = true ↔ brack s = true ∧ (∀ y ∈ hts 0 s, 0 ≤ y) ∧ total s = 0 := by
  have := wholeF_iff (s := s) (n := 0)
  simpa [whole] using this
theorem total_append (a b : List Nat) : total (a ++ b) = total a + total b := by
  unfold total
  rw [List.map_append, List.sum_append]
theorem total_back {s : List Nat} (h : brack s = true) : total (back s) = - total s := by
  induction s with
  | nil => rfl
  | cons c r ih =>
    rw [brack_cons, Bool.and_eq_true] at h
    have e : back (c :: r) = back r ++ [flip c] := by simp [back]
    rw [e, total_append, ih h.2]
    have hc : c = 40 ∨ c = 41 := by simpa using h.1
    have e2 : total (c :: r) = up c + total r := by
      unfold total
      rw [List.map_cons, List.sum_cons]
    rw [e2]
    rcases hc with rfl | rfl
    · show - total r + total [41] = _
      have : total [41] = -1 := rfl
      have h3 : up 40 = 1 := rfl
      omega
    · show - total r + total [40] = _
      have : total [40] = 1 := rfl
      have h3 : up 41 = -1 := rfl
      omega
theorem hts_back {s : List Nat} (hb : brack s = true) (h : Int) : hts (h + total s) (back s) = (hts h s).reverse := by
  induction s generalizing h with
  | nil => simp [hts, total, back]
  | cons c r ih =>
    rw [brack_cons, Bool.and_eq_true] at hb
    have e : back (c :: r) = back r ++ [flip c] := by simp [back]
    have e2 : h + total (c :: r) = h + up c + total r := by
      show h + ((c :: r).map up).sum = _
      rw [List.map_cons, List.sum_cons]
      unfold total
      omega
    rw [e, e2, hts_append, ih hb.2, total_back hb.2]
    have hc : c = 40 ∨ c = 41 := by simpa using hb.1
    have e3 : h + up c + total r + - total r = h + up c := by omega
    have e4 : hts (h + up c) [flip c] = [h + up c, h] := by
      show [h + up c, h + up c + up (flip c)] = _
      have : up c + up (flip c) = 0 := by rcases hc with rfl | rfl <;> rfl
      have e5 : h + up c + up (flip c) = h := by omega
      rw [e5]
    rw [e3, e4]
    have e6 : hts h (c :: r) = h :: hts (h + up c) r := rfl
    have e7 : ∃ t, hts (h + up c) r = (h + up c) :: t := by
      cases r with
      | nil => exact ⟨[], rfl⟩
      | cons x r => exact ⟨_, rfl⟩
    obtain ⟨t, e7⟩ := e7
    rw [e6, e7]
    simp
theorem whole_back {s : List Nat} (h : whole s = true) : whole (back s) = true ∧ hts 0 (back s) = (hts 0 s).reverse := by
  obtain ⟨h1, h2, h3⟩ := whole_iff.mp h
  have e := hts_back h1 0
  rw [h3] at e
  have e : hts 0 (back s) = (hts 0 s).reverse := e
  refine ⟨whole_iff.mpr ⟨back_brack h1, ?_, by rw [total_back h1, h3]; rfl⟩, e⟩
  rw [e]
  intro y hy
  exact h2 y (List.mem_reverse.mp hy)
theorem most_is : ∀ (r : List Int) (m : Int), (∀ y ∈ m :: r, y ≤ most m r) ∧ most m r ∈ m :: r
  | [], m => ⟨fun y hy => by
      rw [List.mem_singleton] at hy
      rw [hy]
      exact Int.le_refl m, List.mem_singleton.mpr rfl⟩
  | x :: r, m => by
    show (∀ y ∈ m :: x :: r, y ≤ most (if m < x then x else m) r) ∧ most (if m < x then x else m) r ∈ m :: x :: r
    by_cases h : m < x
    · rw [if_pos h]
      obtain ⟨h1, h2⟩ := most_is r x
      refine ⟨fun y hy => ?_, List.mem_cons_of_mem _ h2⟩
      rcases List.mem_cons.mp hy with rfl | hy
      · have := h1 x List.mem_cons_self
        omega
      · exact h1 y hy
    · rw [if_neg h]
      obtain ⟨h1, h2⟩ := most_is r m
      refine ⟨fun y hy => ?_, ?_⟩
      · rcases List.mem_cons.mp hy with rfl | hy
        · exact h1 _ List.mem_cons_self
        · rcases List.mem_cons.mp hy with rfl | hy
          · have := h1 m List.mem_cons_self
            omega
          · exact h1 y (List.mem_cons_of_mem _ hy)
      · rcases List.mem_cons.mp h2 with h2 | h2
        · rw [h2]
          exact List.mem_cons_self
        · exact List.mem_cons_of_mem _ (List.mem_cons_of_mem _ h2)
theorem most_same {m n : Int} {r t : List Int} (h : ∀ y, y ∈ m :: r ↔ y ∈ n :: t) : most m r = most n t := by
  obtain ⟨h1, h2⟩ := most_is r m
  obtain ⟨h3, h4⟩ := most_is t n
  have := h1 _ ((h _).mpr h4)
  have := h3 _ ((h _).mp h2)
  omega
theorem hts_head (h : Int) (s : List Nat) : hts h s = h :: (hts h s).tail := by
  cases s <;> rfl
theorem depth_back {s : List Nat} (h : whole s = true) : most 0 (hts 0 (back s)).tail = most 0 (hts 0 s).tail := by
  apply most_same
  intro y
  rw [← hts_head, ← hts_head, (whole_back h).2, List.mem_reverse]
theorem total_cons (c : Nat) (r : List Nat) : total (c :: r) = up c + total r := by
  unfold total
  rw [List.map_cons, List.sum_cons]
theorem hts_get (s : List Nat) (h : Int) (k : Nat) (hk : k ≤ s.length) : (hts h s)[k]? = some (h + total (s.take k)) := by
  induction s generalizing h k with
  | nil =>
    have : k = 0 := by simpa using hk
    subst this
    simp [hts, total]
  | cons c r ih =>
    cases k with
    | zero => simp [hts, total]
    | succ k =>
      rw [List.length_cons] at hk
      show (h :: hts (h + up c) r)[k + 1]? = _
      rw [List.getElem?_cons_succ, ih (h + up c) k (by omega), List.take_succ_cons, total_cons]
      congr 1
      omega
theorem total_count {s : List Nat} (h : brack s = true) : total s = (s.count 40 : Nat) - (s.count 41 : Nat) := by
  induction s with
  | nil => rfl
  | cons c r ih =>
    rw [brack_cons, Bool.and_eq_true] at h
    have hc : c = 40 ∨ c = 41 := by simpa using h.1
    rw [total_cons, ih h.2]
    rcases hc with rfl | rfl
    · have e : up 40 = 1 := rfl
      simp [e]
      omega
    · have e : up 41 = -1 := rfl
      simp [e]
      omega
theorem brack_take {s : List Nat} (h : brack s = true) (k : Nat) : brack (s.take k) = true := by
  unfold brack
  rw [List.all_eq_true]
  intro c hc
  have := brack_mem h (List.mem_of_mem_take hc)
  simpa using this
theorem at_neg {α : Type} {xs : List α} {k : Nat} (h : k < xs.length) : at? xs (-1 - (k : Int)) = xs.reverse[k]? := by
  unfold at? ix
  rw [if_neg (by omega), if_pos (by omega), List.getElem?_reverse h]
  have e : (-1 - (k : Int) + (xs.length : Int)).toNat = xs.length - 1 - k := by omega
  show (some (-1 - (k : Int) + (xs.length : Int)).toNat).bind _ = _
  rw [e]
  rfl
end Bk
end
/-! BkPart -/
section
set_option linter.all false
set_option autoImplicit false
set_option maxRecDepth 100000
/-! BkPart: partner; sorting of numbers -/
namespace Bk
theorem wholeF_app {a : List Nat} : ∀ {n : Nat} {t : List Nat}, wholeF n a = true → ∀ m : Nat, wholeF (n + m) (a ++ t) = wholeF m t := by
  induction a with
  | nil =>
    intro n t h m
    unfold wholeF at h
    have : n = 0 := by simpa using h
    subst this
    rw [Nat.zero_add]
    rfl
  | cons c r ih =>
    intro n t h m
    unfold wholeF at h
    show wholeF (n + m) (c :: (r ++ t)) = _
    unfold wholeF
    by_cases k : c = 40
    · rw [if_pos k] at h ⊢
      have e : n + m + 1 = n + 1 + m := by omega
      rw [e, ih h m]
      cases t <;> rfl
    · rw [if_neg k] at h ⊢
      by_cases k2 : c = 41
      · rw [if_pos k2] at h ⊢
        cases n with
        | zero => cases h
        | succ n =>
          have e : n + 1 + m = n + m + 1 := by omega
          rw [e]
          show wholeF (n + m) (r ++ t) = _
          rw [ih h m]
          cases t <;> rfl
      · rw [if_neg k2] at h
        cases h
theorem whole_app {a t : List Nat} (h : whole a = true) (m : Nat) : wholeF m (a ++ t) = wholeF m t := by
  have := wholeF_app (t := t) h m
  rw [Nat.zero_add] at this
  exact this
theorem whole_cat {a b : List Nat} (h : whole a = true) (h2 : whole b = true) : whole (a ++ b) = true := (whole_app h 0).trans h2
theorem whole_pair {b : List Nat} (h : whole b = true) : whole (40 :: b ++ [41]) = true := by
  show wholeF 1 (b ++ [41]) = true
  rw [whole_app h 1]
  rfl
theorem whole_total {s : List Nat} (h : whole s = true) : total s = 0 := (whole_iff.mp h).2.2
/-! ### the pieces of a row -/
def seg (s : List Nat) (i j : Nat) : List Nat := (s.take j).drop i
theorem take_open {s : List Nat} {o k : Nat} {c : Nat} (h : s[o]? = some c) (hk : o < k) : s.take k = s.take o ++ c :: seg s (o + 1) k := by
  have e1 : (s.take k).take o = s.take o := by rw [List.take_take, Nat.min_eq_left (by omega)]
  have e2 : (s.take k)[o]? = some c := by rw [List.getElem?_take, if_pos hk, h]
  obtain ⟨hl, e3⟩ := List.getElem?_eq_some_iff.mp e2
  have e4 : (s.take k).drop o = c :: (s.take k).drop (o + 1) := by
    rw [List.drop_eq_getElem_cons hl, e3]
  unfold seg
  rw [← e4, ← e1, List.take_append_drop]
theorem seg_wrap {s : List Nat} {i o k : Nat} (hi : i ≤ o) (hk : o < k) (h1 : s[o]? = some 40) (h2 : s[k]? = some 41) : seg s i (k + 1) = seg s i o ++ (40 :: seg s (o + 1) k ++ [41]) := by
  have e1 : s.take (k + 1) = s.take k ++ [41] := by
    rw [List.take_add_one, h2]
    rfl
  have ho : o < s.length := by
    obtain ⟨h, _⟩ := List.getElem?_eq_some_iff.mp h1
    exact h
  show (s.take (k + 1)).drop i = _
  rw [e1, take_open h1 hk, List.append_assoc, List.drop_append_of_le_length (by rw [List.length_take]; omega)]
  rfl
def base : List Nat → Nat
  | [] => 0
  | o :: _ => o + 1
/-- what stands open at place k: the last one first -/
def Stk (s : List Nat) : Nat → List Nat → Prop
  | k, [] => whole (seg s 0 k) = true
  | k, o :: r => whole (seg s (o + 1) k) = true ∧ o < k ∧ s[o]? = some 40 ∧ Stk s o r
theorem Stk.seg {s : List Nat} {k : Nat} : ∀ {l : List Nat}, Stk s k l → whole (seg s (base l) k) = true
  | [], h => h
  | _ :: _, h => h.1
theorem Stk.base_le {s : List Nat} {k : Nat} : ∀ {l : List Nat}, Stk s k l → base l ≤ k
  | [], _ => Nat.zero_le _
  | _ :: _, h => h.2.1
theorem Stk.total {s : List Nat} : ∀ {l : List Nat} {k : Nat}, Stk s k l → total (s.take k) = l.length
  | [], k, h => whole_total h
  | o :: r, k, h => by
    obtain ⟨h1, h2, h3, h4⟩ := h
    rw [take_open h3 h2, total_append, total_cons, h4.total, whole_total h1]
    show ((r.length : Nat) : Int) + (1 + 0) = ((r.length + 1 : Nat) : Int)
    omega
theorem Stk.shut {s : List Nat} {k o : Nat} {r : List Nat} (h : Stk s k (o :: r)) (hk : s[k]? = some 41) : Stk s (k + 1) r := by
  obtain ⟨h1, h2, h3, h4⟩ := h
  have e : whole (Bk.seg s (base r) (k + 1)) = true := by
    rw [seg_wrap h4.base_le h2 h3 hk]
    exact whole_cat h4.seg (whole_pair h1)
  cases r with
  | nil => exact e
  | cons o' r' => exact ⟨e, by have := h4.2.1; omega, h4.2.2.1, h4.2.2.2⟩
/-- a goes with b -/
def Match (s : List Nat) (a b : Nat) : Prop := ∃ lo hi, ((a = lo ∧ b = hi) ∨ (a = hi ∧ b = lo)) ∧ lo < hi ∧ s[lo]? = some 40 ∧ s[hi]? = some 41 ∧ whole (seg s (lo + 1) hi) = true
/-! ### the dict -/
theorem sameKey_int (a b : Int) : sameKey (.int a) (.int b) = (a == b) := rfl
theorem sameKey_true {k : D} {a : Int} (h : sameKey k (.int a) = true) : k = .int a := by
  cases k with
  | int i =>
    have : i = a := by simpa [sameKey] using h
    rw [this]
  | _ => cases h
theorem dget_put (kvs : List (D × D)) (a b : Int) (v : D) : dget (dput kvs (.int a) v) (.int b) = if a = b then some v else dget kvs (.int b) := by
  unfold dput dget
  by_cases h : (kvs.any fun kv => sameKey kv.1 (.int a)) = true
  · rw [if_pos h]
    have key : ∀ l : List (D × D), ((l.map fun kv => if sameKey kv.1 (.int a) = true then (kv.1, v) else kv).find? fun kv => sameKey kv.1 (.int b)).map (·.2) = if a = b ∧ (l.any fun kv => sameKey kv.1 (.int a)) = true then some v else (l.find? fun kv => sameKey kv.1 (.int b)).map (·.2) := by
      intro l
      induction l with
      | nil => simp
      | cons x r ih =>
        rw [List.map_cons, List.find?_cons, List.find?_cons, List.any_cons]
        obtain ⟨x1, x2⟩ := x
        cases q : sameKey x1 (.int a) with
        | true =>
          obtain rfl := sameKey_true q
          by_cases hb : a = b
          · subst hb
            simp [sameKey_int]
          · have : (a == b) = false := by simpa using hb
            simp only [sameKey_int, beq_self_eq_true, if_true, this]
            rw [ih]
            simp [hb]
        | false =>
          cases q2 : sameKey x1 (.int b) with
          | true =>
            obtain rfl := sameKey_true q2
            have hb : ¬ a = b := fun z => by
              subst z
              rw [q] at q2
              cases q2
            simp [q, sameKey_int, hb]
          | false =>
            simp only [q, q2, Bool.false_eq_true, if_false, Bool.false_or]
            rw [ih]
    rw [key]
    by_cases hab : a = b
    · rw [if_pos ⟨hab, h⟩, if_pos hab]
    · rw [if_neg fun z => hab z.1, if_neg hab]
  · rw [if_neg h]
    have h' : ∀ x ∈ kvs, sameKey x.1 (.int a) = false := by
      intro x hx
      cases q : sameKey x.1 (.int a) with
      | false => rfl
      | true => exact absurd (List.any_eq_true.mpr ⟨x, hx, q⟩) h
    rw [List.find?_append]
    by_cases hab : a = b
    · subst hab
      have : (kvs.find? fun kv => sameKey kv.1 (.int a)) = none := by
        rw [List.find?_eq_none]
        intro x hx
        rw [h' x hx]
        exact Bool.false_ne_true
      rw [this]
      simp [sameKey_int]
    · rw [if_neg hab]
      have e : (a == b) = false := by simpa using hab
      have : ([(D.int a, v)].find? fun kv => sameKey kv.1 (.int b)) = none := by
        simp [sameKey_int, hab]
      rw [this]
      cases (kvs.find? fun kv => sameKey kv.1 (.int b)) <;> rfl
theorem dput_len (kvs : List (D × D)) (k v : D) : (dput kvs k v).length ≤ kvs.length + 1 := by
  unfold dput
  split
  · rw [List.length_map]
    omega
  · rw [List.length_append]
    exact Nat.le_refl _
/-! ### partner -/
def PInv (s : List Nat) (p : Int) (k : Nat) (η : Env) : Prop := ∃ (l : List Nat) (kvs : List (D × D)) (z4 z5 : Option S), η = [some (.dat (.str s)), some (.dat (.int p)), some (.own (l.reverse.map fun o : Nat => D.int (o : Int))), some (.dic kvs), z4, z5] ∧
  Stk s k l ∧ kvs.length ≤ 2 * k ∧ ∀ j : Nat, j < k → j ∈ l ∨ ∃ q : Nat, dget kvs (.int j) = some (.int q) ∧ Match s j q
theorem partner_turn {s : List Nat} (p : Int) (hw : whole s = true) (hl : s.length ≤ 1000) {k c : Nat} (hc : s[k]? = some c) {η : Env} (h : PInv s p k η) :
    ∃ η1 η2, gPair 4 5 (.tup [.int (k : Int), .str [c]]) η = .ok η1 ∧ (b_partner_1 η1 = .next η2 ∨ b_partner_1 η1 = .ct η2) ∧ PInv s p (k + 1) η2 := by
  obtain ⟨l, kvs, z4, z5, rfl, hS, hk, hj⟩ := h
  obtain ⟨hkl, hck⟩ := List.getElem?_eq_some_iff.mp hc
  have hb := (whole_iff.mp hw).1
  have hc2 := brack_mem hb (List.mem_of_getElem? hc)
  have hlen : l.length ≤ k := by
    have h1 := hS.total
    have h2 : ∀ t : List Nat, total t ≤ t.length := by
      intro t
      induction t with
      | nil => exact Int.le_refl 0
      | cons x r ih =>
        rw [total_cons, List.length_cons]
        have : up x ≤ 1 := by
          unfold up
          split <;> omega
        omega
    have h3 := h2 (s.take k)
    rw [h1, List.length_take] at h3
    omega
  rcases hc2 with rfl | rfl
  · refine ⟨_, [some (.dat (.str s)), some (.dat (.int p)), some (.own ((k :: l).reverse.map fun o : Nat => D.int (o : Int))), some (.dic kvs), some (.dat (.int k)), some (.dat (.str [40]))], rfl, .inl ?_, k :: l, kvs, _, _, rfl, ?_, by omega, fun j hjk => ?_⟩
    · have h1 : l.length < lim := by
        show _ < 16777216
        omega
      simp [b_partner_1, eq_open, h1]
    · refine ⟨?_, Nat.lt_succ_self k, hc, hS⟩
      have : seg s (k + 1) (k + 1) = [] := by
        unfold seg
        apply List.drop_of_length_le
        rw [List.length_take]
        omega
      rw [this]
      rfl
    · by_cases hjk2 : j = k
      · exact .inl (by rw [hjk2]; exact List.mem_cons_self)
      · rcases hj j (by omega) with h | h
        · exact .inl (List.mem_cons_of_mem _ h)
        · exact .inr h
  · cases l with
    | nil =>
      exfalso
      have h1 : whole (s.take k) = true := hS
      have h2 : s = s.take k ++ 41 :: s.drop (k + 1) := by
        have : s.drop k = 41 :: s.drop (k + 1) := by rw [List.drop_eq_getElem_cons hkl, hck]
        rw [← this, List.take_append_drop]
      have h3 : wholeF 0 s = wholeF 0 (41 :: s.drop (k + 1)) := by
        have := whole_app (t := 41 :: s.drop (k + 1)) h1 0
        rw [← h2] at this
        exact this
      have h4 : wholeF 0 s = true := hw
      rw [h3] at h4
      cases h4
    | cons o r =>
      have hM : Match s o k := ⟨o, k, .inl ⟨rfl, rfl⟩, hS.2.1, hS.2.2.1, hc, hS.1⟩
      have hM2 : Match s k o := ⟨o, k, .inr ⟨rfl, rfl⟩, hS.2.1, hS.2.2.1, hc, hS.1⟩
      have hok := hS.2.1
      have d1 := dput_len kvs (.int k) (.int o)
      have d2 := dput_len (dput kvs (.int k) (.int o)) (.int o) (.int k)
      refine ⟨_, [some (.dat (.str s)), some (.dat (.int p)), some (.own (r.reverse.map fun o : Nat => D.int (o : Int))), some (.dic (dput (dput kvs (.int k) (.int o)) (.int o) (.int k))), some (.dat (.int k)), some (.dat (.str [41]))], rfl, .inl ?_, r, _, _, _, rfl, hS.shut hc, by omega, fun j hjk => ?_⟩
      · have h1 : kvs.length < lim := by
          show _ < 16777216
          omega
        have h2 : (dput kvs (.int k) (.int o)).length < lim := by
          show _ < 16777216
          omega
        have h3 : dget (dput kvs (.int k) (.int o)) (.int k) = some (.int o) := by rw [dget_put, if_pos rfl]
        simp [b_partner_1, eq_open, h1, h2, h3, keyD]
      · rw [dget_put, dget_put]
        by_cases j1 : j = o
        · subst j1
          exact .inr ⟨k, by simp, hM⟩
        · by_cases j2 : j = k
          · subst j2
            have : ¬ ((o : Int) = j) := by omega
            exact .inr ⟨o, by simp [this], hM2⟩
          · have e1 : ¬ ((o : Int) = j) := by omega
            have e2 : ¬ ((k : Int) = j) := by omega
            rw [if_neg e1, if_neg e2]
            rcases hj j (by omega) with h | h
            · rcases List.mem_cons.mp h with h | h
              · exact absurd h j1
              · exact .inl h
            · exact .inr h
theorem enum_get {s : List Nat} {i : Nat} {d : D} (h : (enumL 0 (signs s))[i]? = some d) : ∃ c, s[i]? = some c ∧ d = .tup [.int (i : Int), .str [c]] := by
  have e : ∀ (k : Nat) (ds : List D) (i : Nat), (enumL k ds)[i]? = (ds[i]?).map fun d => .tup [.int ((k + i : Nat) : Int), d] := by
    intro k ds
    induction ds generalizing k with
    | nil => intro i; simp [enumL]
    | cons x r ih =>
      intro i
      cases i with
      | zero => simp [enumL]
      | succ i =>
        have := ih (k + 1) i
        have e2 : k + 1 + i = k + (i + 1) := by omega
        rw [e2] at this
        simpa [enumL] using this
  rw [e, Nat.zero_add] at h
  unfold signs at h
  rw [List.getElem?_map] at h
  cases z : s[i]? with
  | none =>
    rw [z] at h
    cases h
  | some c =>
    rw [z] at h
    cases h
    exact ⟨c, rfl, rfl⟩
theorem enum_len (k : Nat) (ds : List D) : (enumL k ds).length = ds.length := by
  induction ds generalizing k with
  | nil => rfl
  | cons x r ih =>
    show (enumL (k + 1) r).length + 1 = _
    rw [ih]
    rfl
theorem partner_of {s : List Nat} (hw : whole s = true) (hl : s.length ≤ 1000) {p : Nat} (hp : p < s.length) : ∃ q : Nat, φ_partner [.str s, .int p] = .ok (.int q) ∧ Match s p q := by
  obtain ⟨η', e1, e2⟩ := loop_inv (g := gPair 4 5) (b := b_partner_1) (PInv s p) (enumL 0 (signs s)) 0 [some (.dat (.str s)), some (.dat (.int p)), some (.own []), some (.dic []), none, none]
    ⟨[], [], none, none, rfl, rfl, by simp, fun j hj => absurd hj (Nat.not_lt_zero j)⟩ (fun i d η hi hP => by
      obtain ⟨c, hc, rfl⟩ := enum_get hi
      rw [Nat.zero_add] at hP ⊢
      exact partner_turn p hw hl hc hP)
  have hlen : (enumL 0 (signs s)).length = s.length := by
    rw [enum_len]
    simp [signs]
  rw [hlen, Nat.zero_add] at e2
  obtain ⟨l, kvs, z4, z5, rfl, hS, hk, hj⟩ := e2
  have hl0 : l = [] := by
    have h1 := hS.total
    rw [List.take_of_length_le (Nat.le_refl _), whole_total hw] at h1
    have : l.length = 0 := by omega
    exact List.length_eq_zero_iff.mp this
  subst hl0
  rcases hj p hp with h | ⟨q, h1, h2⟩
  · cases h
  · refine ⟨q, ?_, h2⟩
    refine run_of (g := g_partner) ?_
    have hll : s.length ≤ lim := by
      show _ ≤ 16777216
      omega
    have a1 : (0 : Int) ≤ p := by omega
    have a2 : (p : Int) < s.length := by omega
    simp at e1
    simp [g_partner, hll, a1, a2, e1, h1, keyD]
theorem partner_bad {s : List Nat} (hl : s.length ≤ 1000) {p : Int} (hp : p < 0 ∨ (s.length : Int) ≤ p) : φ_partner [.str s, .int p] = .raise .noPlace := by
  refine run_raise (g := g_partner) ?_
  have hll : s.length ≤ lim := by
    show _ ≤ 16777216
    omega
  by_cases h : 0 ≤ p
  · have h2 : ¬ p < s.length := by omega
    simp [g_partner, hll, h, h2]
  · simp [g_partner, hll, h]
theorem l_partner_bad {s : List Nat} (hl : s.length ≤ 1000) {p : Int} (hp : p < 0 ∨ (s.length : Int) ≤ p) : φ_l_partner [.str s, .int p] = .ok .none := by
  refine run_of (g := g_l_partner) ?_
  simp [g_l_partner, sTryAs, partner_bad hl hp]
/-! ### sorting -/
theorem sort_two (a b : Int) : ∃ lo hi, bSorted (.lst [.int a, .int b]) = .ok (.lst [.int lo, .int hi]) ∧ ((lo = a ∧ hi = b ∧ a ≤ b) ∨ (lo = b ∧ hi = a ∧ b < a)) := by
  have hs : sortable [D.int a, D.int b] = true := rfl
  have e : bSorted (.lst [.int a, .int b]) = .ok (.lst ([D.int a, D.int b].mergeSort D.le)) := by
    show (if sortable [D.int a, D.int b] = true then Res.ok (D.lst ([D.int a, D.int b].mergeSort D.le)) else .bad) = _
    rw [if_pos hs]
  rw [e]
  by_cases h : a ≤ b
  · refine ⟨a, b, ?_, .inl ⟨rfl, rfl, h⟩⟩
    have : [D.int a, D.int b].mergeSort D.le = [.int a, .int b] := by
      have : D.le (.int a) (.int b) = true := by
        simp [D.le, D.lt]
        omega
      simp [List.mergeSort, List.MergeSort.Internal.splitInTwo, List.merge, this]
    rw [this]
  · refine ⟨b, a, ?_, .inr ⟨rfl, rfl, by omega⟩⟩
    have : [D.int a, D.int b].mergeSort D.le = [.int b, .int a] := by
      have : D.le (.int a) (.int b) = false := by
        simp [D.le, D.lt]
        omega
      simp [List.mergeSort, List.MergeSort.Internal.splitInTwo, List.merge, this]
    rw [this]
end Bk
end
/-! BkNums -/
section
set_option linter.all false
set_option autoImplicit false
set_option maxRecDepth 100000
/-! BkNums: ways_row, count, choices -/
namespace Bk
def stepN (l : List Nat) : List Nat := List.zipWith (· + ·) (l.drop 1 ++ [0]) (0 :: l.dropLast)
def wrN : Nat → List Nat → List Nat
  | 0, l => l
  | n + 1, l => wrN n (stepN l)
def firstN (b : Nat) : List Nat := (List.range (b + 1)).map fun k => if k = 0 then 1 else 0
def cntN (size bound : Nat) : Nat := (wrN (2 * size) (firstN (min bound size))).headD 0
theorem stepN_len (l : List Nat) (h : l ≠ []) : (stepN l).length = l.length := by
  cases l with
  | nil => exact absurd rfl h
  | cons x r => simp [stepN]
theorem wrN_len (n : Nat) : ∀ l : List Nat, l ≠ [] → (wrN n l).length = l.length := by
  induction n with
  | zero => exact fun l _ => rfl
  | succ n ih =>
    intro l h
    have h2 : stepN l ≠ [] := by
      intro z
      have := stepN_len l h
      rw [z] at this
      cases l with
      | nil => exact h rfl
      | cons x r => simp at this
    show (wrN n (stepN l)).length = _
    rw [ih _ h2, stepN_len l h]
theorem cut_init {α : Type} (xs : List α) : cut xs none (some (-1)) = xs.dropLast := by
  unfold cut
  rw [sl_none]
  have : sl xs.length xs.length (some (-1)) = xs.length - 1 := by
    show (if (-1 : Int) < 0 then ((-1 : Int) + (xs.length : Int)).toNat else min (-1 : Int).toNat xs.length) = _
    rw [if_pos (by omega)]
    omega
  rw [this, List.drop_zero, Nat.sub_zero, List.dropLast_eq_take]
theorem cut_tail {α : Type} (xs : List α) : cut xs (some 1) none = xs.drop 1 := cut_from xs 1
theorem zipWith_zip (a b : List Nat) : List.zipWith (fun x y => x + y) a b = (List.zip a b).map fun p => p.1 + p.2 := by
  induction a generalizing b with
  | nil => simp
  | cons x r ih =>
    cases b with
    | nil => simp
    | cons y t => simp [ih]
theorem zipL_map (a b : List Nat) : zipL (a.map nd) (b.map nd) = (List.zip a b).map fun p => D.tup [nd p.1, nd p.2] := by
  induction a generalizing b with
  | nil => simp [zipL]
  | cons x r ih =>
    cases b with
    | nil => simp [zipL]
    | cons y t => simp [zipL, ih]
section
variable {z0 z1 z2 z3 z4 z5 z6 z7 z8 : Option S}
theorem ways_turn {l : List Nat} (hl : l.length ≤ 1000) (h0 : l ≠ []) : b_ways_row_1 [z0, z1, some (.dat (.lst (l.map nd))), z3, z4, z5, z6, z7, z8] =
    .next [z0, z1, some (.dat (.lst ((stepN l).map nd))), z3, z4, some (.dat (.lst ((l.drop 1 ++ [0]).map nd))), some (.dat (.lst ((0 :: l.dropLast).map nd))), z7, z8] := by
  have h1 : l.length - 1 + 1 ≤ lim := by
    show _ ≤ 16777216
    omega
  have h2 : 1 + (l.length - 1) ≤ lim := by
    show _ ≤ 16777216
    omega
  have hA : ∃ L, dAdd (.lst (cut (l.map nd) (some 1) none)) (.lst [.int 0]) = .ok (.lst L) ∧ L = (l.drop 1 ++ [0]).map nd := by
    refine ⟨_, ?_, rfl⟩
    rw [cut_tail]
    simp [h1]
  have hB : ∃ L, dAdd (.lst [.int 0]) (.lst (cut (l.map nd) none (some (-1)))) = .ok (.lst L) ∧ L = (0 :: l.dropLast).map nd := by
    refine ⟨_, ?_, rfl⟩
    rw [cut_init]
    simp [h2, List.map_dropLast]
  obtain ⟨A, hA, eA⟩ := hA
  obtain ⟨B, hB, eB⟩ := hB
  have hC : ∃ L, c_ways_row_2 [z0, z1, some (.dat (.lst (l.map nd))), z3, z4, some (.dat (.lst A)), some (.dat (.lst B)), z7, z8] = .ok (.lst L) ∧ L = (stepN l).map nd := by
    refine ⟨_, ?_, rfl⟩
    have hz : zipL A B = (List.zip (l.drop 1 ++ [0]) (0 :: l.dropLast)).map fun p => D.tup [nd p.1, nd p.2] := by
      rw [eA, eB]
      exact zipL_map _ _
    refine eComp_of (ds := zipL A B) rfl ?_ ?_
    · rw [hz, List.length_map, List.length_zip]
      simp
      show _ ≤ 16777216
      omega
    · rw [hz]
      rw [comp_all (fun d => match d with | .tup [.int a, .int b] => .int (a + b) | _ => .none) _ (fun d hd => ?_)]
      · refine congrArg Res.ok ?_
        rw [List.map_map]
        unfold stepN
        rw [zipWith_zip, List.map_map]
        apply List.map_congr_left
        intro p _
        show D.int ((p.1 : Int) + (p.2 : Int)) = D.int ((p.1 + p.2 : Nat) : Int)
        rw [Int.natCast_add]
      · rw [List.mem_map] at hd
        obtain ⟨⟨a, b⟩, _, rfl⟩ := hd
        exact ⟨_, rfl, rfl, by simp⟩
  obtain ⟨C, hC, eC'⟩ := hC
  rw [← eA, ← eB, ← eC']
  simp [b_ways_row_1, hA, hB, hC]
theorem ways_row_of {steps bound : Nat} (h1 : steps ≤ 1000) (h2 : bound ≤ 900) : φ_ways_row [nd steps, nd bound] = .ok (.lst ((wrN steps (firstN bound)).map nd)) := by
  have hr1 : rng1 (.int ((bound : Int) + 1)) = .ok (numbers 0 (bound + 1)) := rng1_nat (bound + 1) (by omega)
  have hr2 : rng1 (.int (steps : Int)) = .ok (numbers 0 steps) := rng1_nat steps (by omega)
  have hC : c_ways_row_1 [some (.dat (nd steps)), some (.dat (nd bound)), none, none, none, none, none, none, none] = .ok (.lst ((firstN bound).map nd)) := by
    refine eComp_of (ds := numbers 0 (bound + 1)) (by simp [hr1]) (by rw [numbers_len']; show _ ≤ 16777216; omega) ?_
    rw [comp_all (fun d => match d with | .int k => .int (if k = 0 then 1 else 0) | _ => .none) _ (fun d hd => ?_)]
    · refine congrArg Res.ok ?_
      unfold numbers firstN
      rw [List.map_map, List.map_map]
      apply List.map_congr_left
      intro k _
      by_cases h : k = 0
      · simp [h]
      · simp [h]
    · obtain ⟨k, hk, rfl⟩ := numbers_mem hd
      refine ⟨_, rfl, rfl, ?_⟩
      simp
  have hne : firstN bound ≠ [] := by
    intro z
    have := congrArg List.length z
    simp [firstN] at this
  have hlen : (firstN bound).length ≤ 1000 := by
    simp [firstN]
    omega
  have hloop : ∀ (ds : List D) (l : List Nat) (y4 y5 y6 : Option S), l ≠ [] → l.length ≤ 1000 → ∃ x4 x5 x6, loop (gName 4) b_ways_row_1 ds [some (.dat (nd steps)), some (.dat (nd bound)), some (.dat (.lst (l.map nd))), none, y4, y5, y6, none, none] =
      .next [some (.dat (nd steps)), some (.dat (nd bound)), some (.dat (.lst ((wrN ds.length l).map nd))), none, x4, x5, x6, none, none] := by
    intro ds
    induction ds with
    | nil => exact fun l y4 y5 y6 _ _ => ⟨y4, y5, y6, rfl⟩
    | cons d ds ih =>
      intro l y4 y5 y6 h0 hl
      have e := stepN_len l h0
      obtain ⟨x4, x5, x6, k⟩ := ih (stepN l) (some (.dat d)) (some (.dat (.lst ((l.drop 1 ++ [0]).map nd)))) (some (.dat (.lst ((0 :: l.dropLast).map nd)))) (by
        intro z
        rw [z] at e
        cases l with
        | nil => exact h0 rfl
        | cons x r => simp at e) (by omega)
      refine ⟨x4, x5, x6, ?_⟩
      rw [loop_next rfl (ways_turn hl h0)]
      exact k
  obtain ⟨y4, y5, y6, e⟩ := hloop (numbers 0 steps) (firstN bound) none none none hne hlen
  rw [numbers_len'] at e
  generalize (firstN bound).map nd = L1 at hC e
  generalize (wrN steps (firstN bound)).map nd = L2 at e
  refine run_of (g := g_ways_row) ?_
  simp [g_ways_row, hC, hr2, e]
end
theorem count_of {size bound : Nat} (h1 : size ≤ 300) (h2 : bound ≤ 900) : φ_count [nd size, nd bound] = .ok (nd (cntN size bound)) := by
  have hm : dMin2 (nd bound) (nd size) = .ok (nd (min bound size)) := by
    show Res.ok (D.int (if (size : Int) < bound then (size : Int) else bound)) = _
    by_cases h : size < bound
    · rw [if_pos (by omega), Nat.min_eq_right (by omega)]
    · rw [if_neg (by omega), Nat.min_eq_left (by omega)]
  have h2s : dMul (.int 2) (.int (size : Int)) = .ok (nd (2 * size)) := by
    rw [y_mulL small2]
    congr 2
  have hw := ways_row_of (steps := 2 * size) (bound := min bound size) (by omega) (by omega)
  have hi : at? ((wrN (2 * size) (firstN (min bound size))).map nd) (0 : Int) = some (nd (cntN size bound)) := by
    have e := at_nat (xs := (wrN (2 * size) (firstN (min bound size))).map nd) (i := 0)
    rw [show ((0 : Nat) : Int) = 0 from rfl] at e
    rw [e, List.getElem?_map]
    have hl := wrN_len (2 * size) (firstN (min bound size)) (by
      intro z
      have := congrArg List.length z
      simp [firstN] at this)
    unfold cntN
    cases q : wrN (2 * size) (firstN (min bound size)) with
    | nil =>
      rw [q] at hl
      simp [firstN] at hl
    | cons x r => rfl
  generalize (wrN (2 * size) (firstN (min bound size))).map nd = L at hw hi
  refine run_of (g := g_count) ?_
  simp [g_count, h2s, hm, hw, hi]
/-! ### choices -/
def chN (many : Nat) : Nat → Nat
  | 0 => 1
  | k + 1 => chN many k * (many - k) / (k + 1)
theorem ch_turn (f many k : Nat) (hk : k < many) (hm : many ≤ 1000) : ((nd f, nd many, nd k) = (nd f, nd many, nd k)) → (dMul (nd f) (.int ((many : Int) - k))).bind (fun x => dDiv x (.int ((k : Int) + 1))) = .ok (nd (f * (many - k) / (k + 1))) := by
  intro _
  have hs : small ((many : Int) - k) := ⟨by omega, by omega⟩
  rw [y_mulR hs, bind_ok, y_div (by omega) (by omega)]
  have e1 : (many : Int) - k = ((many - k : Nat) : Int) := by omega
  have e2 : (k : Int) + 1 = ((k + 1 : Nat) : Int) := by omega
  rw [e1, e2, ← Int.natCast_mul, ← Int.natCast_ediv]
theorem ch_loop (b : St) (hb : b = b_choices_1 ∨ b = b_l_choices_1) {many some' : Nat} (h : some' ≤ many) (hm : many ≤ 1000) (z : Option S) : ∃ z', loop (gName 3) b (numbers 0 some') [some (.dat (nd many)), some (.dat (nd some')), some (.dat (.int 1)), z] =
    .next [some (.dat (nd many)), some (.dat (nd some')), some (.dat (nd (chN many some'))), z'] := by
  obtain ⟨η', e1, z', rfl⟩ := loop_inv (g := gName 3) (b := b) (fun k η => ∃ z, η = [some (.dat (nd many)), some (.dat (nd some')), some (.dat (nd (chN many k))), z]) (numbers 0 some') 0 [some (.dat (nd many)), some (.dat (nd some')), some (.dat (.int 1)), z] ⟨z, rfl⟩ (fun i d η hi hP => by
    obtain ⟨hin, rfl⟩ := numbers_get hi
    obtain ⟨z, rfl⟩ := hP
    rw [Nat.zero_add, Int.zero_add]
    have e := ch_turn (chN many i) many i (by omega) hm rfl
    have hs : small ((many : Int) - i) := ⟨by omega, by omega⟩
    rw [y_mulR hs, bind_ok] at e
    refine ⟨_, [some (.dat (nd many)), some (.dat (nd some')), some (.dat (nd (chN many (i + 1)))), some (.dat (nd i))], rfl, .inl ?_, _, rfl⟩
    show _ = Out.next [some (.dat (nd many)), some (.dat (nd some')), some (.dat (nd (chN many i * (many - i) / (i + 1)))), some (.dat (nd i))]
    generalize nd (chN many i * (many - i) / (i + 1)) = v at e ⊢
    rcases hb with rfl | rfl
    · simp [b_choices_1, y_mulR hs, e]
    · simp [b_l_choices_1, y_mulR hs, e])
  rw [numbers_len', Nat.zero_add] at e1
  exact ⟨z', e1⟩
theorem choices_of {many some' : Nat} (h : some' ≤ many) (hm : many ≤ 1000) : φ_choices [nd many, nd some'] = .ok (nd (chN many some')) := by
  obtain ⟨z', e⟩ := ch_loop b_choices_1 (.inl rfl) h hm none
  have hr : rng1 (.int (some' : Int)) = .ok (numbers 0 some') := rng1_nat some' (by omega)
  have h0 : ¬ (some' : Int) < 0 := by omega
  refine run_of (g := g_choices) ?_
  simp [g_choices, h0, hr, e]
theorem choices_neg {many : Nat} {k : Int} (h : k < 0) : φ_choices [nd many, .int k] = .ok (nd 0) := by
  refine run_of (g := g_choices) ?_
  simp [g_choices, h]
theorem l_choices_of {many some' : Nat} (h : some' ≤ many) (hm : many ≤ 1000) : φ_l_choices [nd many, nd some'] = .ok (nd (chN many some')) := by
  obtain ⟨z', e⟩ := ch_loop b_l_choices_1 (.inr rfl) h hm none
  have hr : rng1 (.int (some' : Int)) = .ok (numbers 0 some') := rng1_nat some' (by omega)
  refine run_of (g := g_l_choices) ?_
  simp [g_l_choices, hr, e]
end Bk
end
/-! BkAll -/
section
set_option linter.all false
set_option autoImplicit false
set_option maxRecDepth 100000
/-! BkAll: the laws' own list of all rows of a size; sorting of texts -/
namespace Bk
/-! ### sorting -/
theorem str_le (a b : List Nat) : D.le (.str a) (.str b) = !decide (b < a) := by
  unfold D.le D.lt
  rfl
theorem sort_strs {l : List (List Nat)} (h1 : ∀ s ∈ l, plainS s = true ∧ s.length ≤ lim) (h2 : l.length ≤ lim) : bSorted (.lst (l.map D.str)) = .ok (.lst ((l.mergeSort fun a b => !decide (b < a)).map D.str)) := by
  have hs : sortable (l.map D.str) = true := by
    unfold sortable
    rw [Bool.and_eq_true, Bool.and_eq_true, Bool.and_eq_true]
    refine ⟨⟨⟨?_, ?_⟩, ?_⟩, ?_⟩
    · rw [List.all_eq_true]
      intro a ha
      rw [List.all_eq_true]
      intro b hb
      rw [List.mem_map] at ha hb
      obtain ⟨x, _, rfl⟩ := ha
      obtain ⟨y, _, rfl⟩ := hb
      rfl
    · rw [Bool.or_eq_true]
      right
      rw [List.all_eq_true]
      intro a ha
      rw [List.mem_map] at ha
      obtain ⟨x, _, rfl⟩ := ha
      rfl
    · rw [List.all_eq_true]
      intro a ha
      rw [List.mem_map] at ha
      obtain ⟨x, hx, rfl⟩ := ha
      show (plainS x && decide (x.length ≤ lim)) = true
      rw [(h1 x hx).1, decide_eq_true (h1 x hx).2]
      rfl
    · rw [List.length_map]
      exact decide_eq_true h2
  show (if sortable (l.map D.str) = true then Res.ok (D.lst ((l.map D.str).mergeSort D.le)) else .bad) = _
  rw [if_pos hs]
  rw [List.map_mergeSort (r := fun a b : List Nat => !decide (b < a)) (s := D.le) fun a _ b _ => (str_le a b).symm]
theorem le_trans' (a b c : List Nat) (h1 : (!decide (b < a)) = true) (h2 : (!decide (c < b)) = true) : (!decide (c < a)) = true := by
  rw [Bool.not_eq_true', decide_eq_false_iff_not, List.not_lt] at h1 h2 ⊢
  exact List.le_trans h1 h2
theorem le_total' (a b : List Nat) : ((!decide (b < a)) || (!decide (a < b))) = true := by
  rw [Bool.or_eq_true, Bool.not_eq_true', Bool.not_eq_true', decide_eq_false_iff_not, decide_eq_false_iff_not, List.not_lt, List.not_lt]
  exact List.le_total a b
/-! ### all rows -/
theorem flat_perm {α β : Type} {f g : α → List β} (l : List α) (h : ∀ a, (f a).Perm (g a)) : (l.flatMap f).Perm (l.flatMap g) := by
  induction l with
  | nil => exact List.Perm.refl _
  | cons x r ih =>
    rw [List.flatMap_cons, List.flatMap_cons]
    exact (h x).append ih
def wrapS (one other : List Nat) : List Nat := [40] ++ one ++ [41] ++ other
def allF : Nat → Nat → List (List Nat)
  | 0, _ => []
  | f + 1, n => if n = 0 then [[]] else (List.range n).flatMap fun k => (allF f k).flatMap fun one => (allF f (n - 1 - k)).map fun other => wrapS one other
abbrev allN (n : Nat) : List (List Nat) := allF 7 n
theorem allF_same : ∀ k, k < 6 → allF 6 k = allF 7 k := by decide +kernel
theorem allN_len : ∀ k, k < 7 → (allN k).length ≤ 132 := by decide +kernel
theorem allN_mem : ∀ k, k < 7 → ∀ s ∈ allN k, s.length = 2 * k ∧ brack s = true := by decide +kernel
theorem allN_pos {n : Nat} (h : 0 < n) (h6 : n ≤ 6) : allN n = (List.range n).flatMap fun k => (allN k).flatMap fun one => (allN (n - 1 - k)).map fun other => wrapS one other := by
  show (if n = 0 then [[]] else _) = _
  rw [if_neg (by omega)]
  have e : ∀ k ∈ List.range n, ((allF 6 k).flatMap fun one => (allF 6 (n - 1 - k)).map fun other => wrapS one other) = (allN k).flatMap fun one => (allN (n - 1 - k)).map fun other => wrapS one other := by
    intro k hk
    rw [List.mem_range] at hk
    rw [allF_same k (by omega), allF_same (n - 1 - k) (by omega)]
  show ((List.range n).map _).flatten = ((List.range n).map _).flatten
  rw [List.map_congr_left e]
section
variable {self : List D → Res D}
theorem all_inner {n k : Nat} {L2 : List (List Nat)} (hk : k < n) (h6 : n ≤ 6) (ho : self [nd (n - 1 - k)] = .ok (.lst (L2.map D.str))) (h2 : L2.length ≤ 132) (h3 : ∀ s ∈ L2, s.length ≤ 12) :
    ∀ (L1 acc : List (List Nat)) (z3 z4 : Option S), (∀ s ∈ L1, s.length ≤ 12) → acc.length + 132 * L1.length ≤ 1000000 → ∃ z3', loop (gName 3) (b_l_all_1 self) (L1.map D.str) [some (.dat (nd n)), some (.own (acc.map D.str)), some (.dat (nd k)), z3, z4] =
      .next [some (.dat (nd n)), some (.own ((acc ++ L1.flatMap fun one => L2.map fun other => wrapS one other).map D.str)), some (.dat (nd k)), z3', z4]
  | [], acc, z3, z4, _, _ => ⟨z3, by
      rw [List.flatMap_nil, List.append_nil]
      rfl⟩
  | one :: L1, acc, z3, z4, h1, hl => by
    rw [List.length_cons] at hl
    have ho1 := h1 one List.mem_cons_self
    have e0 : (n : Int) - 1 - k = ((n - 1 - k : Nat) : Int) := by omega
    have hc : c_l_all_1 self [some (.dat (nd n)), some (.own (acc.map D.str)), some (.dat (nd k)), some (.dat (.str one)), z4] = .ok (.lst ((L2.map fun other => wrapS one other).map D.str)) := by
      have hself : self [.int ((n : Int) - 1 - k)] = .ok (.lst (L2.map D.str)) := by
        rw [e0]
        exact ho
      refine eComp_of (ds := L2.map D.str) (by simp [hself]) (by rw [List.length_map]; show _ ≤ 16777216; omega) ?_
      rw [comp_all (fun d => match d with | .str other => .str (wrapS one other) | _ => .none) _ (fun d hd => ?_)]
      · rw [List.map_map, List.map_map]
        rfl
      · rw [List.mem_map] at hd
        obtain ⟨other, hoth, rfl⟩ := hd
        have h4 := h3 other hoth
        refine ⟨_, rfl, rfl, ?_⟩
        have l1 : 1 + one.length ≤ lim := by
          show _ ≤ 16777216
          omega
        have l2 : 1 + one.length + 1 ≤ lim := by
          show _ ≤ 16777216
          omega
        have l3 : 1 + one.length + 1 + other.length ≤ lim := by
          show _ ≤ 16777216
          omega
        have l2' : one.length + 1 ≤ lim := by
          show _ ≤ 16777216
          omega
        have l2'' : one.length + 1 + 1 ≤ lim := by
          show _ ≤ 16777216
          omega
        have l3' : one.length + 1 + 1 + other.length ≤ lim := by
          show _ ≤ 16777216
          omega
        have d1 : dAdd (.str [40]) (.str one) = .ok (.str ([40] ++ one)) := if_pos l1
        have d2 : dAdd (.str ([40] ++ one)) (.str [41]) = .ok (.str ([40] ++ one ++ [41])) := if_pos (by
          rw [List.length_append]
          exact l2)
        have d3 : dAdd (.str ([40] ++ one ++ [41])) (.str other) = .ok (.str (wrapS one other)) := if_pos (by
          rw [List.length_append, List.length_append]
          exact l3)
        generalize [40] ++ one ++ [41] = A2 at d2 d3
        generalize [40] ++ one = A1 at d1 d2
        simp [-y_addS, d1, d2, d3]
    obtain ⟨z3', ih⟩ := all_inner hk h6 ho h2 h3 L1 (acc ++ L2.map fun other => wrapS one other) (some (.dat (.str one))) z4 (fun s hs => h1 s (List.mem_cons_of_mem _ hs)) (by
      rw [List.length_append, List.length_map]
      omega)
    refine ⟨z3', ?_⟩
    rw [List.flatMap_cons, ← List.append_assoc, ← ih]
    rw [List.map_append]
    have hlen : (acc.map D.str).length + ((L2.map fun other => wrapS one other).map D.str).length ≤ lim := by
      rw [List.length_map, List.length_map, List.length_map]
      show _ ≤ 16777216
      omega
    generalize (L2.map fun other => wrapS one other).map D.str = M at hc hlen
    generalize acc.map D.str = A at hc hlen
    refine loop_next rfl ?_
    have hq : seqOf (.lst M) = .ok M := rfl
    simp [b_l_all_1, hc, hq, hlen]
theorem l_all_of : ∀ (n f : Nat), n ≤ 6 → n < f → ∃ L : List (List Nat), φ_l_all f [nd n] = .ok (.lst (L.map D.str)) ∧ L.Perm (allN n) ∧ L.Pairwise (fun a b => (!decide (b < a)) = true) := by
  intro n
  induction n using Nat.strongRecOn with
  | ind n ih =>
    intro f h6 hf
    obtain ⟨f, rfl⟩ : ∃ g, f = g + 1 := ⟨f - 1, by omega⟩
    by_cases h0 : n = 0
    · subst h0
      refine ⟨[[]], ?_, List.Perm.refl _, List.pairwise_singleton _ _⟩
      show runDef 5 (g_l_all (φ_l_all f)) [nd 0] = _
      refine run_of ?_
      simp [g_l_all]
    · -- the outer loop
      obtain ⟨η', e1, L, z2, z3, z4, rfl, hl, hperm⟩ := loop_inv (g := gName 2) (b := b_l_all_2 (φ_l_all f)) (fun m η => ∃ (L : List (List Nat)) (z2 z3 z4 : Option S), η = [some (.dat (nd n)), some (.own (L.map D.str)), z2, z3, z4] ∧
          L.length ≤ m * 17424 ∧ L.Perm ((List.range m).flatMap fun k => (allN k).flatMap fun one => (allN (n - 1 - k)).map fun other => wrapS one other)) (numbers 0 n) 0 [some (.dat (nd n)), some (.own []), none, none, none]
          ⟨[], none, none, none, rfl, Nat.zero_le _, List.Perm.refl _⟩ (fun k d η hi hP => by
        obtain ⟨hk, rfl⟩ := numbers_get hi
        rw [Nat.zero_add] at hP ⊢
        rw [Int.zero_add]
        obtain ⟨L, z2, z3, z4, rfl, hl, hperm⟩ := hP
        obtain ⟨L1, a1, p1, _⟩ := ih k hk f (by omega) (by omega)
        obtain ⟨L2, a2, p2, _⟩ := ih (n - 1 - k) (by omega) f (by omega) (by omega)
        have n1 : L1.length ≤ 132 := by
          rw [p1.length_eq]
          exact allN_len k (by omega)
        have n2 : L2.length ≤ 132 := by
          rw [p2.length_eq]
          exact allN_len (n - 1 - k) (by omega)
        have m1 : ∀ s ∈ L1, s.length ≤ 12 := fun s hs => by
          have := (allN_mem k (by omega) s (p1.mem_iff.mp hs)).1
          omega
        have m2 : ∀ s ∈ L2, s.length ≤ 12 := fun s hs => by
          have := (allN_mem (n - 1 - k) (by omega) s (p2.mem_iff.mp hs)).1
          omega
        have hkk : k * 17424 ≤ 5 * 17424 := Nat.mul_le_mul_right _ (by omega)
        obtain ⟨z3', e⟩ := all_inner hk h6 a2 n2 m2 L1 L z3 z4 m1 (by omega)
        refine ⟨_, [some (.dat (nd n)), some (.own ((L ++ L1.flatMap fun one => L2.map fun other => wrapS one other).map D.str)), some (.dat (nd k)), z3', z4], rfl, .inl ?_, L ++ L1.flatMap fun one => L2.map fun other => wrapS one other, _, _, _, rfl, ?_, ?_⟩
        · show outOf (((Res.ok [nd k]).bind (φ_l_all f)).bind items) (fun ds => loop (gName 3) (b_l_all_1 (φ_l_all f)) ds [some (.dat (nd n)), some (.own (L.map D.str)), some (.dat (nd k)), z3, z4]) = _
          rw [bind_ok, a1, bind_ok, y_itL, outOf_ok]
          exact e
        · rw [List.length_append]
          have : ∀ (L1 : List (List Nat)), (L1.flatMap fun one => L2.map fun other => wrapS one other).length = L1.length * L2.length := by
            intro L1
            induction L1 with
            | nil => simp
            | cons x r ih =>
              rw [List.flatMap_cons, List.length_append, ih, List.length_map, List.length_cons, Nat.succ_mul]
              omega
          rw [this]
          have : L1.length * L2.length ≤ 132 * 132 := Nat.mul_le_mul n1 n2
          omega
        · rw [List.range_succ, List.flatMap_append]
          refine hperm.append ?_
          simp only [List.flatMap_cons, List.flatMap_nil, List.append_nil]
          exact (List.Perm.flatMap_right _ p1).trans (flat_perm _ fun a => p2.map _))
      rw [numbers_len', Nat.zero_add] at hl hperm
      have hr : rng1 (.int (n : Int)) = .ok (numbers 0 n) := rng1_nat n (by omega)
      have hpN : L.Perm (allN n) := by
        rw [allN_pos (by omega) h6]
        exact hperm
      have hs := sort_strs (l := L) (fun s hs => by
        obtain ⟨k1, k2⟩ := allN_mem n (by omega) s (hpN.mem_iff.mp hs)
        exact ⟨brack_plain k2, by
          show _ ≤ 16777216
          omega⟩) (by
        have : n * 17424 ≤ 6 * 17424 := Nat.mul_le_mul_right _ h6
        show _ ≤ 16777216
        omega)
      refine ⟨L.mergeSort fun a b => !decide (b < a), ?_, (List.mergeSort_perm L _).trans hpN, List.pairwise_mergeSort le_trans' le_total' L⟩
      generalize (L.mergeSort fun a b => !decide (b < a)).map D.str = M at hs ⊢
      generalize L.map D.str = L' at e1 hs
      show runDef 5 (g_l_all (φ_l_all f)) [nd n] = _
      refine run_of ?_
      have hn0 : ¬ (n : Int) = 0 := by omega
      simp [g_l_all, hn0, h0, hr, e1, hs]
end
end Bk
end
/-! F03 -/
section
set_option linter.all false
set_option autoImplicit false
set_option maxRecDepth 100000
/-! F03: ways: the choices' numbers keep the sum's rule, by computing -/
namespace Bk
def waysC (n h : Nat) : Int := if n < h ∨ (n - h) % 2 = 1 then 0 else (chN n ((n - h) / 2) : Int) - (if (n - h) / 2 = 0 then 0 else (chN n ((n - h) / 2 - 1) : Int))
def waysB (n h : Nat) : Nat := if n < h ∨ (n - h) % 2 = 1 then 0 else chN n ((n - h) / 2)
def waysA (n h : Nat) : Nat := if n < h ∨ (n - h) % 2 = 1 then 0 else if (n - h) / 2 = 0 then 0 else chN n ((n - h) / 2 - 1)
theorem waysC_eq (n h : Nat) : waysC n h = (waysB n h : Int) - (waysA n h : Int) := by
  unfold waysC waysB waysA
  by_cases h1 : n < h ∨ (n - h) % 2 = 1
  · simp [h1]
  · rw [if_neg h1, if_neg h1, if_neg h1]
    split <;> simp
theorem waysB_rule : ∀ n, n < 120 → ∀ h, h < 122 → waysB (n + 1) (h + 1) + waysA n (h + 2) + waysA n h = waysB n (h + 2) + waysB n h + waysA (n + 1) (h + 1) := by decide +kernel
theorem waysB_zero : ∀ n, n < 120 → waysB (n + 1) 0 + waysA n 1 = waysB n 1 + waysA (n + 1) 0 := by decide +kernel
theorem cnt_ways : ∀ s, s < 61 → cntN s s + waysA (2 * s) 0 = waysB (2 * s) 0 := by decide +kernel
/-- in how many ways n signs lead from height h to 0, never below -/
def w : Nat → Nat → Nat
  | 0, h => if h = 0 then 1 else 0
  | n + 1, 0 => w n 1
  | n + 1, h + 1 => w n (h + 2) + w n h
theorem waysC_w : ∀ n, n ≤ 120 → ∀ h, n + h ≤ 121 → waysC n h = (w n h : Int)
  | 0, _, h, _ => by
    unfold waysC w
    cases h with
    | zero => rfl
    | succ h => rfl
  | n + 1, hn, 0, hh => by
    have ih := waysC_w n (by omega) 1 (by omega)
    have r := waysB_zero n (by omega)
    rw [waysC_eq] at ih ⊢
    show _ = ((w n 1 : Nat) : Int)
    omega
  | n + 1, hn, h + 1, hh => by
    have i1 := waysC_w n (by omega) (h + 2) (by omega)
    have i2 := waysC_w n (by omega) h (by omega)
    have r := waysB_rule n (by omega) h (by omega)
    rw [waysC_eq] at i1 i2 ⊢
    show _ = ((w n (h + 2) + w n h : Nat) : Int)
    omega
theorem cnt_w {s : Nat} (h : s ≤ 60) : cntN s s = w (2 * s) 0 := by
  have h1 := cnt_ways s (by omega)
  have h2 := waysC_w (2 * s) (by omega) 0 (by omega)
  rw [waysC_eq] at h2
  omega
end Bk
end
/-! BkNum3 -/
section
set_option linter.all false
set_option autoImplicit false
set_option maxRecDepth 100000
/-! BkNum3: number, row_of, next_row -/
namespace Bk
theorem ways_of {n h : Nat} (hn : n ≤ 120) (hh : n + h ≤ 121) : φ_ways [nd n, nd h] = .ok (nd (w n h)) := by
  have e := waysC_w n hn h hh
  show _ = Res.ok (D.int (w n h : Int))
  rw [← e]
  refine run_of (g := g_ways) ?_
  have h0 : ¬ (h : Int) < 0 := by omega
  have m2 : ∀ z, dMod (.int z) (.int 2) = .ok (.int (z % 2)) := fun z => y_mod (by omega)
  have d2 : ∀ z, dDiv (.int z) (.int 2) = .ok (.int (z / 2)) := fun z => y_div (by omega) (by omega)
  unfold waysC
  by_cases h1 : n < h
  · simp [g_ways, h0, h1]
  · by_cases h2 : (n - h) % 2 = 1
    · have h3 : ((n : Int) - h) % 2 = 1 := by omega
      simp [g_ways, h0, h1, h2, m2, h3]
    · have h3 : ¬ ((n : Int) - h) % 2 = 1 := by omega
      have h4 : ((n : Int) - h) / 2 = (((n - h) / 2 : Nat) : Int) := by omega
      have hcond : ¬ (n < h ∨ (n - h) % 2 = 1) := by omega
      rw [if_neg hcond]
      have c1 : φ_choices [nd n, nd ((n - h) / 2)] = .ok (nd (chN n ((n - h) / 2))) := choices_of (by omega) (by omega)
      have c2 : φ_choices [nd n, .int (((((n - h) / 2 : Nat)) : Int) - 1)] = .ok (.int (if (n - h) / 2 = 0 then 0 else (chN n ((n - h) / 2 - 1) : Int))) := by
        by_cases h5 : (n - h) / 2 = 0
        · rw [if_pos h5]
          exact choices_neg (by omega)
        · rw [if_neg h5]
          have e1 : ((((n - h) / 2 : Nat)) : Int) - 1 = (((n - h) / 2 - 1 : Nat) : Int) := by omega
          rw [e1]
          exact choices_of (by omega) (by omega)
      generalize (if (n - h) / 2 = 0 then (0 : Int) else (chN n ((n - h) / 2 - 1) : Int)) = Y at c2 ⊢
      generalize chN n ((n - h) / 2) = Z at c1 ⊢
      generalize (n - h) / 2 = O at h4 c1 c2
      simp [g_ways, h0, h1, m2, h3, d2, h4, c1, c2]
/-! ### the number of a row -/
def numF : Nat → List Nat → Nat
  | _, [] => 0
  | h, c :: r => if c = 41 then w r.length (h + 1) + numF (h - 1) r else numF (h + 1) r
def rowF : Nat → Nat → Nat → List Nat
  | 0, _, _ => []
  | n + 1, h, p => if p < w n (h + 1) then 40 :: rowF n (h + 1) p else 41 :: rowF n (h - 1) (p - w n (h + 1))
theorem rowF_len : ∀ (n h p : Nat), (rowF n h p).length = n
  | 0, _, _ => rfl
  | n + 1, h, p => by
    unfold rowF
    split
    · rw [List.length_cons, rowF_len]
    · rw [List.length_cons, rowF_len]
theorem numF_lt : ∀ (s : List Nat) (h : Nat), wholeF h s = true → numF h s < w s.length h
  | [], h, q => by
    unfold wholeF at q
    have : h = 0 := by simpa using q
    subst this
    decide
  | c :: r, h, q => by
    unfold wholeF at q
    unfold numF
    rw [List.length_cons]
    by_cases k : c = 40
    · rw [if_pos k] at q
      rw [if_neg (by omega)]
      have ih := numF_lt r (h + 1) q
      cases h with
      | zero => exact ih
      | succ h =>
        have ih : numF (h + 2) r < w r.length (h + 2) := ih
        show numF (h + 2) r < w r.length (h + 2) + w r.length h
        omega
    · rw [if_neg k] at q
      by_cases k2 : c = 41
      · rw [if_pos k2] at q
        rw [if_pos k2]
        cases h with
        | zero => cases q
        | succ h =>
          have ih := numF_lt r h q
          show w r.length (h + 2) + numF h r < w r.length (h + 2) + w r.length h
          omega
      · rw [if_neg k2] at q
        cases q
theorem row_num : ∀ (s : List Nat) (h : Nat), wholeF h s = true → rowF s.length h (numF h s) = s
  | [], h, q => rfl
  | c :: r, h, q => by
    unfold wholeF at q
    unfold numF
    rw [List.length_cons]
    by_cases k : c = 40
    · subst k
      rw [if_pos rfl] at q
      rw [if_neg (by omega)]
      have lt := numF_lt r (h + 1) q
      unfold rowF
      rw [if_pos lt, row_num r (h + 1) q]
    · rw [if_neg k] at q
      by_cases k2 : c = 41
      · subst k2
        rw [if_pos rfl] at q ⊢
        cases h with
        | zero => cases q
        | succ h =>
          unfold rowF
          rw [if_neg (by omega), Nat.add_sub_cancel_left]
          show 41 :: rowF r.length h (numF h r) = _
          rw [row_num r h q]
      · rw [if_neg k2] at q
        cases q
theorem num_row : ∀ (n h p : Nat), p < w n h → wholeF h (rowF n h p) = true ∧ numF h (rowF n h p) = p
  | 0, h, p, q => by
    unfold w at q
    by_cases k : h = 0
    · rw [if_pos k] at q
      subst k
      have : p = 0 := by omega
      subst this
      exact ⟨rfl, rfl⟩
    · rw [if_neg k] at q
      omega
  | n + 1, h, p, q => by
    unfold rowF
    by_cases k : p < w n (h + 1)
    · rw [if_pos k]
      obtain ⟨h1, h2⟩ := num_row n (h + 1) p k
      exact ⟨h1, h2⟩
    · rw [if_neg k]
      cases h with
      | zero => exact absurd q k
      | succ h =>
        have q : p < w n (h + 2) + w n h := q
        have k : ¬ p < w n (h + 2) := k
        obtain ⟨h1, h2⟩ := num_row n h (p - w n (h + 2)) (by omega)
        refine ⟨h1, ?_⟩
        show w (rowF n h (p - w n (h + 2))).length (h + 2) + numF h (rowF n h (p - w n (h + 2))) = p
        rw [rowF_len, h2]
        omega
theorem num_inj {s t : List Nat} {h : Nat} (h1 : wholeF h s = true) (h2 : wholeF h t = true) (hl : s.length = t.length) (e : numF h s = numF h t) : s = t := by
  rw [← row_num s h h1, ← row_num t h h2, hl, e]
/-- of two rows the one ahead has the lesser number -/
theorem num_lt : ∀ (s t : List Nat) (h : Nat), wholeF h s = true → wholeF h t = true → s.length = t.length → s < t → numF h s < numF h t
  | [], [], h, _, _, _, q => by cases q
  | [], _ :: _, h, _, _, e, _ => by simp at e
  | _ :: _, [], h, _, _, e, _ => by simp at e
  | c :: r, d :: t, h, h1, h2, e, q => by
    have hc := brack_mem (whole_brack _ _ h1) List.mem_cons_self
    have hd := brack_mem (whole_brack _ _ h2) List.mem_cons_self
    have el : r.length = t.length := by simpa using e
    rw [List.cons_lt_cons_iff] at q
    rcases q with q | ⟨rfl, q⟩
    · have c0 : c = 40 := by omega
      have d0 : d = 41 := by omega
      subst c0 d0
      have lt := numF_lt r (h + 1) h1
      show numF (h + 1) r < w t.length (h + 1) + numF (h - 1) t
      rw [← el]
      omega
    · rcases hc with rfl | rfl
      · exact num_lt r t (h + 1) h1 h2 el q
      · cases h with
        | zero => cases h1
        | succ h =>
          have ih := num_lt r t h h1 h2 el q
          show w r.length (h + 2) + numF h r < w t.length (h + 2) + numF h t
          rw [el]
          omega
theorem num_lt_iff {s t : List Nat} (h1 : whole s = true) (h2 : whole t = true) (hl : s.length = t.length) : numF 0 s < numF 0 t ↔ s < t := by
  constructor
  · intro q
    refine Classical.byContradiction fun z => ?_
    rw [List.not_lt, List.le_iff_lt_or_eq] at z
    rcases z with z | z
    · have := num_lt t s 0 h2 h1 hl.symm z
      omega
    · subst z
      exact Nat.lt_irrefl _ q
  · exact num_lt s t 0 h1 h2 hl
/-! ### the defs -/
section
variable {z0 z1 z2 z3 z4 z5 : Option S}
theorem number_loop {x : List Nat} (hx : x.length ≤ 120) : ∀ (s : List Nat) (k h f : Nat) (z3 z4 : Option S), k + s.length = x.length → h + s.length ≤ 120 → h ≤ k → wholeF h s = true → ∃ x2 x3 x4, loop (gPair 3 4) b_number_1 (enumL k (signs s)) [some (.dat (.str x)), some (.dat (nd f)), some (.dat (nd h)), z3, z4] =
    .next [some (.dat (.str x)), some (.dat (nd (f + numF h s))), x2, x3, x4]
  | [], k, h, f, z3, z4, _, _, _, _ => ⟨_, _, _, rfl⟩
  | c :: r, k, h, f, z3, z4, hk, hl, hh, hw => by
    rw [List.length_cons] at hk hl
    have hll : x.length ≤ lim := by
      show _ ≤ 16777216
      omega
    have hc := brack_mem (whole_brack _ _ hw) List.mem_cons_self
    rcases hc with rfl | rfl
    · obtain ⟨y2, y3, y4, e⟩ := number_loop hx r (k + 1) (h + 1) f (some (.dat (nd k))) (some (.dat (.str [40]))) (by omega) (by omega) (by omega) hw
      refine ⟨y2, y3, y4, ?_⟩
      show loop (gPair 3 4) b_number_1 (.tup [.int k, .str [40]] :: enumL (k + 1) (signs r)) _ = _
      have en : numF h (40 :: r) = numF (h + 1) r := rfl
      rw [en, ← e]
      refine loop_next rfl ?_
      simp [b_number_1, eq_shut]
    · cases h with
      | zero => cases hw
      | succ h =>
        obtain ⟨y2, y3, y4, e⟩ := number_loop hx r (k + 1) h (f + w r.length (h + 2)) (some (.dat (nd k))) (some (.dat (.str [41]))) (by omega) (by omega) (by omega) hw
        refine ⟨y2, y3, y4, ?_⟩
        show loop (gPair 3 4) b_number_1 (.tup [.int k, .str [41]] :: enumL (k + 1) (signs r)) _ = _
        have en : f + numF (h + 1) (41 :: r) = f + w r.length (h + 2) + numF h r := by
          show f + (w r.length (h + 2) + numF h r) = _
          omega
        rw [en, ← e]
        refine loop_next rfl ?_
        have e1 : (x.length : Int) - k - 1 = (r.length : Int) := by omega
        have wy : φ_ways [.int (r.length : Int), .int ((h : Int) + 1 + 1)] = .ok (nd (w r.length (h + 2))) := ways_of (n := r.length) (h := h + 2) (by omega) (by omega)
        have ha : dAdd (nd f) (nd (w r.length (h + 2))) = .ok (nd (f + w r.length (h + 2))) := by rw [y_add, nd_add]
        generalize nd (f + w r.length (h + 2)) = Y at ha ⊢
        generalize nd (w r.length (h + 2)) = Z at ha wy
        have e2 : (h : Int) + 1 - 1 = h := by omega
        simp [b_number_1, eq_shut, hll, e1, wy, ha, e2]
theorem number_of {s : List Nat} (hw : whole s = true) (hl : s.length ≤ 120) : φ_number [.str s] = .ok (nd (numF 0 s)) := by
  obtain ⟨y2, y3, y4, e⟩ := number_loop hl s 0 0 0 none none (by omega) (by omega) (by omega) hw
  have hi := is_whole_of (brack_plain (whole_iff.mp hw).1) (s := s) (by omega)
  rw [hw, decide_eq_true hl] at hi
  rw [Nat.zero_add] at e
  generalize nd (numF 0 s) = Y at e ⊢
  have e : loop (gPair 3 4) b_number_1 (enumL 0 (signs s)) [some (.dat (.str s)), some (.dat (.int 0)), some (.dat (.int 0)), none, none] = .next [some (.dat (.str s)), some (.dat Y), y2, y3, y4] := e
  refine run_of (g := g_number) ?_
  simp [g_number, hi, e]
theorem number_bad {s : List Nat} (hp : plainS s = true) (hw : whole s = false) (hl : s.length ≤ 1000) : φ_number [.str s] = .raise .noRow := by
  have hi := is_whole_of hp (by omega)
  rw [hw, Bool.and_false] at hi
  refine run_raise (g := g_number) ?_
  simp [g_number, hi]
theorem row_loop {size : Nat} : ∀ (n h p : Nat) (t : List Nat) (z4 z5 : Option S), t.length + n ≤ 120 → h ≤ t.length → p < w n h → ∃ x1 x3 x4 x5, loop (gName 4) b_row_of_1 (numbers 0 n).reverse [some (.dat (nd size)), some (.dat (nd p)), some (.dat (.str t)), some (.dat (nd h)), z4, z5] =
    .next [some (.dat (nd size)), x1, some (.dat (.str (t ++ rowF n h p))), x3, x4, x5]
  | 0, h, p, t, z4, z5, _, _, _ => ⟨_, _, _, _, by
      show _ = Out.next [_, _, some (.dat (.str (t ++ []))), _, _, _]
      rw [List.append_nil]
      rfl⟩
  | n + 1, h, p, t, z4, z5, hl, hh, hp => by
    have en : (numbers 0 (n + 1)).reverse = .int (n : Int) :: (numbers 0 n).reverse := by
      unfold numbers
      rw [List.range_succ, List.map_append, List.reverse_append]
      simp
    rw [en]
    have hll : t.length + 1 ≤ lim := by
      show _ ≤ 16777216
      omega
    have wy : φ_ways [.int (n : Int), .int ((h : Int) + 1)] = .ok (nd (w n (h + 1))) := ways_of (n := n) (h := h + 1) (by omega) (by omega)
    by_cases k : p < w n (h + 1)
    · obtain ⟨y1, y3, y4, y5, e⟩ := row_loop (size := size) n (h + 1) p (t ++ [40]) (some (.dat (nd n))) (some (.dat (nd (w n (h + 1))))) (by rw [List.length_append, List.length_singleton]; omega) (by rw [List.length_append, List.length_singleton]; omega) k
      have er : t ++ rowF (n + 1) h p = t ++ [40] ++ rowF n (h + 1) p := by
        show t ++ (if p < w n (h + 1) then 40 :: rowF n (h + 1) p else 41 :: rowF n (h - 1) (p - w n (h + 1))) = _
        rw [if_pos k, List.append_assoc]
        rfl
      refine ⟨y1, y3, y4, y5, ?_⟩
      rw [er, ← e]
      refine loop_next rfl ?_
      have hlt : dLt (nd p) (nd (w n (h + 1))) = .ok (.bool true) := by
        rw [y_lt, decide_eq_true (by omega)]
      generalize nd (w n (h + 1)) = Z at wy hlt ⊢
      generalize nd p = P at hlt ⊢
      simp [b_row_of_1, wy, hlt, hll]
    · cases h with
      | zero => exact absurd hp k
      | succ h =>
        have hp2 : p < w n (h + 2) + w n h := hp
        have k2 : ¬ p < w n (h + 2) := k
        obtain ⟨y1, y3, y4, y5, e⟩ := row_loop (size := size) n h (p - w n (h + 2)) (t ++ [41]) (some (.dat (nd n))) (some (.dat (nd (w n (h + 2))))) (by rw [List.length_append, List.length_singleton]; omega) (by rw [List.length_append, List.length_singleton]; omega) (by omega)
        have er : t ++ rowF (n + 1) (h + 1) p = t ++ [41] ++ rowF n h (p - w n (h + 2)) := by
          show t ++ (if p < w n (h + 1 + 1) then 40 :: rowF n (h + 1 + 1) p else 41 :: rowF n (h + 1 - 1) (p - w n (h + 1 + 1))) = _
          rw [if_neg k, List.append_assoc]
          rfl
        refine ⟨y1, y3, y4, y5, ?_⟩
        rw [er, ← e]
        refine loop_next rfl ?_
        have hlt : dLt (nd p) (nd (w n (h + 2))) = .ok (.bool false) := by
          rw [y_lt, decide_eq_false (by omega)]
        have hsub : dSub (nd p) (nd (w n (h + 2))) = .ok (nd (p - w n (h + 2))) := by
          rw [y_sub]
          congr 2
          omega
        have wy : φ_ways [.int (n : Int), .int ((h : Int) + 1 + 1)] = .ok (nd (w n (h + 2))) := wy
        generalize nd (p - w n (h + 2)) = P2 at hsub ⊢
        generalize nd (w n (h + 2)) = Z at wy hlt hsub ⊢
        generalize nd p = P at hlt hsub ⊢
        have e2 : (h : Int) + 1 - 1 = h := by omega
        simp [b_row_of_1, wy, hlt, hsub, hll, e2]
theorem row_of_of {size p : Nat} (hs : size ≤ 60) (hp : p < w (2 * size) 0) : φ_row_of [nd size, nd p] = .ok (.str (rowF (2 * size) 0 p)) := by
  obtain ⟨y1, y3, y4, y5, e⟩ := row_loop (size := size) (2 * size) 0 p [] none none (by simp; omega) (by simp) hp
  rw [List.nil_append] at e
  have hc : φ_count [nd size, nd size] = .ok (nd (w (2 * size) 0)) := by
    rw [← cnt_w hs]
    exact count_of (by omega) (by omega)
  have d2 : dMul (.int 2) (nd size) = .ok (nd (2 * size)) := by
    rw [y_mulL small2]
    congr 2
  have hr : rng1 (nd (2 * size)) = .ok (numbers 0 (2 * size)) := rng1_nat (2 * size) (by omega)
  have h1 : dLe (.int 0) (nd p) = .ok (.bool true) := by
    rw [y_le, decide_eq_true (by omega)]
  have h2 : dLt (nd p) (nd (w (2 * size) 0)) = .ok (.bool true) := by
    rw [y_lt, decide_eq_true (by omega)]
  generalize rowF (2 * size) 0 p = R at e ⊢
  generalize (numbers 0 (2 * size)) = NN at e hr
  generalize nd (w (2 * size) 0) = W at hc h2
  generalize nd (2 * size) = T at d2 hr
  have e : loop (gName 4) b_row_of_1 NN.reverse [some (.dat (nd size)), some (.dat (nd p)), some (.dat (.str [])), some (.dat (.int 0)), none, none] = .next [some (.dat (nd size)), y1, some (.dat (.str R)), y3, y4, y5] := e
  generalize nd p = P at e h1 h2 ⊢
  refine run_of (g := g_row_of) ?_
  simp [g_row_of, hc, h1, h2, d2, hr, e]
theorem row_of_bad {size : Nat} {p : Int} (hs : size ≤ 60) (hp : p < 0 ∨ (w (2 * size) 0 : Int) ≤ p) : φ_row_of [nd size, .int p] = .raise .noRow := by
  have hc : φ_count [nd size, nd size] = .ok (nd (w (2 * size) 0)) := by
    rw [← cnt_w hs]
    exact count_of (by omega) (by omega)
  refine run_raise (g := g_row_of) ?_
  by_cases h : 0 ≤ p
  · have h2 : dLt (.int p) (nd (w (2 * size) 0)) = .ok (.bool false) := by
      rw [y_lt, decide_eq_false (by omega)]
    generalize nd (w (2 * size) 0) = W at hc h2
    simp [-y_lt, g_row_of, hc, h, h2]
  · simp [g_row_of, h]
end
end Bk
end
/-! BkTree -/
section
set_option linter.all false
set_option autoImplicit false
set_option maxRecDepth 100000
/-! BkTree: rows as trees; parts_of, forests, trees -/
namespace Bk
inductive Tr where
  | leaf
  | node (a b : Tr)
def rowT : Tr → List Nat
  | .leaf => []
  | .node a b => 40 :: rowT a ++ 41 :: rowT b
def sz : Tr → Nat
  | .leaf => 0
  | .node a b => sz a + sz b + 1
def kids : Tr → List Tr
  | .leaf => []
  | .node a b => a :: kids b
def forT : Tr → List D
  | .leaf => []
  | .node a b => .tup (forT a) :: forT b
def treeD : Tr → D
  | .leaf => .none
  | .node a b => .tup [treeD a, treeD b]
def mir : Tr → Tr
  | .leaf => .leaf
  | .node a b => .node (mir b) (mir a)
theorem rowT_len : ∀ t, (rowT t).length = 2 * sz t
  | .leaf => rfl
  | .node a b => by
    show (40 :: (rowT a ++ 41 :: rowT b)).length = 2 * (sz a + sz b + 1)
    rw [List.length_cons, List.length_append, List.length_cons, rowT_len a, rowT_len b]
    omega
theorem rowT_whole : ∀ t, whole (rowT t) = true
  | .leaf => rfl
  | .node a b => by
    have h : rowT (.node a b) = (40 :: rowT a ++ [41]) ++ rowT b := by
      show 40 :: (rowT a ++ 41 :: rowT b) = _
      simp
    rw [h]
    exact whole_cat (whole_pair (rowT_whole a)) (rowT_whole b)
theorem kids_sz : ∀ t, ∀ a ∈ kids t, sz a < sz t
  | .leaf, _, h => nomatch h
  | .node a b, c, h => by
    show sz c < sz a + sz b + 1
    rcases List.mem_cons.mp h with rfl | h
    · omega
    · have := kids_sz b c h
      omega
theorem kids_len : ∀ t, (kids t).length ≤ sz t
  | .leaf => Nat.le_refl _
  | .node a b => by
    have := kids_len b
    show (kids b).length + 1 ≤ sz a + sz b + 1
    omega
theorem forT_eq : ∀ t, forT t = (kids t).map fun a => .tup (forT a)
  | .leaf => rfl
  | .node a b => by
    show D.tup (forT a) :: forT b = _
    rw [forT_eq b]
    rfl
theorem mir_mir : ∀ t, mir (mir t) = t
  | .leaf => rfl
  | .node a b => by
    show Tr.node (mir (mir a)) (mir (mir b)) = _
    rw [mir_mir a, mir_mir b]
theorem sz_mir : ∀ t, sz (mir t) = sz t
  | .leaf => rfl
  | .node a b => by
    show sz (mir b) + sz (mir a) + 1 = sz a + sz b + 1
    rw [sz_mir a, sz_mir b]
    omega
/-! ### each whole row is a tree's -/
theorem split_first : ∀ (n : Nat) (r : List Nat) (h : Nat), r.length ≤ n → wholeF (h + 1) r = true → ∃ u v, r = u ++ 41 :: v ∧ whole u = true ∧ wholeF h v = true
  | _, [], h, _, q => by
    unfold wholeF at q
    simp at q
  | 0, _ :: _, h, hl, _ => by simp at hl
  | n + 1, c :: r, h, hl, q => by
    have hc := brack_mem (whole_brack _ _ q) List.mem_cons_self
    rw [List.length_cons] at hl
    rcases hc with rfl | rfl
    · obtain ⟨u1, v1, rfl, w1, q1⟩ := split_first n r (h + 1) (by omega) q
      rw [List.length_append, List.length_cons] at hl
      obtain ⟨u2, v2, rfl, w2, q2⟩ := split_first n v1 h (by omega) q1
      refine ⟨40 :: u1 ++ [41] ++ u2, v2, by simp, whole_cat (whole_pair w1) w2, q2⟩
    · exact ⟨[], r, rfl, rfl, q⟩
theorem tree_exists : ∀ (n : Nat) (s : List Nat), s.length ≤ n → whole s = true → ∃ t, rowT t = s
  | _, [], _, _ => ⟨.leaf, rfl⟩
  | 0, _ :: _, hl, _ => by simp at hl
  | n + 1, c :: r, hl, q => by
    have hc := brack_mem (whole_brack _ _ q) List.mem_cons_self
    rw [List.length_cons] at hl
    rcases hc with rfl | rfl
    · obtain ⟨u, v, rfl, w1, w2⟩ := split_first r.length r 0 (Nat.le_refl _) q
      rw [List.length_append, List.length_cons] at hl
      obtain ⟨a, rfl⟩ := tree_exists n u (by omega) w1
      obtain ⟨b, rfl⟩ := tree_exists n v (by omega) w2
      exact ⟨.node a b, rfl⟩
    · cases q
theorem tree_of_row {s : List Nat} (h : whole s = true) : ∃ t, rowT t = s ∧ 2 * sz t = s.length := by
  obtain ⟨t, e⟩ := tree_exists s.length s (Nat.le_refl _) h
  exact ⟨t, e, by rw [← e, rowT_len]⟩
/-! ### equality of data with itself -/
mutual
theorem eqv_refl : ∀ (n : Nat) (d : D), D.cmp n d = true → D.eqv d d = true
  | _, .none, _ => by unfold D.eqv; rfl
  | _, .bool b, _ => by unfold D.eqv; simp
  | _, .int i, _ => by unfold D.eqv; simp
  | _, .str s, _ => by unfold D.eqv; simp
  | 0, .tup _, h => by unfold D.cmp at h; cases h
  | 0, .lst _, h => by unfold D.cmp at h; cases h
  | n + 1, .tup xs, h => by
    unfold D.cmp at h
    unfold D.eqv
    exact eqv_reflAll n xs h
  | n + 1, .lst xs, h => by
    unfold D.cmp at h
    unfold D.eqv
    exact eqv_reflAll n xs h
  | 0, .dic _, h => by unfold D.cmp at h; cases h
  | _ + 1, .dic _, h => by unfold D.cmp at h; cases h
theorem eqv_reflAll : ∀ (n : Nat) (xs : List D), D.cmpAll n xs = true → D.eqvAll xs xs = true
  | _, [], _ => by unfold D.eqvAll; rfl
  | n, x :: xs, h => by
    unfold D.cmpAll at h
    rw [Bool.and_eq_true] at h
    unfold D.eqvAll
    rw [eqv_refl n x h.1, eqv_reflAll n xs h.2]
    rfl
end
theorem eq_self {d : D} (h : D.cmp 64 d = true) : dEq d d = .ok (.bool true) := by
  unfold dEq
  rw [h, eqv_refl 64 d h]
  rfl
theorem ne_self {d : D} (h : D.cmp 64 d = true) : dNe d d = .ok (.bool false) := by
  unfold dNe
  rw [h, eqv_refl 64 d h]
  rfl
theorem cmp_tree : ∀ (t : Tr) (n : Nat), sz t < n → D.cmp n (treeD t) = true
  | .leaf, n, _ => by
    cases n <;> (show D.cmp _ D.none = true; unfold D.cmp; rfl)
  | .node a b, 0, h => by omega
  | .node a b, n + 1, h => by
    have h : sz a + sz b + 1 < n + 1 := h
    show D.cmp (n + 1) (.tup [treeD a, treeD b]) = true
    unfold D.cmp D.cmpAll D.cmpAll D.cmpAll
    rw [cmp_tree a n (by omega), cmp_tree b n (by omega)]
    rfl
theorem cmp_for : ∀ (t : Tr) (n : Nat), sz t < n → D.cmpAll n (forT t) = true
  | .leaf, n, _ => by
    show D.cmpAll _ [] = true
    unfold D.cmpAll
    rfl
  | .node a b, 0, h => by omega
  | .node a b, n + 1, h => by
    have h : sz a + sz b + 1 < n + 1 := h
    show D.cmpAll (n + 1) (.tup (forT a) :: forT b) = true
    unfold D.cmpAll D.cmp
    rw [cmp_for a n (by omega), cmp_for b (n + 1) (by omega)]
    rfl
theorem cmp_forT {t : Tr} {n : Nat} (h : sz t < n) : D.cmp (n + 1) (.tup (forT t)) = true := by
  unfold D.cmp
  exact cmp_for t n h
/-! ### parts_of -/
section
variable {z0 z1 z2 z3 z4 z5 : Option S}
theorem part_turn {x : List Nat} (hx : x.length ≤ 1000) {F : List D} {h b k c : Nat} (hc : c = 40 ∨ c = 41) {h' : Nat} (hh : (h : Int) + 1 - 2 * (if c = 41 then 1 else 0) = h') (h0 : h' ≠ 0) :
    b_parts_of_1 [some (.dat (.str x)), some (.own F), some (.dat (nd h)), some (.dat (nd b)), some (.dat (nd k)), some (.dat (.str [c]))] =
      .next [some (.dat (.str x)), some (.own F), some (.dat (nd h')), some (.dat (nd b)), some (.dat (nd k)), some (.dat (.str [c]))] := by
  have h1 : c < 128 := by omega
  have e : dEq (.str [c]) (.str [41]) = .ok (.bool (decide (c = 41))) := eq_shut h1
  have h2 : dSub (.int ((h : Int) + 1)) (.int (2 * (if c = 41 then 1 else 0))) = .ok (nd h') := by
    rw [y_sub, hh]
  have h3 : dEq (nd h') (.int 0) = .ok (.bool false) := by
    rw [y_eqI, decide_eq_false (by omega)]
  generalize nd h' = H at h2 h3 ⊢
  simp [b_parts_of_1, e, y_mulL small2, h2, h3]
theorem parts_in {x : List Nat} (hx : x.length ≤ 1000) {F : List D} {b : Nat} : ∀ (t : Tr) (rest : List Nat) (k h : Nat) (z4 z5 : Option S), h ≠ 0 →
    ∃ x4 x5, loop (gPair 4 5) b_parts_of_1 (enumL k (signs (rowT t ++ rest))) [some (.dat (.str x)), some (.own F), some (.dat (nd h)), some (.dat (nd b)), z4, z5] =
      loop (gPair 4 5) b_parts_of_1 (enumL (k + (rowT t).length) (signs rest)) [some (.dat (.str x)), some (.own F), some (.dat (nd h)), some (.dat (nd b)), x4, x5]
  | .leaf, rest, k, h, z4, z5, _ => ⟨z4, z5, rfl⟩
  | .node a c, rest, k, h, z4, z5, h0 => by
    obtain ⟨y4, y5, e1⟩ := parts_in hx (F := F) (b := b) a (41 :: (rowT c ++ rest)) (k + 1) (h + 1) (some (.dat (nd k))) (some (.dat (.str [40]))) (by omega)
    obtain ⟨x4, x5, e2⟩ := parts_in hx (F := F) (b := b) c rest (k + 1 + (rowT a).length + 1) h (some (.dat (nd (k + 1 + (rowT a).length)))) (some (.dat (.str [41]))) h0
    refine ⟨x4, x5, ?_⟩
    have es : rowT (.node a c) ++ rest = 40 :: (rowT a ++ 41 :: (rowT c ++ rest)) := by
      show (40 :: (rowT a ++ 41 :: rowT c)) ++ rest = _
      simp
    have el : k + (rowT (.node a c)).length = k + 1 + (rowT a).length + 1 + (rowT c).length := by
      show k + (40 :: (rowT a ++ 41 :: rowT c)).length = _
      rw [List.length_cons, List.length_append, List.length_cons]
      omega
    rw [es, el, ← e2]
    show loop (gPair 4 5) b_parts_of_1 (.tup [nd k, .str [40]] :: enumL (k + 1) (signs (rowT a ++ 41 :: (rowT c ++ rest)))) _ = _
    rw [loop_next rfl (part_turn hx (.inl rfl) (h' := h + 1) (by simp) (by omega)), e1]
    show loop (gPair 4 5) b_parts_of_1 (.tup [nd (k + 1 + (rowT a).length), .str [41]] :: enumL (k + 1 + (rowT a).length + 1) (signs (rowT c ++ rest))) _ = _
    rw [loop_next rfl (part_turn hx (.inr rfl) (h' := h) (by simp; omega) h0)]
theorem parts_out {x : List Nat} (hx : x.length ≤ 1000) : ∀ (t : Tr) (k : Nat) (F : List (List Nat)) (pre : List Nat) (z4 z5 : Option S), x = pre ++ rowT t → k = pre.length → F.length ≤ pre.length →
    ∃ x2 x3 x4 x5, loop (gPair 4 5) b_parts_of_1 (enumL k (signs (rowT t))) [some (.dat (.str x)), some (.own (F.map D.str)), some (.dat (nd 0)), some (.dat (nd k)), z4, z5] =
      .next [some (.dat (.str x)), some (.own ((F ++ (kids t).map rowT).map D.str)), x2, x3, x4, x5]
  | .leaf, k, F, pre, z4, z5, _, _, _ => ⟨_, _, _, _, by
      show _ = Out.next [_, some (.own ((F ++ []).map D.str)), _, _, _, _]
      rw [List.append_nil]
      rfl⟩
  | .node a c, k, F, pre, z4, z5, e, hk, hF => by
    have hll : x.length ≤ lim := by
      show _ ≤ 16777216
      omega
    obtain ⟨y4, y5, e1⟩ := parts_in hx (F := F.map D.str) (b := k) a (41 :: rowT c) (k + 1) 1 (some (.dat (nd k))) (some (.dat (.str [40]))) (by omega)
    have e' : x = (pre ++ (40 :: rowT a ++ [41])) ++ rowT c := by
      rw [e]
      show pre ++ (40 :: (rowT a ++ 41 :: rowT c)) = _
      simp
    have hxl : x.length = pre.length + (rowT a).length + 2 + (rowT c).length := by
      rw [e']
      simp
      omega
    obtain ⟨x2, x3, x4, x5, e2⟩ := parts_out hx c (k + 1 + (rowT a).length + 1) (F ++ [rowT a]) (pre ++ (40 :: rowT a ++ [41])) (some (.dat (nd (k + 1 + (rowT a).length)))) (some (.dat (.str [41]))) e' (by simp; omega) (by simp; omega)
    refine ⟨x2, x3, x4, x5, ?_⟩
    have ek : F ++ (kids (.node a c)).map rowT = F ++ [rowT a] ++ (kids c).map rowT := by
      show F ++ (rowT a :: (kids c).map rowT) = _
      simp
    rw [ek, ← e2]
    show loop (gPair 4 5) b_parts_of_1 (.tup [nd k, .str [40]] :: enumL (k + 1) (signs (rowT a ++ 41 :: rowT c))) _ = _
    rw [loop_next rfl (part_turn hx (h := 0) (.inl rfl) (h' := 1) (by simp) (by omega)), e1]
    show loop (gPair 4 5) b_parts_of_1 (.tup [nd (k + 1 + (rowT a).length), .str [41]] :: enumL (k + 1 + (rowT a).length + 1) (signs (rowT c))) _ = _
    refine loop_next rfl ?_
    have ec : ∀ p : Nat, k + 1 + (rowT a).length = p → cut x (some ((k : Int) + 1)) (some (p : Int)) = rowT a := by
      intro p hp
      subst hp
      have e0 : (k : Int) + 1 = ((k + 1 : Nat) : Int) := by omega
      rw [e0, cut_mid, e, hk]
      show ((pre ++ (40 :: (rowT a ++ 41 :: rowT c))).take (pre.length + 1 + (rowT a).length)).drop (pre.length + 1) = _
      rw [show pre ++ (40 :: (rowT a ++ 41 :: rowT c)) = (pre ++ [40]) ++ (rowT a ++ 41 :: rowT c) by simp]
      rw [show pre.length + 1 + (rowT a).length = (pre ++ [40]).length + (rowT a).length by simp, List.take_length_add_append]
      rw [show pre.length + 1 = (pre ++ [40]).length by simp, List.drop_left]
      simp
    have hlen : F.length < lim := by
      show _ < 16777216
      omega
    have e41 : dEq (.str [41]) (.str [41]) = .ok (.bool true) := rfl
    generalize hp : k + 1 + (rowT a).length = p
    have ha : dAdd (nd p) (.int 1) = .ok (nd (p + 1)) := by
      rw [y_add]
      rfl
    have hcut : dCut (.str x) (some ((k : Int) + 1)) (some (p : Int)) = .ok (.str (rowT a)) := by
      rw [y_cutS, if_pos hll, ec p hp]
    generalize nd (p + 1) = E1 at ha ⊢
    generalize rowT a = A at hcut ⊢
    simp [-y_cutS, b_parts_of_1, e41, y_mulL small2, hcut, hlen, ha]
theorem parts_of_of {t : Tr} (hl : sz t ≤ 400) : φ_parts_of [.str (rowT t)] = .ok (.lst (((kids t).map rowT).map D.str)) := by
  have hlen := rowT_len t
  obtain ⟨x2, x3, x4, x5, e⟩ := parts_out (x := rowT t) (by omega) t 0 [] [] none none rfl rfl (Nat.le_refl _)
  rw [List.nil_append] at e
  have e : loop (gPair 4 5) b_parts_of_1 (enumL 0 (signs (rowT t))) [some (.dat (.str (rowT t))), some (.own []), some (.dat (.int 0)), some (.dat (.int 0)), none, none] = .next [some (.dat (.str (rowT t))), some (.own (((kids t).map rowT).map D.str)), x2, x3, x4, x5] := e
  generalize ((kids t).map rowT).map D.str = R at e ⊢
  refine run_of (g := g_parts_of) ?_
  simp [g_parts_of, e]
end
end Bk
end
/-! BkTree2 -/
section
set_option linter.all false
set_option autoImplicit false
set_option maxRecDepth 100000
/-! BkTree2: forests, trees, rows of them, mirrored; the law's own -/
namespace Bk
theorem limA {n : Nat} (h : n ≤ 1000) : n ≤ lim := by
  show _ ≤ 16777216
  omega
theorem sum_kids : ∀ t, ((kids t).map sz).sum + (kids t).length = sz t
  | .leaf => rfl
  | .node a b => by
    have := sum_kids b
    show ((a :: kids b).map sz).sum + (a :: kids b).length = sz a + sz b + 1
    rw [List.map_cons, List.sum_cons, List.length_cons]
    omega
/-- forest_of -/
theorem forest_of_of : ∀ (f : Nat) (t : Tr), sz t < f → sz t ≤ 400 → φ_forest_of f [.str (rowT t)] = .ok (.tup (forT t))
  | 0, t, h, _ => absurd h (Nat.not_lt_zero _)
  | f + 1, t, h, hl => by
    have hp := parts_of_of (t := t) hl
    have hc : c_forest_of_1 (φ_forest_of f) [some (.dat (.str (rowT t))), none] = .ok (.lst (forT t)) := by
      refine eComp_of (ds := ((kids t).map rowT).map D.str) ?_ ?_ ?_
      · generalize ((kids t).map rowT).map D.str = L at hp
        simp [hp]
      · rw [List.length_map, List.length_map]
        exact limA (Nat.le_trans (kids_len t) (by omega))
      · rw [List.map_map, forT_eq]
        refine comp_list (fun a => D.str (rowT a)) (fun a => D.tup (forT a)) (kids t) fun a ha => ?_
        have := kids_sz t a ha
        have ih := forest_of_of f a (by omega) (by omega)
        exact ⟨_, rfl, rfl, by simp [ih]⟩
    refine run_of (g := g_forest_of (φ_forest_of f)) ?_
    simp [g_forest_of, hc]
/-- tree_of -/
theorem tree_of_of : ∀ (f : Nat) (t : Tr), sz t < f → sz t ≤ 400 → φ_tree_of f [.str (rowT t)] = .ok (treeD t)
  | 0, t, h, _ => absurd h (Nat.not_lt_zero _)
  | f + 1, .leaf, h, hl => rfl
  | f + 1, .node a b, h, hl => by
    have h : sz a + sz b + 1 < f + 1 := h
    have hl' : sz a + sz b + 1 ≤ 400 := hl
    have hp := parts_of_of (t := .node a b) hl
    have hp : φ_parts_of [.str (rowT (.node a b))] = .ok (.lst (.str (rowT a) :: ((kids b).map rowT).map D.str)) := hp
    have i1 := tree_of_of f a (by omega) (by omega)
    have i2 := tree_of_of f b (by omega) (by omega)
    have hlen := rowT_len (.node a b)
    have hlen : (rowT (.node a b)).length = 2 * (sz a + sz b + 1) := hlen
    have hla := rowT_len a
    have pl : plainS (rowT (.node a b)) = true := brack_plain (whole_iff.mp (rowT_whole _)).1
    have e1 : dEq (.str (rowT (.node a b))) (.str []) = .ok (.bool false) := by
      rw [y_eqS pl rfl (limA (by omega)) (limA (by simp))]
      rfl
    have e2 : at? (D.str (rowT a) :: ((kids b).map rowT).map D.str) (0 : Int) = some (.str (rowT a)) := at_zero
    have e3 : bLen (.str (rowT a)) = .ok (nd (rowT a).length) := by
      rw [y_lenS, if_pos (limA (by omega))]
    have e4 : dAdd (nd (rowT a).length) (.int 2) = .ok (nd ((rowT a).length + 2)) := by
      rw [y_add]
      rfl
    have e5 : dCut (.str (rowT (.node a b))) (some (((rowT a).length + 2 : Nat) : Int)) none = .ok (.str (rowT b)) := by
      rw [y_cutS, if_pos (limA (by omega)), cut_from]
      show Res.ok (D.str ((40 :: (rowT a ++ 41 :: rowT b)).drop ((rowT a).length + 2))) = _
      rw [show (40 :: (rowT a ++ 41 :: rowT b)) = (40 :: rowT a ++ [41]) ++ rowT b by simp]
      rw [show (rowT a).length + 2 = (40 :: rowT a ++ [41]).length by simp, List.drop_left]
    refine run_of (g := g_tree_of (φ_tree_of f)) ?_
    show _ = Out.ret (.tup [treeD a, treeD b])
    generalize hn : (rowT a).length + 2 = m at e4 e5
    generalize (rowT a).length = m0 at e3 e4
    generalize rowT (.node a b) = R at hp e1 e5 ⊢
    generalize ((kids b).map rowT).map D.str = L at hp e2
    generalize rowT a = A at hp e2 e3 i1
    generalize rowT b = B at e5 i2
    simp [-y_lenS, -y_cutS, g_tree_of, e1, hp, e2, i1, e3, e4, e5, i2]
/-- row_by_forest -/
theorem flat_rows : ∀ t, ((kids t).map fun a => 40 :: rowT a ++ [41]).flatten = rowT t
  | .leaf => rfl
  | .node a b => by
    show ((40 :: rowT a ++ [41]) :: (kids b).map fun a => 40 :: rowT a ++ [41]).flatten = 40 :: (rowT a ++ 41 :: rowT b)
    rw [List.flatten_cons, flat_rows b]
    simp
theorem lenSum_flat (l : List (List Nat)) : lenSum l = l.flatten.length := by
  induction l with
  | nil => rfl
  | cons x r ih =>
    rw [List.flatten_cons, List.length_append, ← ih]
    rfl
theorem row_by_forest_of : ∀ (f : Nat) (t : Tr), sz t < f → sz t ≤ 400 → φ_row_by_forest f [.tup (forT t)] = .ok (.str (rowT t))
  | 0, t, h, _ => absurd h (Nat.not_lt_zero _)
  | f + 1, t, h, hl => by
    have hc : c_row_by_forest_1 (φ_row_by_forest f) [some (.dat (.tup (forT t))), none] = .ok (.lst (((kids t).map fun a => 40 :: rowT a ++ [41]).map D.str)) := by
      refine eComp_of (ds := forT t) rfl ?_ ?_
      · rw [forT_eq, List.length_map]
        exact limA (Nat.le_trans (kids_len t) (by omega))
      · rw [forT_eq, List.map_map]
        refine comp_list (fun a => D.tup (forT a)) (fun a => D.str (40 :: rowT a ++ [41])) (kids t) fun a ha => ?_
        have hk := kids_sz t a ha
        have ih := row_by_forest_of f a (by omega) (by omega)
        have hla := rowT_len a
        have l1 : 1 + (rowT a).length ≤ lim := limA (by omega)
        have a1 : dAdd (.str [40]) (.str (rowT a)) = .ok (.str (40 :: rowT a)) := if_pos l1
        have a2 : dAdd (.str (40 :: rowT a)) (.str [41]) = .ok (.str (40 :: rowT a ++ [41])) := if_pos (limA (by
          show (rowT a).length + 1 + 1 ≤ 1000
          omega))
        refine ⟨_, rfl, rfl, ?_⟩
        generalize 40 :: rowT a ++ [41] = Y at a2 ⊢
        generalize 40 :: rowT a = Z at a1 a2
        simp [-y_addS, ih, a1, a2]
    have hj : dJoin (.str []) (.lst (((kids t).map fun a => 40 :: rowT a ++ [41]).map D.str)) = .ok (.str (rowT t)) := by
      rw [dJoin_map, joinS_nil, flat_rows]
      rw [lenSum_flat, flat_rows, rowT_len]
      show _ + _ * 0 ≤ 16777216
      omega
    refine run_of (g := g_row_by_forest (φ_row_by_forest f)) ?_
    generalize ((kids t).map fun a => 40 :: rowT a ++ [41]).map D.str = L at hc hj
    simp [g_row_by_forest, hc, hj]
/-- row_by_tree -/
theorem row_by_tree_of : ∀ (f : Nat) (t : Tr), sz t < f → sz t ≤ 400 → φ_row_by_tree f [treeD t] = .ok (.str (rowT t))
  | 0, t, h, _ => absurd h (Nat.not_lt_zero _)
  | f + 1, .leaf, h, hl => rfl
  | f + 1, .node a b, h, hl => by
    have h : sz a + sz b + 1 < f + 1 := h
    have hl' : sz a + sz b + 1 ≤ 400 := hl
    have i1 := row_by_tree_of f a (by omega) (by omega)
    have i2 := row_by_tree_of f b (by omega) (by omega)
    have hla := rowT_len a
    have hlb := rowT_len b
    have a1 : dAdd (.str [40]) (.str (rowT a)) = .ok (.str (40 :: rowT a)) := if_pos (limA (by
      show 1 + (rowT a).length ≤ 1000
      omega))
    have a2 : dAdd (.str (40 :: rowT a)) (.str [41]) = .ok (.str (40 :: rowT a ++ [41])) := if_pos (limA (by
      show (rowT a).length + 1 + 1 ≤ 1000
      omega))
    have a3 : dAdd (.str (40 :: rowT a ++ [41])) (.str (rowT b)) = .ok (.str (40 :: (rowT a ++ 41 :: rowT b))) := by
      have : dAdd (.str (40 :: rowT a ++ [41])) (.str (rowT b)) = .ok (.str ((40 :: rowT a ++ [41]) ++ rowT b)) := if_pos (limA (by
        simp
        omega))
      rw [this]
      simp
    have n1 : dIsN (.tup [treeD a, treeD b]) .none = .ok (.bool false) := rfl
    have x1 : at? [treeD a, treeD b] (0 : Int) = some (treeD a) := rfl
    have x2 : at? [treeD a, treeD b] (1 : Int) = some (treeD b) := rfl
    refine run_of (g := g_row_by_tree (φ_row_by_tree f)) ?_
    show g_row_by_tree (φ_row_by_tree f) [some (.dat (.tup [treeD a, treeD b]))] = Out.ret (.str (40 :: (rowT a ++ 41 :: rowT b)))
    generalize 40 :: (rowT a ++ 41 :: rowT b) = Y at a3 ⊢
    generalize 40 :: rowT a ++ [41] = Z at a2 a3
    generalize 40 :: rowT a = Z2 at a1 a2
    simp [-y_addS, g_row_by_tree, n1, x1, x2, i1, i2, a1, a2, a3]
/-- mirrored -/
theorem mirrored_of : ∀ (f : Nat) (t : Tr), sz t < f → φ_mirrored f [treeD t] = .ok (treeD (mir t))
  | 0, t, h => absurd h (Nat.not_lt_zero _)
  | f + 1, .leaf, h => rfl
  | f + 1, .node a b, h => by
    have h : sz a + sz b + 1 < f + 1 := h
    have i1 := mirrored_of f a (by omega)
    have i2 := mirrored_of f b (by omega)
    have n1 : dIsN (.tup [treeD a, treeD b]) .none = .ok (.bool false) := rfl
    have x1 : at? [treeD a, treeD b] (0 : Int) = some (treeD a) := rfl
    have x2 : at? [treeD a, treeD b] (1 : Int) = some (treeD b) := rfl
    refine run_of (g := g_mirrored (φ_mirrored f)) ?_
    show g_mirrored (φ_mirrored f) [some (.dat (.tup [treeD a, treeD b]))] = Out.ret (.tup [treeD (mir b), treeD (mir a)])
    simp [g_mirrored, n1, x1, x2, i1, i2]
theorem l_mirrored_of : ∀ (f : Nat) (t : Tr), sz t < f → φ_l_mirrored f [treeD t] = .ok (treeD (mir t))
  | 0, t, h => absurd h (Nat.not_lt_zero _)
  | f + 1, .leaf, h => rfl
  | f + 1, .node a b, h => by
    have h : sz a + sz b + 1 < f + 1 := h
    have i1 := l_mirrored_of f a (by omega)
    have i2 := l_mirrored_of f b (by omega)
    have n1 : dIsN (.tup [treeD a, treeD b]) .none = .ok (.bool false) := rfl
    refine run_of (g := g_l_mirrored (φ_l_mirrored f)) ?_
    show g_l_mirrored (φ_l_mirrored f) [some (.dat (.tup [treeD a, treeD b])), none, none] = Out.ret (.tup [treeD (mir b), treeD (mir a)])
    simp [g_l_mirrored, n1, i1, i2]
theorem cut_tup1 (d : D) (ds : List D) : dCut (.tup (d :: ds)) (some 1) none = .ok (.tup ds) := by
  have hs : sl (d :: ds).length 0 (some 1) = 1 := by
    have := sl_nat (d :: ds).length 0 1
    rw [show ((1 : Nat) : Int) = 1 from rfl] at this
    rw [this, List.length_cons]
    omega
  have h : ¬ (sl (d :: ds).length 0 (some 1) = 0 ∧ sl (d :: ds).length (d :: ds).length Option.none = (d :: ds).length) := fun z => by omega
  have e : cut (d :: ds) (some 1) none = ds := cut_from (d :: ds) 1
  unfold dCut
  dsimp only
  rw [if_pos h, e]
/-- the law's own tree of a forest -/
theorem l_tree_of : ∀ (f : Nat) (t : Tr), sz t < f → φ_l_tree f [.tup (forT t)] = .ok (treeD t)
  | 0, t, h => absurd h (Nat.not_lt_zero _)
  | f + 1, .leaf, h => rfl
  | f + 1, .node a b, h => by
    have h : sz a + sz b + 1 < f + 1 := h
    have i1 := l_tree_of f a (by omega)
    have i2 := l_tree_of f b (by omega)
    have x1 : at? (D.tup (forT a) :: forT b) (0 : Int) = some (.tup (forT a)) := at_zero
    have x2 : dCut (.tup (D.tup (forT a) :: forT b)) (some 1) none = .ok (.tup (forT b)) := cut_tup1 _ _
    refine run_of (g := g_l_tree (φ_l_tree f)) ?_
    show g_l_tree (φ_l_tree f) [some (.dat (.tup (.tup (forT a) :: forT b)))] = Out.ret (.tup [treeD a, treeD b])
    simp [g_l_tree, x1, x2, i1, i2]
/-- the law's own forest -/
theorem low_pos {s : List Nat} (h : whole s = true) (k : Nat) : 0 ≤ total (s.take k) := by
  obtain ⟨h1, h2, _⟩ := whole_iff.mp h
  by_cases hk : k ≤ s.length
  · have := hts_get s 0 k hk
    have := h2 _ (List.mem_of_getElem? this)
    omega
  · rw [List.take_of_length_le (by omega)]
    rw [(whole_iff.mp h).2.2]
    exact Int.le_refl 0
section
variable {z0 z1 z2 z3 : Option S}
theorem find_end {a b : Tr} (hl : sz a + sz b + 1 ≤ 100) :
    whil (tE (eBin dNe (eBin dCount (eSlice (eVar 2) none (some (eVar 3))) (eC (.str [40]))) (eBin dCount (eSlice (eVar 2) none (some (eVar 3))) (eC (.str [41]))))) b_l_forest_1 1000
      [z0, z1, some (.dat (.str (rowT (.node a b)))), some (.dat (.int 1))] = .next [z0, z1, some (.dat (.str (rowT (.node a b)))), some (.dat (nd ((rowT a).length + 2)))] := by
  have hlen : (rowT (.node a b)).length = 2 * (sz a + sz b + 1) := rowT_len (.node a b)
  have hla := rowT_len a
  have hll : (rowT (.node a b)).length ≤ lim := limA (by omega)
  have hb : brack (rowT (.node a b)) = true := (whole_iff.mp (rowT_whole _)).1
  have test : ∀ k : Nat, tE (eBin dNe (eBin dCount (eSlice (eVar 2) none (some (eVar 3))) (eC (.str [40]))) (eBin dCount (eSlice (eVar 2) none (some (eVar 3))) (eC (.str [41])))) [z0, z1, some (.dat (.str (rowT (.node a b)))), some (.dat (nd k))] =
      .ok (!decide (total ((rowT (.node a b)).take k) = 0)) := fun k => by
    have hc : cut (rowT (.node a b)) none (some (k : Int)) = (rowT (.node a b)).take k := cut_to _ k
    have ht : ((rowT (.node a b)).take k).length ≤ lim := by
      rw [List.length_take]
      exact Nat.le_trans (Nat.min_le_right _ _) hll
    have c40 : dCount (.str ((rowT (.node a b)).take k)) (.str [40]) = .ok (.int (((rowT (.node a b)).take k).count 40 : Nat)) := if_pos ht
    have c41 : dCount (.str ((rowT (.node a b)).take k)) (.str [41]) = .ok (.int (((rowT (.node a b)).take k).count 41 : Nat)) := if_pos ht
    have htc := total_count (brack_take hb k)
    have e : decide ((((rowT (.node a b)).take k).count 40 : Int) = (((rowT (.node a b)).take k).count 41 : Int)) = decide (total ((rowT (.node a b)).take k) = 0) := by
      rw [htc]
      by_cases q : (((rowT (.node a b)).take k).count 40 : Int) = (((rowT (.node a b)).take k).count 41 : Int)
      · rw [decide_eq_true q, decide_eq_true (by omega)]
      · rw [decide_eq_false q, decide_eq_false (by omega)]
    rw [← e]
    have hne : dNe (.int (((rowT (.node a b)).take k).count 40 : Nat)) (.int (((rowT (.node a b)).take k).count 41 : Nat)) = .ok (.bool (!decide ((((rowT (.node a b)).take k).count 40 : Int) = (((rowT (.node a b)).take k).count 41 : Int)))) := y_neI
    generalize (D.int (((rowT (.node a b)).take k).count 40 : Nat)) = C40 at c40 hne
    generalize (D.int (((rowT (.node a b)).take k).count 41 : Nat)) = C41 at c41 hne
    generalize (!decide ((((rowT (.node a b)).take k).count 40 : Int) = (((rowT (.node a b)).take k).count 41 : Int))) = Q at hne ⊢
    simp [hll, hc, c40, c41, hne]
  have key := whil_up (t := tE (eBin dNe (eBin dCount (eSlice (eVar 2) none (some (eVar 3))) (eC (.str [40]))) (eBin dCount (eSlice (eVar 2) none (some (eVar 3))) (eC (.str [41]))))) (b := b_l_forest_1)
    (fun k => [z0, z1, some (.dat (.str (rowT (.node a b)))), some (.dat (nd k))]) ((rowT a).length + 1) 1 1000 (by omega) (fun i h1 h2 => by
      refine ⟨?_, ?_⟩
      · show tE _ [z0, z1, some (.dat (.str (rowT (.node a b)))), some (.dat (nd i))] = _
        rw [test]
        have ht : total ((rowT (.node a b)).take i) ≠ 0 := by
          obtain ⟨j, rfl⟩ : ∃ j, i = j + 1 := ⟨i - 1, by omega⟩
          show total ((40 :: (rowT a ++ 41 :: rowT b)).take (j + 1)) ≠ 0
          rw [List.take_succ_cons, total_cons, List.take_append_of_le_length (by omega)]
          have := low_pos (rowT_whole a) j
          have h40 : up 40 = 1 := rfl
          omega
        rw [decide_eq_false ht]
        rfl
      · show b_l_forest_1 [z0, z1, some (.dat (.str (rowT (.node a b)))), some (.dat (nd i))] = .next [z0, z1, some (.dat (.str (rowT (.node a b)))), some (.dat (nd (i + 1)))]
        rfl) (by
      show tE _ [z0, z1, some (.dat (.str (rowT (.node a b)))), some (.dat (nd (1 + ((rowT a).length + 1))))] = _
      rw [test]
      have ht : total ((rowT (.node a b)).take (1 + ((rowT a).length + 1))) = 0 := by
        show total ((40 :: (rowT a ++ 41 :: rowT b)).take (1 + ((rowT a).length + 1))) = 0
        rw [show (40 :: (rowT a ++ 41 :: rowT b)) = (40 :: rowT a ++ [41]) ++ rowT b by simp]
        rw [show 1 + ((rowT a).length + 1) = (40 :: rowT a ++ [41]).length by simp; omega, List.take_left]
        exact whole_total (whole_pair (rowT_whole a))
      rw [decide_eq_true ht]
      rfl)
  have e : 1 + ((rowT a).length + 1) = (rowT a).length + 2 := by omega
  rw [e] at key
  exact key
theorem l_forest_turns {f : Nat} (ih : ∀ t : Tr, sz t < f → sz t ≤ 100 → φ_l_forest f [.str (rowT t)] = .ok (.tup (forT t))) :
    ∀ (t : Tr) (n : Nat) (acc : List D) (z3 : Option S), sz t ≤ f → sz t ≤ 100 → sz t < n → acc.length + sz t ≤ 1000 → ∃ x3, whil (tV (eVar 2)) (b_l_forest_2 (φ_l_forest f)) n [z0, some (.own acc), some (.dat (.str (rowT t))), z3] = .next [z0, some (.own (acc ++ forT t)), some (.dat (.str [])), x3]
  | .leaf, n + 1, acc, z3, _, _, _, _ => ⟨z3, by
      show _ = Out.next [z0, some (.own (acc ++ [])), some (.dat (.str [])), z3]
      rw [List.append_nil]
      rfl⟩
  | .node a b, n + 1, acc, z3, h1, h2, h3, h4 => by
    have h1 : sz a + sz b + 1 ≤ f := h1
    have h2 : sz a + sz b + 1 ≤ 100 := h2
    have h3 : sz a + sz b + 1 < n + 1 := h3
    have h4 : acc.length + (sz a + sz b + 1) ≤ 1000 := h4
    obtain ⟨x3, e⟩ := l_forest_turns ih b n (acc ++ [.tup (forT a)]) (some (.dat (nd ((rowT a).length + 2)))) (by omega) (by omega) (by omega) (by
      rw [List.length_append, List.length_singleton]
      omega)
    refine ⟨x3, ?_⟩
    have hlen : (rowT (.node a b)).length = 2 * (sz a + sz b + 1) := rowT_len (.node a b)
    have hla := rowT_len a
    have hll : (rowT (.node a b)).length ≤ lim := limA (by omega)
    have hF : acc ++ forT (.node a b) = acc ++ [.tup (forT a)] ++ forT b := by
      show acc ++ (.tup (forT a) :: forT b) = _
      simp
    rw [hF, ← e]
    show outOf (tV (eVar 2) [z0, some (.own acc), some (.dat (.str (rowT (.node a b)))), z3]) _ = _
    have ht : tV (eVar 2) [z0, some (.own acc), some (.dat (.str (rowT (.node a b)))), z3] = .ok true := by
      show (dTruth (.str (rowT (.node a b)))) = _
      rw [y_truS, if_pos hll]
      rfl
    rw [ht, outOf_ok, if_pos rfl]
    have hi := ih a (by omega) (by omega)
    have hE := find_end (z0 := z0) (z1 := some (.own acc)) (a := a) (b := b) h2
    have hs : dSub (nd ((rowT a).length + 2)) (.int 1) = .ok (nd ((rowT a).length + 1)) := by
      rw [y_sub]
      congr 2
      omega
    have e5 : dCut (.str (rowT (.node a b))) (some (((rowT a).length + 2 : Nat) : Int)) none = .ok (.str (rowT b)) := by
      rw [y_cutS, if_pos (limA (by omega)), cut_from]
      show Res.ok (D.str ((40 :: (rowT a ++ 41 :: rowT b)).drop ((rowT a).length + 2))) = _
      rw [show (40 :: (rowT a ++ 41 :: rowT b)) = (40 :: rowT a ++ [41]) ++ rowT b by simp]
      rw [show (rowT a).length + 2 = (40 :: rowT a ++ [41]).length by simp, List.drop_left]
    have e6 : dCut (.str (rowT (.node a b))) (some 1) (some (((rowT a).length + 1 : Nat) : Int)) = .ok (.str (rowT a)) := by
      rw [y_cutS, if_pos (limA (by omega)), show (1 : Int) = ((1 : Nat) : Int) from rfl, cut_mid]
      show Res.ok (D.str (((40 :: (rowT a ++ 41 :: rowT b)).take ((rowT a).length + 1)).drop 1)) = _
      rw [List.take_succ_cons, List.take_left]
      rfl
    have hac : acc.length < lim := by
      show _ < 16777216
      omega
    have hbody : b_l_forest_2 (φ_l_forest f) [z0, some (.own acc), some (.dat (.str (rowT (.node a b)))), z3] = .next [z0, some (.own (acc ++ [.tup (forT a)])), some (.dat (.str (rowT b))), some (.dat (nd ((rowT a).length + 2)))] := by
      generalize (rowT a).length + 2 = m2 at hE hs e5 ⊢
      generalize (rowT a).length + 1 = m1 at hs e6
      generalize rowT (.node a b) = R at hE e5 e6 ⊢
      generalize rowT a = A at hi e6
      generalize rowT b = B at e5 ⊢
      simp [-y_cutS, b_l_forest_2, sWhile, hE, hs, e6, hi, hac, e5]
    rw [hbody]
theorem l_forest_of : ∀ (f : Nat) (t : Tr), sz t < f → sz t ≤ 100 → φ_l_forest f [.str (rowT t)] = .ok (.tup (forT t))
  | 0, t, h, _ => absurd h (Nat.not_lt_zero _)
  | f + 1, t, h, hl => by
    obtain ⟨x3, e⟩ := l_forest_turns (z0 := some (.dat (.str (rowT t)))) (f := f) (fun a ha hb => l_forest_of f a ha hb) t 1000 [] none (by omega) hl (by omega) (by simp; omega)
    refine run_of (g := g_l_forest (φ_l_forest f)) ?_
    rw [List.nil_append] at e
    simp [g_l_forest, sWhile, e]
end
end Bk
end
/-! BkTups -/
section
set_option linter.all false
set_option autoImplicit false
set_option maxRecDepth 100000
/-! BkTups: tuples of numbers: how they are compared and sorted -/
namespace Bk
def tupN (l : List Nat) : D := .tup (l.map nd)
theorem eqv_nd (a b : Nat) : D.eqv (nd a) (nd b) = decide (a = b) := by
  show D.eqv (.int a) (.int b) = _
  unfold D.eqv
  by_cases h : a = b
  · subst h; simp
  · have : ¬ (a : Int) = (b : Int) := by omega
    simp [h, this]
theorem lt_nd (a b : Nat) : D.lt (nd a) (nd b) = decide (a < b) := by
  show D.lt (.int a) (.int b) = _
  unfold D.lt
  by_cases h : a < b
  · have : (a : Int) < (b : Int) := by omega
    simp [h, this]
  · have : ¬ (a : Int) < (b : Int) := by omega
    simp [h, this]
theorem ltAll_nd : ∀ (a b : List Nat), D.ltAll (a.map nd) (b.map nd) = decide (a < b)
  | [], [] => by simp [D.ltAll]
  | [], _ :: _ => by simp [D.ltAll]
  | _ :: _, [] => by simp [D.ltAll]
  | x :: xs, y :: ys => by
    rw [List.map_cons, List.map_cons, D.ltAll, eqv_nd, lt_nd, ltAll_nd xs ys]
    by_cases h : x = y
    · subst h
      simp [List.cons_lt_cons_iff]
    · simp [h, List.cons_lt_cons_iff]
theorem eqvAll_nd : ∀ (a b : List Nat), D.eqvAll (a.map nd) (b.map nd) = decide (a = b)
  | [], [] => by simp [D.eqvAll]
  | [], _ :: _ => by simp [D.eqvAll]
  | _ :: _, [] => by simp [D.eqvAll]
  | x :: xs, y :: ys => by
    rw [List.map_cons, List.map_cons, D.eqvAll, eqv_nd, eqvAll_nd xs ys]
    by_cases h : x = y <;> simp [h]
theorem le_tupN (a b : List Nat) : D.le (tupN a) (tupN b) = !decide (b < a) := by
  unfold D.le tupN D.lt
  rw [ltAll_nd]
theorem eqv_tupN (a b : List Nat) : D.eqv (tupN a) (tupN b) = decide (a = b) := by
  unfold tupN D.eqv
  rw [eqvAll_nd]
theorem alikeAll_nd : ∀ (a b : List Nat), D.alikeAll (a.map nd) (b.map nd) = true
  | [], _ => by simp [D.alikeAll]
  | _ :: _, [] => by simp [D.alikeAll]
  | x :: xs, y :: ys => by
    rw [List.map_cons, List.map_cons, D.alikeAll, alikeAll_nd xs ys]
    rfl
theorem cmpAll_nd (n : Nat) : ∀ (a : List Nat), D.cmpAll n (a.map nd) = true
  | [] => by unfold D.cmpAll; rfl
  | x :: xs => by
    rw [List.map_cons, D.cmpAll, cmpAll_nd n xs]
    cases n <;> unfold D.cmp <;> rfl
theorem cmp_tupN (n : Nat) (a : List Nat) : D.cmp (n + 1) (tupN a) = true := by
  unfold tupN D.cmp
  exact cmpAll_nd n a
theorem cmpAll_tupN (n : Nat) : ∀ (a : List (List Nat)), D.cmpAll (n + 1) (a.map tupN) = true
  | [] => by unfold D.cmpAll; rfl
  | x :: xs => by rw [List.map_cons, D.cmpAll, cmpAll_tupN n xs, cmp_tupN]; rfl
theorem eqvAll_tupN : ∀ (a b : List (List Nat)), D.eqvAll (a.map tupN) (b.map tupN) = decide (a = b)
  | [], [] => by simp [D.eqvAll]
  | [], _ :: _ => by simp [D.eqvAll]
  | _ :: _, [] => by simp [D.eqvAll]
  | x :: xs, y :: ys => by
    rw [List.map_cons, List.map_cons, D.eqvAll, eqv_tupN, eqvAll_tupN xs ys]
    by_cases h : x = y <;> simp [h]
abbrev leN (a b : List Nat) : Bool := !decide (b < a)
theorem sort_tups {l : List (List Nat)} (h1 : ∀ s ∈ l, s ≠ []) (h2 : l.length ≤ 1000) : sortable (l.map tupN) = true ∧ (l.map tupN).mergeSort D.le = (l.mergeSort leN).map tupN := by
  refine ⟨?_, ?_⟩
  · unfold sortable
    rw [Bool.and_eq_true, Bool.and_eq_true, Bool.and_eq_true]
    refine ⟨⟨⟨?_, ?_⟩, ?_⟩, ?_⟩
    · rw [List.all_eq_true]
      intro a ha
      rw [List.all_eq_true]
      intro b hb
      rw [List.mem_map] at ha hb
      obtain ⟨x, _, rfl⟩ := ha
      obtain ⟨y, _, rfl⟩ := hb
      exact alikeAll_nd x y
    · rw [Bool.or_eq_true]
      left
      rw [List.all_eq_true]
      intro a ha
      rw [List.mem_map] at ha
      obtain ⟨x, hx, rfl⟩ := ha
      cases x with
      | nil => exact absurd rfl (h1 _ hx)
      | cons c r => rfl
    · rw [List.all_eq_true]
      intro a ha
      rw [List.mem_map] at ha
      obtain ⟨x, hx, rfl⟩ := ha
      exact cmp_tupN 7 x
    · rw [List.length_map]
      refine decide_eq_true (Nat.le_trans h2 ?_)
      show 1000 ≤ 16777216
      omega
  · rw [List.map_mergeSort (r := leN) (s := D.le) fun a _ b _ => (le_tupN a b).symm]
theorem bSorted_tupsL {l : List (List Nat)} (h1 : ∀ s ∈ l, s ≠ []) (h2 : l.length ≤ 1000) : bSorted (.lst (l.map tupN)) = .ok (.lst ((l.mergeSort leN).map tupN)) := by
  show (if sortable (l.map tupN) = true then Res.ok (D.lst ((l.map tupN).mergeSort D.le)) else .bad) = _
  rw [if_pos (sort_tups h1 h2).1, (sort_tups h1 h2).2]
theorem bSorted_tupsT {l : List (List Nat)} (h1 : ∀ s ∈ l, s ≠ []) (h2 : l.length ≤ 1000) : bSorted (.tup (l.map tupN)) = .ok (.lst ((l.mergeSort leN).map tupN)) := by
  show (if sortable (l.map tupN) = true then Res.ok (D.lst ((l.map tupN).mergeSort D.le)) else .bad) = _
  rw [if_pos (sort_tups h1 h2).1, (sort_tups h1 h2).2]
theorem leN_anti {a b : List Nat} (h1 : leN a b = true) (h2 : leN b a = true) : a = b := by
  rw [Bool.not_eq_true', decide_eq_false_iff_not, List.not_lt] at h1 h2
  exact List.le_antisymm h1 h2
theorem merge_perm {l m : List (List Nat)} (h : l.Perm m) : l.mergeSort leN = m.mergeSort leN :=
  List.Perm.eq_of_pairwise (fun a b _ _ h1 h2 => leN_anti h1 h2) (List.pairwise_mergeSort le_trans' le_total' l) (List.pairwise_mergeSort le_trans' le_total' m)
    ((List.mergeSort_perm l _).trans (h.trans (List.mergeSort_perm m _).symm))
theorem merge_same {l m : List (List Nat)} (h : l.Perm m) (hs : m.Pairwise fun a b => leN a b = true) : l.mergeSort leN = m :=
  List.Perm.eq_of_pairwise (fun a b _ _ h1 h2 => leN_anti h1 h2) (List.pairwise_mergeSort le_trans' le_total' l) hs ((List.mergeSort_perm l _).trans h)
end Bk
end
/-! BkCut -/
section
set_option linter.all false
set_option autoImplicit false
set_option maxRecDepth 100000
/-! BkCut: the threes of a tree -/
namespace Bk
abbrev N3 := Nat × Nat × Nat
def t3 (p : N3) : List Nat := [p.1, p.2.1, p.2.2]
def d3 (p : N3) : D := tupN (t3 p)
def thr : Tr → Nat → List N3
  | .leaf, _ => []
  | .node a b, x => (x, x + 1 + sz a, x + sz a + sz b + 2) :: (thr a x ++ thr b (x + 1 + sz a))
theorem thr_len : ∀ t x, (thr t x).length = sz t
  | .leaf, _ => rfl
  | .node a b, x => by
    rw [thr, List.length_cons, List.length_append, thr_len a, thr_len b]
    rfl
theorem thr_in : ∀ t x, ∀ p ∈ thr t x, x ≤ p.1 ∧ p.1 < p.2.1 ∧ p.2.1 < p.2.2 ∧ p.2.2 ≤ x + sz t + 1
  | .leaf, _, _, h => nomatch h
  | .node a b, x, p, h => by
    rw [thr, List.mem_cons, List.mem_append] at h
    have hs : sz (.node a b) = sz a + sz b + 1 := rfl
    rcases h with rfl | h | h
    · simp only
      omega
    · have := thr_in a x p h
      omega
    · have := thr_in b _ p h
      omega
def key (p : N3) : Nat × Nat := (p.1, p.2.2)
theorem thr_keys : ∀ t x, ((thr t x).map key).Nodup
  | .leaf, _ => List.nodup_nil
  | .node a b, x => by
    rw [thr, List.map_cons, List.nodup_cons, List.map_append, List.nodup_append]
    refine ⟨?_, thr_keys a x, thr_keys b _, ?_⟩
    · rw [List.mem_append, List.mem_map, List.mem_map]
      rintro (⟨p, hp, e⟩ | ⟨p, hp, e⟩)
      · have := thr_in a x p hp
        simp only [key, Prod.mk.injEq] at e
        omega
      · have := thr_in b _ p hp
        simp only [key, Prod.mk.injEq] at e
        omega
    · intro u hu v hv e
      rw [List.mem_map] at hu hv
      obtain ⟨p, hp, rfl⟩ := hu
      obtain ⟨q, hq, e2⟩ := hv
      have h1 := thr_in a x p hp
      have h2 := thr_in b _ q hq
      subst e
      simp only [key, Prod.mk.injEq] at e2
      omega
theorem one_key {L C : List N3} (hn : (L.map key).Nodup) (hc : C.Perm L) {q : N3} (hq : q ∈ L) : C.filter (fun p => key p == key q) = [q] := by
  have h1 : (C.filter (fun p => key p == key q)).Perm (L.filter (fun p => key p == key q)) := hc.filter _
  have h2 : L.filter (fun p => key p == key q) = [q] := by
    clear h1 hc
    induction L with
    | nil => cases hq
    | cons p r ih =>
      rw [List.map_cons, List.nodup_cons] at hn
      rw [List.mem_cons] at hq
      rcases hq with rfl | hq
      · rw [List.filter_cons_of_pos (by simp)]
        congr 1
        rw [List.filter_eq_nil_iff]
        intro a ha
        rw [beq_iff_eq]
        intro e
        exact hn.1 (List.mem_map.mpr ⟨a, ha, e⟩)
      · rw [List.filter_cons_of_neg]
        · exact ih hn.2 hq
        · rw [beq_iff_eq]
          intro e
          exact hn.1 (List.mem_map.mpr ⟨q, hq, e.symm⟩)
  rw [h2] at h1
  exact List.perm_singleton.mp h1
/-! the mirrored tree -/
def rev3 (s : Nat) (p : N3) : N3 := (s - p.2.2, s - p.2.1, s - p.1)
theorem thr_mir : ∀ t x y, (thr (mir t) x).Perm ((thr t y).map (rev3 (x + y + sz t + 1)))
  | .leaf, _, _ => List.Perm.refl _
  | .node a b, x, y => by
    show ((x, x + 1 + sz (mir b), x + sz (mir b) + sz (mir a) + 2) :: (thr (mir b) x ++ thr (mir a) (x + 1 + sz (mir b)))).Perm (((y, y + 1 + sz a, y + sz a + sz b + 2) :: (thr a y ++ thr b (y + 1 + sz a))).map (rev3 (x + y + (sz a + sz b + 1) + 1)))
    rw [sz_mir, sz_mir, List.map_cons, List.map_append]
    have h1 := thr_mir a (x + 1 + sz b) y
    have h2 := thr_mir b x (y + 1 + sz a)
    rw [show x + 1 + sz b + y + sz a + 1 = x + y + (sz a + sz b + 1) + 1 by omega] at h1
    rw [show x + (y + 1 + sz a) + sz b + 1 = x + y + (sz a + sz b + 1) + 1 by omega] at h2
    have e : rev3 (x + y + (sz a + sz b + 1) + 1) (y, y + 1 + sz a, y + sz a + sz b + 2) = (x, x + 1 + sz b, x + sz b + sz a + 2) := by
      simp only [rev3, Prod.mk.injEq]
      omega
    rw [e]
    exact List.Perm.cons _ ((h2.append h1).trans List.perm_append_comm)
/-! sides -/
def sides3 (p : N3) : List (Nat × Nat) := [(p.1, p.2.1), (p.2.1, p.2.2), (p.1, p.2.2)]
def es : Tr → Nat → List (Nat × Nat)
  | .leaf, x => [(x, x + 1)]
  | .node a b, x => (x, x + sz a + sz b + 2) :: (x, x + sz a + sz b + 2) :: (es a x ++ es b (x + 1 + sz a))
theorem es_in : ∀ t x, ∀ p ∈ es t x, x ≤ p.1 ∧ p.1 < p.2 ∧ p.2 ≤ x + sz t + 1
  | .leaf, x, p, h => by
    rw [es, List.mem_singleton] at h
    subst h
    simp only [sz]
    omega
  | .node a b, x, p, h => by
    have hs : sz (.node a b) = sz a + sz b + 1 := rfl
    rw [es, List.mem_cons, List.mem_cons, List.mem_append] at h
    rcases h with rfl | rfl | h | h
    · simp only
      omega
    · simp only
      omega
    · have := es_in a x p h
      omega
    · have := es_in b _ p h
      omega
theorem es_perm : ∀ t x, ((x, x + sz t + 1) :: (thr t x).flatMap sides3).Perm (es t x)
  | .leaf, x => List.Perm.refl _
  | .node a b, x => by
    have h1 := es_perm a x
    have h2 := es_perm b (x + 1 + sz a)
    rw [thr, es, List.flatMap_cons, List.flatMap_append, sides3]
    show ((x, x + (sz a + sz b + 1) + 1) :: ((x, x + 1 + sz a) :: (x + 1 + sz a, x + sz a + sz b + 2) :: (x, x + sz a + sz b + 2) :: ((thr a x).flatMap sides3 ++ (thr b (x + 1 + sz a)).flatMap sides3))).Perm _
    rw [show x + (sz a + sz b + 1) + 1 = x + sz a + sz b + 2 by omega]
    refine List.Perm.cons _ ?_
    have e1 : x + sz a + 1 = x + 1 + sz a := by omega
    have e2 : x + 1 + sz a + sz b + 1 = x + sz a + sz b + 2 := by omega
    rw [e1] at h1
    rw [e2] at h2
    generalize (thr a x).flatMap sides3 = A at h1 ⊢
    generalize (thr b (x + 1 + sz a)).flatMap sides3 = B at h2 ⊢
    generalize es a x = EA at h1 ⊢
    generalize es b (x + 1 + sz a) = EB at h2 ⊢
    have h3 : (((x, x + 1 + sz a) :: A) ++ ((x + 1 + sz a, x + sz a + sz b + 2) :: B)).Perm (EA ++ EB) := h1.append h2
    refine List.Perm.trans ?_ (List.Perm.cons _ h3)
    generalize (x, x + 1 + sz a) = p
    generalize (x + 1 + sz a, x + sz a + sz b + 2) = q
    generalize (x, x + sz a + sz b + 2) = r
    have : (p :: q :: r :: (A ++ B)).Perm (r :: p :: q :: (A ++ B)) := by
      refine List.Perm.trans (List.Perm.cons p (List.Perm.swap r q _)) ?_
      exact List.Perm.swap r p _
    refine this.trans (List.Perm.cons r (List.Perm.cons p ?_))
    exact (List.perm_middle (a := q) (l₁ := A) (l₂ := B)).symm
theorem es_count : ∀ t x u v, (v = u + 1 → (es t x).count (u, v) = if x ≤ u ∧ u ≤ x + sz t then 1 else 0) ∧ (v ≠ u + 1 → (es t x).count (u, v) = 0 ∨ (es t x).count (u, v) = 2)
  | .leaf, x, u, v => by
    rw [es, List.count_singleton]
    refine ⟨fun h => ?_, fun h => ?_⟩
    · subst h
      by_cases h : u = x
      · subst h; simp [sz]
      · have hne : ((x, x + 1) == (u, u + 1)) = false := by
          rw [beq_eq_false_iff_ne]
          simp only [ne_eq, Prod.mk.injEq]
          omega
        rw [hne, if_neg Bool.false_ne_true, if_neg (by simp only [sz]; omega)]
    · left
      have : ¬ (x = u ∧ x + 1 = v) := by omega
      simp
      omega
  | .node a b, x, u, v => by
    obtain ⟨a1, a2⟩ := es_count a x u v
    obtain ⟨b1, b2⟩ := es_count b (x + 1 + sz a) u v
    have hs : sz (.node a b) = sz a + sz b + 1 := rfl
    rw [es, List.count_cons, List.count_cons, List.count_append]
    refine ⟨fun h => ?_, fun h => ?_⟩
    · have hne : ((x, x + sz a + sz b + 2) == (u, v)) = false := by
        rw [beq_eq_false_iff_ne]
        simp only [ne_eq, Prod.mk.injEq]
        omega
      rw [a1 h, b1 h, hne, hs]
      simp only [Bool.false_eq_true, if_false]
      by_cases c1 : x ≤ u ∧ u ≤ x + sz a
      · rw [if_pos c1, if_neg (by omega), if_pos (by omega)]
      · rw [if_neg c1]
        by_cases c2 : x + 1 + sz a ≤ u ∧ u ≤ x + 1 + sz a + sz b
        · rw [if_pos c2, if_pos (by omega)]
        · rw [if_neg c2, if_neg (by omega)]
    · have ka : (es a x).count (u, v) ≠ 0 → x ≤ u ∧ u < v ∧ v ≤ x + sz a + 1 := fun hc => es_in a x (u, v) (List.count_pos_iff.mp (by omega))
      have kb : (es b (x + 1 + sz a)).count (u, v) ≠ 0 → x + 1 + sz a ≤ u ∧ u < v ∧ v ≤ x + 1 + sz a + sz b + 1 := fun hc => es_in b _ (u, v) (List.count_pos_iff.mp (by omega))
      have a3 := a2 h
      have b3 := b2 h
      by_cases hq : (x, x + sz a + sz b + 2) = (u, v)
      · have hq2 := hq
        simp only [Prod.mk.injEq] at hq
        rw [beq_iff_eq.mpr hq2]
        simp only [if_true]
        omega
      · have hne : ((x, x + sz a + sz b + 2) == (u, v)) = false := by
          rw [beq_eq_false_iff_ne]
          exact hq
        rw [hne]
        simp only [Bool.false_eq_true, if_false]
        omega
theorem es_flat : ∀ t x, ∀ p ∈ es t x, ∀ q ∈ es t x, ¬ (p.1 < q.1 ∧ q.1 < p.2 ∧ p.2 < q.2)
  | .leaf, x, p, hp, q, hq => by
    rw [es, List.mem_singleton] at hp hq
    subst hp hq
    simp only
    omega
  | .node a b, x, p, hp, q, hq => by
    have kp := es_in _ x p hp
    have kq := es_in _ x q hq
    have hs : sz (.node a b) = sz a + sz b + 1 := rfl
    rw [es, List.mem_cons, List.mem_cons, List.mem_append] at hp hq
    rcases hp with rfl | rfl | hp | hp
    · simp only
      omega
    · simp only
      omega
    · have ka := es_in a x p hp
      rcases hq with rfl | rfl | hq | hq
      · simp only
        omega
      · simp only
        omega
      · exact es_flat a x p hp q hq
      · have kb := es_in b _ q hq
        omega
    · have ka := es_in b _ p hp
      rcases hq with rfl | rfl | hq | hq
      · simp only
        omega
      · simp only
        omega
      · have kb := es_in a _ q hq
        omega
      · exact es_flat b _ p hp q hq
/-- the sides of the whole cut -/
theorem sides_fair {t : Tr} (ht : 0 < sz t) {S : List (Nat × Nat)} (hS : S.Perm ((thr t 0).flatMap sides3)) {u v : Nat} (h : (u, v) ∈ S) : S.count (u, v) = (if v = u + 1 ∨ v - u = sz t + 1 then 1 else 2) ∧ (u < v ∧ v ≤ sz t + 1) ∧ ∀ q ∈ S, ¬ (u < q.1 ∧ q.1 < v ∧ v < q.2) := by
  have hp := es_perm t 0
  have hp2 : ((0, 0 + sz t + 1) :: S).Perm (es t 0) := (List.Perm.cons _ hS).trans hp
  have hm : ∀ q ∈ S, q ∈ es t 0 := fun q hq => hp2.mem_iff.mp (List.mem_cons_of_mem _ hq)
  have hi := es_in t 0 (u, v) (hm _ h)
  refine ⟨?_, by simp only at hi; omega, fun q hq => es_flat t 0 (u, v) (hm _ h) q (hm q hq)⟩
  have hc := hp2.count_eq (u, v)
  rw [List.count_cons] at hc
  have hpos : 0 < S.count (u, v) := List.count_pos_iff.mpr h
  obtain ⟨c1, c2⟩ := es_count t 0 u v
  simp only at hi
  by_cases h1 : v = u + 1
  · have c1 := c1 h1
    rw [if_pos (by omega)] at c1
    rw [if_pos (.inl h1)]
    omega
  · have c2 := c2 h1
    by_cases h2 : v - u = sz t + 1
    · rw [if_pos (.inr h2)]
      have e : ((0, 0 + sz t + 1) == (u, v)) = true := by
        rw [beq_iff_eq]
        simp only [Prod.mk.injEq]
        omega
      rw [e] at hc
      simp only [if_true] at hc
      omega
    · rw [if_neg (by omega)]
      have e : ((0, 0 + sz t + 1) == (u, v)) = false := by
        rw [beq_eq_false_iff_ne]
        simp only [ne_eq, Prod.mk.injEq]
        omega
      rw [e] at hc
      simp only [Bool.false_eq_true, if_false] at hc
      omega
end Bk
end
/-! BkCut2 -/
section
set_option linter.all false
set_option autoImplicit false
set_option maxRecDepth 100000
/-! BkCut2: what the defs of cuts compute -/
namespace Bk
theorem comp_listF {α : Type} {g : G} {t : T} {e : E} {η : Env} (p : α → Bool) (f v : α → D) : ∀ (xs : List α), (∀ a, a ∈ xs → ∃ η1, g (f a) η = .ok η1 ∧ t η1 = .ok (p a) ∧ (p a = true → e η1 = .ok (v a))) → comp g t e η (xs.map f) = .ok ((xs.filter p).map v)
  | [], _ => rfl
  | d :: ds, h => by
    obtain ⟨η1, h1, h2, h3⟩ := h d List.mem_cons_self
    have ih := comp_listF p f v ds fun d hd => h d (List.mem_cons_of_mem _ hd)
    show (g (f d) η).calm.bind _ = _
    rw [h1, calm_ok, bind_ok, h2, bind_ok]
    cases hp : p d with
    | true => rw [if_pos rfl, h3 hp, bind_ok, ih, bind_ok, List.filter_cons_of_pos hp, List.map_cons]
    | false => rw [if_neg Bool.false_ne_true, ih, List.filter_cons_of_neg (by rw [hp]; exact Bool.false_ne_true)]
theorem threes_of : ∀ (f : Nat) (t : Tr) (x : Nat), sz t < f → sz t ≤ 100 → φ_threes f [.str (rowT t), nd x] = .ok (.lst ((thr t x).map d3))
  | 0, t, x, h, _ => absurd h (Nat.not_lt_zero _)
  | f + 1, .leaf, x, h, hl => rfl
  | f + 1, .node a b, x, h, hl => by
    have h : sz a + sz b + 1 < f + 1 := h
    have hl' : sz a + sz b + 1 ≤ 100 := hl
    have hp := parts_of_of (t := .node a b) (by omega)
    have hp : φ_parts_of [.str (rowT (.node a b))] = .ok (.lst (.str (rowT a) :: ((kids b).map rowT).map D.str)) := hp
    have i1 := threes_of f a x (by omega) (by omega)
    have i2 := threes_of f b (x + 1 + sz a) (by omega) (by omega)
    have hlen := rowT_len (.node a b)
    have hlen : (rowT (.node a b)).length = 2 * (sz a + sz b + 1) := hlen
    have hla := rowT_len a
    have hlb := rowT_len b
    have pl : plainS (rowT (.node a b)) = true := brack_plain (whole_iff.mp (rowT_whole _)).1
    have e1 : dEq (.str (rowT (.node a b))) (.str []) = .ok (.bool false) := by
      rw [y_eqS pl rfl (limA (by omega)) (limA (by simp))]
      rfl
    have e2 : at? (D.str (rowT a) :: ((kids b).map rowT).map D.str) (0 : Int) = some (.str (rowT a)) := at_zero
    have e3 : bLen (.str (rowT a)) = .ok (nd (2 * sz a)) := by
      rw [y_lenS, if_pos (limA (by omega)), hla]
    have e6 : bLen (.str (rowT b)) = .ok (nd (2 * sz b)) := by
      rw [y_lenS, if_pos (limA (by omega)), hlb]
    have e4 : dAdd (nd (2 * sz a)) (.int 2) = .ok (nd (2 * sz a + 2)) := by
      rw [y_add]
      rfl
    have e5 : dCut (.str (rowT (.node a b))) (some ((2 * sz a + 2 : Nat) : Int)) none = .ok (.str (rowT b)) := by
      rw [y_cutS, if_pos (limA (by omega)), cut_from]
      show Res.ok (D.str ((40 :: (rowT a ++ 41 :: rowT b)).drop (2 * sz a + 2))) = _
      rw [show (40 :: (rowT a ++ 41 :: rowT b)) = (40 :: rowT a ++ [41]) ++ rowT b by simp]
      rw [show 2 * sz a + 2 = (40 :: rowT a ++ [41]).length by simp [hla], List.drop_left]
    have v1 : dDiv (nd (2 * sz a)) (.int 2) = .ok (nd (sz a)) := by
      rw [y_div (by omega) (by omega)]
      have : ((2 * sz a : Nat) : Int) / 2 = ((sz a : Nat) : Int) := by omega
      rw [this]
    have v2 : dDiv (nd (2 * sz b)) (.int 2) = .ok (nd (sz b)) := by
      rw [y_div (by omega) (by omega)]
      have : ((2 * sz b : Nat) : Int) / 2 = ((sz b : Nat) : Int) := by omega
      rw [this]
    have w1 : dAdd (nd x) (nd (sz a)) = .ok (nd (x + sz a)) := by rw [y_add, nd_add]
    have w2 : dAdd (nd (x + sz a)) (.int 1) = .ok (nd (x + 1 + sz a)) := by
      rw [y_add, show (1 : Int) = ((1 : Nat) : Int) from rfl, nd_add]
      congr 2
      omega
    have w3 : dAdd (nd (x + 1 + sz a)) (nd (sz b)) = .ok (nd (x + 1 + sz a + sz b)) := by rw [y_add, nd_add]
    have w4 : dAdd (nd (x + 1 + sz a + sz b)) (.int 1) = .ok (nd (x + sz a + sz b + 2)) := by
      rw [y_add, show (1 : Int) = ((1 : Nat) : Int) from rfl, nd_add]
      congr 2
      omega
    have la := thr_len a x
    have lb := thr_len b (x + 1 + sz a)
    have s1 : dAdd (.lst [.tup [nd x, nd (x + 1 + sz a), nd (x + sz a + sz b + 2)]]) (.lst ((thr a x).map d3)) = .ok (.lst (d3 (x, x + 1 + sz a, x + sz a + sz b + 2) :: (thr a x).map d3)) := if_pos (limA (by
      rw [List.length_map, List.length_singleton]
      omega))
    have s2 : dAdd (.lst (d3 (x, x + 1 + sz a, x + sz a + sz b + 2) :: (thr a x).map d3)) (.lst ((thr b (x + 1 + sz a)).map d3)) = .ok (.lst ((thr (.node a b) x).map d3)) := by
      have : dAdd (.lst (d3 (x, x + 1 + sz a, x + sz a + sz b + 2) :: (thr a x).map d3)) (.lst ((thr b (x + 1 + sz a)).map d3)) = .ok (.lst ((d3 (x, x + 1 + sz a, x + sz a + sz b + 2) :: (thr a x).map d3) ++ ((thr b (x + 1 + sz a)).map d3))) := if_pos (limA (by
        rw [List.length_map, List.length_cons, List.length_map]
        omega))
      rw [this, thr, List.map_cons, List.map_append]
      rfl
    refine run_of (g := g_threes (φ_threes f)) ?_
    show g_threes (φ_threes f) [some (.dat (.str (rowT (.node a b)))), some (.dat (nd x)), none, none, none] = Out.ret (.lst ((thr (.node a b) x).map d3))
    generalize (thr (.node a b) x).map d3 = Z at s2 ⊢
    generalize d3 (x, x + 1 + sz a, x + sz a + sz b + 2) = hd at s1 s2
    generalize (thr a x).map d3 = ZA at i1 s1 s2
    generalize (thr b (x + 1 + sz a)).map d3 = ZB at i2 s2
    generalize nd (x + sz a + sz b + 2) = n1 at w4 s1
    generalize nd (x + 1 + sz a + sz b) = n2 at w3 w4
    generalize nd (x + 1 + sz a) = n3 at w2 w3 s1 i2
    generalize nd (x + sz a) = n4 at w1 w2
    generalize 2 * sz a + 2 = m2 at e4 e5
    generalize nd (2 * sz a) = n5 at e3 e4 v1
    generalize nd (2 * sz b) = n6 at e6 v2
    generalize nd (sz a) = n7 at v1 w1
    generalize nd (sz b) = n8 at v2 w3
    generalize nd x = n9 at w1 s1 i1 ⊢
    generalize rowT (.node a b) = R at hp e1 e5 ⊢
    generalize ((kids b).map rowT).map D.str = L at hp e2
    generalize rowT a = A at hp e2 e3 i1
    generalize rowT b = B at e5 e6 i2
    simp [-y_lenS, -y_cutS, -y_addL, g_threes, e1, hp, e2, i1, e3, e4, e5, e6, i2, v1, v2, w1, w2, w3, w4, s1, s2]
theorem l_size_of : ∀ (f : Nat) (t : Tr), sz t < f → φ_l_size f [treeD t] = .ok (nd (sz t))
  | 0, t, h => absurd h (Nat.not_lt_zero _)
  | f + 1, .leaf, h => rfl
  | f + 1, .node a b, h => by
    have h : sz a + sz b + 1 < f + 1 := h
    have i1 := l_size_of f a (by omega)
    have i2 := l_size_of f b (by omega)
    have n1 : dIsN (.tup [treeD a, treeD b]) .none = .ok (.bool false) := rfl
    have x1 : at? [treeD a, treeD b] (0 : Int) = some (treeD a) := rfl
    have x2 : at? [treeD a, treeD b] (1 : Int) = some (treeD b) := rfl
    refine run_of (g := g_l_size (φ_l_size f)) ?_
    show g_l_size (φ_l_size f) [some (.dat (.tup [treeD a, treeD b]))] = Out.ret (nd (sz a + sz b + 1))
    simp [g_l_size, n1, x1, x2, i1, i2]
    omega
/-- the law's own threes -/
def lthr : Tr → Nat → List N3
  | .leaf, _ => []
  | .node a b, x => (lthr a x ++ lthr b (x + 1 + sz a)) ++ [(x, x + 1 + sz a, x + sz a + sz b + 2)]
theorem lthr_perm : ∀ t x, (lthr t x).Perm (thr t x)
  | .leaf, _ => List.Perm.refl _
  | .node a b, x => by
    rw [lthr, thr]
    exact List.perm_append_comm.trans (List.Perm.cons _ ((lthr_perm a x).append (lthr_perm b _)))
theorem l_threes_of : ∀ (f : Nat) (t : Tr) (x : Nat), sz t < f → sz t ≤ 25 → φ_l_threes f [treeD t, nd x, nd (x + sz t + 1)] = .ok (.lst ((lthr t x).map d3))
  | 0, t, x, h, _ => absurd h (Nat.not_lt_zero _)
  | f + 1, .leaf, x, h, hl => rfl
  | f + 1, .node a b, x, h, hl => by
    have h : sz a + sz b + 1 < f + 1 := h
    have hl' : sz a + sz b + 1 ≤ 25 := hl
    have i1 := l_threes_of f a x (by omega) (by omega)
    have i2 := l_threes_of f b (x + 1 + sz a) (by omega) (by omega)
    have i3 := l_size_of 26 a (by omega)
    rw [show x + sz a + 1 = x + 1 + sz a by omega] at i1
    rw [show x + 1 + sz a + sz b + 1 = x + sz a + sz b + 2 by omega] at i2
    have n1 : dIsN (.tup [treeD a, treeD b]) .none = .ok (.bool false) := rfl
    have x1 : at? [treeD a, treeD b] (0 : Int) = some (treeD a) := rfl
    have x2 : at? [treeD a, treeD b] (1 : Int) = some (treeD b) := rfl
    have w1 : dAdd (nd x) (.int 1) = .ok (nd (x + 1)) := by
      rw [y_add, show (1 : Int) = ((1 : Nat) : Int) from rfl, nd_add]
    have w2 : dAdd (nd (x + 1)) (nd (sz a)) = .ok (nd (x + 1 + sz a)) := by rw [y_add, nd_add]
    have la := (lthr_perm a x).length_eq
    have lb := (lthr_perm b (x + 1 + sz a)).length_eq
    rw [thr_len] at la lb
    have s1 : dAdd (.lst ((lthr a x).map d3)) (.lst ((lthr b (x + 1 + sz a)).map d3)) = .ok (.lst ((lthr a x).map d3 ++ (lthr b (x + 1 + sz a)).map d3)) := if_pos (limA (by
      rw [List.length_map, List.length_map]
      omega))
    have s2 : dAdd (.lst ((lthr a x).map d3 ++ (lthr b (x + 1 + sz a)).map d3)) (.lst [.tup [nd x, nd (x + 1 + sz a), nd (x + sz a + sz b + 2)]]) = .ok (.lst ((lthr (.node a b) x).map d3)) := by
      have : dAdd (.lst ((lthr a x).map d3 ++ (lthr b (x + 1 + sz a)).map d3)) (.lst [.tup [nd x, nd (x + 1 + sz a), nd (x + sz a + sz b + 2)]]) = .ok (.lst (((lthr a x).map d3 ++ (lthr b (x + 1 + sz a)).map d3) ++ [.tup [nd x, nd (x + 1 + sz a), nd (x + sz a + sz b + 2)]])) := if_pos (limA (by
        rw [List.length_append, List.length_map, List.length_map, List.length_singleton]
        omega))
      rw [this, lthr, List.map_append, List.map_append]
      rfl
    refine run_of (g := g_l_threes (φ_l_threes f)) ?_
    show g_l_threes (φ_l_threes f) [some (.dat (.tup [treeD a, treeD b])), some (.dat (nd x)), some (.dat (nd (x + (sz a + sz b + 1) + 1))), none, none] = Out.ret (.lst ((lthr (.node a b) x).map d3))
    rw [show x + (sz a + sz b + 1) + 1 = x + sz a + sz b + 2 by omega]
    generalize (lthr (.node a b) x).map d3 = Z at s2 ⊢
    generalize (lthr a x).map d3 ++ (lthr b (x + 1 + sz a)).map d3 = ZC at s1 s2
    generalize (lthr a x).map d3 = ZA at i1 s1
    generalize (lthr b (x + 1 + sz a)).map d3 = ZB at i2 s1
    generalize nd (x + sz a + sz b + 2) = m1 at s2 i2 ⊢
    generalize nd (x + 1 + sz a) = n3 at w2 s2 i1 i2
    generalize nd (x + 1) = n4 at w1 w2
    generalize nd (sz a) = n7 at w2 i3
    generalize nd x = n9 at w1 s2 i1 ⊢
    simp [-y_addL, g_l_threes, n1, x1, x2, i1, i2, i3, w1, w2, s1, s2]
/-! the cut -/
abbrev le3 (p q : N3) : Bool := leN (t3 p) (t3 q)
def cutT (t : Tr) : List N3 := (thr t 0).mergeSort le3
theorem cut_perm (t : Tr) : (cutT t).Perm (thr t 0) := List.mergeSort_perm _ _
theorem cut_len (t : Tr) : (cutT t).length = sz t := by rw [(cut_perm t).length_eq, thr_len]
theorem map_d3 (l : List N3) : l.map d3 = (l.map t3).map tupN := by
  rw [List.map_map]
  rfl
theorem sort_d3 {l : List N3} (h : l.length ≤ 1000) : bSorted (.lst (l.map d3)) = .ok (.lst ((l.mergeSort le3).map d3)) := by
  have h1 := bSorted_tupsL (l := l.map t3) (fun s hs => by
    rw [List.mem_map] at hs
    obtain ⟨p, _, rfl⟩ := hs
    exact List.cons_ne_nil _ _) (by rw [List.length_map]; exact h)
  rw [map_d3, map_d3, h1]
  rw [List.map_mergeSort (r := le3) (s := leN) fun a _ b _ => rfl]
theorem t3_inj {p q : N3} (h : t3 p = t3 q) : p = q := by
  obtain ⟨a, b, c⟩ := p
  obtain ⟨a', b', c'⟩ := q
  simp only [t3, List.cons.injEq, and_true] at h
  obtain ⟨rfl, rfl, rfl⟩ := h
  rfl
theorem merge3 {l m : List N3} (h : l.Perm m) : l.mergeSort le3 = m.mergeSort le3 :=
  List.Perm.eq_of_pairwise (fun a b _ _ h1 h2 => t3_inj (leN_anti h1 h2)) (List.pairwise_mergeSort (fun a b c => le_trans' (t3 a) (t3 b) (t3 c)) (fun a b => le_total' (t3 a) (t3 b)) l) (List.pairwise_mergeSort (fun a b c => le_trans' (t3 a) (t3 b) (t3 c)) (fun a b => le_total' (t3 a) (t3 b)) m)
    ((List.mergeSort_perm l _).trans (h.trans (List.mergeSort_perm m _).symm))
theorem cut_of_of {t : Tr} (h : sz t ≤ 25) : φ_cut_of [.str (rowT t)] = .ok (.tup ((cutT t).map d3)) := by
  have e1 := threes_of 26 t 0 (by omega) (by omega)
  have e2 : eComp [1, 2, 3] (iAny (eCall (φ_threes 26) [eVar 0, eC (.int 0)])) (gTri 1 2 3) tYes (eTup [eVar 1, eVar 2, eVar 3]) [some (.dat (.str (rowT t))), none, none, none] = .ok (.lst ((thr t 0).map d3)) := by
    refine eComp_of (ds := (thr t 0).map d3) ?_ (limA (by rw [List.length_map, thr_len]; omega)) (comp_list d3 d3 _ fun p hp => ?_)
    · show ((Res.ok [D.str (rowT t), nd 0]).bind (φ_threes 26)).bind items = _
      rw [bind_ok, e1]
      rfl
    · exact ⟨_, rfl, rfl, rfl⟩
  have e3 := sort_d3 (l := thr t 0) (by rw [thr_len]; omega)
  refine run_of (g := g_cut_of) ?_
  show g_cut_of [some (.dat (.str (rowT t))), none, none, none] = Out.ret (.tup ((cutT t).map d3))
  unfold cutT
  generalize ((thr t 0).mergeSort le3).map d3 = Z at e3 ⊢
  generalize (thr t 0).map d3 = Z2 at e2 e3
  simp [g_cut_of, c_cut_of_1, e2, e3]
/-! the row of a cut -/
theorem row_between_of {C : List N3} (hC : C.length ≤ 100) : ∀ (f : Nat) (t : Tr) (x : Nat), sz t < f → sz t ≤ 25 → (∀ q ∈ thr t x, C.filter (fun p => key p == key q) = [q]) → φ_row_between f [.tup (C.map d3), nd x, nd (x + sz t + 1)] = .ok (.str (rowT t))
  | 0, t, x, h, _, _ => absurd h (Nat.not_lt_zero _)
  | f + 1, .leaf, x, h, hl, hk => by
    refine run_of (g := g_row_between (φ_row_between f)) ?_
    show g_row_between (φ_row_between f) [some (.dat (.tup (C.map d3))), some (.dat (nd x)), some (.dat (nd (x + 0 + 1))), none, none] = Out.ret (.str [])
    simp [g_row_between]
  | f + 1, .node a b, x, h, hl, hk => by
    have h : sz a + sz b + 1 < f + 1 := h
    have hl' : sz a + sz b + 1 ≤ 25 := hl
    have i1 := row_between_of hC f a x (by omega) (by omega) fun q hq => hk q (by
      rw [thr]
      exact List.mem_cons_of_mem _ (List.mem_append_left _ hq))
    have i2 := row_between_of hC f b (x + 1 + sz a) (by omega) (by omega) fun q hq => hk q (by
      rw [thr]
      exact List.mem_cons_of_mem _ (List.mem_append_right _ hq))
    have i3 := hk (x, x + 1 + sz a, x + sz a + sz b + 2) (by
      rw [thr]
      exact List.mem_cons_self)
    rw [show x + sz a + 1 = x + 1 + sz a by omega] at i1
    rw [show x + 1 + sz a + sz b + 1 = x + sz a + sz b + 2 by omega] at i2
    have hla := rowT_len a
    have hlb := rowT_len b
    have a1 : dAdd (.str [40]) (.str (rowT a)) = .ok (.str (40 :: rowT a)) := if_pos (limA (by
      show 1 + (rowT a).length ≤ 1000
      omega))
    have a2 : dAdd (.str (40 :: rowT a)) (.str [41]) = .ok (.str (40 :: rowT a ++ [41])) := if_pos (limA (by
      show (rowT a).length + 1 + 1 ≤ 1000
      omega))
    have a3 : dAdd (.str (40 :: rowT a ++ [41])) (.str (rowT b)) = .ok (.str (40 :: (rowT a ++ 41 :: rowT b))) := by
      have : dAdd (.str (40 :: rowT a ++ [41])) (.str (rowT b)) = .ok (.str ((40 :: rowT a ++ [41]) ++ rowT b)) := if_pos (limA (by
        simp
        omega))
      rw [this]
      simp
    have e0 : dEq (nd (x + sz a + sz b + 2)) (nd (x + 1)) = .ok (.bool false) := by
      rw [y_eqI, decide_eq_false (by omega)]
    have w1 : dAdd (nd x) (.int 1) = .ok (nd (x + 1)) := by
      rw [y_add, show (1 : Int) = ((1 : Nat) : Int) from rfl, nd_add]
    have e1 : c_row_between_1 [some (.dat (.tup (C.map d3))), some (.dat (nd x)), some (.dat (nd (x + sz a + sz b + 2))), none, none] = .ok (.lst [nd (x + 1 + sz a)]) := by
      have hcomp := comp_listF (g := gName 4) (t := tAnd (tE (eBin dEq (eBin dIdx (eVar 4) (eC (.int 0))) (eVar 1))) (tE (eBin dEq (eBin dIdx (eVar 4) (eC (.int 2))) (eVar 2)))) (e := eBin dIdx (eVar 4) (eC (.int 1)))
        (η := [some (.dat (.tup (C.map d3))), some (.dat (nd x)), some (.dat (nd (x + sz a + sz b + 2))), none, none]) (fun p => key p == key (x, x + 1 + sz a, x + sz a + sz b + 2)) d3 (fun p => nd p.2.1) C fun p _ => by
        obtain ⟨u, v, w⟩ := p
        have x0 : at? (List.map nd (t3 (u, v, w))) (0 : Int) = some (nd u) := rfl
        have x1 : at? (List.map nd (t3 (u, v, w))) (1 : Int) = some (nd v) := rfl
        have x2 : at? (List.map nd (t3 (u, v, w))) (2 : Int) = some (nd w) := rfl
        refine ⟨_, rfl, ?_, fun _ => ?_⟩
        · have h1 : dEq (nd u) (nd x) = .ok (.bool (decide (u = x))) := by
            rw [y_eqI]
            congr 2
            exact decide_eq_decide.mpr (by omega)
          have h2 : dEq (nd w) (nd (x + sz a + sz b + 2)) = .ok (.bool (decide (w = x + sz a + sz b + 2))) := by
            rw [y_eqI]
            congr 2
            exact decide_eq_decide.mpr (by omega)
          have hk : (key (u, v, w) == key (x, x + 1 + sz a, x + sz a + sz b + 2)) = (decide (u = x) && decide (w = x + sz a + sz b + 2)) := by
            simp only [key]
            rw [Bool.eq_iff_iff]
            simp
          rw [hk]
          generalize nd (x + sz a + sz b + 2) = m1 at h2 ⊢
          generalize x + sz a + sz b + 2 = m2 at h2 ⊢
          unfold d3 tupN
          generalize List.map nd (t3 (u, v, w)) = L3 at x0 x1 x2 ⊢
          generalize decide (u = x) = k1 at h1 ⊢
          generalize decide (w = m2) = k2 at h2 ⊢
          generalize nd x = m3 at h1 ⊢
          generalize nd u = m4 at h1 x0
          generalize nd w = m5 at h2 x2
          cases k1 <;> simp [x0, x2, h1, h2]
        · unfold d3 tupN
          generalize List.map nd (t3 (u, v, w)) = L3 at x0 x1 x2 ⊢
          simp [x1]
      rw [i3] at hcomp
      exact eComp_of (ds := C.map d3) rfl (limA (by rw [List.length_map]; omega)) hcomp
    refine run_of (g := g_row_between (φ_row_between f)) ?_
    show g_row_between (φ_row_between f) [some (.dat (.tup (C.map d3))), some (.dat (nd x)), some (.dat (nd (x + (sz a + sz b + 1) + 1))), none, none] = Out.ret (.str (40 :: (rowT a ++ 41 :: rowT b)))
    rw [show x + (sz a + sz b + 1) + 1 = x + sz a + sz b + 2 by omega]
    have x1 : at? [nd (x + 1 + sz a)] (0 : Int) = some (nd (x + 1 + sz a)) := rfl
    generalize 40 :: (rowT a ++ 41 :: rowT b) = Y at a3 ⊢
    generalize 40 :: rowT a ++ [41] = Z at a2 a3
    generalize 40 :: rowT a = Z2 at a1 a2
    generalize nd (x + sz a + sz b + 2) = n1 at e0 e1 i2 ⊢
    generalize nd (x + 1 + sz a) = n3 at e1 i1 i2 x1
    generalize nd (x + 1) = n4 at w1 e0
    generalize nd x = n9 at w1 e1 i1 ⊢
    simp [-y_addS, g_row_between, w1, e0, e1, i1, i2, a1, a2, a3, x1]
theorem row_by_cut_of {t : Tr} (h : sz t ≤ 25) : φ_row_by_cut [.tup ((cutT t).map d3)] = .ok (.str (rowT t)) := by
  have e1 := row_between_of (C := cutT t) (by rw [cut_len]; omega) 26 t 0 (by omega) h fun q hq => one_key (thr_keys t 0) (cut_perm t) hq
  have e2 : bLen (.tup ((cutT t).map d3)) = .ok (nd (sz t)) := by rw [y_lenT, List.length_map, cut_len]
  have e3 : dAdd (nd (sz t)) (.int 1) = .ok (nd (0 + sz t + 1)) := by
    rw [y_add, show (1 : Int) = ((1 : Nat) : Int) from rfl, nd_add]
    congr 2
    omega
  refine run_of (g := g_row_by_cut) ?_
  show g_row_by_cut [some (.dat (.tup ((cutT t).map d3)))] = Out.ret (.str (rowT t))
  generalize nd (0 + sz t + 1) = n1 at e1 e3
  generalize nd (sz t) = n2 at e2 e3
  have e1 : φ_row_between 26 [.tup ((cutT t).map d3), .int 0, n1] = .ok (.str (rowT t)) := e1
  generalize D.tup ((cutT t).map d3) = C at e1 e2 ⊢
  simp [g_row_by_cut, e1, e2, e3]
/-! sides -/
@[simp] theorem x_eCountL {f g : E} {η : Env} : eCountL f g η = (f η).bind fun x => match x with
  | .lst _ => (g η).bind fun y => (dCountL x y).calm
  | _ => .bad := id rfl
def d2 (p : Nat × Nat) : D := tupN [p.1, p.2]
theorem d2_count (S : List (Nat × Nat)) (p : Nat × Nat) : (S.map d2).countP (fun x => D.eqv x (d2 p)) = S.count p := by
  rw [List.countP_map, List.count]
  congr 1
  funext q
  show D.eqv (tupN [q.1, q.2]) (tupN [p.1, p.2]) = (q == p)
  rw [eqv_tupN, Bool.eq_iff_iff]
  simp [Prod.ext_iff]
theorem pairNum_d2 (p : Nat × Nat) : pairNum (d2 p) = true := rfl
theorem countL_of (S : List (Nat × Nat)) (p : Nat × Nat) : dCountL (.lst (S.map d2)) (d2 p) = .ok (nd (S.count p)) := by
  show (if pairNum (d2 p) && (S.map d2).all pairNum then Res.ok (D.int ((S.map d2).countP fun x => D.eqv x (d2 p) : Nat)) else .bad) = _
  have : (S.map d2).all pairNum = true := by
    rw [List.all_eq_true]
    intro x hx
    rw [List.mem_map] at hx
    obtain ⟨q, _, rfl⟩ := hx
    rfl
  rw [pairNum_d2, this, Bool.and_self, if_pos rfl, d2_count]
theorem sides_right_of {t : Tr} (h0 : 0 < sz t) (h : sz t ≤ 25) : φ_l_sides_right [.tup ((cutT t).map d3), nd (sz t)] = .ok (.bool true) := by
  -- the sides
  have hl1 := loop_inv (g := gTri 3 4 5) (b := b_l_sides_right_1) (fun m η => ∃ z3 z4 z5, η = [some (.dat (.tup ((cutT t).map d3))), some (.dat (nd (sz t))), some (.dat (.lst ((((cutT t).take m).flatMap sides3).map d2))), z3, z4, z5, none, none, none]) ((cutT t).map d3) 0 [some (.dat (.tup ((cutT t).map d3))), some (.dat (nd (sz t))), some (.dat (.lst [])), none, none, none, none, none, none] ⟨_, _, _, rfl⟩ (fun i d η hi hP => by
    rw [List.getElem?_map, Option.map_eq_some_iff] at hi
    obtain ⟨⟨a, b, c⟩, hi, rfl⟩ := hi
    rw [Nat.zero_add] at hP ⊢
    obtain ⟨z3, z4, z5, rfl⟩ := hP
    have hlen : (((cutT t).take i).flatMap sides3).length ≤ 75 := by
      have : ∀ l : List N3, (l.flatMap sides3).length = 3 * l.length := by
        intro l
        induction l with
        | nil => rfl
        | cons x r ih =>
          rw [List.flatMap_cons, List.length_append, ih, List.length_cons]
          show 3 + _ = _
          omega
      rw [this, List.length_take, cut_len]
      omega
    have e1 : dAdd (.lst ((((cutT t).take i).flatMap sides3).map d2)) (.lst [.tup [nd a, nd b], .tup [nd b, nd c], .tup [nd a, nd c]]) = .ok (.lst ((((cutT t).take (i + 1)).flatMap sides3).map d2)) := by
      have : dAdd (.lst ((((cutT t).take i).flatMap sides3).map d2)) (.lst [.tup [nd a, nd b], .tup [nd b, nd c], .tup [nd a, nd c]]) = .ok (.lst ((((cutT t).take i).flatMap sides3).map d2 ++ [.tup [nd a, nd b], .tup [nd b, nd c], .tup [nd a, nd c]])) := if_pos (limA (by
        rw [List.length_map]
        show _ + 3 ≤ 1000
        omega))
      rw [this, List.take_add_one, hi, List.flatMap_append, List.map_append]
      rfl
    refine ⟨_, [some (.dat (.tup ((cutT t).map d3))), some (.dat (nd (sz t))), some (.dat (.lst ((((cutT t).take (i + 1)).flatMap sides3).map d2))), some (.dat (nd a)), some (.dat (nd b)), some (.dat (nd c)), none, none, none], rfl, .inl ?_, _, _, _, rfl⟩
    generalize (((cutT t).take (i + 1)).flatMap sides3).map d2 = S2 at e1 ⊢
    generalize (((cutT t).take i).flatMap sides3).map d2 = S1 at e1 ⊢
    generalize nd a = m1 at e1 ⊢
    generalize nd b = m2 at e1 ⊢
    generalize nd c = m3 at e1 ⊢
    generalize D.tup ((cutT t).map d3) = CT
    generalize nd (sz t) = n
    simp [-y_addL, b_l_sides_right_1, e1])
  obtain ⟨η1, e1, z3, z4, z5, rfl⟩ := hl1
  rw [Nat.zero_add, List.length_map, List.take_length] at e1
  have hS : ((cutT t).flatMap sides3).Perm ((thr t 0).flatMap sides3) := List.Perm.flatMap_right _ (cut_perm t)
  generalize hSS : (cutT t).flatMap sides3 = S at hS e1
  have hSl : S.length ≤ 75 := by
    have : ∀ l : List N3, (l.flatMap sides3).length = 3 * l.length := by
      intro l
      induction l with
      | nil => rfl
      | cons x r ih =>
        rw [List.flatMap_cons, List.length_append, ih, List.length_cons]
        show 3 + _ = _
        omega
    rw [← hSS, this, cut_len]
    omega
  have hl2 := loop_all (g := gPair 6 7) (b := b_l_sides_right_2) (fun η => ∃ z6 z7, η = [some (.dat (.tup ((cutT t).map d3))), some (.dat (nd (sz t))), some (.dat (.lst (S.map d2))), z3, z4, z5, z6, z7, none]) (S.map d2) (η := [some (.dat (.tup ((cutT t).map d3))), some (.dat (nd (sz t))), some (.dat (.lst (S.map d2))), z3, z4, z5, none, none, none]) ⟨_, _, rfl⟩ (fun d hd η hP => by
    rw [List.mem_map] at hd
    obtain ⟨⟨u, v⟩, hu, rfl⟩ := hd
    obtain ⟨z6, z7, rfl⟩ := hP
    obtain ⟨f1, f2, f3⟩ := sides_fair h0 hS hu
    have w1 : dAdd (nd u) (.int 1) = .ok (nd (u + 1)) := by
      rw [y_add, show (1 : Int) = ((1 : Nat) : Int) from rfl, nd_add]
    have w2 : dAdd (nd (sz t)) (.int 1) = .ok (nd (sz t + 1)) := by
      rw [y_add, show (1 : Int) = ((1 : Nat) : Int) from rfl, nd_add]
    have w3 : dSub (nd v) (nd u) = .ok (nd (v - u)) := by
      rw [y_sub]
      have : (v : Int) - (u : Int) = ((v - u : Nat) : Int) := by omega
      rw [this]
    have q1 : dEq (nd v) (nd (u + 1)) = .ok (.bool (decide (v = u + 1))) := by
      rw [y_eqI]
      congr 2
      exact decide_eq_decide.mpr (by omega)
    have q2 : dEq (nd (v - u)) (nd (sz t + 1)) = .ok (.bool (decide (v - u = sz t + 1))) := by
      rw [y_eqI]
      congr 2
      exact decide_eq_decide.mpr (by omega)
    have c1 : dCountL (.lst (S.map d2)) (.tup [nd u, nd v]) = .ok (nd (S.count (u, v))) := countL_of S (u, v)
    have n1 : ∀ k, dNe (nd (S.count (u, v))) (.int ((k : Nat) : Int)) = .ok (.bool (!decide (S.count (u, v) = k))) := by
      intro k
      rw [y_neI]
      congr 3
      exact decide_eq_decide.mpr (by omega)
    have n1a := n1 1
    have n1b := n1 2
    have hcomp := comp_listF (g := gName 8) (t := tE (eChain3 dLt dLt dLt (eVar 6) (eBin dIdx (eVar 8) (eC (.int 0))) (eVar 7) (eBin dIdx (eVar 8) (eC (.int 1))))) (e := eVar 8)
        (η := [some (.dat (.tup ((cutT t).map d3))), some (.dat (nd (sz t))), some (.dat (.lst (S.map d2))), z3, z4, z5, some (.dat (nd u)), some (.dat (nd v)), none]) (fun q => decide (u < q.1) && (decide (q.1 < v) && decide (v < q.2))) d2 d2 S fun q _ => by
        obtain ⟨a, b⟩ := q
        have x0 : at? (List.map nd [a, b]) (0 : Int) = some (nd a) := rfl
        have x1 : at? (List.map nd [a, b]) (1 : Int) = some (nd b) := rfl
        have l1 : ∀ i j : Nat, dLt (nd i) (nd j) = .ok (.bool (decide (i < j))) := by
          intro i j
          rw [y_lt]
          congr 2
          exact decide_eq_decide.mpr (by omega)
        refine ⟨_, rfl, ?_, fun _ => rfl⟩
        show ((eChain3 dLt dLt dLt (eVar 6) (eBin dIdx (eVar 8) (eC (.int 0))) (eVar 7) (eBin dIdx (eVar 8) (eC (.int 1)))) [some (.dat (.tup ((cutT t).map d3))), some (.dat (nd (sz t))), some (.dat (.lst (S.map d2))), z3, z4, z5, some (.dat (nd u)), some (.dat (nd v)), some (.dat (d2 (a, b)))]).bind asBool = _
        unfold eChain3
        have j1 := l1 u a
        have j2 := l1 a v
        have j3 := l1 v b
        show _ = Res.ok (decide (u < a) && (decide (a < v) && decide (v < b)))
        unfold d2 tupN
        generalize List.map nd [(a, b).1, (a, b).2] = L3 at x0 x1 ⊢
        have x0 : at? L3 (0 : Int) = some (nd a) := x0
        have x1 : at? L3 (1 : Int) = some (nd b) := x1
        generalize decide (u < a) = k1 at j1 ⊢
        generalize decide (a < v) = k2 at j2 ⊢
        generalize decide (v < b) = k3 at j3 ⊢
        generalize nd u = m1 at j1 ⊢
        generalize nd v = m2 at j2 j3 ⊢
        generalize nd a = m3 at j1 j2 x0
        generalize nd b = m4 at j3 x1
        cases k1 <;> cases k2 <;> simp [x0, x1, j1, j2, j3]
    have hfil : S.filter (fun q => decide (u < q.1) && (decide (q.1 < v) && decide (v < q.2))) = [] := by
      rw [List.filter_eq_nil_iff]
      intro q hq
      have := f3 q hq
      simp
      omega
    rw [hfil] at hcomp
    have e2 : c_l_sides_right_1 [some (.dat (.tup ((cutT t).map d3))), some (.dat (nd (sz t))), some (.dat (.lst (S.map d2))), z3, z4, z5, some (.dat (nd u)), some (.dat (nd v)), none] = .ok (.lst []) := eComp_of (ds := S.map d2) rfl (limA (by rw [List.length_map]; omega)) hcomp
    have na : (decide (v = u + 1) || decide (v - u = sz t + 1)) = true → dNe (nd (S.count (u, v))) (.int 1) = .ok (.bool false) := fun hk => by
      rw [Bool.or_eq_true, decide_eq_true_eq, decide_eq_true_eq] at hk
      have e := n1 1
      rw [f1, if_pos hk, decide_eq_true rfl] at e
      rw [f1, if_pos hk]
      exact e
    have nb : (decide (v = u + 1) || decide (v - u = sz t + 1)) = false → dNe (nd (S.count (u, v))) (.int 2) = .ok (.bool false) := fun hk => by
      rw [Bool.or_eq_false_iff, decide_eq_false_iff_not, decide_eq_false_iff_not] at hk
      have hk : ¬ (v = u + 1 ∨ v - u = sz t + 1) := fun h => h.elim hk.1 hk.2
      have e := n1 2
      rw [f1, if_neg hk, decide_eq_true rfl] at e
      rw [f1, if_neg hk]
      exact e
    refine ⟨_, [some (.dat (.tup ((cutT t).map d3))), some (.dat (nd (sz t))), some (.dat (.lst (S.map d2))), z3, z4, z5, some (.dat (nd u)), some (.dat (nd v)), none], rfl, .inl ?_, _, _, rfl⟩
    show b_l_sides_right_2 [some (.dat (.tup ((cutT t).map d3))), some (.dat (nd (sz t))), some (.dat (.lst (S.map d2))), z3, z4, z5, some (.dat (nd u)), some (.dat (nd v)), none] = _
    generalize D.tup ((cutT t).map d3) = CT at e2 ⊢
    clear hcomp f1 f2 f3 hfil n1 n1a n1b
    generalize S.map d2 = SL at e2 c1 ⊢
    generalize decide (v = u + 1) = k1 at q1 na nb
    generalize decide (v - u = sz t + 1) = k2 at q2 na nb
    generalize nd (S.count (u, v)) = cnt at c1 na nb
    generalize nd (u + 1) = m1 at w1 q1
    generalize nd (sz t + 1) = m2 at w2 q2
    generalize nd (v - u) = m3 at w3 q2
    generalize nd (sz t) = m4 at w2 e2 ⊢
    generalize nd u = m5 at w1 w3 e2 c1 ⊢
    generalize nd v = m6 at w3 q1 e2 c1 ⊢
    cases k1 <;> cases k2 <;> simp at na nb <;> simp [b_l_sides_right_2, w1, w2, w3, q1, q2, c1, na, nb, e2])
  obtain ⟨η2, e2, z6, z7, rfl⟩ := hl2
  refine run_of (g := g_l_sides_right) ?_
  show g_l_sides_right [some (.dat (.tup ((cutT t).map d3))), some (.dat (nd (sz t))), none, none, none, none, none, none, none] = Out.ret (.bool true)
  generalize nd (sz t) = n at e1 e2 ⊢
  generalize S.map d2 = SL at e1 e2
  generalize (cutT t).map d3 = CT at e1 e2 ⊢
  simp [g_l_sides_right, e1, e2]
end Bk
end
/-! BkPA -/
section
set_option linter.all false
set_option autoImplicit false
set_option maxRecDepth 100000
/-! BkPA: what parting_of gives -/
namespace Bk
theorem sort_nums {l : List Nat} (h : l.length ≤ 1000) : bSorted (.lst (l.map nd)) = .ok (.lst ((l.mergeSort fun a b => decide (a ≤ b)).map nd)) := by
  have h1 : sortable (l.map nd) = true := by
    unfold sortable
    rw [Bool.and_eq_true, Bool.and_eq_true, Bool.and_eq_true]
    refine ⟨⟨⟨?_, ?_⟩, ?_⟩, ?_⟩
    · rw [List.all_eq_true]
      intro a ha
      rw [List.all_eq_true]
      intro b hb
      rw [List.mem_map] at ha hb
      obtain ⟨x, _, rfl⟩ := ha
      obtain ⟨y, _, rfl⟩ := hb
      rfl
    · rw [Bool.or_eq_true]
      right
      rw [List.all_eq_true]
      intro a ha
      rw [List.mem_map] at ha
      obtain ⟨x, hx, rfl⟩ := ha
      rfl
    · rw [List.all_eq_true]
      intro a ha
      rw [List.mem_map] at ha
      obtain ⟨x, hx, rfl⟩ := ha
      rfl
    · rw [List.length_map]
      exact decide_eq_true (limA h)
  show (if sortable (l.map nd) = true then Res.ok (D.lst ((l.map nd).mergeSort D.le)) else .bad) = _
  rw [if_pos h1]
  congr 2
  exact (List.map_mergeSort (r := fun a b => decide (a ≤ b)) (s := D.le) (f := nd) fun a _ b _ => by
    show decide (a ≤ b) = !D.lt (nd b) (nd a)
    rw [lt_nd]
    by_cases h : a ≤ b
    · have : ¬ b < a := by omega
      simp [h, this]
    · have : b < a := by omega
      simp [h, this]).symm
theorem nums_same {l m : List Nat} (h : l.Perm m) (hs : m.Pairwise (· ≤ ·)) : (l.mergeSort fun a b => decide (a ≤ b)) = m := by
  have tr : ∀ a b c : Nat, decide (a ≤ b) = true → decide (b ≤ c) = true → decide (a ≤ c) = true := fun a b c h1 h2 => decide_eq_true (Nat.le_trans (of_decide_eq_true h1) (of_decide_eq_true h2))
  have to : ∀ a b : Nat, (decide (a ≤ b) || decide (b ≤ a)) = true := fun a b => by
    rw [Bool.or_eq_true]
    rcases Nat.le_total a b with h | h
    · exact .inl (decide_eq_true h)
    · exact .inr (decide_eq_true h)
  have hp : (l.mergeSort fun a b => decide (a ≤ b)).Pairwise (· ≤ ·) := (List.pairwise_mergeSort tr to l).imp fun h => of_decide_eq_true h
  exact List.Perm.eq_of_pairwise (fun a b _ _ h1 h2 => Nat.le_antisymm h1 h2) hp hs ((List.mergeSort_perm l _).trans h)
theorem sort_down {l : List Nat} (h : l.length ≤ 1000) (hp : l.Pairwise (· > ·)) : bSorted (.lst (l.map nd)) = .ok (.lst (l.reverse.map nd)) := by
  rw [sort_nums h, nums_same (List.reverse_perm l).symm (List.pairwise_reverse.mpr (hp.imp fun h => Nat.le_of_lt h))]
def flushF (F : List (List Nat)) (b : List Nat) : List (List Nat) := if b = [] then F else F ++ [b.reverse]
/-- the blocks that are found: those so far, the stack from the top, the block that is under way, the points so far -/
def pf : List Nat → List (List Nat) → List Nat → List Nat → Nat → Option (List (List Nat))
  | [], F, _, _, _ => some F
  | c :: r, F, S, b, m => if c = 40 then pf r (flushF F b) (m :: S) [] (m + 1) else match S with
    | [] => none
    | o :: S' => pf r F S' (b ++ [o]) m
theorem part_loop {x0 : Option S} : ∀ (r : List Nat) (F : List (List Nat)) (S b : List Nat) (m : Nat) (z5 : Option Bk.S) (F' : List (List Nat)), brack r = true → pf r F S b m = some F' → (b ++ S).Pairwise (· > ·) → (∀ x ∈ b ++ S, x < m) → b.length + S.length ≤ m → m + r.length ≤ 1000 → F.length + r.length ≤ 1000 → (∀ x ∈ F, x ≠ []) →
    ∃ z2 z3 z4 z5', loop (gName 5) b_parting_of_1 (signs r) [x0, some (.own (F.map tupN)), some (.own (S.reverse.map nd)), some (.own (b.map nd)), some (.dat (nd m)), z5] = .next [x0, some (.own (F'.map tupN)), z2, z3, z4, z5'] ∧ F'.length ≤ 1000 ∧ ∀ x ∈ F', x ≠ []
  | [], F, S, b, m, z5, F', _, h, _, _, _, _, hF, hn => by
    cases h
    exact ⟨_, _, _, _, rfl, by simpa using hF, hn⟩
  | c :: r, F, S, b, m, z5, F', hb, h, hp, hm, hl, hr, hF, hn => by
    have hb' : brack r = true := by
      unfold brack at hb ⊢
      rw [List.all_cons, Bool.and_eq_true] at hb
      exact hb.2
    rw [List.length_cons] at hr hF
    rcases brack_mem hb List.mem_cons_self with rfl | rfl
    · have h : pf r (flushF F b) (m :: S) [] (m + 1) = some F' := h
      have hp2 : ([] ++ m :: S).Pairwise (· > ·) := List.pairwise_cons.mpr ⟨fun x hx => hm x (List.mem_append_right _ hx), (List.pairwise_append.mp hp).2.1⟩
      have hm2 : ∀ x ∈ [] ++ m :: S, x < m + 1 := fun x hx => by
        rcases List.mem_cons.mp hx with rfl | hx
        · exact Nat.lt_succ_self _
        · exact Nat.lt_succ_of_lt (hm x (List.mem_append_right _ hx))
      have hfl : (flushF F b).length + r.length ≤ 1000 := by
        unfold flushF
        split
        · omega
        · rw [List.length_append]
          show F.length + 1 + _ ≤ _
          omega
      have hfn : ∀ x ∈ flushF F b, x ≠ [] := by
        unfold flushF
        split
        · exact hn
        · rename_i hne
          intro x hx
          rcases List.mem_append.mp hx with hx | hx
          · exact hn x hx
          · rw [List.mem_singleton] at hx
            subst hx
            simpa using hne
      obtain ⟨z2, z3, z4, z5', e, e2⟩ := part_loop r (flushF F b) (m :: S) [] (m + 1) (some (.dat (.str [40]))) F' hb' h hp2 hm2 (by simp; omega) (by omega) hfl hfn
      refine ⟨z2, z3, z4, z5', ?_, e2⟩
      rw [← e]
      refine loop_next rfl ?_
      have a1 : dAdd (nd m) (.int 1) = .ok (nd (m + 1)) := by
        rw [y_add, show (1 : Int) = ((1 : Nat) : Int) from rfl, nd_add]
      have l1 : S.length < lim := by
        show _ < 16777216
        omega
      have l2 : F.length < lim := by
        show _ < 16777216
        omega
      have e3 : (S.reverse.map nd) ++ [nd m] = (m :: S).reverse.map nd := by simp
      have l1' : (S.reverse.map nd).length < lim := by simpa using l1
      by_cases hbe : b = []
      · subst hbe
        have ef : flushF F [] = F := if_pos rfl
        rw [ef]
        generalize nd (m + 1) = m1 at a1 ⊢
        generalize (m :: S).reverse.map nd = S2 at e3 ⊢
        generalize S.reverse.map nd = S1 at e3 l1' ⊢
        generalize nd m = m0 at a1 e3 ⊢
        simp [b_parting_of_1, eq_open, a1, l1', e3]
      · have ef : (flushF F b).map tupN = F.map tupN ++ [.tup (b.reverse.map nd)] := by
          unfold flushF
          rw [if_neg hbe, List.map_append]
          rfl
        have hs := sort_down (l := b) (by omega) (List.pairwise_append.mp hp).1
        have l2' : (F.map tupN).length < lim := by simpa using l2
        have hbe' : (b.map nd).isEmpty = false := by
          cases b with
          | nil => exact absurd rfl hbe
          | cons x y => rfl
        rw [ef]
        generalize nd (m + 1) = m1 at a1 ⊢
        generalize (m :: S).reverse.map nd = S2 at e3 ⊢
        generalize S.reverse.map nd = S1 at e3 l1' ⊢
        generalize nd m = m0 at a1 e3 ⊢
        generalize F.map tupN = F1 at l2' ⊢
        generalize b.reverse.map nd = B1 at hs ⊢
        generalize b.map nd = B2 at hs hbe' ⊢
        simp [b_parting_of_1, eq_open, a1, l1', l2', e3, hs, hbe']
    · cases S with
      | nil => exact nomatch h
      | cons o S' =>
        have h : pf r F S' (b ++ [o]) m = some F' := h
        have ea : (b ++ [o]) ++ S' = b ++ o :: S' := by simp
        obtain ⟨z2, z3, z4, z5', e, e2⟩ := part_loop r F S' (b ++ [o]) m (some (.dat (.str [41]))) F' hb' h (by rw [ea]; exact hp) (by rw [ea]; exact hm) (by simp at hl ⊢; omega) (by omega) (by omega) hn
        refine ⟨z2, z3, z4, z5', ?_, e2⟩
        rw [← e]
        refine loop_next rfl ?_
        have l1' : (b.map nd).length < lim := by
          rw [List.length_map]
          show _ < 16777216
          omega
        have e3 : (b ++ [o]).map nd = b.map nd ++ [nd o] := by simp
        rw [e3]
        generalize b.map nd = B1 at l1' ⊢
        simp [b_parting_of_1, eq_open, l1']
theorem parting_of_of {s : List Nat} {F : List (List Nat)} (hb : brack s = true) (hl : s.length ≤ 900) (h : pf (s ++ [40]) [] [] [] 0 = some F) : φ_parting_of [.str s] = .ok (.tup ((F.mergeSort leN).map tupN)) := by
  have hb2 : brack (s ++ [40]) = true := by
    unfold brack at hb ⊢
    rw [List.all_append, hb]
    rfl
  obtain ⟨z2, z3, z4, z5, e, hF, hn⟩ := part_loop (x0 := some (.dat (.str s))) (s ++ [40]) [] [] [] 0 none F hb2 h List.Pairwise.nil (fun x hx => nomatch hx) (Nat.le_refl _) (by rw [List.length_append]; show 0 + (s.length + 1) ≤ _; omega) (by rw [List.length_append]; show 0 + (s.length + 1) ≤ _; omega) (fun x hx => nomatch hx)
  have a1 : dAdd (.str s) (.str [40]) = .ok (.str (s ++ [40])) := if_pos (limA (by
    show s.length + 1 ≤ 1000
    omega))
  have hs := bSorted_tupsL hn hF
  have i1 : items (.str (s ++ [40])) = .ok (signs (s ++ [40])) := rfl
  refine run_of (g := g_parting_of) ?_
  have e : loop (gName 5) b_parting_of_1 (signs (s ++ [40])) [some (.dat (.str s)), some (.own []), some (.own []), some (.own []), some (.dat (.int 0)), none] = .next [some (.dat (.str s)), some (.own (F.map tupN)), z2, z3, z4, z5] := e
  generalize signs (s ++ [40]) = L at e i1
  generalize F.map tupN = F1 at e hs
  generalize D.str (s ++ [40]) = T at a1 i1
  simp [-y_addS, g_parting_of, a1, i1, e, hs]
end Bk
end
/-! F10 -/
section
set_option linter.all false
set_option autoImplicit false
set_option maxRecDepth 100000
/-! F10: all rows of sizes below 6: their trees, keys -/
namespace Bk
def RwS (t : Nat) : List (List Nat) := (List.range (w (2 * t) 0)).map fun p => rowF (2 * t) 0 p
def treesF : Nat → Nat → List Tr
  | 0, _ => []
  | f + 1, n => if n = 0 then [.leaf] else (List.range n).flatMap fun k => (treesF f k).flatMap fun a => (treesF f (n - 1 - k)).map fun b => .node a b
def TS (t : Nat) : List Tr := (RwS t).map fun s => ((treesF 7 t).find? fun x => rowT x == s).getD .leaf
theorem f_perm : ∀ t, t < 6 → (RwS t).isPerm (allN t) = true := by decide +kernel
theorem f_sort : ∀ t, t < 6 → (RwS t).Pairwise (fun a b => (!decide (b < a)) = true) := by decide +kernel
theorem f_w : ∀ t, t < 6 → 0 < w (2 * t) 0 ∧ w (2 * t) 0 ≤ 42 := by decide +kernel
theorem f_rows : ∀ t, t < 6 → (TS t).map rowT = RwS t := by decide +kernel
theorem f_sz : ∀ t, t < 6 → ∀ x ∈ (TS t).map sz, x = t := by decide +kernel
/-- no two alike -/
def apartB {α : Type} (e : α → α → Bool) : List α → Bool
  | [] => true
  | x :: r => (r.all fun y => !e x y) && apartB e r
def goodB (K : List D) : Bool := (match K with
  | [.none] => true
  | _ => K.all fun k => isTup k && keyN 8 k) && apartB D.eqv K
theorem f_forest : ∀ t, t < 6 → goodB ((TS t).map fun x => .tup (forT x)) = true := by decide +kernel
theorem f_tree : ∀ t, t < 6 → goodB ((TS t).map treeD) = true := by decide +kernel
/-- sorting by putting in -/
def putL (x : List Nat) : List (List Nat) → List (List Nat)
  | [] => [x]
  | y :: r => if leN x y then x :: y :: r else y :: putL x r
def isort : List (List Nat) → List (List Nat)
  | [] => []
  | x :: r => putL x (isort r)
theorem putL_perm (x : List Nat) : ∀ l : List (List Nat), (putL x l).Perm (x :: l)
  | [] => List.Perm.refl _
  | y :: r => by
    unfold putL
    split
    · exact List.Perm.refl _
    · exact ((putL_perm x r).cons y).trans (List.Perm.swap x y r)
theorem isort_perm : ∀ l : List (List Nat), (isort l).Perm l
  | [] => List.Perm.refl _
  | x :: r => (putL_perm x _).trans ((isort_perm r).cons x)
theorem putL_sort (x : List Nat) : ∀ l : List (List Nat), l.Pairwise (fun a b => leN a b = true) → (putL x l).Pairwise fun a b => leN a b = true
  | [], _ => List.pairwise_singleton _ _
  | y :: r, h => by
    unfold putL
    rw [List.pairwise_cons] at h
    split
    · rename_i hx
      refine List.pairwise_cons.mpr ⟨fun z hz => ?_, List.pairwise_cons.mpr h⟩
      rcases List.mem_cons.mp hz with rfl | hz
      · exact hx
      · exact le_trans' _ _ _ hx (h.1 z hz)
    · rename_i hx
      refine List.pairwise_cons.mpr ⟨fun z hz => ?_, putL_sort x r h.2⟩
      rcases List.mem_cons.mp ((putL_perm x r).mem_iff.mp hz) with rfl | hz
      · have := le_total' z y
        rw [Bool.or_eq_true] at this
        exact this.resolve_left hx
      · exact h.1 z hz
theorem isort_sort : ∀ l : List (List Nat), (isort l).Pairwise fun a b => leN a b = true
  | [] => List.Pairwise.nil
  | x :: r => putL_sort x _ (isort_sort r)
theorem merge_isort (l : List (List Nat)) : l.mergeSort leN = isort l := merge_same (isort_perm l).symm (isort_sort l)
def blks (s : List Nat) : List (List Nat) := isort ((pf (s ++ [40]) [] [] [] 0).getD [])
theorem f_pf : ∀ t, t < 6 → ∀ s ∈ RwS t, (pf (s ++ [40]) [] [] [] 0).isSome = true ∧ brack s = true ∧ s.length = 2 * t ∧ whole s = true := by decide +kernel
theorem f_part : ∀ t, t < 6 → goodB ((RwS t).map fun s => .tup ((blks s).map tupN)) = true := by decide +kernel
theorem f_cut : ∀ t, t < 6 → goodB ((TS t).map fun x => .tup ((isort ((thr x 0).map t3)).map tupN)) = true := by decide +kernel
theorem part_key {t : Nat} (ht : t < 6) {s : List Nat} (hs : s ∈ RwS t) : φ_parting_of [.str s] = .ok (.tup ((blks s).map tupN)) := by
  obtain ⟨h1, h2, h3, _⟩ := f_pf t ht s hs
  obtain ⟨F, hF⟩ := Option.isSome_iff_exists.mp h1
  rw [parting_of_of h2 (by omega) hF, merge_isort]
  unfold blks
  rw [hF]
  rfl
theorem cut_key {x : Tr} (h : sz x ≤ 25) : φ_cut_of [.str (rowT x)] = .ok (.tup ((isort ((thr x 0).map t3)).map tupN)) := by
  rw [cut_of_of h]
  have : (cutT x).map d3 = (isort ((thr x 0).map t3)).map tupN := by
    rw [← merge_isort]
    unfold cutT
    rw [← List.map_mergeSort (r := le3) (s := leN) (f := t3) fun _ _ _ _ => rfl, List.map_map]
    rfl
  rw [this]
end Bk
end
/-! T10 -/
section
set_option linter.all false
set_option autoImplicit false
set_option maxRecDepth 100000
namespace K10
open Bk
def c_law_1 : E := (eComp [5] (iRange1 (eVar 3)) (gName 5) tYes (eCall φ_row_of [(eVar 1), (eVar 5)]))
def b_law_1 : St := (sSeq (sIf (tE (eBin dNe (eVar 6) (eBin dIdx (eVar 4) (eVar 5)))) (sRet (eC (.bool false))) sSkip)
  (sSet 6 (eCall φ_next_row [(eVar 6)])))
def b_law_2 : St := (sPutK 8 (ePick [(φ_forest_of 26), (φ_tree_of 26), φ_parting_of, φ_cut_of] (eVar 7) (eVar 6)) (eC (.bool true)))
def b_law_3 : St := (sSeq (sNewD 8)
  (sSeq (sFor (iAny (eVar 4)) (gName 6) b_law_2)
  (sIf (tE (eBin dNe (eKLen 8) (eVar 3))) (sRet (eC (.bool false))) sSkip)))
def g_law : St := (sSeq (sSet 1 (eCall φ_l_mix [(eCall φ_l_cell [(eVar 0), (eC (.int 0))]), (eC (.int 9929)), (eC (.int 6))]))
  (sSeq (sSet 2 (eCall (φ_l_all 26) [(eVar 1)]))
  (sSeq (sSet 3 (eCall φ_count [(eVar 1), (eVar 1)]))
  (sSeq (sSet 4 c_law_1)
  (sSeq (sIf (tE (eBin dNe (eVar 4) (eVar 2))) (sRet (eC (.bool false))) sSkip)
  (sSeq (sSet 6 (eBin dIdx (eVar 4) (eC (.int 0))))
  (sSeq (sFor (iRange1 (eVar 3)) (gName 5) b_law_1)
  (sSeq (sIf (tE (eBin dNotN (eVar 6) (eC .none))) (sRet (eC (.bool false))) sSkip)
  (sSeq (sFor (iRange1 (eC (.int 4))) (gName 7) b_law_3)
  (sRet (eC (.bool true))))))))))))
def φ_law : List D → Res D := runDef 9 g_law
end K10
end
/-! M10 -/
section
set_option linter.all false
set_option autoImplicit false
set_option maxRecDepth 100000
/-! M10: k10's mathematics -/
namespace K10
open Bk
variable {z0 z1 z2 z3 z4 z5 z6 z7 z8 : Option S}
theorem plainW {s : List Nat} (h : whole s = true) : plainS s = true := brack_plain (whole_iff.mp h).1
theorem lim_of {s : List Nat} (h : s.length ≤ 1000) : s.length ≤ lim := by
  show _ ≤ 16777216
  omega
theorem eqS {s t : List Nat} (h1 : whole s = true) (h2 : whole t = true) (l1 : s.length ≤ 1000) (l2 : t.length ≤ 1000) : dEq (.str s) (.str t) = .ok (.bool (decide (s = t))) := y_eqS (plainW h1) (plainW h2) (lim_of l1) (lim_of l2)
theorem neS {s t : List Nat} (h1 : whole s = true) (h2 : whole t = true) (l1 : s.length ≤ 1000) (l2 : t.length ≤ 1000) : dNe (.str s) (.str t) = .ok (.bool (!decide (s = t))) := y_neS (plainW h1) (plainW h2) (lim_of l1) (lim_of l2)
theorem cnt_of {n : Nat} (hn : n ≤ 60) : φ_count [nd n, nd n] = .ok (nd (w (2 * n) 0)) := by
  rw [← cnt_w hn]
  exact count_of (by omega) (by omega)
theorem next_of {s : List Nat} {n : Nat} (hw : whole s = true) (hl : s.length = 2 * n) (hn : n ≤ 60) :
    φ_next_row [.str s] = .ok (if numF 0 s + 1 = w (2 * n) 0 then .none else .str (rowF (2 * n) 0 (numF 0 s + 1))) := by
  have h1 := number_of hw (by omega)
  have hll := lim_of (s := s) (by omega)
  have hlt := numF_lt s 0 hw
  rw [hl] at hlt
  have d2 : dDiv (.int s.length) (.int 2) = .ok (nd n) := by
    rw [y_div (by omega) (by omega)]
    congr 2
    omega
  have hc := cnt_of hn
  have ha : dAdd (nd (numF 0 s)) (.int 1) = .ok (nd (numF 0 s + 1)) := by
    rw [y_add]
    rfl
  refine run_of (g := g_next_row) ?_
  by_cases h : numF 0 s + 1 = w (2 * n) 0
  · have he : dEq (nd (numF 0 s + 1)) (nd (w (2 * n) 0)) = .ok (.bool true) := by
      rw [y_eqI, decide_eq_true (by omega)]
    rw [if_pos h]
    generalize nd (w (2 * n) 0) = W at hc he
    generalize nd (numF 0 s + 1) = P1 at ha he
    generalize nd (numF 0 s) = P at h1 ha
    simp [g_next_row, h1, ha, hll, d2, hc, he]
  · have he : dEq (nd (numF 0 s + 1)) (nd (w (2 * n) 0)) = .ok (.bool false) := by
      rw [y_eqI, decide_eq_false (by omega)]
    have hr := row_of_of (size := n) (p := numF 0 s + 1) hn (by omega)
    rw [if_neg h]
    generalize rowF (2 * n) 0 (numF 0 s + 1) = R at hr ⊢
    generalize nd (w (2 * n) 0) = W at hc he
    generalize nd (numF 0 s + 1) = P1 at ha he hr
    generalize nd (numF 0 s) = P at h1 ha
    simp [g_next_row, h1, ha, hll, d2, hc, he, hr]
@[simp] theorem x_eKLen {i : Nat} {η : Env} : eKLen i η = match η[i]? with
  | some (some (.kd ks)) => .ok (.int ks.length)
  | _ => .bad := id rfl
/-! keys -/
def Good (K : List D) : Prop := K = [.none] ∨ (K.all (fun k => isTup k && keyN 8 k) = true ∧ K.Pairwise fun a b => D.eqv a b = false)
theorem apart_pw {α : Type} {e : α → α → Bool} : ∀ {l : List α}, apartB e l = true → l.Pairwise fun a b => e a b = false
  | [], _ => List.Pairwise.nil
  | x :: r, h => by
    unfold apartB at h
    rw [Bool.and_eq_true, List.all_eq_true] at h
    refine List.pairwise_cons.mpr ⟨fun y hy => ?_, apart_pw h.2⟩
    have := h.1 y hy
    simpa using this
theorem good_of {K : List D} (h : goodB K = true) : Good K := by
  unfold goodB at h
  rw [Bool.and_eq_true] at h
  obtain ⟨h1, h2⟩ := h
  split at h1
  · exact .inl rfl
  · exact .inr ⟨h1, apart_pw h2⟩
def slotK (K : List D) : Option S := match K with
  | [] => some (.dic [])
  | k :: r => some (.kd (k :: r))
theorem put_one {K : List D} {k : D} (h : Good (K ++ [k])) (hl : K.length ≤ 1000) {η : Env} (hη : η[8]? = some (slotK K)) : putKTo 8 k η = .next (η.set 8 (slotK (K ++ [k]))) := by
  cases K with
  | nil =>
    have hη : η[8]? = some (some (.dic [])) := hη
    unfold putKTo
    rw [hη]
    have : kdPut [] k = some [k] := by
      show (if isNon k = true then some [k] else if (isTup k && keyN 8 k) = true then some [k] else Option.none) = some [k]
      rcases h with h | h
      · have : k = .none := by simpa using h
        subst this
        rfl
      · have h1 : (isTup k && keyN 8 k) = true := by simpa using h.1
        rw [if_pos h1]
        split <;> rfl
    show (match kdPut [] k with
      | some ks => Out.next (η.set 8 (some (.kd ks)))
      | Option.none => .bad) = _
    rw [this]
    rfl
  | cons k0 r =>
    have hη : η[8]? = some (some (.kd (k0 :: r))) := hη
    unfold putKTo
    rw [hη]
    have hne : (k0 :: r) ++ [k] ≠ [.none] := by
      intro z
      have := congrArg List.length z
      simp at this
    obtain ⟨h1, h2⟩ := h.resolve_left hne
    rw [List.all_append, Bool.and_eq_true] at h1
    have hk : (isTup k && keyN 8 k) = true := by simpa using h1.2
    rw [Bool.and_eq_true] at hk
    have hall : (k0 :: r).all isTup = true := by
      rw [List.all_eq_true] at h1 ⊢
      intro x hx
      have := h1.1 x hx
      rw [Bool.and_eq_true] at this
      exact this.1
    have hno : ((k0 :: r).any fun x => D.eqv x k) = false := by
      rw [List.any_eq_false]
      intro x hx z
      have := (List.pairwise_append.mp h2).2.2 x hx k (List.mem_singleton.mpr rfl)
      rw [this] at z
      cases z
    have : kdPut (k0 :: r) k = some ((k0 :: r) ++ [k]) := by
      show (if (decide ((k0 :: r).length < lim) && isTup k && keyN 8 k && (k0 :: r).all isTup) = true then some (kPut (k0 :: r) k) else Option.none) = _
      rw [if_pos (by
        rw [hk.1, hk.2, hall, decide_eq_true (show (k0 :: r).length < 16777216 by omega)]
        rfl)]
      unfold kPut
      rw [hno]
      rfl
    show (match kdPut (k0 :: r) k with
      | some ks => Out.next (η.set 8 (some (.kd ks)))
      | Option.none => .bad) = _
    rw [this]
    rfl
theorem kd_slot (K : List D) : kdSlot (some (slotK K)) = true := by
  cases K <;> rfl
/-- the turns of one way -/
theorem way_loop {φ : List D → Res D} {way : Nat} {key : List Nat → D} {A0 A1 A2 A3 A4 A5 : Option S} (hpick : ∀ η : Env, ∀ d : D, η[7]? = some (some (.dat (nd way))) → η[6]? = some (some (.dat d)) → ePick [φ_forest_of 26, φ_tree_of 26, φ_parting_of, φ_cut_of] (eVar 7) (eVar 6) η = φ [d]) :
    ∀ (todo done : List (List Nat)) (z6 : Option S), (∀ s ∈ todo, φ [.str s] = .ok (key s)) → Good ((done ++ todo).map key) → (done ++ todo).length ≤ 1000 →
    ∃ z6', loop (gName 6) b_law_2 (todo.map D.str) [A0, A1, A2, A3, A4, A5, z6, some (.dat (nd way)), slotK (done.map key)] = .next [A0, A1, A2, A3, A4, A5, z6', some (.dat (nd way)), slotK ((done ++ todo).map key)]
  | [], done, z6, _, _, _ => ⟨z6, by rw [List.append_nil]; rfl⟩
  | s :: todo, done, z6, hk, hg, hl => by
    have ea : done ++ s :: todo = (done ++ [s]) ++ todo := by simp
    rw [ea] at hg hl
    obtain ⟨z6', e⟩ := way_loop hpick todo (done ++ [s]) (some (.dat (.str s))) (fun x hx => hk x (List.mem_cons_of_mem _ hx)) hg hl
    refine ⟨z6', ?_⟩
    rw [ea, ← e]
    refine loop_next rfl ?_
    show sPutK 8 (ePick [φ_forest_of 26, φ_tree_of 26, φ_parting_of, φ_cut_of] (eVar 7) (eVar 6)) (eC (.bool true)) [A0, A1, A2, A3, A4, A5, some (.dat (.str s)), some (.dat (nd way)), slotK (done.map key)] = _
    unfold sPutK
    rw [hpick _ (.str s) rfl rfl, hk s List.mem_cons_self]
    show (if kdSlot (some (slotK (done.map key))) = true then outOf (Res.ok (key s)) fun k => putKTo 8 k _ else Out.bad) = _
    rw [if_pos (kd_slot _)]
    show putKTo 8 (key s) _ = _
    have hg2 : Good (done.map key ++ [key s]) := by
      rw [List.append_assoc, List.map_append, List.map_append] at hg
      rcases hg with h | h
      · have := congrArg List.length h
        simp at this
        have e1 : done = [] := by
          cases done with
          | nil => rfl
          | cons x y => simp at this; omega
        have e2 : todo = [] := by
          cases todo with
          | nil => rfl
          | cons x y => simp at this; omega
        subst e1 e2
        exact .inl h
      · have h' : (done.map key ++ [key s] ++ todo.map key).all (fun k => isTup k && keyN 8 k) = true ∧ (done.map key ++ [key s] ++ todo.map key).Pairwise fun a b => D.eqv a b = false := by
          simpa [List.append_assoc] using h
        rw [List.all_append, Bool.and_eq_true] at h'
        exact .inr ⟨h'.1.1, (List.pairwise_append.mp h'.2).1⟩
    rw [put_one hg2 (by rw [List.length_map]; simp at hl; omega) rfl]
    have : (done ++ [s]).map key = done.map key ++ [key s] := by simp
    rw [this]
    rfl
theorem slot_len {K : List D} (h : 0 < K.length) {A0 A1 A2 A3 A4 A5 z6 z7 : Option S} : eKLen 8 [A0, A1, A2, A3, A4, A5, z6, z7, slotK K] = .ok (nd K.length) := by
  cases K with
  | nil => cases h
  | cons k r => rfl
/-- one way -/
theorem way_turn {t way : Nat} (ht : t < 6) {φ : List D → Res D} {key : List Nat → D} (hp : [φ_forest_of 26, φ_tree_of 26, φ_parting_of, φ_cut_of][way]? = some φ) (hk : ∀ s ∈ RwS t, φ [.str s] = .ok (key s)) (hg : Good ((RwS t).map key)) {A0 A1 A2 A5 z6 z8 : Option S} :
    ∃ z6' z8', b_law_3 [A0, A1, A2, some (.dat (nd (w (2 * t) 0))), some (.dat (.lst ((RwS t).map D.str))), A5, z6, some (.dat (nd way)), z8] = .next [A0, A1, A2, some (.dat (nd (w (2 * t) 0))), some (.dat (.lst ((RwS t).map D.str))), A5, z6', some (.dat (nd way)), z8'] := by
  have hw := f_w t ht
  have hlen : (RwS t).length = w (2 * t) 0 := by
    unfold RwS
    rw [List.length_map, List.length_range]
  obtain ⟨z6', e⟩ := way_loop (φ := φ) (way := way) (key := key) (A0 := A0) (A1 := A1) (A2 := A2) (A3 := some (.dat (nd (w (2 * t) 0)))) (A4 := some (.dat (.lst ((RwS t).map D.str)))) (A5 := A5) (fun η d h7 h6 => by
    unfold ePick
    have e7 : eVar 7 η = .ok (nd way) := by
      unfold eVar
      rw [h7]
    have e6 : eVar 6 η = .ok d := by
      unfold eVar
      rw [h6]
    rw [e7, e6]
    show (match at? [φ_forest_of 26, φ_tree_of 26, φ_parting_of, φ_cut_of] ((way : Nat) : Int) with
      | some φ => (Res.ok d).bind fun d => φ [d]
      | Option.none => .bad) = _
    rw [at_nat, hp]
    rfl) (RwS t) [] z6 hk hg (by rw [List.nil_append]; omega)
  rw [List.nil_append] at e
  have e : loop (gName 6) b_law_2 ((RwS t).map D.str) [A0, A1, A2, some (.dat (nd (w (2 * t) 0))), some (.dat (.lst ((RwS t).map D.str))), A5, z6, some (.dat (nd way)), some (.dic [])] = .next [A0, A1, A2, some (.dat (nd (w (2 * t) 0))), some (.dat (.lst ((RwS t).map D.str))), A5, z6', some (.dat (nd way)), slotK ((RwS t).map key)] := e
  have e2 := slot_len (K := (RwS t).map key) (by rw [List.length_map]; omega) (A0 := A0) (A1 := A1) (A2 := A2) (A3 := some (.dat (nd (w (2 * t) 0)))) (A4 := some (.dat (.lst ((RwS t).map D.str)))) (A5 := A5) (z6 := z6') (z7 := some (.dat (nd way)))
  rw [List.length_map, hlen] at e2
  have e3 : dNe (nd (w (2 * t) 0)) (nd (w (2 * t) 0)) = .ok (.bool false) := by
    rw [y_neI]
    simp
  refine ⟨z6', slotK ((RwS t).map key), ?_⟩
  generalize slotK ((RwS t).map key) = SK at e e2 ⊢
  generalize (RwS t).map D.str = L at e e2 ⊢
  generalize nd (w (2 * t) 0) = W at e e2 e3 ⊢
  generalize nd way = wy at e e2 ⊢
  simp [-x_eKLen, b_law_3, e, e2, e3]
def tr0 (t : Nat) (s : List Nat) : Tr := ((treesF 7 t).find? fun x => rowT x == s).getD .leaf
theorem tr0_row {t : Nat} (ht : t < 6) {s : List Nat} (hs : s ∈ RwS t) : rowT (tr0 t s) = s ∧ sz (tr0 t s) = t := by
  have e := f_rows t ht
  have e2 : ((RwS t).map (tr0 t)).map rowT = (RwS t).map id := by
    rw [List.map_id]
    exact e
  rw [List.map_map, List.map_inj_left] at e2
  exact ⟨e2 s hs, f_sz t ht _ (List.mem_map.mpr ⟨tr0 t s, List.mem_map.mpr ⟨s, hs, rfl⟩, rfl⟩)⟩
theorem all_ways {t way : Nat} (ht : t < 6) (hway : way < 4) {A0 A1 A2 A5 z6 z8 : Option S} :
    ∃ z6' z8', b_law_3 [A0, A1, A2, some (.dat (nd (w (2 * t) 0))), some (.dat (.lst ((RwS t).map D.str))), A5, z6, some (.dat (nd way)), z8] = .next [A0, A1, A2, some (.dat (nd (w (2 * t) 0))), some (.dat (.lst ((RwS t).map D.str))), A5, z6', some (.dat (nd way)), z8'] := by
  match way, hway with
  | 0, _ =>
    refine way_turn ht (φ := φ_forest_of 26) (key := fun s => .tup (forT (tr0 t s))) rfl (fun s hs => ?_) ?_
    · obtain ⟨h1, h2⟩ := tr0_row ht hs
      have := forest_of_of 26 (tr0 t s) (by omega) (by omega)
      rw [h1] at this
      exact this
    · have := good_of (f_forest t ht)
      unfold TS at this
      rw [List.map_map] at this
      exact this
  | 1, _ =>
    refine way_turn ht (φ := φ_tree_of 26) (key := fun s => treeD (tr0 t s)) rfl (fun s hs => ?_) ?_
    · obtain ⟨h1, h2⟩ := tr0_row ht hs
      have := tree_of_of 26 (tr0 t s) (by omega) (by omega)
      rw [h1] at this
      exact this
    · have := good_of (f_tree t ht)
      unfold TS at this
      rw [List.map_map] at this
      exact this
  | 2, _ => exact way_turn ht (φ := φ_parting_of) (key := fun s => .tup ((blks s).map tupN)) rfl (fun s hs => part_key ht hs) (good_of (f_part t ht))
  | 3, _ =>
    refine way_turn ht (φ := φ_cut_of) (key := fun s => .tup ((isort ((thr (tr0 t s) 0).map t3)).map tupN)) rfl (fun s hs => ?_) ?_
    · obtain ⟨h1, h2⟩ := tr0_row ht hs
      have := cut_key (x := tr0 t s) (by omega)
      rw [h1] at this
      exact this
    · have := good_of (f_cut t ht)
      unfold TS at this
      rw [List.map_map] at this
      exact this
/-! the rows, one after the other -/
theorem RwS_get {t p : Nat} (hp : p < w (2 * t) 0) : (RwS t)[p]? = some (rowF (2 * t) 0 p) := by
  unfold RwS
  rw [List.getElem?_map, List.getElem?_range hp]
  rfl
def rowOr (t p : Nat) : D := if p < w (2 * t) 0 then .str (rowF (2 * t) 0 p) else .none
theorem next_turn {t p : Nat} (ht : t < 6) (hp : p < w (2 * t) 0) {A0 A1 A2 z7 z8 : Option S} :
    b_law_1 [A0, A1, A2, some (.dat (nd (w (2 * t) 0))), some (.dat (.lst ((RwS t).map D.str))), some (.dat (nd p)), some (.dat (rowOr t p)), z7, z8] = .next [A0, A1, A2, some (.dat (nd (w (2 * t) 0))), some (.dat (.lst ((RwS t).map D.str))), some (.dat (nd p)), some (.dat (rowOr t (p + 1))), z7, z8] := by
  obtain ⟨hw, hnum⟩ := num_row (2 * t) 0 p hp
  have hlen := rowF_len (2 * t) 0 p
  have e1 : at? ((RwS t).map D.str) ((p : Nat) : Int) = some (.str (rowF (2 * t) 0 p)) := by
    rw [at_nat, List.getElem?_map, RwS_get hp]
    rfl
  have e2 := next_of (s := rowF (2 * t) 0 p) (n := t) hw hlen (by omega)
  rw [hnum] at e2
  have e3 : rowOr t (p + 1) = if p + 1 = w (2 * t) 0 then .none else .str (rowF (2 * t) 0 (p + 1)) := by
    unfold rowOr
    by_cases h : p + 1 = w (2 * t) 0
    · rw [if_pos h, if_neg (by omega)]
    · rw [if_neg h, if_pos (by omega)]
  have e4 : dNe (.str (rowF (2 * t) 0 p)) (.str (rowF (2 * t) 0 p)) = .ok (.bool false) := by
    rw [neS hw hw (by omega) (by omega)]
    simp
  have e5 : rowOr t p = .str (rowF (2 * t) 0 p) := if_pos hp
  rw [← e3] at e2
  rw [e5]
  generalize D.str (rowF (2 * t) 0 p) = R at e1 e2 e4 ⊢
  generalize rowOr t (p + 1) = R2 at e2 ⊢
  generalize (RwS t).map D.str = L at e1 ⊢
  simp [b_law_1, e1, e2, e4]
theorem plain_all (n : Nat) : ∀ L : List (List Nat), (∀ s ∈ L, plainS s = true ∧ s.length ≤ lim) → D.cmpAll n (L.map D.str) = true
  | [], _ => by unfold D.cmpAll; rfl
  | s :: L, h => by
    rw [List.map_cons, D.cmpAll, plain_all n L fun x hx => h x (List.mem_cons_of_mem _ hx), Bool.and_true]
    have := h s List.mem_cons_self
    cases n <;> (unfold D.cmp; rw [this.1, decide_eq_true this.2]; rfl)
theorem law_holds (ns : List Int) (hl : ns.length ≤ 63) (hb : ∀ z ∈ ns, z.natAbs.log2 ≤ 1048576) : φ_law [.lst (ns.map D.int)] = .ok (.bool true) := by
  refine run_of (g := g_law) ?_
  obtain ⟨x, hx⟩ : ∃ x, φ_l_cell [.lst (ns.map D.int), .int 0] = .ok (.int x) := by
    by_cases h : 0 < ns.length
    · have ha : at? (ns.map D.int) (0 : Int) = some (.int ns[0]) := by
        have := at_nat (xs := ns.map D.int) (i := 0)
        rw [show ((0 : Nat) : Int) = 0 from rfl] at this
        rw [this, List.getElem?_map, List.getElem?_eq_getElem h]
        rfl
      refine ⟨ns[0], run_of (g := g_l_cell) ?_⟩
      have h3 : (0 : Int) < ns.length := by omega
      simp [g_l_cell, h, h3, ha]
    · refine ⟨0, run_of (g := g_l_cell) ?_⟩
      have h3 : ¬ (0 : Int) < ns.length := by omega
      simp [g_l_cell, h, h3]
  obtain ⟨t, ht, hm⟩ : ∃ n : Nat, n < 6 ∧ φ_l_mix [.int x, .int 9929, .int 6] = .ok (nd n) := by
    obtain ⟨h1, h2⟩ := mix_range (c := x) (p := 9929) (m := 6) (by omega)
    refine ⟨(mix x 9929 6).toNat, by omega, ?_⟩
    rw [mix_of (by omega) (by omega), nd_of h1]
  have hw := f_w t ht
  have hw40 : w (2 * t) 0 ≤ 2 ^ 40 := Nat.le_trans hw.2 (by decide)
  obtain ⟨L, hL, hp, hs⟩ := l_all_of t 26 (by omega) (by omega)
  have hLR : L = RwS t := by
    refine List.Perm.eq_of_pairwise (fun a b _ _ h1 h2 => leN_anti h1 h2) hs (f_sort t ht) (hp.trans ?_)
    exact (List.isPerm_iff.mp (f_perm t ht)).symm
  subst hLR
  have hc := cnt_of (n := t) (by omega)
  have hrows : ∀ z0 z2 z4 z5 z6 z7 z8 : Option S, c_law_1 [z0, some (.dat (nd t)), z2, some (.dat (nd (w (2 * t) 0))), z4, z5, z6, z7, z8] = .ok (.lst ((RwS t).map D.str)) := by
    intro z0 z2 z4 z5 z6 z7 z8
    have e0 : ∀ W : Nat, rng1 (nd W) = .ok (numbers 0 W) → iRange1 (eVar 3) [z0, some (.dat (nd t)), z2, some (.dat (nd W)), z4, z5, z6, z7, z8] = .ok (numbers 0 W) := by
      intro W h
      generalize nd W = Y at h ⊢
      simp [h]
    have e0 := e0 _ (rng1_nat (w (2 * t) 0) hw40)
    refine eComp_of e0 (limA (by rw [numbers_len']; omega)) ?_
    have e1 := comp_list (g := gName 5) (t := tYes) (e := eCall φ_row_of [eVar 1, eVar 5]) (η := wipes [z0, some (.dat (nd t)), z2, some (.dat (nd (w (2 * t) 0))), z4, z5, z6, z7, z8] [5]) (fun k : Nat => D.int (0 + (k : Int))) (fun k => D.str (rowF (2 * t) 0 k)) (List.range (w (2 * t) 0)) fun k hk => by
      rw [List.mem_range] at hk
      have := row_of_of (size := t) (p := k) (by omega) hk
      refine ⟨_, rfl, rfl, ?_⟩
      show (evals [eVar 1, eVar 5] [z0, some (.dat (nd t)), z2, some (.dat (nd (w (2 * t) 0))), z4, some (.dat (D.int (0 + (k : Int)))), z6, z7, z8]).bind φ_row_of = _
      rw [Int.zero_add]
      exact this
    have e2 : (RwS t).map D.str = (List.range (w (2 * t) 0)).map fun k => D.str (rowF (2 * t) 0 k) := by
      unfold RwS
      rw [List.map_map]
      rfl
    rw [e2]
    exact e1
  have hne : dNe (.lst ((RwS t).map D.str)) (.lst ((RwS t).map D.str)) = .ok (.bool false) := ne_self (by
    unfold D.cmp
    exact plain_all 63 _ fun s hs => by
      obtain ⟨_, h2, h3, h4⟩ := f_pf t ht s hs
      exact ⟨plainW h4, lim_of (by omega)⟩)
  have h0 : dIdx (.lst ((RwS t).map D.str)) (.int 0) = .ok (rowOr t 0) := by
    have : at? ((RwS t).map D.str) (0 : Int) = some (rowOr t 0) := by
      have := at_nat (xs := (RwS t).map D.str) (i := 0)
      rw [show ((0 : Nat) : Int) = 0 from rfl] at this
      rw [this, List.getElem?_map, RwS_get hw.1]
      show some _ = some (if _ then _ else _)
      rw [if_pos hw.1]
    rw [y_idxL, this]
  have hr1 : rng1 (nd (w (2 * t) 0)) = .ok (numbers 0 (w (2 * t) 0)) := rng1_nat _ hw40
  have hr2 : rng1 (.int 4) = .ok (numbers 0 4) := rng1_nat 4 (by omega)
  obtain ⟨η1, e1, z5, rfl⟩ := loop_inv (g := gName 5) (b := b_law_1) (fun m η => ∃ z5, η = [some (.dat (.lst (ns.map D.int))), some (.dat (nd t)), some (.dat (.lst ((RwS t).map D.str))), some (.dat (nd (w (2 * t) 0))), some (.dat (.lst ((RwS t).map D.str))), z5, some (.dat (rowOr t m)), none, none]) (numbers 0 (w (2 * t) 0)) 0 [some (.dat (.lst (ns.map D.int))), some (.dat (nd t)), some (.dat (.lst ((RwS t).map D.str))), some (.dat (nd (w (2 * t) 0))), some (.dat (.lst ((RwS t).map D.str))), none, some (.dat (rowOr t 0)), none, none] ⟨_, rfl⟩ (fun i d η hi hP => by
    obtain ⟨h1, rfl⟩ := numbers_get hi
    obtain ⟨z5, rfl⟩ := hP
    rw [Int.zero_add, Nat.zero_add]
    exact ⟨_, _, rfl, .inl (next_turn ht h1), _, rfl⟩)
  rw [Nat.zero_add, numbers_len'] at e1
  have hend : rowOr t (w (2 * t) 0) = .none := if_neg (Nat.lt_irrefl _)
  rw [hend] at e1
  obtain ⟨η2, e2, z6, z7, z8, rfl⟩ := loop_all (g := gName 7) (b := b_law_3) (fun η => ∃ z6 z7 z8, η = [some (.dat (.lst (ns.map D.int))), some (.dat (nd t)), some (.dat (.lst ((RwS t).map D.str))), some (.dat (nd (w (2 * t) 0))), some (.dat (.lst ((RwS t).map D.str))), z5, z6, z7, z8]) (numbers 0 4) (η := [some (.dat (.lst (ns.map D.int))), some (.dat (nd t)), some (.dat (.lst ((RwS t).map D.str))), some (.dat (nd (w (2 * t) 0))), some (.dat (.lst ((RwS t).map D.str))), z5, some (.dat .none), none, none]) ⟨_, _, _, rfl⟩ (fun d hd η hη => by
    obtain ⟨i, hi, rfl⟩ := numbers_mem hd
    obtain ⟨z6, z7, z8, rfl⟩ := hη
    rw [Int.zero_add]
    obtain ⟨z6', z8', e⟩ := all_ways (way := i) ht hi (A0 := some (.dat (.lst (ns.map D.int)))) (A1 := some (.dat (nd t))) (A2 := some (.dat (.lst ((RwS t).map D.str)))) (A5 := z5) (z6 := z6) (z8 := z8)
    exact ⟨_, _, rfl, .inl e, _, _, _, rfl⟩)
  have hnn : dNotN .none .none = .ok (.bool false) := rfl
  have hr := hrows (some (.dat (.lst (ns.map D.int)))) (some (.dat (.lst ((RwS t).map D.str)))) none none none none none
  generalize rowOr t 0 = R0 at h0 e1
  clear hrows hb hp hs
  generalize (RwS t).map D.str = LL at hL hr hne h0 e1 e2
  generalize nd (w (2 * t) 0) = W at hc hr hr1 e1 e2
  generalize nd t = T at hm hL hc hr e1 e2
  generalize D.lst (ns.map D.int) = SC at hx hr e1 e2 ⊢
  show g_law [some (.dat SC), none, none, none, none, none, none, none, none] = _
  simp [g_law, hx, hm, hL, hc, hr, hne, h0, hr1, hr2, e1, e2, hnn]
end K10
end
/-! W10 -/
set_option Elab.async false
set_option linter.all false
set_option autoImplicit false
set_option maxRecDepth 100000
set_option maxHeartbeats 4000000
namespace K10
open Bk PySem PySem.Spec PyProof.Rows L2
open Bk (pv pe_weak pt_weak)
def topS (i : Nat) : Stmt := PySem.Challenge.pw_bracketnumbers_k10_whole_all_of_a_size.main.body.getD i (.Pass ⟨0, 0, 0, 0⟩)
abbrev s_heights : Stmt := topS 4
abbrev s_is_whole : Stmt := topS 5
abbrev s_ways_row : Stmt := topS 7
abbrev s_count : Stmt := topS 8
abbrev s_choices : Stmt := topS 9
abbrev s_ways : Stmt := topS 10
abbrev s_number : Stmt := topS 11
abbrev s_row_of : Stmt := topS 12
abbrev s_next_row : Stmt := topS 13
abbrev s_parts_of : Stmt := topS 15
abbrev s_forest_of : Stmt := topS 16
abbrev s_tree_of : Stmt := topS 17
abbrev s_parting_of : Stmt := topS 19
abbrev s_threes : Stmt := topS 20
abbrev s_cut_of : Stmt := topS 21
abbrev s_l_cell : Stmt := topS 23
abbrev s_l_mix : Stmt := topS 24
abbrev s_l_all : Stmt := topS 25
abbrev s_law : Stmt := topS 26
theorem sc_heights : FnScope ["row", "found", "sign"] ["row"] (defScope s_heights) := ⟨rfl, rfl, rfl, by decide +kernel, rfl, by decide +kernel, by decide +kernel⟩
theorem sc_is_whole : FnScope ["thing", "sign", "found"] ["thing"] (defScope s_is_whole) := ⟨rfl, rfl, rfl, by decide +kernel, rfl, by decide +kernel, by decide +kernel⟩
theorem sc_ways_row : FnScope ["steps", "bound", "found", "high", "k", "more", "less", "one", "other"] ["steps", "bound"] (defScope s_ways_row) := ⟨rfl, rfl, rfl, by decide +kernel, rfl, by decide +kernel, by decide +kernel⟩
theorem sc_count : FnScope ["size", "bound"] ["size", "bound"] (defScope s_count) := ⟨rfl, rfl, rfl, by decide +kernel, rfl, by decide +kernel, by decide +kernel⟩
theorem sc_choices : FnScope ["many", "some", "found", "k"] ["many", "some"] (defScope s_choices) := ⟨rfl, rfl, rfl, by decide +kernel, rfl, by decide +kernel, by decide +kernel⟩
theorem sc_ways : FnScope ["steps", "high", "opens"] ["steps", "high"] (defScope s_ways) := ⟨rfl, rfl, rfl, by decide +kernel, rfl, by decide +kernel, by decide +kernel⟩
theorem sc_number : FnScope ["row", "found", "high", "at", "sign"] ["row"] (defScope s_number) := ⟨rfl, rfl, rfl, by decide +kernel, rfl, by decide +kernel, by decide +kernel⟩
theorem sc_row_of : FnScope ["size", "place", "row", "high", "left", "many"] ["size", "place"] (defScope s_row_of) := ⟨rfl, rfl, rfl, by decide +kernel, rfl, by decide +kernel, by decide +kernel⟩
theorem sc_next_row : FnScope ["row", "place", "size"] ["row"] (defScope s_next_row) := ⟨rfl, rfl, rfl, by decide +kernel, rfl, by decide +kernel, by decide +kernel⟩
theorem sc_parts_of : FnScope ["row", "found", "high", "begin", "at", "sign"] ["row"] (defScope s_parts_of) := ⟨rfl, rfl, rfl, by decide +kernel, rfl, by decide +kernel, by decide +kernel⟩
theorem sc_forest_of : FnScope ["row", "part"] ["row"] (defScope s_forest_of) := ⟨rfl, rfl, rfl, by decide +kernel, rfl, by decide +kernel, by decide +kernel⟩
theorem sc_tree_of : FnScope ["row", "first"] ["row"] (defScope s_tree_of) := ⟨rfl, rfl, rfl, by decide +kernel, rfl, by decide +kernel, by decide +kernel⟩
theorem sc_parting_of : FnScope ["row", "found", "opened", "block", "many", "sign"] ["row"] (defScope s_parting_of) := ⟨rfl, rfl, rfl, by decide +kernel, rfl, by decide +kernel, by decide +kernel⟩
theorem sc_threes : FnScope ["row", "begin", "first", "rest", "middle"] ["row", "begin"] (defScope s_threes) := ⟨rfl, rfl, rfl, by decide +kernel, rfl, by decide +kernel, by decide +kernel⟩
theorem sc_cut_of : FnScope ["row", "a", "b", "c"] ["row"] (defScope s_cut_of) := ⟨rfl, rfl, rfl, by decide +kernel, rfl, by decide +kernel, by decide +kernel⟩
theorem sc_l_cell : FnScope ["_law_script", "_law_k"] ["_law_script", "_law_k"] (defScope s_l_cell) := ⟨rfl, rfl, rfl, by decide +kernel, rfl, by decide +kernel, by decide +kernel⟩
theorem sc_l_mix : FnScope ["_law_cell_here", "_law_prime", "_law_many"] ["_law_cell_here", "_law_prime", "_law_many"] (defScope s_l_mix) := ⟨rfl, rfl, rfl, by decide +kernel, rfl, by decide +kernel, by decide +kernel⟩
theorem sc_l_all : FnScope ["_law_size", "_law_found", "_law_k", "_law_one", "_law_other"] ["_law_size"] (defScope s_l_all) := ⟨rfl, rfl, rfl, by decide +kernel, rfl, by decide +kernel, by decide +kernel⟩
theorem sc_law : FnScope ["_law_script", "_law_size", "_law_due", "_law_many", "_law_rows", "_law_place", "_law_row", "_law_way", "_law_found"] ["_law_script"] (defScope s_law) := ⟨rfl, rfl, rfl, by decide +kernel, rfl, by decide +kernel, by decide +kernel⟩
section
variable {P : Program} {w : World} {K : PySem.W.Frag} {mg : Str → Option Value} {base : Heap} {cl : Cls → Addr} {k : Nat} (M : Bi mg)
include M
theorem ok_heights (F : Has K mg "heights" s_heights ["row"]) : DefOk P w K mg base cl (k + 1) "heights" 1 φ_heights :=
  F.ok sc_heights rfl fun cdv A outer s H E G fa hr hu hu1 hu12 => (ss_cons (s_new 1 sc_heights.nd (pas_cons pv_int pas_nil))
  (ss_cons (s_for (passes_of rfl) rfl (pi_any (pv 0)) (pg_n 2 [2] sc_heights.nd)
  (ss_one (s_app 1 (pv_sub (pv_add (pv_ixO 1 (pv_neg pv_int)) pv_int) (pv_mul pv_int (pv_t1 cu_int M.m_int (pv_cmp (od_eq hu) (pv 2) (pv_str [41]))))))))
  (ss_one (s_retO 1))))
theorem ok_is_whole (F : Has K mg "is_whole" s_is_whole ["thing"]) (c_heights : DefOk P w K mg base cl k "heights" 1 φ_heights) : DefOk P w K mg base cl (k + 1) "is_whole" 1 φ_is_whole :=
  F.ok sc_is_whole rfl fun cdv A outer s H E G fa hr hu hu1 hu12 => (ss_cons (s_if (tw_pt (tw_or (tv_not (tv_truth (pv_isi .str M.m_isinstance M.m_str (pv 0)))) (tw_or (tv_cmp od_gt (pv_b1 cu_len M.m_len (pv 0)) pv_int) (tw_one0 (tv_not (tv_truth (pv_b1 (cu_all rfl) M.m_all (pv_lc [("sign", 1)] rfl sc_is_whole.nd (pi_any (pv 0)) (blkOk_by (N := ["thing", "sign", "found"]) (sc := defScope s_is_whole) (by decide +kernel)) (fun _ _ _ _ _ => (pg_n 1 [1] sc_is_whole.nd)) (fun _ _ _ _ _ => pts_y) (fun _ _ _ _ _ => (pv_cmp od_inS (pv 1) (pv_str [40, 41]))))))))))) (ss_one (s_ret pv_bl)) ss_nil)
  (ss_cons (s_set 2 sc_is_whole.nd (pv_call c_heights hr pass1 (pas_cons (pv 0) pas_nil)))
  (ss_one (s_ret (pv_and (pv_cmp (od_eq hu) (pv_b1 (cu_min rfl) M.m_min (pv 2)) pv_int) (pv_last (pv_cmp (od_eq hu) (pv_ix (pv 2) (pv_neg pv_int)) pv_int)))))))
theorem ok_ways_row (F : Has K mg "ways_row" s_ways_row ["steps", "bound"]) : DefOk P w K mg base cl (k + 1) "ways_row" 2 φ_ways_row :=
  F.ok sc_ways_row rfl fun cdv A outer s H E G fa hr hu hu1 hu12 => (ss_cons (s_setLc 2 [("high", 3)] rfl sc_ways_row.nd (pi_rng1 M.m_range (pv_add (pv 1) pv_int)) (blkOk_by (N := ["steps", "bound", "found", "high", "k", "more", "less", "one", "other"]) (sc := defScope s_ways_row) (by decide +kernel)) (fun _ _ _ _ _ => (pg_n 3 [3] sc_ways_row.nd)) (fun _ _ _ _ _ => pts_y) (fun _ _ _ _ _ => (pv_t1 cu_int M.m_int (pv_cmp (od_eq hu) (pv 3) pv_int))))
  (ss_cons (s_for (passes_of rfl) rfl (pi_rng1 M.m_range (pv 0)) (pg_n 4 [4] sc_ways_row.nd)
  (ss_cons (s_set 5 sc_ways_row.nd (pv_add (pv_sl (pv 2) (ps1 pv_int) ps0) (pv_lst (pas_cons pv_int pas_nil))))
  (ss_cons (s_set 6 sc_ways_row.nd (pv_add (pv_lst (pas_cons pv_int pas_nil)) (pv_sl (pv 2) ps0 (ps1 (pv_neg pv_int)))))
  (ss_one (s_setLc 2 [("one", 7), ("other", 8)] rfl sc_ways_row.nd (pi_zipD M.m_zip (pv 5) (pv 6)) (blkOk_by (N := ["steps", "bound", "found", "high", "k", "more", "less", "one", "other"]) (sc := defScope s_ways_row) (by decide +kernel)) (fun _ _ _ _ _ => (pg_2 [7, 8] rfl (pg_name (i := 7) sc_ways_row.nd rfl (by first | exact .inl rfl | exact .inr rfl) (by first | exact .inl rfl | exact .inr rfl)) (pg_name (i := 8) sc_ways_row.nd rfl (by first | exact .inl rfl | exact .inr rfl) (by first | exact .inl rfl | exact .inr rfl)))) (fun _ _ _ _ _ => pts_y) (fun _ _ _ _ _ => (pv_add (pv 7) (pv 8))))))))
  (ss_one (s_ret (pv 2)))))
theorem ok_count (F : Has K mg "count" s_count ["size", "bound"]) (c_ways_row : DefOk P w K mg base cl k "ways_row" 2 φ_ways_row) : DefOk P w K mg base cl (k + 1) "count" 2 φ_count :=
  F.ok sc_count rfl fun cdv A outer s H E G fa hr hu hu1 hu12 => (ss_one (s_ret (pv_ix (pv_call c_ways_row hr pass1 (pas_cons (pv_mul pv_int (pv 0)) (pas_cons (pv_b2 (cb_min2 rfl) M.m_min (pv 1) (pv 0)) pas_nil))) pv_int)))
theorem ok_choices (F : Has K mg "choices" s_choices ["many", "some"]) : DefOk P w K mg base cl (k + 1) "choices" 2 φ_choices :=
  F.ok sc_choices rfl fun cdv A outer s H E G fa hr hu hu1 hu12 => (ss_cons (s_if (tv_cmp od_lt (pv 1) pv_int) (ss_one (s_ret pv_int)) ss_nil)
  (ss_cons (s_set 2 sc_choices.nd pv_int)
  (ss_cons (s_for (passes_of rfl) rfl (pi_rng1 M.m_range (pv 1)) (pg_n 3 [3] sc_choices.nd)
  (ss_one (s_set 2 sc_choices.nd (pv_div (pv_mul (pv 2) (pv_sub (pv 0) (pv 3))) (pv_add (pv 3) pv_int)))))
  (ss_one (s_ret (pv 2))))))
theorem ok_ways (F : Has K mg "ways" s_ways ["steps", "high"]) (c_choices : DefOk P w K mg base cl k "choices" 2 φ_choices) : DefOk P w K mg base cl (k + 1) "ways" 2 φ_ways :=
  F.ok sc_ways rfl fun cdv A outer s H E G fa hr hu hu1 hu12 => (ss_cons (s_if (tw_pt (tw_or (tv_cmp od_lt (pv 1) pv_int) (tw_or (tv_cmp od_gt (pv 1) (pv 0)) (tw_one0 (tv_cmp (od_eq hu) (pv_mod (pv_sub (pv 0) (pv 1)) pv_int) pv_int))))) (ss_one (s_ret pv_int)) ss_nil)
  (ss_cons (s_set 2 sc_ways.nd (pv_div (pv_sub (pv 0) (pv 1)) pv_int))
  (ss_one (s_ret (pv_sub (pv_call c_choices hr pass1 (pas_cons (pv 0) (pas_cons (pv 2) pas_nil))) (pv_call c_choices hr pass1 (pas_cons (pv 0) (pas_cons (pv_sub (pv 2) pv_int) pas_nil))))))))
theorem ok_number (XE : ErrsR K mg cl) (F : Has K mg "number" s_number ["row"]) (c_is_whole : DefOk P w K mg base cl k "is_whole" 1 φ_is_whole) (c_ways : DefOk P w K mg base cl k "ways" 2 φ_ways) : DefOk P w K mg base cl (k + 1) "number" 1 φ_number :=
  F.ok sc_number rfl fun cdv A outer s H E G fa hr hu hu1 hu12 => (ss_cons (s_if (tv_not (tv_truth (pv_call c_is_whole hr pass1 (pas_cons (pv 0) pas_nil)))) (ss_one (s_raise (c := .noRow) XE.r (takes_of rfl rfl rfl rfl))) ss_nil)
  (ss_cons (s_set 1 sc_number.nd pv_int)
  (ss_cons (s_set 2 sc_number.nd pv_int)
  (ss_cons (s_for (passes_of rfl) rfl (pi_enumS M.m_enumerate (pv 0)) (pg_2 [3, 4] rfl (pg_name (i := 3) sc_number.nd rfl (by first | exact .inl rfl | exact .inr rfl) (by first | exact .inl rfl | exact .inr rfl)) (pg_name (i := 4) sc_number.nd rfl (by first | exact .inl rfl | exact .inr rfl) (by first | exact .inl rfl | exact .inr rfl)))
  (ss_one (s_if (tv_cmp (od_eq hu) (pv 4) (pv_str [41])) (ss_cons (s_set 1 sc_number.nd (pv_add (pv 1) (pv_call c_ways hr pass1 (pas_cons (pv_sub (pv_sub (pv_b1 cu_len M.m_len (pv 0)) (pv 3)) pv_int) (pas_cons (pv_add (pv 2) pv_int) pas_nil)))))
  (ss_one (s_set 2 sc_number.nd (pv_sub (pv 2) pv_int)))) (ss_one (s_set 2 sc_number.nd (pv_add (pv 2) pv_int))))))
  (ss_one (s_ret (pv 1)))))))
theorem ok_row_of (XE : ErrsR K mg cl) (F : Has K mg "row_of" s_row_of ["size", "place"]) (c_count : DefOk P w K mg base cl k "count" 2 φ_count) (c_ways : DefOk P w K mg base cl k "ways" 2 φ_ways) : DefOk P w K mg base cl (k + 1) "row_of" 2 φ_row_of :=
  F.ok sc_row_of rfl fun cdv A outer s H E G fa hr hu hu1 hu12 => (ss_cons (s_if (tv_not (tv_chain od_le od_lt pv_int (pv 1) (pv_call c_count hr pass1 (pas_cons (pv 0) (pas_cons (pv 0) pas_nil))))) (ss_one (s_raise (c := .noRow) XE.r (takes_of rfl rfl rfl rfl))) ss_nil)
  (ss_cons (s_set 2 sc_row_of.nd (pv_str []))
  (ss_cons (s_set 3 sc_row_of.nd pv_int)
  (ss_cons (s_for (passes_of rfl) rfl (pi_revR1 M.m_reversed M.m_range (pv_mul pv_int (pv 0))) (pg_n 4 [4] sc_row_of.nd)
  (ss_cons (s_set 5 sc_row_of.nd (pv_call c_ways hr pass1 (pas_cons (pv 4) (pas_cons (pv_add (pv 3) pv_int) pas_nil))))
  (ss_one (s_if (tv_cmp od_lt (pv 1) (pv 5)) (ss_cons (s_set 2 sc_row_of.nd (pv_add (pv 2) (pv_str [40])))
  (ss_one (s_set 3 sc_row_of.nd (pv_add (pv 3) pv_int)))) (ss_cons (s_set 1 sc_row_of.nd (pv_sub (pv 1) (pv 5)))
  (ss_cons (s_set 2 sc_row_of.nd (pv_add (pv 2) (pv_str [41])))
  (ss_one (s_set 3 sc_row_of.nd (pv_sub (pv 3) pv_int)))))))))
  (ss_one (s_ret (pv 2)))))))
theorem ok_next_row (F : Has K mg "next_row" s_next_row ["row"]) (c_number : DefOk P w K mg base cl k "number" 1 φ_number) (c_count : DefOk P w K mg base cl k "count" 2 φ_count) (c_row_of : DefOk P w K mg base cl k "row_of" 2 φ_row_of) : DefOk P w K mg base cl (k + 1) "next_row" 1 φ_next_row :=
  F.ok sc_next_row rfl fun cdv A outer s H E G fa hr hu hu1 hu12 => (ss_cons (s_set 1 sc_next_row.nd (pv_add (pv_call c_number hr pass1 (pas_cons (pv 0) pas_nil)) pv_int))
  (ss_cons (s_set 2 sc_next_row.nd (pv_div (pv_b1 cu_len M.m_len (pv 0)) pv_int))
  (ss_cons (s_if (tv_cmp (od_eq hu) (pv 1) (pv_call c_count hr pass1 (pas_cons (pv 2) (pas_cons (pv 2) pas_nil)))) (ss_one (s_ret pv_non)) ss_nil)
  (ss_one (s_ret (pv_call c_row_of hr pass1 (pas_cons (pv 2) (pas_cons (pv 1) pas_nil))))))))
theorem ok_parts_of (F : Has K mg "parts_of" s_parts_of ["row"]) : DefOk P w K mg base cl (k + 1) "parts_of" 1 φ_parts_of :=
  F.ok sc_parts_of rfl fun cdv A outer s H E G fa hr hu hu1 hu12 => (ss_cons (s_new 1 sc_parts_of.nd pas_nil)
  (ss_cons (s_set 2 sc_parts_of.nd pv_int)
  (ss_cons (s_set 3 sc_parts_of.nd pv_int)
  (ss_cons (s_for (passes_of rfl) rfl (pi_enumS M.m_enumerate (pv 0)) (pg_2 [4, 5] rfl (pg_name (i := 4) sc_parts_of.nd rfl (by first | exact .inl rfl | exact .inr rfl) (by first | exact .inl rfl | exact .inr rfl)) (pg_name (i := 5) sc_parts_of.nd rfl (by first | exact .inl rfl | exact .inr rfl) (by first | exact .inl rfl | exact .inr rfl)))
  (ss_cons (s_set 2 sc_parts_of.nd (pv_sub (pv_add (pv 2) pv_int) (pv_mul pv_int (pv_t1 cu_int M.m_int (pv_cmp (od_eq hu) (pv 5) (pv_str [41]))))))
  (ss_one (s_if (tv_cmp (od_eq hu) (pv 2) pv_int) (ss_cons (s_app 1 (pv_sl (pv 0) (ps1 (pv_add (pv 3) pv_int)) (ps1 (pv 4))))
  (ss_one (s_set 3 sc_parts_of.nd (pv_add (pv 4) pv_int)))) ss_nil))))
  (ss_one (s_retO 1))))))
theorem st_forest_of {self : List D → Res D} (F : Has K mg "forest_of" s_forest_of ["row"]) (c_parts_of : DefOk P w K mg base cl k "parts_of" 1 φ_parts_of) (c_forest_of : DefOk P w K mg base cl k "forest_of" 1 self) : DefOk P w K mg base cl (k + 1) "forest_of" 1 (runDef 2 (g_forest_of self)) :=
  F.ok sc_forest_of rfl fun cdv A outer s H E G fa hr hu hu1 hu12 => (ss_one (s_ret (pv_t1 cu_tuple M.m_tuple (pv_lc [("part", 1)] rfl sc_forest_of.nd (pi_any (pv_call c_parts_of hr pass1 (pas_cons (pv 0) pas_nil))) (blkOk_by (N := ["row", "part"]) (sc := defScope s_forest_of) (by decide +kernel)) (fun _ _ _ _ _ => (pg_n 1 [1] sc_forest_of.nd)) (fun _ _ _ _ _ => pts_y) (fun _ _ _ _ _ => (pv_call c_forest_of hr passL (pas_cons (pv 1) pas_nil)))))))
theorem ok_forest_of (F : Has K mg "forest_of" s_forest_of ["row"]) (c_parts_of : DefOk P w K mg base cl k "parts_of" 1 φ_parts_of) : ∀ n, DefOk P w K mg base cl (k + n + 1) "forest_of" 1 (φ_forest_of n)
  | 0 => F.zero sc_forest_of rfl
  | n + 1 => st_forest_of M F (c_parts_of.mono (by omega)) (ok_forest_of F c_parts_of n)
theorem st_tree_of {self : List D → Res D} (F : Has K mg "tree_of" s_tree_of ["row"]) (c_parts_of : DefOk P w K mg base cl k "parts_of" 1 φ_parts_of) (c_tree_of : DefOk P w K mg base cl k "tree_of" 1 self) : DefOk P w K mg base cl (k + 1) "tree_of" 1 (runDef 2 (g_tree_of self)) :=
  F.ok sc_tree_of rfl fun cdv A outer s H E G fa hr hu hu1 hu12 => (ss_cons (s_if (tv_cmp (od_eq hu) (pv 0) (pv_str [])) (ss_one (s_ret pv_non)) ss_nil)
  (ss_cons (s_set 1 sc_tree_of.nd (pv_ix (pv_call c_parts_of hr pass1 (pas_cons (pv 0) pas_nil)) pv_int))
  (ss_one (s_ret (pv_tup (pas_cons (pv_call c_tree_of hr pass1 (pas_cons (pv 1) pas_nil)) (pas_cons (pv_call c_tree_of hr pass1 (pas_cons (pv_sl (pv 0) (ps1 (pv_add (pv_b1 cu_len M.m_len (pv 1)) pv_int)) ps0) pas_nil)) pas_nil)))))))
theorem ok_tree_of (F : Has K mg "tree_of" s_tree_of ["row"]) (c_parts_of : DefOk P w K mg base cl k "parts_of" 1 φ_parts_of) : ∀ n, DefOk P w K mg base cl (k + n + 1) "tree_of" 1 (φ_tree_of n)
  | 0 => F.zero sc_tree_of rfl
  | n + 1 => st_tree_of M F (c_parts_of.mono (by omega)) (ok_tree_of F c_parts_of n)
theorem ok_parting_of (F : Has K mg "parting_of" s_parting_of ["row"]) : DefOk P w K mg base cl (k + 1) "parting_of" 1 φ_parting_of :=
  F.ok sc_parting_of rfl fun cdv A outer s H E G fa hr hu hu1 hu12 => (ss_cons (s_new 1 sc_parting_of.nd pas_nil)
  (ss_cons (s_new 2 sc_parting_of.nd pas_nil)
  (ss_cons (s_new 3 sc_parting_of.nd pas_nil)
  (ss_cons (s_set 4 sc_parting_of.nd pv_int)
  (ss_cons (s_for (passes_of rfl) rfl (pi_any (pv_add (pv 0) (pv_str [40]))) (pg_n 5 [5] sc_parting_of.nd)
  (ss_one (s_if (tv_cmp (od_eq hu) (pv 5) (pv_str [40])) (ss_cons (s_if (tv_own 3) (ss_cons (s_app 1 (pv_t1 cu_tuple M.m_tuple (pv_b1O 3 (cu_sorted hu12) M.m_sorted)))
  (ss_one (s_new 3 sc_parting_of.nd pas_nil))) ss_nil)
  (ss_cons (s_app 2 (pv 4))
  (ss_one (s_set 4 sc_parting_of.nd (pv_add (pv 4) pv_int))))) (ss_one (s_appPop 3 2)))))
  (ss_one (s_ret (pv_t1 cu_tuple M.m_tuple (pv_b1O 1 (cu_sorted hu12) M.m_sorted)))))))))
theorem st_threes {self : List D → Res D} (F : Has K mg "threes" s_threes ["row", "begin"]) (c_parts_of : DefOk P w K mg base cl k "parts_of" 1 φ_parts_of) (c_threes : DefOk P w K mg base cl k "threes" 2 self) : DefOk P w K mg base cl (k + 1) "threes" 2 (runDef 5 (g_threes self)) :=
  F.ok sc_threes rfl fun cdv A outer s H E G fa hr hu hu1 hu12 => (ss_cons (s_if (tv_cmp (od_eq hu) (pv 0) (pv_str [])) (ss_one (s_ret (pv_lst pas_nil))) ss_nil)
  (ss_cons (s_set 2 sc_threes.nd (pv_ix (pv_call c_parts_of hr pass1 (pas_cons (pv 0) pas_nil)) pv_int))
  (ss_cons (s_set 3 sc_threes.nd (pv_sl (pv 0) (ps1 (pv_add (pv_b1 cu_len M.m_len (pv 2)) pv_int)) ps0))
  (ss_cons (s_set 4 sc_threes.nd (pv_add (pv_add (pv 1) (pv_div (pv_b1 cu_len M.m_len (pv 2)) pv_int)) pv_int))
  (ss_one (s_ret (pv_add (pv_add (pv_lst (pas_cons (pv_tup (pas_cons (pv 1) (pas_cons (pv 4) (pas_cons (pv_add (pv_add (pv 4) (pv_div (pv_b1 cu_len M.m_len (pv 3)) pv_int)) pv_int) pas_nil)))) pas_nil)) (pv_call c_threes hr pass1 (pas_cons (pv 2) (pas_cons (pv 1) pas_nil)))) (pv_call c_threes hr pass1 (pas_cons (pv 3) (pas_cons (pv 4) pas_nil))))))))))
theorem ok_threes (F : Has K mg "threes" s_threes ["row", "begin"]) (c_parts_of : DefOk P w K mg base cl k "parts_of" 1 φ_parts_of) : ∀ n, DefOk P w K mg base cl (k + n + 1) "threes" 2 (φ_threes n)
  | 0 => F.zero sc_threes rfl
  | n + 1 => st_threes M F (c_parts_of.mono (by omega)) (ok_threes F c_parts_of n)
theorem ok_cut_of (F : Has K mg "cut_of" s_cut_of ["row"]) (c_threes : DefOk P w K mg base cl k "threes" 2 (φ_threes 26)) : DefOk P w K mg base cl (k + 1) "cut_of" 1 φ_cut_of :=
  F.ok sc_cut_of rfl fun cdv A outer s H E G fa hr hu hu1 hu12 => (ss_one (s_ret (pv_t1 cu_tuple M.m_tuple (pv_b1 (cu_sorted hu12) M.m_sorted (pv_lc [("a", 1), ("b", 2), ("c", 3)] rfl sc_cut_of.nd (pi_any (pv_call c_threes hr pass1 (pas_cons (pv 0) (pas_cons pv_int pas_nil)))) (blkOk_by (N := ["row", "a", "b", "c"]) (sc := defScope s_cut_of) (by decide +kernel)) (fun _ _ _ _ _ => (pg_3 [1, 2, 3] rfl (pg_name (i := 1) sc_cut_of.nd rfl (by first | exact .inl rfl | exact .inr rfl) (by first | exact .inl rfl | exact .inr rfl)) (pg_name (i := 2) sc_cut_of.nd rfl (by first | exact .inl rfl | exact .inr rfl) (by first | exact .inl rfl | exact .inr rfl)) (pg_name (i := 3) sc_cut_of.nd rfl (by first | exact .inl rfl | exact .inr rfl) (by first | exact .inl rfl | exact .inr rfl)))) (fun _ _ _ _ _ => pts_y) (fun _ _ _ _ _ => (pv_tup (pas_cons (pv 1) (pas_cons (pv 2) (pas_cons (pv 3) pas_nil))))))))))
theorem ok_l_cell (F : Has K mg "_law_cell" s_l_cell ["_law_script", "_law_k"]) : DefOk P w K mg base cl (k + 1) "_law_cell" 2 φ_l_cell :=
  F.ok sc_l_cell rfl fun cdv A outer s H E G fa hr hu hu1 hu12 => (ss_cons (s_if (tv_cmp od_lt (pv 1) (pv_b1 cu_len M.m_len (pv 0))) (ss_one (s_ret (pv_ix (pv 0) (pv 1)))) ss_nil)
  (ss_one (s_ret pv_int)))
theorem ok_l_mix (F : Has K mg "_law_mix" s_l_mix ["_law_cell_here", "_law_prime", "_law_many"]) : DefOk P w K mg base cl (k + 1) "_law_mix" 3 φ_l_mix :=
  F.ok sc_l_mix rfl fun cdv A outer s H E G fa hr hu hu1 hu12 => (ss_one (s_ret (pv_mod (pv_mod (pv_mul (pv 0) pv_int) (pv 1)) (pv 2))))
theorem st_l_all {self : List D → Res D} (F : Has K mg "_law_all" s_l_all ["_law_size"]) (c_l_all : DefOk P w K mg base cl k "_law_all" 1 self) : DefOk P w K mg base cl (k + 1) "_law_all" 1 (runDef 5 (g_l_all self)) :=
  F.ok sc_l_all rfl fun cdv A outer s H E G fa hr hu hu1 hu12 => (ss_cons (s_if (tv_cmp (od_eq hu) (pv 0) pv_int) (ss_one (s_ret (pv_lst (pas_cons (pv_str []) pas_nil)))) ss_nil)
  (ss_cons (s_new 1 sc_l_all.nd pas_nil)
  (ss_cons (s_for (passes_of rfl) rfl (pi_rng1 M.m_range (pv 0)) (pg_n 2 [2] sc_l_all.nd)
  (ss_one (s_for (passes_of rfl) rfl (pi_any (pv_call c_l_all hr pass1 (pas_cons (pv 2) pas_nil))) (pg_n 3 [3] sc_l_all.nd)
  (ss_one (s_ext 1 (pv_lc [("_law_other", 4)] rfl sc_l_all.nd (pi_any (pv_call c_l_all hr pass1 (pas_cons (pv_sub (pv_sub (pv 0) pv_int) (pv 2)) pas_nil))) (blkOk_by (N := ["_law_size", "_law_found", "_law_k", "_law_one", "_law_other"]) (sc := defScope s_l_all) (by decide +kernel)) (fun _ _ _ _ _ => (pg_n 4 [4] sc_l_all.nd)) (fun _ _ _ _ _ => pts_y) (fun _ _ _ _ _ => (pv_add (pv_add (pv_add (pv_str [40]) (pv 3)) (pv_str [41])) (pv 4)))))))))
  (ss_one (s_ret (pv_b1O 1 (cu_sorted hu12) M.m_sorted))))))
theorem ok_l_all (F : Has K mg "_law_all" s_l_all ["_law_size"]) : ∀ n, DefOk P w K mg base cl (k + n + 1) "_law_all" 1 (φ_l_all n)
  | 0 => F.zero sc_l_all rfl
  | n + 1 => st_l_all M F (ok_l_all F n)
theorem fn_law {fa : Addr} {fd : FuncData} (cl : Cls → Addr) (F : Fun K "law" "law" s_law fa fd) (c_l_mix : DefOk P w K mg base cl k "_law_mix" 3 φ_l_mix) (c_l_cell : DefOk P w K mg base cl k "_law_cell" 2 φ_l_cell) (c_l_all : DefOk P w K mg base cl k "_law_all" 1 (φ_l_all 26)) (c_count : DefOk P w K mg base cl k "count" 2 φ_count) (c_row_of : DefOk P w K mg base cl k "row_of" 2 φ_row_of) (c_next_row : DefOk P w K mg base cl k "next_row" 1 φ_next_row) (c_forest_of : DefOk P w K mg base cl k "forest_of" 1 (φ_forest_of 26)) (c_tree_of : DefOk P w K mg base cl k "tree_of" 1 (φ_tree_of 26)) (c_parting_of : DefOk P w K mg base cl k "parting_of" 1 φ_parting_of) (c_cut_of : DefOk P w K mg base cl k "cut_of" 1 φ_cut_of) : FnOk P w K mg base (L2.CX P w) (k + 1) fa fd ["_law_script"] (spL K φ_law) :=
  fn_okL cl F sc_law rfl fun cdv A outer s H E G hr hu hu1 hu12 => (ss_cons (s_set 1 sc_law.nd (pv_call c_l_mix hr pass1 (pas_cons (pv_call c_l_cell hr pass1 (pas_cons (pv 0) (pas_cons pv_int pas_nil))) (pas_cons pv_int (pas_cons pv_int pas_nil)))))
  (ss_cons (s_set 2 sc_law.nd (pv_call c_l_all hr pass1 (pas_cons (pv 1) pas_nil)))
  (ss_cons (s_set 3 sc_law.nd (pv_call c_count hr pass1 (pas_cons (pv 1) (pas_cons (pv 1) pas_nil))))
  (ss_cons (s_setLc 4 [("_law_place", 5)] rfl sc_law.nd (pi_rng1 M.m_range (pv 3)) (blkOk_by (N := ["_law_script", "_law_size", "_law_due", "_law_many", "_law_rows", "_law_place", "_law_row", "_law_way", "_law_found"]) (sc := defScope s_law) (by decide +kernel)) (fun _ _ _ _ _ => (pg_n 5 [5] sc_law.nd)) (fun _ _ _ _ _ => pts_y) (fun _ _ _ _ _ => (pv_call c_row_of hr passL (pas_cons (pv 1) (pas_cons (pv 5) pas_nil)))))
  (ss_cons (s_if (tv_cmp (od_ne hu) (pv 4) (pv 2)) (ss_one (s_ret pv_bl)) ss_nil)
  (ss_cons (s_set 6 sc_law.nd (pv_ix (pv 4) pv_int))
  (ss_cons (s_for (passes_of rfl) rfl (pi_rng1 M.m_range (pv 3)) (pg_n 5 [5] sc_law.nd)
  (ss_cons (s_if (tv_cmp (od_ne hu) (pv 6) (pv_ix (pv 4) (pv 5))) (ss_one (s_ret pv_bl)) ss_nil)
  (ss_one (s_set 6 sc_law.nd (pv_call c_next_row hr pass1 (pas_cons (pv 6) pas_nil))))))
  (ss_cons (s_if (tv_cmp od_notN (pv 6) pv_non) (ss_one (s_ret pv_bl)) ss_nil)
  (ss_cons (s_for (passes_of rfl) rfl (pi_rng1 M.m_range pv_int) (pg_n 7 [7] sc_law.nd)
  (ss_cons (s_newD 8 sc_law.nd)
  (ss_cons (s_for (passes_of rfl) rfl (pi_any (pv 4)) (pg_n 6 [6] sc_law.nd)
  (ss_one (s_putK 8 hu12 (pv_pick4 c_forest_of c_tree_of c_parting_of c_cut_of hr pass1 (pv 7) (pv 6)) pv_bl)))
  (ss_one (s_if (tv_cmp (od_ne hu) (pv_klen 8 M.m_len) (pv 3)) (ss_one (s_ret pv_bl)) ss_nil)))))
  (ss_one (s_ret pv_bl)))))))))))
end
theorem all_mk {l : PySem.W.OpenLaw} {w : World} {K : PySem.W.Frag} {h : Heap} {mg : Str → Option Value} {fa : Addr} (X : K.In h) (G : h.Ns mainGlobals mg) (hfa : mg "law" = some (.ref fa))
    {f0 : Addr} {od0 an0 : Option Addr} {sl0 : Array (Option Value)} {oc0 kV0 dc0 pm0 cd0 ct0 : Value}
    {f1 : Addr} {od1 an1 : Option Addr} {sl1 : Array (Option Value)} {oc1 kV1 dc1 pm1 cd1 ct1 : Value}
    {f2 : Addr} {od2 an2 : Option Addr} {sl2 : Array (Option Value)} {oc2 kV2 dc2 pm2 cd2 ct2 : Value}
    {f3 : Addr} {od3 an3 : Option Addr} {sl3 : Array (Option Value)} {oc3 kV3 dc3 pm3 cd3 ct3 : Value}
    {f4 : Addr} {od4 an4 : Option Addr} {sl4 : Array (Option Value)} {oc4 kV4 dc4 pm4 cd4 ct4 : Value}
    {f5 : Addr} {od5 an5 : Option Addr} {sl5 : Array (Option Value)} {oc5 kV5 dc5 pm5 cd5 ct5 : Value}
    {f6 : Addr} {od6 an6 : Option Addr} {sl6 : Array (Option Value)} {oc6 kV6 dc6 pm6 cd6 ct6 : Value}
    {f7 : Addr} {od7 an7 : Option Addr} {sl7 : Array (Option Value)} {oc7 kV7 dc7 pm7 cd7 ct7 : Value}
    {f8 : Addr} {od8 an8 : Option Addr} {sl8 : Array (Option Value)} {oc8 kV8 dc8 pm8 cd8 ct8 : Value}
    {f9 : Addr} {od9 an9 : Option Addr} {sl9 : Array (Option Value)} {oc9 kV9 dc9 pm9 cd9 ct9 : Value}
    {f10 : Addr} {od10 an10 : Option Addr} {sl10 : Array (Option Value)} {oc10 kV10 dc10 pm10 cd10 ct10 : Value}
    {f11 : Addr} {od11 an11 : Option Addr} {sl11 : Array (Option Value)} {oc11 kV11 dc11 pm11 cd11 ct11 : Value}
    {f12 : Addr} {od12 an12 : Option Addr} {sl12 : Array (Option Value)} {oc12 kV12 dc12 pm12 cd12 ct12 : Value}
    {f13 : Addr} {od13 an13 : Option Addr} {sl13 : Array (Option Value)} {oc13 kV13 dc13 pm13 cd13 ct13 : Value}
    {f14 : Addr} {od14 an14 : Option Addr} {sl14 : Array (Option Value)} {oc14 kV14 dc14 pm14 cd14 ct14 : Value}
    {f15 : Addr} {od15 an15 : Option Addr} {sl15 : Array (Option Value)} {oc15 kV15 dc15 pm15 cd15 ct15 : Value}
    {f16 : Addr} {od16 an16 : Option Addr} {sl16 : Array (Option Value)} {oc16 kV16 dc16 pm16 cd16 ct16 : Value}
    {f17 : Addr} {od17 an17 : Option Addr} {sl17 : Array (Option Value)} {oc17 kV17 dc17 pm17 cd17 ct17 : Value}
    {f18 : Addr} {od18 an18 : Option Addr} {sl18 : Array (Option Value)} {oc18 kV18 dc18 pm18 cd18 ct18 : Value}
    {CR : Addr}
    (a0 : PySem.W.nsIn K mainGlobals "_law_mix" = some (some (.ref f0)))
    (l0 : K.lookup f0 = some ⟨oc0, od0, .func (PySem.W.fnOf "_law_mix" "_law_mix" (defArgs s_l_mix) (defBody s_l_mix) (defScope s_l_mix) .none kV0 dc0 pm0 an0 cd0 ct0), sl0⟩)
    (c0 : PySem.W.codeIn K cd0 "_law_mix" = true)
    (k0 : PySem.W.keepIn K (.ref f0) = true)
    (a1 : PySem.W.nsIn K mainGlobals "_law_cell" = some (some (.ref f1)))
    (l1 : K.lookup f1 = some ⟨oc1, od1, .func (PySem.W.fnOf "_law_cell" "_law_cell" (defArgs s_l_cell) (defBody s_l_cell) (defScope s_l_cell) .none kV1 dc1 pm1 an1 cd1 ct1), sl1⟩)
    (c1 : PySem.W.codeIn K cd1 "_law_cell" = true)
    (k1 : PySem.W.keepIn K (.ref f1) = true)
    (a2 : PySem.W.nsIn K mainGlobals "_law_all" = some (some (.ref f2)))
    (l2 : K.lookup f2 = some ⟨oc2, od2, .func (PySem.W.fnOf "_law_all" "_law_all" (defArgs s_l_all) (defBody s_l_all) (defScope s_l_all) .none kV2 dc2 pm2 an2 cd2 ct2), sl2⟩)
    (c2 : PySem.W.codeIn K cd2 "_law_all" = true)
    (k2 : PySem.W.keepIn K (.ref f2) = true)
    (a3 : PySem.W.nsIn K mainGlobals "ways_row" = some (some (.ref f3)))
    (l3 : K.lookup f3 = some ⟨oc3, od3, .func (PySem.W.fnOf "ways_row" "ways_row" (defArgs s_ways_row) (defBody s_ways_row) (defScope s_ways_row) .none kV3 dc3 pm3 an3 cd3 ct3), sl3⟩)
    (c3 : PySem.W.codeIn K cd3 "ways_row" = true)
    (k3 : PySem.W.keepIn K (.ref f3) = true)
    (a4 : PySem.W.nsIn K mainGlobals "count" = some (some (.ref f4)))
    (l4 : K.lookup f4 = some ⟨oc4, od4, .func (PySem.W.fnOf "count" "count" (defArgs s_count) (defBody s_count) (defScope s_count) .none kV4 dc4 pm4 an4 cd4 ct4), sl4⟩)
    (c4 : PySem.W.codeIn K cd4 "count" = true)
    (k4 : PySem.W.keepIn K (.ref f4) = true)
    (a5 : PySem.W.nsIn K mainGlobals "choices" = some (some (.ref f5)))
    (l5 : K.lookup f5 = some ⟨oc5, od5, .func (PySem.W.fnOf "choices" "choices" (defArgs s_choices) (defBody s_choices) (defScope s_choices) .none kV5 dc5 pm5 an5 cd5 ct5), sl5⟩)
    (c5 : PySem.W.codeIn K cd5 "choices" = true)
    (k5 : PySem.W.keepIn K (.ref f5) = true)
    (a6 : PySem.W.nsIn K mainGlobals "ways" = some (some (.ref f6)))
    (l6 : K.lookup f6 = some ⟨oc6, od6, .func (PySem.W.fnOf "ways" "ways" (defArgs s_ways) (defBody s_ways) (defScope s_ways) .none kV6 dc6 pm6 an6 cd6 ct6), sl6⟩)
    (c6 : PySem.W.codeIn K cd6 "ways" = true)
    (k6 : PySem.W.keepIn K (.ref f6) = true)
    (a7 : PySem.W.nsIn K mainGlobals "row_of" = some (some (.ref f7)))
    (l7 : K.lookup f7 = some ⟨oc7, od7, .func (PySem.W.fnOf "row_of" "row_of" (defArgs s_row_of) (defBody s_row_of) (defScope s_row_of) .none kV7 dc7 pm7 an7 cd7 ct7), sl7⟩)
    (c7 : PySem.W.codeIn K cd7 "row_of" = true)
    (k7 : PySem.W.keepIn K (.ref f7) = true)
    (a8 : PySem.W.nsIn K mainGlobals "heights" = some (some (.ref f8)))
    (l8 : K.lookup f8 = some ⟨oc8, od8, .func (PySem.W.fnOf "heights" "heights" (defArgs s_heights) (defBody s_heights) (defScope s_heights) .none kV8 dc8 pm8 an8 cd8 ct8), sl8⟩)
    (c8 : PySem.W.codeIn K cd8 "heights" = true)
    (k8 : PySem.W.keepIn K (.ref f8) = true)
    (a9 : PySem.W.nsIn K mainGlobals "is_whole" = some (some (.ref f9)))
    (l9 : K.lookup f9 = some ⟨oc9, od9, .func (PySem.W.fnOf "is_whole" "is_whole" (defArgs s_is_whole) (defBody s_is_whole) (defScope s_is_whole) .none kV9 dc9 pm9 an9 cd9 ct9), sl9⟩)
    (c9 : PySem.W.codeIn K cd9 "is_whole" = true)
    (k9 : PySem.W.keepIn K (.ref f9) = true)
    (a10 : PySem.W.nsIn K mainGlobals "number" = some (some (.ref f10)))
    (l10 : K.lookup f10 = some ⟨oc10, od10, .func (PySem.W.fnOf "number" "number" (defArgs s_number) (defBody s_number) (defScope s_number) .none kV10 dc10 pm10 an10 cd10 ct10), sl10⟩)
    (c10 : PySem.W.codeIn K cd10 "number" = true)
    (k10 : PySem.W.keepIn K (.ref f10) = true)
    (a11 : PySem.W.nsIn K mainGlobals "next_row" = some (some (.ref f11)))
    (l11 : K.lookup f11 = some ⟨oc11, od11, .func (PySem.W.fnOf "next_row" "next_row" (defArgs s_next_row) (defBody s_next_row) (defScope s_next_row) .none kV11 dc11 pm11 an11 cd11 ct11), sl11⟩)
    (c11 : PySem.W.codeIn K cd11 "next_row" = true)
    (k11 : PySem.W.keepIn K (.ref f11) = true)
    (a12 : PySem.W.nsIn K mainGlobals "parts_of" = some (some (.ref f12)))
    (l12 : K.lookup f12 = some ⟨oc12, od12, .func (PySem.W.fnOf "parts_of" "parts_of" (defArgs s_parts_of) (defBody s_parts_of) (defScope s_parts_of) .none kV12 dc12 pm12 an12 cd12 ct12), sl12⟩)
    (c12 : PySem.W.codeIn K cd12 "parts_of" = true)
    (k12 : PySem.W.keepIn K (.ref f12) = true)
    (a13 : PySem.W.nsIn K mainGlobals "forest_of" = some (some (.ref f13)))
    (l13 : K.lookup f13 = some ⟨oc13, od13, .func (PySem.W.fnOf "forest_of" "forest_of" (defArgs s_forest_of) (defBody s_forest_of) (defScope s_forest_of) .none kV13 dc13 pm13 an13 cd13 ct13), sl13⟩)
    (c13 : PySem.W.codeIn K cd13 "forest_of" = true)
    (k13 : PySem.W.keepIn K (.ref f13) = true)
    (a14 : PySem.W.nsIn K mainGlobals "tree_of" = some (some (.ref f14)))
    (l14 : K.lookup f14 = some ⟨oc14, od14, .func (PySem.W.fnOf "tree_of" "tree_of" (defArgs s_tree_of) (defBody s_tree_of) (defScope s_tree_of) .none kV14 dc14 pm14 an14 cd14 ct14), sl14⟩)
    (c14 : PySem.W.codeIn K cd14 "tree_of" = true)
    (k14 : PySem.W.keepIn K (.ref f14) = true)
    (a15 : PySem.W.nsIn K mainGlobals "parting_of" = some (some (.ref f15)))
    (l15 : K.lookup f15 = some ⟨oc15, od15, .func (PySem.W.fnOf "parting_of" "parting_of" (defArgs s_parting_of) (defBody s_parting_of) (defScope s_parting_of) .none kV15 dc15 pm15 an15 cd15 ct15), sl15⟩)
    (c15 : PySem.W.codeIn K cd15 "parting_of" = true)
    (k15 : PySem.W.keepIn K (.ref f15) = true)
    (a16 : PySem.W.nsIn K mainGlobals "threes" = some (some (.ref f16)))
    (l16 : K.lookup f16 = some ⟨oc16, od16, .func (PySem.W.fnOf "threes" "threes" (defArgs s_threes) (defBody s_threes) (defScope s_threes) .none kV16 dc16 pm16 an16 cd16 ct16), sl16⟩)
    (c16 : PySem.W.codeIn K cd16 "threes" = true)
    (k16 : PySem.W.keepIn K (.ref f16) = true)
    (a17 : PySem.W.nsIn K mainGlobals "cut_of" = some (some (.ref f17)))
    (l17 : K.lookup f17 = some ⟨oc17, od17, .func (PySem.W.fnOf "cut_of" "cut_of" (defArgs s_cut_of) (defBody s_cut_of) (defScope s_cut_of) .none kV17 dc17 pm17 an17 cd17 ct17), sl17⟩)
    (c17 : PySem.W.codeIn K cd17 "cut_of" = true)
    (k17 : PySem.W.keepIn K (.ref f17) = true)
    (a18 : PySem.W.nsIn K mainGlobals "law" = some (some (.ref f18)))
    (l18 : K.lookup f18 = some ⟨oc18, od18, .func (PySem.W.fnOf "law" "law" (defArgs s_law) (defBody s_law) (defScope s_law) .none kV18 dc18 pm18 an18 cd18 ct18), sl18⟩)
    (c18 : PySem.W.codeIn K cd18 "law" = true)
    (k18 : PySem.W.keepIn K (.ref f18) = true)
    (z_len : PySem.W.nsIn K mainGlobals "len" = some none)
    (z_int : PySem.W.nsIn K mainGlobals "int" = some none)
    (z_min : PySem.W.nsIn K mainGlobals "min" = some none)
    (z_max : PySem.W.nsIn K mainGlobals "max" = some none)
    (z_sum : PySem.W.nsIn K mainGlobals "sum" = some none)
    (z_all : PySem.W.nsIn K mainGlobals "all" = some none)
    (z_list : PySem.W.nsIn K mainGlobals "list" = some none)
    (z_tuple : PySem.W.nsIn K mainGlobals "tuple" = some none)
    (z_sorted : PySem.W.nsIn K mainGlobals "sorted" = some none)
    (z_isinstance : PySem.W.nsIn K mainGlobals "isinstance" = some none)
    (z_str : PySem.W.nsIn K mainGlobals "str" = some none)
    (z_bool : PySem.W.nsIn K mainGlobals "bool" = some none)
    (z_range : PySem.W.nsIn K mainGlobals "range" = some none)
    (z_enumerate : PySem.W.nsIn K mainGlobals "enumerate" = some none)
    (z_reversed : PySem.W.nsIn K mainGlobals "reversed" = some none)
    (z_zip : PySem.W.nsIn K mainGlobals "zip" = some none)
    (z_ValueError : PySem.W.nsIn K mainGlobals "ValueError" = some none)
    (erg : PySem.W.nsIn K mainGlobals "NoRow" = some (some (.ref CR)))
    (erx : PySem.W.excIn K CR [.type "ValueError", .type "Exception", .type "BaseException", .type "object"] "ValueError.__new__" = true)
    (erk : PySem.W.keepIn K (.ref CR) = true)
    (erb : PySem.W.subIn K (.ref CR) (.type "BaseException") = some true)
    (ert : PySem.W.typeIn K (.ref CR) = some (.type "type")) :
    ∃ fd : FuncData, (∀ (s : Shared) (v : Value), BindsTo s fd ⟨[v], []⟩ [("_law_script", v)]) ∧ ∀ base : Heap, K.In base → base.Ns mainGlobals mg → FnOk l.prog w K mg base (L2.CX l.prog w) 30 fa fd ["_law_script"] (spL K φ_law) := by
  have e := hfa.symm.trans (PySem.W.mg_of X G a18)
  cases e
  have M : Bi mg := ⟨PySem.W.mg_none_of X G z_len, PySem.W.mg_none_of X G z_int, PySem.W.mg_none_of X G z_min, PySem.W.mg_none_of X G z_max, PySem.W.mg_none_of X G z_sum, PySem.W.mg_none_of X G z_all, PySem.W.mg_none_of X G z_list, PySem.W.mg_none_of X G z_tuple, PySem.W.mg_none_of X G z_sorted, PySem.W.mg_none_of X G z_isinstance, PySem.W.mg_none_of X G z_str, PySem.W.mg_none_of X G z_bool, PySem.W.mg_none_of X G z_range, PySem.W.mg_none_of X G z_enumerate, PySem.W.mg_none_of X G z_reversed, PySem.W.mg_none_of X G z_zip, PySem.W.mg_none_of X G z_ValueError⟩
  have XE : ErrsR K mg (fun _ => CR) := ⟨⟨PySem.W.mg_of X G erg, erx, erk, erb, ert⟩⟩
  have F0 : Has K mg "_law_mix" s_l_mix ["_law_cell_here", "_law_prime", "_law_many"] := .mk' (PySem.W.mg_of X G a0) l0 c0 k0 fun _ _ _ _ _ _ us hl => match us, hl with | [_, _, _], _ => rfl
  have F1 : Has K mg "_law_cell" s_l_cell ["_law_script", "_law_k"] := .mk' (PySem.W.mg_of X G a1) l1 c1 k1 fun _ _ _ _ _ _ us hl => match us, hl with | [_, _], _ => rfl
  have F2 : Has K mg "_law_all" s_l_all ["_law_size"] := .mk' (PySem.W.mg_of X G a2) l2 c2 k2 fun _ _ _ _ _ _ us hl => match us, hl with | [_], _ => rfl
  have F3 : Has K mg "ways_row" s_ways_row ["steps", "bound"] := .mk' (PySem.W.mg_of X G a3) l3 c3 k3 fun _ _ _ _ _ _ us hl => match us, hl with | [_, _], _ => rfl
  have F4 : Has K mg "count" s_count ["size", "bound"] := .mk' (PySem.W.mg_of X G a4) l4 c4 k4 fun _ _ _ _ _ _ us hl => match us, hl with | [_, _], _ => rfl
  have F5 : Has K mg "choices" s_choices ["many", "some"] := .mk' (PySem.W.mg_of X G a5) l5 c5 k5 fun _ _ _ _ _ _ us hl => match us, hl with | [_, _], _ => rfl
  have F6 : Has K mg "ways" s_ways ["steps", "high"] := .mk' (PySem.W.mg_of X G a6) l6 c6 k6 fun _ _ _ _ _ _ us hl => match us, hl with | [_, _], _ => rfl
  have F7 : Has K mg "row_of" s_row_of ["size", "place"] := .mk' (PySem.W.mg_of X G a7) l7 c7 k7 fun _ _ _ _ _ _ us hl => match us, hl with | [_, _], _ => rfl
  have F8 : Has K mg "heights" s_heights ["row"] := .mk' (PySem.W.mg_of X G a8) l8 c8 k8 fun _ _ _ _ _ _ us hl => match us, hl with | [_], _ => rfl
  have F9 : Has K mg "is_whole" s_is_whole ["thing"] := .mk' (PySem.W.mg_of X G a9) l9 c9 k9 fun _ _ _ _ _ _ us hl => match us, hl with | [_], _ => rfl
  have F10 : Has K mg "number" s_number ["row"] := .mk' (PySem.W.mg_of X G a10) l10 c10 k10 fun _ _ _ _ _ _ us hl => match us, hl with | [_], _ => rfl
  have F11 : Has K mg "next_row" s_next_row ["row"] := .mk' (PySem.W.mg_of X G a11) l11 c11 k11 fun _ _ _ _ _ _ us hl => match us, hl with | [_], _ => rfl
  have F12 : Has K mg "parts_of" s_parts_of ["row"] := .mk' (PySem.W.mg_of X G a12) l12 c12 k12 fun _ _ _ _ _ _ us hl => match us, hl with | [_], _ => rfl
  have F13 : Has K mg "forest_of" s_forest_of ["row"] := .mk' (PySem.W.mg_of X G a13) l13 c13 k13 fun _ _ _ _ _ _ us hl => match us, hl with | [_], _ => rfl
  have F14 : Has K mg "tree_of" s_tree_of ["row"] := .mk' (PySem.W.mg_of X G a14) l14 c14 k14 fun _ _ _ _ _ _ us hl => match us, hl with | [_], _ => rfl
  have F15 : Has K mg "parting_of" s_parting_of ["row"] := .mk' (PySem.W.mg_of X G a15) l15 c15 k15 fun _ _ _ _ _ _ us hl => match us, hl with | [_], _ => rfl
  have F16 : Has K mg "threes" s_threes ["row", "begin"] := .mk' (PySem.W.mg_of X G a16) l16 c16 k16 fun _ _ _ _ _ _ us hl => match us, hl with | [_, _], _ => rfl
  have F17 : Has K mg "cut_of" s_cut_of ["row"] := .mk' (PySem.W.mg_of X G a17) l17 c17 k17 fun _ _ _ _ _ _ us hl => match us, hl with | [_], _ => rfl
  have FL := fun_mk (st := s_law) l18 c18 k18
  refine ⟨PySem.W.fnOf "law" "law" (defArgs s_law) (defBody s_law) (defScope s_law) .none kV18 dc18 pm18 an18 cd18 ct18, fun s v => .of_eq rfl, fun base _ _ => ?_⟩
  have C0 := ok_l_mix (P := l.prog) (w := w) (base := base) (cl := (fun _ => CR)) (k := 0) M F0
  have C1 := ok_l_cell (P := l.prog) (w := w) (base := base) (cl := (fun _ => CR)) (k := 0) M F1
  have C2 := ok_l_all (P := l.prog) (w := w) (base := base) (cl := (fun _ => CR)) (k := 0) M F2 26
  have C3 := ok_ways_row (P := l.prog) (w := w) (base := base) (cl := (fun _ => CR)) (k := 0) M F3
  have C4 := ok_count (P := l.prog) (w := w) (base := base) (cl := (fun _ => CR)) (k := 1) M F4 (C3.mono (by decide))
  have C5 := ok_choices (P := l.prog) (w := w) (base := base) (cl := (fun _ => CR)) (k := 0) M F5
  have C6 := ok_ways (P := l.prog) (w := w) (base := base) (cl := (fun _ => CR)) (k := 1) M F6 (C5.mono (by decide))
  have C7 := ok_row_of (P := l.prog) (w := w) (base := base) (cl := (fun _ => CR)) (k := 2) M XE F7 (C4.mono (by decide)) (C6.mono (by decide))
  have C8 := ok_heights (P := l.prog) (w := w) (base := base) (cl := (fun _ => CR)) (k := 0) M F8
  have C9 := ok_is_whole (P := l.prog) (w := w) (base := base) (cl := (fun _ => CR)) (k := 1) M F9 (C8.mono (by decide))
  have C10 := ok_number (P := l.prog) (w := w) (base := base) (cl := (fun _ => CR)) (k := 2) M XE F10 (C9.mono (by decide)) (C6.mono (by decide))
  have C11 := ok_next_row (P := l.prog) (w := w) (base := base) (cl := (fun _ => CR)) (k := 3) M F11 (C10.mono (by decide)) (C4.mono (by decide)) (C7.mono (by decide))
  have C12 := ok_parts_of (P := l.prog) (w := w) (base := base) (cl := (fun _ => CR)) (k := 0) M F12
  have C13 := ok_forest_of (P := l.prog) (w := w) (base := base) (cl := (fun _ => CR)) (k := 1) M F13 (C12.mono (by decide)) 26
  have C14 := ok_tree_of (P := l.prog) (w := w) (base := base) (cl := (fun _ => CR)) (k := 1) M F14 (C12.mono (by decide)) 26
  have C15 := ok_parting_of (P := l.prog) (w := w) (base := base) (cl := (fun _ => CR)) (k := 0) M F15
  have C16 := ok_threes (P := l.prog) (w := w) (base := base) (cl := (fun _ => CR)) (k := 1) M F16 (C12.mono (by decide)) 26
  have C17 := ok_cut_of (P := l.prog) (w := w) (base := base) (cl := (fun _ => CR)) (k := 28) M F17 (C16.mono (by decide))
  exact fn_law (k := 29) M (fun _ => CR) FL (C0.mono (by decide)) (C1.mono (by decide)) (C2.mono (by decide)) (C4.mono (by decide)) (C7.mono (by decide)) (C11.mono (by decide)) (C13.mono (by decide)) (C14.mono (by decide)) (C15.mono (by decide)) (C17.mono (by decide))
end K10
open PySem PySem.W PyProof.Rows
set_option maxHeartbeats 0 in
theorem PySem.Challenge.cw_bracketnumbers_k10_whole_all_of_a_size_holds : PySem.Challenge.rw_bracketnumbers_k10_whole_all_of_a_size.Holds := by
  w_on; o_law; k_head; (case hw => w_witness2)
  k_fill
  refine L2.walk_ofB (l := PySem.Challenge.rw_bracketnumbers_k10_whole_all_of_a_size) (n := 63) (k := 30) (x := "_law_script") (CX := fun w => L2.CX PySem.Challenge.rw_bracketnumbers_k10_whole_all_of_a_size.prog w) (sp := fun w => Bk.spL _ K10.φ_law) rfl (by decide) rfl ⟨rfl, by decide, by decide⟩ (fun w h Y => PySem.W.kIn_of Y) ?F (fun _ _ a ns hl hb _ hS => Bk.spL_start hS (K10.law_holds ns hl fun z hz => Bk.bits_log (hb z hz))) (fun _ _ _ _ _ h => Bk.cx_end h)
  case F =>
    intro w mg fa h KX G hmg
    refine' K10.all_mk KX G hmg ?a0 ?l0 ?c0 ?k0 ?a1 ?l1 ?c1 ?k1 ?a2 ?l2 ?c2 ?k2 ?a3 ?l3 ?c3 ?k3 ?a4 ?l4 ?c4 ?k4 ?a5 ?l5 ?c5 ?k5 ?a6 ?l6 ?c6 ?k6 ?a7 ?l7 ?c7 ?k7 ?a8 ?l8 ?c8 ?k8 ?a9 ?l9 ?c9 ?k9 ?a10 ?l10 ?c10 ?k10 ?a11 ?l11 ?c11 ?k11 ?a12 ?l12 ?c12 ?k12 ?a13 ?l13 ?c13 ?k13 ?a14 ?l14 ?c14 ?k14 ?a15 ?l15 ?c15 ?k15 ?a16 ?l16 ?c16 ?k16 ?a17 ?l17 ?c17 ?k17 ?a18 ?l18 ?c18 ?k18 ?z_len ?z_int ?z_min ?z_max ?z_sum ?z_all ?z_list ?z_tuple ?z_sorted ?z_isinstance ?z_str ?z_bool ?z_range ?z_enumerate ?z_reversed ?z_zip ?z_ValueError ?erg ?erx ?erk ?erb ?ert
    (case a0 => k_is); (case l0 => k_is); (case c0 => k_is); (case k0 => k_is); (case a1 => k_is); (case l1 => k_is); (case c1 => k_is); (case k1 => k_is); (case a2 => k_is); (case l2 => k_is); (case c2 => k_is); (case k2 => k_is); (case a3 => k_is); (case l3 => k_is); (case c3 => k_is); (case k3 => k_is); (case a4 => k_is); (case l4 => k_is); (case c4 => k_is); (case k4 => k_is); (case a5 => k_is); (case l5 => k_is); (case c5 => k_is); (case k5 => k_is); (case a6 => k_is); (case l6 => k_is); (case c6 => k_is); (case k6 => k_is); (case a7 => k_is); (case l7 => k_is); (case c7 => k_is); (case k7 => k_is); (case a8 => k_is); (case l8 => k_is); (case c8 => k_is); (case k8 => k_is); (case a9 => k_is); (case l9 => k_is); (case c9 => k_is); (case k9 => k_is); (case a10 => k_is); (case l10 => k_is); (case c10 => k_is); (case k10 => k_is); (case a11 => k_is); (case l11 => k_is); (case c11 => k_is); (case k11 => k_is); (case a12 => k_is); (case l12 => k_is); (case c12 => k_is); (case k12 => k_is); (case a13 => k_is); (case l13 => k_is); (case c13 => k_is); (case k13 => k_is); (case a14 => k_is); (case l14 => k_is); (case c14 => k_is); (case k14 => k_is); (case a15 => k_is); (case l15 => k_is); (case c15 => k_is); (case k15 => k_is); (case a16 => k_is); (case l16 => k_is); (case c16 => k_is); (case k16 => k_is); (case a17 => k_is); (case l17 => k_is); (case c17 => k_is); (case k17 => k_is); (case a18 => k_is); (case l18 => k_is); (case c18 => k_is); (case k18 => k_is); (case z_len => k_is); (case z_int => k_is); (case z_min => k_is); (case z_max => k_is); (case z_sum => k_is); (case z_all => k_is); (case z_list => k_is); (case z_tuple => k_is); (case z_sorted => k_is); (case z_isinstance => k_is); (case z_str => k_is); (case z_bool => k_is); (case z_range => k_is); (case z_enumerate => k_is); (case z_reversed => k_is); (case z_zip => k_is); (case z_ValueError => k_is); (case erg => k_is); (case erx => k_exc); (case erk => k_is); (case erb => k_is); (case ert => k_is)
