import PyProof.Rows.All
import HandS.ForMost
import HandS.ForExc
import HandS.Walk
import HandS.Style
import HandS.Wide
import HandS.Conv
import HandS.IsInst
import HandS.RevRange
import HandS.Rev
import HandS.Zip
import KE.KDictKeyed
import KE.KDictWalk
import KE.KDictCopyH
import KE.SortData
import HandS.RevTup
import PyProof.Rows.StrCountLaw
import HandS.ExcIs
import HandS.Replace
import HandS.More
import PyProof.StrLawsFirst
import HandS.SetFor
import PyProof.P3In
import KE.KRevIter
import HandS.TupAny
import KE.GoesMore
import HandS.EndBits
import PySem.Challenge.RW_bracketnumbers_k06_whole_partings
/-! BkPure -/
section
/-! BkPure: values without a heap, answers, states of a def, and what expressions and statements give; core Lean alone -/
set_option linter.all false
set_option maxRecDepth 100000
namespace Bk
/-- the refusals -/
inductive Cls where
  | noPlace | noRow
  deriving DecidableEq
/-- data -/
inductive D where
  | none | bool (b : Bool) | int (i : Int) | str (s : List Nat) | tup (xs : List D) | lst (xs : List D) | dic (kvs : List (D × D))
inductive Res (α : Type) where
  | ok (a : α) | raise (c : Cls) | bad
def Res.bind {α β : Type} (m : Res α) (k : α → Res β) : Res β := match m with
  | .ok a => k a
  | .raise c => .raise c
  | .bad => .bad
@[simp] theorem bind_ok {α β : Type} (a : α) (k : α → Res β) : (Res.ok a).bind k = k a := id rfl
@[simp] theorem bind_raise {α β : Type} (c : Cls) (k : α → Res β) : (Res.raise c).bind k = .raise c := id rfl
@[simp] theorem bind_bad {α β : Type} (k : α → Res β) : (Res.bad : Res α).bind k = .bad := id rfl
/-- no refusal may come here -/
def Res.calm {α : Type} : Res α → Res α
  | .ok a => .ok a
  | _ => .bad
@[simp] theorem calm_ok {α : Type} (a : α) : (Res.ok a).calm = .ok a := id rfl
def Res.Sat {α : Type} (m : Res α) (P : α → Prop) (R : Cls → Prop) : Prop := match m with
  | .ok a => P a
  | .raise c => R c
  | .bad => False
theorem Sat.mono {α : Type} {m : Res α} {P P' : α → Prop} {R R' : Cls → Prop} (h : m.Sat P R) (hp : ∀ a, P a → P' a) (hr : ∀ c, R c → R' c) : m.Sat P' R' := by
  cases m with
  | ok a => exact hp a h
  | raise c => exact hr c h
  | bad => exact h
theorem sat_bind {α β : Type} {m : Res α} {k : α → Res β} {P : β → Prop} {R : Cls → Prop} (h : (m.bind k).Sat P R) : m.Sat (fun a => (k a).Sat P R) R := by
  cases m with
  | ok a => exact h
  | raise c => exact h
  | bad => exact h
theorem sat_calm {α : Type} {m : Res α} {P : α → Prop} {R R' : Cls → Prop} (h : m.calm.Sat P R) : m.Sat P R' := by
  cases m with
  | ok a => exact h
  | raise c => exact h.elim
  | bad => exact h

/-- what a slot holds: data; a list, a dict of the def's own that still grows; a dict of keys that are tuples, not empty; a list of lists, all its own -/
inductive S where
  | dat (d : D) | own (ds : List D) | dic (kvs : List (D × D)) | kd (ks : List D) | oo (dss : List (List D))
abbrev Env := List (Option S)
abbrev E := Env → Res D
abbrev T := Env → Res Bool
abbrev I := Env → Res (List D)
abbrev G := D → Env → Res Env

/-- the most that a list, a text may hold -/
abbrev lim : Nat := 16777216

/-! ### places -/
def ix (n : Nat) (i : Int) : Option Nat := if 0 ≤ i then (if i < n then some i.toNat else Option.none) else if -(n : Int) ≤ i then some (i + n).toNat else Option.none
def at? {α : Type} (xs : List α) (i : Int) : Option α := (ix xs.length i).bind fun j => xs[j]?
def sl (n d : Nat) : Option Int → Nat
  | Option.none => d
  | some v => if v < 0 then (v + (n : Int)).toNat else min v.toNat n
def cut {α : Type} (xs : List α) (lo hi : Option Int) : List α := (xs.drop (sl xs.length 0 lo)).take (sl xs.length xs.length hi - sl xs.length 0 lo)

/-! ### equality -/
mutual
def D.eqv : D → D → Bool
  | .none, .none => true
  | .bool a, .bool b => a == b
  | .bool a, .int j => (if a then 1 else 0) == j
  | .int i, .bool b => i == (if b then 1 else 0)
  | .int i, .int j => i == j
  | .str x, .str y => x == y
  | .lst xs, .lst ys => D.eqvAll xs ys
  | .tup xs, .tup ys => D.eqvAll xs ys
  | _, _ => false
def D.eqvAll : List D → List D → Bool
  | [], [] => true
  | x :: xs, y :: ys => D.eqv x y && D.eqvAll xs ys
  | _, _ => false
end
/-- a text that may be compared: signs from the blank to ~ -/
def plainS (s : List Nat) : Bool := s.all fun c => decide (c < 128)
mutual
/-- may be compared to a depth -/
def D.cmp : Nat → D → Bool
  | _, .none => true
  | _, .bool _ => true
  | _, .int _ => true
  | _, .str s => plainS s && decide (s.length ≤ lim)
  | 0, .tup _ => false
  | 0, .lst _ => false
  | n + 1, .tup xs => D.cmpAll n xs
  | n + 1, .lst xs => D.cmpAll n xs
  | _, .dic _ => false
def D.cmpAll : Nat → List D → Bool
  | _, [] => true
  | n, x :: xs => D.cmp n x && D.cmpAll n xs
end
def dEq (a b : D) : Res D := if D.cmp 64 a && D.cmp 64 b then .ok (.bool (D.eqv a b)) else .bad
def dNe (a b : D) : Res D := if D.cmp 64 a && D.cmp 64 b then .ok (.bool (!D.eqv a b)) else .bad

/-! ### operators -/
def dAdd : D → D → Res D
  | .int a, .int b => .ok (.int (a + b))
  | .str a, .str b => if a.length + b.length ≤ lim then .ok (.str (a ++ b)) else .bad
  | .lst a, .lst b => if a.length + b.length ≤ lim then .ok (.lst (a ++ b)) else .bad
  | .tup a, .tup b => if a.length + b.length ≤ lim ∧ a ≠ [] then .ok (.tup (a ++ b)) else .bad
  | _, _ => .bad
def dSub : D → D → Res D
  | .int a, .int b => .ok (.int (a - b))
  | _, _ => .bad
/-- two whole numbers, of less than so many bits -/
def small (n : Int) : Prop := -(2 ^ 64) < n ∧ n < 2 ^ 64
instance (n : Int) : Decidable (small n) := inferInstanceAs (Decidable (_ ∧ _))
def dMul : D → D → Res D
  | .int a, .int b => if small a ∨ small b ∨ a.natAbs.log2 + b.natAbs.log2 < 100000000 then .ok (.int (a * b)) else .bad
  | .str a, .int b => if 0 ≤ b ∧ b ≤ lim ∧ a.length * b.toNat ≤ lim then .ok (.str (List.replicate b.toNat a).flatten) else .bad
  | _, _ => .bad
def dPow : D → D → Res D
  | .int a, .int b => if 0 ≤ b ∧ b ≤ 1000000 ∧ a.natAbs < 2 ^ 64 then .ok (.int (a ^ b.toNat)) else .bad
  | _, _ => .bad
def dDiv : D → D → Res D
  | .int a, .int b => if 0 < b ∧ b < 1073741824 then .ok (.int (a / b)) else .bad
  | _, _ => .bad
def dMod : D → D → Res D
  | .int a, .int b => if 0 < b then .ok (.int (a % b)) else .bad
  | _, _ => .bad
def dNeg : D → Res D
  | .int a => .ok (.int (-a))
  | _ => .bad
def dLt : D → D → Res D
  | .int a, .int b => .ok (.bool (decide (a < b)))
  | .str a, .str b => .ok (.bool (decide (a < b)))
  | _, _ => .bad
def dLe : D → D → Res D
  | .int a, .int b => .ok (.bool (decide (a ≤ b)))
  | _, _ => .bad
def dGt : D → D → Res D
  | .int a, .int b => .ok (.bool (decide (b < a)))
  | _, _ => .bad
def dGe : D → D → Res D
  | .int a, .int b => .ok (.bool (decide (b ≤ a)))
  | _, _ => .bad
/-- x is None, is not None -/
def dIsN : D → D → Res D
  | .none, .none => .ok (.bool true)
  | _, .none => .ok (.bool false)
  | _, _ => .bad
def dNotN : D → D → Res D
  | .none, .none => .ok (.bool false)
  | _, .none => .ok (.bool true)
  | _, _ => .bad
/-- x is True, False; its not -/
def dIsB : D → D → Res D
  | .bool a, .bool b => .ok (.bool (a == b))
  | _, _ => .bad
def dNotB : D → D → Res D
  | .bool a, .bool b => .ok (.bool (!(a == b)))
  | _, _ => .bad
/-- one sign in a text -/
def dInS : D → D → Res D
  | .str [c], .str s => .ok (.bool (decide (c ∈ s)))
  | _, _ => .bad
def dIdx : D → D → Res D
  | .lst xs, .int i => match at? xs i with
    | some d => .ok d
    | Option.none => .bad
  | .tup xs, .int i => match at? xs i with
    | some d => .ok d
    | Option.none => .bad
  | .str s, .int i => if s.length ≤ lim then (match at? s i with
    | some c => .ok (.str [c])
    | Option.none => .bad) else .bad
  | _, _ => .bad
def dTruth : D → Res Bool
  | .none => .ok false
  | .bool b => .ok b
  | .int i => .ok (i != 0)
  | .str s => if s.length ≤ lim then .ok (!s.isEmpty) else .bad
  | .lst xs => .ok (!xs.isEmpty)
  | .tup xs => .ok (!xs.isEmpty)
  | .dic _ => .bad
def asBool : D → Res Bool
  | .bool b => .ok b
  | _ => .bad

/-! ### built-ins of one thing -/
def numsL : List D → Option (List Int)
  | [] => some []
  | .int i :: r => (numsL r).map (i :: ·)
  | _ => Option.none
def strsL : List D → Option (List (List Nat))
  | [] => some []
  | .str i :: r => (strsL r).map (i :: ·)
  | _ => Option.none
def boolsL : List D → Option (List Bool)
  | [] => some []
  | .bool i :: r => (boolsL r).map (i :: ·)
  | _ => Option.none
def bLen : D → Res D
  | .str s => if s.length ≤ lim then .ok (.int s.length) else .bad
  | .lst xs => .ok (.int xs.length)
  | .tup xs => .ok (.int xs.length)
  | _ => .bad
def bInt : D → Res D
  | .bool b => .ok (.int (if b then 1 else 0))
  | .int i => .ok (.int i)
  | _ => .bad
def least : Int → List Int → Int
  | m, [] => m
  | m, x :: r => least (if x < m then x else m) r
def most : Int → List Int → Int
  | m, [] => m
  | m, x :: r => most (if m < x then x else m) r
def bMin : D → Res D
  | .lst xs => match numsL xs with
    | some (x :: r) => .ok (.int (least x r))
    | _ => .bad
  | _ => .bad
def bMax : D → Res D
  | .lst xs => match numsL xs with
    | some (x :: r) => .ok (.int (most x r))
    | _ => .bad
  | _ => .bad
def bSum : D → Res D
  | .lst xs => match numsL xs with
    | some ns => .ok (.int ns.sum)
    | _ => .bad
  | _ => .bad
def bAll : D → Res D
  | .lst xs => match boolsL xs with
    | some bs => .ok (.bool (bs.all id))
    | _ => .bad
  | _ => .bad
def bList : D → Res D
  | .lst xs => .ok (.lst xs)
  | .tup xs => .ok (.lst xs)
  | _ => .bad
def bTuple : D → Res D
  | .lst xs => .ok (.tup xs)
  | .tup xs => .ok (.tup xs)
  | _ => .bad
def bRev : D → Res D
  | .lst xs => .ok (.lst xs.reverse)
  | _ => .bad
/-! the order that sorting goes by -/
mutual
def D.alike : D → D → Bool
  | .none, .none => true
  | .bool _, .bool _ => true
  | .int _, .int _ => true
  | .str _, .str _ => true
  | .lst xs, .lst ys => D.alikeAll xs ys
  | .tup xs, .tup ys => D.alikeAll xs ys
  | _, _ => false
def D.alikeAll : List D → List D → Bool
  | x :: xs, y :: ys => D.alike x y && D.alikeAll xs ys
  | [], _ => true
  | _ :: _, [] => true
end
mutual
def D.lt : D → D → Bool
  | .bool a, .bool b => !a && b
  | .int a, .int b => decide (a < b)
  | .str a, .str b => decide (a < b)
  | .lst a, .lst b => D.ltAll a b
  | .tup a, .tup b => D.ltAll a b
  | _, _ => false
def D.ltAll : List D → List D → Bool
  | [], [] => false
  | [], _ :: _ => true
  | _ :: _, [] => false
  | x :: xs, y :: ys => if D.eqv x y then D.ltAll xs ys else D.lt x y
end
def D.le (a b : D) : Bool := !(D.lt b a)
/-- all tuples with an item, or none a tuple, None -/
def D.row1 : D → Bool
  | .tup (_ :: _) => true
  | _ => false
def D.row0 : D → Bool
  | .tup _ => false
  | .none => false
  | _ => true
def sortable (xs : List D) : Bool := (xs.all fun a => xs.all fun b => D.alike a b) && (xs.all D.row1 || xs.all D.row0) && xs.all (D.cmp 8) && decide (xs.length ≤ lim)
def bSorted : D → Res D
  | .lst xs => if sortable xs then .ok (.lst (xs.mergeSort D.le)) else .bad
  | .tup xs => if sortable xs then .ok (.lst (xs.mergeSort D.le)) else .bad
  | _ => .bad
def dMin2 : D → D → Res D
  | .int a, .int b => .ok (.int (if b < a then b else a))
  | _, _ => .bad
/-- the text's kinds that isinstance is asked of -/
inductive Ty where
  | str | int | bool | tuple
  deriving DecidableEq
def isTy : Ty → D → Bool
  | .str, .str _ => true
  | .int, .int _ => true
  | .int, .bool _ => true
  | .bool, .bool _ => true
  | .tuple, .tup _ => true
  | _, _ => false
def bIs (t : Ty) (d : D) : Res D := match d with
  | .dic _ => .bad
  | d => .ok (.bool (isTy t d))
/-- sep.join(list) -/
def joinS (sep : List Nat) : List (List Nat) → List Nat
  | [] => []
  | [x] => x
  | x :: y :: r => x ++ sep ++ joinS sep (y :: r)
def lenSum : List (List Nat) → Nat
  | [] => 0
  | x :: r => x.length + lenSum r
def dJoin : D → D → Res D
  | .str sep, .lst xs => match strsL xs with
    | some ss => if lenSum ss + ss.length * sep.length ≤ lim then .ok (.str (joinS sep ss)) else .bad
    | _ => .bad
  | _, _ => .bad
/-- s.count(one sign) -/
def dCount : D → D → Res D
  | .str s, .str [c] => if s.length ≤ lim then .ok (.int (s.count c : Nat)) else .bad
  | _, _ => .bad

/-! ### expressions -/
def eVar (i : Nat) : E := fun η => match η[i]? with
  | some (some (.dat d)) => .ok d
  | _ => .bad
def eC (d : D) : E := fun _ => .ok d
def eUn (u : D → Res D) (f : E) : E := fun η => (f η).bind fun x => (u x).calm
def eBin (b : D → D → Res D) (f g : E) : E := fun η => (f η).bind fun x => (g η).bind fun y => (b x y).calm
def eAnd (f g : E) : E := fun η => (f η).bind fun x => match x with
  | .bool true => g η
  | .bool false => .ok (.bool false)
  | _ => .bad
def eOr (f g : E) : E := fun η => (f η).bind fun x => match x with
  | .bool true => .ok (.bool true)
  | .bool false => g η
  | _ => .bad
def eNot (f : E) : E := fun η => (f η).bind fun x => match x with
  | .bool b => .ok (.bool (!b))
  | _ => .bad
/-- a < b < c -/
def eChain (r r' : D → D → Res D) (f g h : E) : E := fun η => (f η).bind fun x => (g η).bind fun y => (r x y).calm.bind fun z => match z with
  | .bool true => (h η).bind fun w => (r' y w).calm
  | .bool false => .ok (.bool false)
  | _ => .bad
def evals : List E → Env → Res (List D)
  | [], _ => .ok []
  | f :: r, η => (f η).bind fun x => (evals r η).bind fun xs => .ok (x :: xs)
def eTup (fs : List E) : E := fun η => (evals fs η).bind fun ds => .ok (.tup ds)
def eLst (fs : List E) : E := fun η => (evals fs η).bind fun ds => .ok (.lst ds)
def eCall (φ : List D → Res D) (fs : List E) : E := fun η => (evals fs η).bind φ
/-- a part of a slice -/
def ePart : Option E → Env → Res (Option Int)
  | Option.none, _ => .ok Option.none
  | some f, η => (f η).bind fun x => match x with
    | .int i => .ok (some i)
    | _ => .bad
def dCut (d : D) (lo hi : Option Int) : Res D := match d with
  | .str s => if s.length ≤ lim then .ok (.str (cut s lo hi)) else .bad
  | .lst xs => .ok (.lst (cut xs lo hi))
  | .tup xs => if ¬ (sl xs.length 0 lo = 0 ∧ sl xs.length xs.length hi = xs.length) then .ok (.tup (cut xs lo hi)) else .bad
  | _ => .bad
def eSlice (f : E) (lo hi : Option E) : E := fun η => (f η).bind fun x => (ePart lo η).bind fun a => (ePart hi η).bind fun b => (dCut x a b).calm
/-- a built-in of the def's own list in slot i -/
def eOwn (u : D → Res D) (i : Nat) : E := fun η => match η[i]? with
  | some (some (.own ds)) => (u (.lst ds)).calm
  | _ => .bad
def eOwnB (b : D → D → Res D) (i : Nat) (g : E) : E := fun η => match η[i]? with
  | some (some (.own ds)) => (g η).bind fun y => (b (.lst ds) y).calm
  | _ => .bad

/-! ### tests -/
def tE (f : E) : T := fun η => (f η).bind asBool
def tV (f : E) : T := fun η => (f η).bind dTruth
def tAnd (t u : T) : T := fun η => (t η).bind fun b => if b then u η else .ok false
def tOr (t u : T) : T := fun η => (t η).bind fun b => if b then .ok true else u η
def tNot (t : T) : T := fun η => (t η).bind fun b => .ok (!b)
def tYes : T := fun _ => .ok true
def tOwn (i : Nat) : T := fun η => match η[i]? with
  | some (some (.own ds)) => .ok (!ds.isEmpty)
  | _ => .bad
def eIf (t : T) (f g : E) : E := fun η => (t η).bind fun b => if b then f η else g η

/-! ### what is walked -/
def signs (s : List Nat) : List D := s.map fun c => .str [c]
def items : D → Res (List D)
  | .lst xs => .ok xs
  | .tup xs => .ok xs
  | .str s => .ok (signs s)
  | _ => .bad
def iAny (f : E) : I := fun η => (f η).bind items
def numbers (lo : Int) (n : Nat) : List D := (List.range n).map fun k : Nat => D.int (lo + (k : Int))
def rngOk (i : Int) : Bool := decide (-(2 ^ 62) ≤ i) && decide (i < 2 ^ 62)
def rng1 : D → Res (List D)
  | .int n => if rngOk n then .ok (numbers 0 n.toNat) else .bad
  | _ => .bad
def rng2 : D → D → Res (List D)
  | .int a, .int b => if rngOk a && rngOk b then .ok (numbers a (b - a).toNat) else .bad
  | _, _ => .bad
def iRange1 (f : E) : I := fun η => (f η).bind rng1
def iRange2 (f g : E) : I := fun η => (f η).bind fun a => (g η).bind fun b => rng2 a b
def iRevRange1 (f : E) : I := fun η => (f η).bind fun a => (rng1 a).bind fun xs => .ok xs.reverse
def enumL (k : Nat) : List D → List D
  | [] => []
  | d :: r => .tup [.int k, d] :: enumL (k + 1) r
def iEnum (f : E) : I := fun η => (f η).bind fun x => match x with
  | .lst xs => .ok (enumL 0 xs)
  | .str s => .ok (enumL 0 (signs s))
  | _ => .bad
def iRev (f : E) : I := fun η => (f η).bind fun x => match x with
  | .lst xs => .ok xs.reverse
  | .tup xs => .ok xs.reverse
  | .str s => .ok (signs s.reverse)
  | _ => .bad
/-- reversed(text) -/
def iRevS (f : E) : I := fun η => (f η).bind fun x => match x with
  | .str s => if s.length ≤ lim then .ok (signs s.reverse) else .bad
  | _ => .bad
def zipL : List D → List D → List D
  | x :: xs, y :: ys => .tup [x, y] :: zipL xs ys
  | _, _ => []
def iZip (f g : E) : I := fun η => (f η).bind fun x => (g η).bind fun y => match x, y with
  | .lst xs, .lst ys => .ok (zipL xs ys)
  | _, _ => .bad

/-! ### targets -/
def gName (i : Nat) : G := fun d η => .ok (η.set i (some (.dat d)))
def gPair (i j : Nat) : G := fun d η => match d with
  | .tup [x, y] => .ok ((η.set i (some (.dat x))).set j (some (.dat y)))
  | _ => .bad
def gTri (i j k : Nat) : G := fun d η => match d with
  | .tup [x, y, z] => .ok (((η.set i (some (.dat x))).set j (some (.dat y))).set k (some (.dat z)))
  | _ => .bad
/-- from a list of two -/
def gPairL (i j : Nat) : G := fun d η => match d with
  | .lst [x, y] => .ok ((η.set i (some (.dat x))).set j (some (.dat y)))
  | _ => .bad

/-! ### comprehensions -/
def wipes (η : Env) : List Nat → Env
  | [] => η
  | v :: vs => (wipes η vs).set v Option.none
def comp (g : G) (t : T) (e : E) (η : Env) : List D → Res (List D)
  | [] => .ok []
  | d :: ds => (g d η).calm.bind fun η1 => (t η1).bind fun b => if b then (e η1).bind fun y => (comp g t e η ds).bind fun ys => .ok (y :: ys) else comp g t e η ds
def eComp (own : List Nat) (fi : I) (g : G) (t : T) (e : E) : E := fun η => (fi η).bind fun ds => if ds.length ≤ lim then ((comp g t e (wipes η own) ds).bind fun ys => .ok (.lst ys)).calm else .bad

/-! ### statements -/
inductive Out where
  | next (η : Env) | brk (η : Env) | ct (η : Env) | ret (d : D) | raise (c : Cls) | bad
abbrev St := Env → Out
def Out.andThen (o : Out) (k : St) : Out := match o with
  | .next η => k η
  | .brk η => .brk η
  | .ct η => .ct η
  | .ret d => .ret d
  | .raise c => .raise c
  | .bad => .bad
@[simp] theorem andThen_next (η : Env) (k : St) : (Out.next η).andThen k = k η := id rfl
@[simp] theorem andThen_ret (d : D) (k : St) : (Out.ret d).andThen k = .ret d := id rfl
@[simp] theorem andThen_brk (η : Env) (k : St) : (Out.brk η).andThen k = .brk η := id rfl
@[simp] theorem andThen_ct (η : Env) (k : St) : (Out.ct η).andThen k = .ct η := id rfl
@[simp] theorem andThen_raise (c : Cls) (k : St) : (Out.raise c).andThen k = .raise c := id rfl
@[simp] theorem andThen_bad (k : St) : Out.bad.andThen k = .bad := id rfl
def outOf {α : Type} (m : Res α) (k : α → Out) : Out := match m with
  | .ok a => k a
  | .raise c => .raise c
  | .bad => .bad
@[simp] theorem outOf_ok {α : Type} (a : α) (k : α → Out) : outOf (.ok a) k = k a := id rfl
@[simp] theorem outOf_raise {α : Type} (c : Cls) (k : α → Out) : outOf (.raise c) k = .raise c := id rfl
@[simp] theorem outOf_bad {α : Type} (k : α → Out) : outOf (.bad : Res α) k = .bad := id rfl
def sSkip : St := fun η => .next η
def sSeq (a b : St) : St := fun η => (a η).andThen b
def sAsg (f : E) (g : G) : St := fun η => outOf (f η) fun d => outOf (g d η).calm fun η' => .next η'
def sSet (i : Nat) (f : E) : St := sAsg f (gName i)
def sDrop (f : E) : St := fun η => outOf (f η) fun _ => .next η
def sRet (f : E) : St := fun η => outOf (f η) fun d => .ret d
def sIf (t : T) (a b : St) : St := fun η => outOf (t η) fun c => if c then a η else b η
def sRaise (c : Cls) : St := fun _ => .raise c
def sBrk : St := fun η => .brk η
def sCont : St := fun η => .ct η
def loop (g : G) (b : St) : List D → St
  | [], η => .next η
  | d :: ds, η => outOf (g d η).calm fun η1 => match b η1 with
    | .next η' => loop g b ds η'
    | .ct η' => loop g b ds η'
    | .brk η' => .next η'
    | o => o
def sFor (fi : I) (g : G) (b : St) : St := fun η => outOf (fi η) fun ds => loop g b ds η
def whil (t : T) (b : St) : Nat → St
  | 0, _ => .bad
  | n + 1, η => outOf (t η) fun c => if c then (match b η with
    | .next η' => whil t b n η'
    | .ct η' => whil t b n η'
    | .brk η' => .next η'
    | o => o) else .next η
def sWhile (n : Nat) (t : T) (b : St) : St := fun η => whil t b n η
/-- x = [a, b, ..], a list that will grow -/
def sNew (i : Nat) (fs : List E) : St := fun η => outOf (evals fs η) fun ds => .next (η.set i (some (.own ds)))
def sNewD (i : Nat) : St := fun η => .next (η.set i (some (.dic [])))
/-- x.append(e) -/
def appTo (i : Nat) (d : D) : St := fun η => match η[i]? with
  | some (some (.own ds)) => if ds.length < lim then .next (η.set i (some (.own (ds ++ [d])))) else .bad
  | _ => .bad
def sApp (i : Nat) (f : E) : St := fun η => match η[i]? with
  | some (some (.own _)) => outOf (f η) fun d => appTo i d η
  | _ => .bad
/-- x.extend(e) -/
def seqOf : D → Res (List D)
  | .lst xs => .ok xs
  | .tup xs => .ok xs
  | _ => .bad
def extTo (i : Nat) (d : D) : St := fun η => match η[i]? with
  | some (some (.own ds)) => outOf (seqOf d) fun xs => if ds.length + xs.length ≤ lim then .next (η.set i (some (.own (ds ++ xs)))) else .bad
  | _ => .bad
def sExt (i : Nat) (f : E) : St := fun η => match η[i]? with
  | some (some (.own _)) => outOf (f η) fun d => extTo i d η
  | _ => .bad
/-- the own list's last -/
def popOf (j : Nat) (η : Env) : Res (D × Env) := match η[j]? with
  | some (some (.own ds)) => match ds[ds.length - 1]? with
    | some d => .ok (d, η.set j (some (.own ds.dropLast)))
    | Option.none => .bad
  | _ => .bad
/-- x.append(y.pop()) -/
def sAppPop (i j : Nat) : St := fun η => match η[i]? with
  | some (some (.own _)) => outOf (popOf j η).calm fun p => appTo i p.1 p.2
  | _ => .bad
/-- dicts -/
def keyD : D → Bool
  | .int _ => true
  | .str _ => true
  | _ => false
def sameKey : D → D → Bool
  | .int a, .int b => a == b
  | .str a, .str b => a == b
  | _, _ => false
def dget (kvs : List (D × D)) (k : D) : Option D := (kvs.find? fun kv => sameKey kv.1 k).map (·.2)
def dput (kvs : List (D × D)) (k v : D) : List (D × D) := if kvs.any (fun kv => sameKey kv.1 k) then kvs.map fun kv => if sameKey kv.1 k then (kv.1, v) else kv else kvs ++ [(k, v)]
def putTo (i : Nat) (k v : D) : St := fun η => match η[i]? with
  | some (some (.dic kvs)) => if kvs.length < lim ∧ keyD k then .next (η.set i (some (.dic (dput kvs k v)))) else .bad
  | _ => .bad
/-- x[k] = v -/
def sPut (i : Nat) (fk fv : E) : St := fun η => outOf (fv η) fun v => match η[i]? with
  | some (some (.dic _)) => outOf (fk η) fun k => putTo i k v η
  | _ => .bad
/-- x[k] = y.pop() -/
def sPutPop (i : Nat) (fk : E) (j : Nat) : St := fun η => outOf (popOf j η).calm fun p => match p.2[i]? with
  | some (some (.dic _)) => outOf (fk p.2) fun k => putTo i k p.1 p.2
  | _ => .bad
/-- x[k], x.get(k, d) of the def's own dict -/
def eDGet (i : Nat) (fk : E) : E := fun η => match η[i]? with
  | some (some (.dic kvs)) => (fk η).bind fun k => if keyD k then (match dget kvs k with
    | some v => .ok v
    | Option.none => .bad) else .bad
  | _ => .bad
def eDGet2 (i : Nat) (fk fd : E) : E := fun η => match η[i]? with
  | some (some (.dic kvs)) => (fk η).bind fun k => (fd η).bind fun d => if keyD k then .ok ((dget kvs k).getD d) else .bad
  | _ => .bad
/-- {'(': 1, ')': -1}.get(e, d) -/
def dSign (x z : D) : Res D := match x with
  | .str s => .ok (if s = [40] then .int 1 else if s = [41] then .int (-1) else z)
  | _ => .bad
def eSign (fk fd : E) : E := eBin dSign fk fd
/-- return of the def's own list -/
def sRetOwn (i : Nat) : St := fun η => match η[i]? with
  | some (some (.own ds)) => .ret (.lst ds)
  | _ => .bad
/-! two signs in a text; items of a list or tuple; own dicts and lists; a < b < c < d -/
def findTwo (a b : Nat) (s : List Nat) : Option Nat := (List.range s.length).find? fun i => s[i]? == some a && s[i + 1]? == some b
def dInT : D → D → Res D
  | .str [a, b], .str s => .ok (.bool (findTwo a b s).isSome)
  | _, _ => .bad
def dFind : D → D → Res D
  | .str s, .str [a, b] => match findTwo a b s with
    | some i => .ok (.int (i : Nat))
    | Option.none => .bad
  | _, _ => .bad
def flatD : D → Bool
  | .none => true
  | .bool _ => true
  | .int _ => true
  | .str _ => true
  | _ => false
def inL (x : D) (ys : List D) : Bool := ys.any fun y => D.eqv y x
def dInL (x : D) : D → Res D
  | .lst ys => if flatD x && ys.all flatD then .ok (.bool (inL x ys)) else .bad
  | .tup ys => if flatD x && ys.all flatD then .ok (.bool (inL x ys)) else .bad
  | _ => .bad
def dNInL (x : D) : D → Res D
  | .lst ys => if flatD x && ys.all flatD then .ok (.bool (!inL x ys)) else .bad
  | .tup ys => if flatD x && ys.all flatD then .ok (.bool (!inL x ys)) else .bad
  | _ => .bad
/-- x op the def's own list -/
def eBinO (b : D → D → Res D) (f : E) (i : Nat) : E := fun η => (f η).bind fun x => match η[i]? with
  | some (some (.own ds)) => (b x (.lst ds)).calm
  | _ => .bad
def eDLen (i : Nat) : E := fun η => match η[i]? with
  | some (some (.dic kvs)) => .ok (.int kvs.length)
  | _ => .bad
/-- sorted(own dict), the keys texts -/
def eDSorted (i : Nat) : E := fun η => match η[i]? with
  | some (some (.dic kvs)) => match strsL (kvs.map (·.1)) with
    | some ks => if ks.length < 64 then .ok (.lst ((ks.mergeSort fun a b => !decide (b < a)).map D.str)) else .bad
    | Option.none => .bad
  | _ => .bad
def eChain3 (r1 r2 r3 : D → D → Res D) (f g h k : E) : E := fun η => (f η).bind fun x => (g η).bind fun y => (r1 x y).calm.bind fun z => match z with
  | .bool true => (h η).bind fun w => (r2 y w).calm.bind fun z2 => match z2 with
    | .bool true => (k η).bind fun v => (r3 w v).calm
    | .bool false => .ok (.bool false)
    | _ => .bad
  | .bool false => .ok (.bool false)
  | _ => .bad
/-- list.count of a tuple of two numbers -/
def pairNum : D → Bool
  | .tup [.int _, .int _] => true
  | _ => false
def dCountL : D → D → Res D
  | .lst xs, y => if pairNum y && xs.all pairNum then .ok (.int (xs.countP fun x => D.eqv x y : Nat)) else .bad
  | _, _ => .bad
/-! a call that may be refused, in a try -/
def eCallT (φ : List D → Res D) (fs : List E) : E := fun η => (evals fs η).calm.bind φ
def sIfC (t : T) (a b : St) : St := fun η => outOf (t η).calm fun c => if c then a η else b η
def sTryAs (i : Nat) (b : St) (h : Cls → St) : St := fun η => match b η with
  | .next η' => .next η'
  | .raise c => if i < η.length then (match h c (η.set i Option.none) with
    | .next η' => .next (η'.set i Option.none)
    | _ => .bad) else .bad
  | _ => .bad
/-- [x.pop(e) for .. in ..], x the own list in slot i -/
def pops (i : Nat) (own : List Nat) (g : G) (fe : E) : List D → Env → Res (List D)
  | [], _ => .ok []
  | d :: ds, η => (g d (wipes η own)).calm.bind fun η1 => match η[i]? with
    | some (some (.own xs)) => (fe η1).calm.bind fun y => match y with
      | .int k => if 0 ≤ k ∧ k < xs.length ∧ k < 1000000 then (match xs[k.toNat]? with
        | some v => (pops i own g fe ds (η.set i (some (.own (xs.eraseIdx k.toNat))))).bind fun r => .ok (v :: r)
        | Option.none => .bad) else .bad
      | _ => .bad
    | _ => .bad
def sRetPops (i : Nat) (own : List Nat) (fi : I) (g : G) (fe : E) : St := fun η => outOf (fi η) fun ds => if ds.length ≤ lim ∧ i ∉ own then outOf (pops i own g fe ds η).calm fun ys => outOf (dJoin (.str []) (.lst ys)).calm fun r => .ret r else .bad
/-- x = a + b, a list that will change -/
def sNewCat (i : Nat) (f g : E) : St := fun η => outOf (f η) fun x => outOf (g η) fun y => match x, y with
  | .lst xs, .lst ys => if xs.length + ys.length ≤ lim then .next (η.set i (some (.own (xs ++ ys)))) else .bad
  | _, _ => .bad
/-- list * int -/
def dRepL : D → D → Res D
  | .lst xs, .int k => if 0 ≤ k ∧ k ≤ lim ∧ xs.length * k.toNat ≤ lim then .ok (.lst (List.replicate k.toNat xs).flatten) else .bad
  | _, _ => .bad
/-- a def: n slots, its body -/
def runDef (n : Nat) (g : St) (ds : List D) : Res D := match g (ds.map (fun d => some (S.dat d)) ++ List.replicate (n - ds.length) Option.none) with
  | .ret d => .ok d
  | .next _ => .ok .none
  | .raise c => .raise c
  | _ => .bad
end Bk
end
/-! BkBase -/
section
set_option Elab.async false
set_option linter.all false
set_option autoImplicit false
set_option maxRecDepth 100000
set_option maxHeartbeats 4000000
/-! BkBase: what stands in the heap for data and states; the readings of expressions and statements by what they give -/
namespace Bk
open PySem PySem.Spec PyProof.Rows L2
/-- a text by its signs -/
abbrev Sx (l : List Nat) : Str := ⟨l.toArray⟩
theorem sx_tl (x : Str) : Sx x.cps.toList = x := by
  obtain ⟨c⟩ := x
  rfl
theorem sx_len (l : List Nat) : (Sx l).length = l.length := by simp [Sx, Str.length]
theorem sx_inj {a b : List Nat} (h : Sx a = Sx b) : a = b := by
  have h1 := congrArg (fun z : Str => z.cps.toList) h
  simpa using h1
theorem sx_app (a b : List Nat) : Sx a ++ Sx b = Sx (a ++ b) := by
  have h := TL.tl_append (Sx a) (Sx b)
  rw [← sx_tl (Sx a ++ Sx b)]
  show Sx (TL.tl (Sx a ++ Sx b)) = _
  rw [h]
def keyV : D → Option Key
  | .int i => some (.inl i)
  | .str s => some (.inr (Sx s))
  | _ => Option.none
mutual
/-- v stands for d, by what the heap G holds -/
inductive Rp (K : PySem.W.Frag) (G : Hp) : V → D → Prop
  | none : Rp K G .non .none
  | bool (b : Bool) : Rp K G (.bl b) (.bool b)
  | int (i : Int) : Rp K G (.int i) (.int i)
  | str (s : List Nat) : Rp K G (.str (Sx s)) (.str s)
  | lst {a : Addr} {xs : List V} {ds : List D} : SqL K G a xs → RpAll K G xs ds → Rp K G (.ref a) (.lst ds)
  | tup {a : Addr} {xs : List V} {ds : List D} : SqT K G a xs → RpAll K G xs ds → Rp K G (.ref a) (.tup ds)
  | dic {a : Addr} {kvs : List (Key × V)} {ks : List (D × D)} : G a = some (.dK kvs) → RpKV K G kvs ks → Rp K G (.ref a) (.dic ks)
inductive RpAll (K : PySem.W.Frag) (G : Hp) : List V → List D → Prop
  | nil : RpAll K G [] []
  | cons {v : V} {vs : List V} {d : D} {ds : List D} : Rp K G v d → RpAll K G vs ds → RpAll K G (v :: vs) (d :: ds)
inductive RpKV (K : PySem.W.Frag) (G : Hp) : List (Key × V) → List (D × D) → Prop
  | nil : RpKV K G [] []
  | cons {k : Key} {v : V} {r : List (Key × V)} {kd d : D} {rs : List (D × D)} : keyV kd = some k → Rp K G v d → RpKV K G r rs → RpKV K G ((k, v) :: r) ((kd, d) :: rs)
end
/-- all that H holds stands in H' -/
abbrev Ex (H H' : Hp) : Prop := ∀ a o, H a = some o → H' a = some o
theorem Ex.refl (H : Hp) : Ex H H := fun _ _ h => h
theorem Ex.trans {H H1 H2 : Hp} (a : Ex H H1) (b : Ex H1 H2) : Ex H H2 := fun x o h => b x o (a x o h)
theorem Ex.new {H : Hp} {p : Addr} {o : HO} (h : H p = none) : Ex H (upd H p o) := fun a u e => by
  rw [upd_ne (ne_of_none e h)]
  exact e
theorem Ex.none {H H' : Hp} {p : Addr} (e : Ex H H') (h : H' p = Option.none) : H p = Option.none := by
  cases q : H p with
  | none => rfl
  | some o =>
    rw [e p o q] at h
    cases h
theorem Ex.l {K : PySem.W.Frag} {H H' : Hp} {a : Addr} {xs : List V} (e : Ex H H') (h : SqL K H a xs) : SqL K H' a xs := by
  rcases h with (h | ⟨o, h⟩) | h
  · exact .inl (.inl (e _ _ h))
  · exact .inl (.inr ⟨o, e _ _ h⟩)
  · exact .inr h
theorem Ex.t {K : PySem.W.Frag} {H H' : Hp} {a : Addr} {xs : List V} (e : Ex H H') (h : SqT K H a xs) : SqT K H' a xs := by
  rcases h with (h | ⟨o, h⟩) | h
  · exact .inl (.inl (e _ _ h))
  · exact .inl (.inr ⟨o, e _ _ h⟩)
  · exact .inr h
section
variable {K : PySem.W.Frag} {G G' : Hp}
mutual
theorem Rp.mono (e : Ex G G') : ∀ {v : V} {d : D}, Rp K G v d → Rp K G' v d
  | _, _, .none => .none
  | _, _, .bool b => .bool b
  | _, _, .int i => .int i
  | _, _, .str s => .str s
  | _, _, .lst h r => .lst (e.l h) (RpAll.mono e r)
  | _, _, .tup h r => .tup (e.t h) (RpAll.mono e r)
  | _, _, .dic h r => .dic (e _ _ h) (RpKV.mono e r)
theorem RpAll.mono (e : Ex G G') : ∀ {vs : List V} {ds : List D}, RpAll K G vs ds → RpAll K G' vs ds
  | _, _, .nil => .nil
  | _, _, .cons h r => .cons (Rp.mono e h) (RpAll.mono e r)
theorem RpKV.mono (e : Ex G G') : ∀ {vs : List (Key × V)} {ds : List (D × D)}, RpKV K G vs ds → RpKV K G' vs ds
  | _, _, .nil => .nil
  | _, _, .cons k h r => .cons k (Rp.mono e h) (RpKV.mono e r)
end
theorem RpAll.length : ∀ {vs : List V} {ds : List D}, RpAll K G vs ds → vs.length = ds.length
  | _, _, .nil => rfl
  | _, _, .cons _ r => congrArg (· + 1) (RpAll.length r)
theorem RpAll.get : ∀ {vs : List V} {ds : List D} {i : Nat} {d : D}, RpAll K G vs ds → ds[i]? = some d → ∃ v, vs[i]? = some v ∧ Rp K G v d
  | _, _, _, _, .nil, e => by simp at e
  | _, _, 0, _, .cons h _, e => by
    simp at e
    subst e
    exact ⟨_, rfl, h⟩
  | _, _, i + 1, d, .cons _ r, e => by
    obtain ⟨v, h1, h2⟩ := RpAll.get (i := i) (d := d) r (by simpa using e)
    exact ⟨v, by simpa using h1, h2⟩
theorem RpAll.append : ∀ {xs ys : List V} {as bs : List D}, RpAll K G xs as → RpAll K G ys bs → RpAll K G (xs ++ ys) (as ++ bs)
  | _, _, _, _, .nil, s => s
  | _, _, _, _, .cons h r, s => .cons h (RpAll.append r s)
theorem RpAll.take : ∀ {xs : List V} {as : List D} (n : Nat), RpAll K G xs as → RpAll K G (xs.take n) (as.take n)
  | _, _, 0, _ => .nil
  | _, _, _ + 1, .nil => .nil
  | _, _, n + 1, .cons h r => .cons h (RpAll.take n r)
theorem RpAll.drop : ∀ {xs : List V} {as : List D} (n : Nat), RpAll K G xs as → RpAll K G (xs.drop n) (as.drop n)
  | _, _, 0, h => h
  | _, _, _ + 1, .nil => .nil
  | _, _, n + 1, .cons _ r => RpAll.drop n r
theorem RpAll.reverse {xs : List V} {as : List D} (h : RpAll K G xs as) : RpAll K G xs.reverse as.reverse := by
  have aux : ∀ {xs : List V} {as : List D}, RpAll K G xs as → RpAll K G xs.reverse as.reverse := by
    intro xs as h
    induction xs generalizing as with
    | nil =>
      cases h
      exact .nil
    | cons v r ih =>
      cases h with
      | cons h1 h2 =>
        rw [List.reverse_cons, List.reverse_cons]
        exact (ih h2).append (.cons h1 .nil)
  exact aux h
theorem RpAll.dropLast {xs : List V} {as : List D} (h : RpAll K G xs as) : RpAll K G xs.dropLast as.dropLast := by
  rw [List.dropLast_eq_take, List.dropLast_eq_take, h.length]
  exact h.take _
theorem RpAll.snoc {xs : List V} {as : List D} {v : V} {d : D} (h : RpAll K G xs as) (r : Rp K G v d) : RpAll K G (xs ++ [v]) (as ++ [d]) := h.append (.cons r .nil)
theorem RpAll.nums : ∀ {xs : List V} {as : List D} {ns : List Int}, RpAll K G xs as → numsL as = some ns → xs = ns.map V.int
  | _, _, _, .nil, e => by
    cases e
    rfl
  | _, _, ns, .cons (d := d) h r, e => by
    cases h with
    | int i =>
      rename_i vs ds
      cases q : Bk.numsL ds with
      | none =>
        simp [Bk.numsL, q] at e
      | some ms =>
        simp [Bk.numsL, q] at e
        subst e
        rw [RpAll.nums r q] <;> rfl
    | none => simp [Bk.numsL] at e
    | bool b => simp [Bk.numsL] at e
    | str s => simp [Bk.numsL] at e
    | lst _ _ => simp [Bk.numsL] at e
    | tup _ _ => simp [Bk.numsL] at e
    | dic _ _ => simp [Bk.numsL] at e
theorem RpAll.txts : ∀ {xs : List V} {as : List D} {ns : List (List Nat)}, RpAll K G xs as → strsL as = some ns → xs = (ns.map Sx).map V.str
  | _, _, _, .nil, e => by
    cases e
    rfl
  | _, _, ns, .cons (d := d) h r, e => by
    cases h with
    | str i =>
      rename_i vs ds
      cases q : Bk.strsL ds with
      | none => simp [Bk.strsL, q] at e
      | some ms =>
        simp [Bk.strsL, q] at e
        subst e
        rw [RpAll.txts r q] <;> rfl
    | none => simp [Bk.strsL] at e
    | bool b => simp [Bk.strsL] at e
    | int s => simp [Bk.strsL] at e
    | lst _ _ => simp [Bk.strsL] at e
    | tup _ _ => simp [Bk.strsL] at e
    | dic _ _ => simp [Bk.strsL] at e
theorem RpAll.bools : ∀ {xs : List V} {as : List D} {ns : List Bool}, RpAll K G xs as → boolsL as = some ns → xs = ns.map V.bl
  | _, _, _, .nil, e => by
    cases e
    rfl
  | _, _, ns, .cons (d := d) h r, e => by
    cases h with
    | bool i =>
      rename_i vs ds
      cases q : Bk.boolsL ds with
      | none => simp [Bk.boolsL, q] at e
      | some ms =>
        simp [Bk.boolsL, q] at e
        subst e
        rw [RpAll.bools r q] <;> rfl
    | none => simp [Bk.boolsL] at e
    | str b => simp [Bk.boolsL] at e
    | int s => simp [Bk.boolsL] at e
    | lst _ _ => simp [Bk.boolsL] at e
    | tup _ _ => simp [Bk.boolsL] at e
    | dic _ _ => simp [Bk.boolsL] at e
theorem RpAll.ofInts : ∀ ns : List Int, RpAll K G (ns.map V.int) (ns.map D.int)
  | [] => .nil
  | n :: r => .cons (.int n) (RpAll.ofInts r)
theorem RpAll.ofStrs : ∀ ns : List (List Nat), RpAll K G ((ns.map Sx).map V.str) (ns.map D.str)
  | [] => .nil
  | n :: r => .cons (.str n) (RpAll.ofStrs r)
end

/-! ### growing heaps: G what is known for good, H all -/
structure Ext (G H G' H' : Hp) : Prop where
  g : Ex G G'
  gh : Ex G' H'
  h : Ex H H'
  fr : ∀ a, G a = none → H a ≠ none → G' a = none
theorem Ext.refl {G H : Hp} (e : Ex G H) : Ext G H G H := ⟨Ex.refl G, e, Ex.refl H, fun _ h _ => h⟩
theorem Ext.trans {G H G1 H1 G2 H2 : Hp} (a : Ext G H G1 H1) (b : Ext G1 H1 G2 H2) : Ext G H G2 H2 :=
  ⟨a.g.trans b.g, b.gh, a.h.trans b.h, fun x h1 h2 => b.fr x (a.fr x h1 h2) fun z => h2 (a.h.none z)⟩
/-- a new object, known for good -/
theorem Ext.new {G H : Hp} {p : Addr} {o : HO} (e : Ex G H) (h : H p = none) : Ext G H (upd G p o) (upd H p o) := by
  have hg : G p = none := e.none h
  refine ⟨Ex.new hg, fun a u z => ?_, Ex.new h, fun a h1 h2 => ?_⟩
  · by_cases ha : a = p
    · subst ha
      rw [upd_same] at z ⊢
      exact z
    · rw [upd_ne ha] at z ⊢
      exact e a u z
  · by_cases ha : a = p
    · subst ha
      exact absurd h h2
    · rw [upd_ne ha]
      exact h1
/-- a new object that is forgotten -/
theorem Ext.drop {G H : Hp} {p : Addr} {o : HO} (e : Ex G H) (h : H p = none) : Ext G H G (upd H p o) :=
  ⟨Ex.refl G, e.trans (Ex.new h), Ex.new h, fun _ h1 _ => h1⟩

/-! ### dicts whose keys are tuples -/
mutual
/-- the key, without texts -/
def nkey : D → Option NestedKey
  | .none => some .none
  | .bool b => some (.num (if b = true then 1 else 0))
  | .int i => some (.num i)
  | .tup xs => (nkeys xs).map NestedKey.tup
  | _ => Option.none
def nkeys : List D → Option (List NestedKey)
  | [] => some []
  | x :: r => match nkey x, nkeys r with
    | some a, some b => some (a :: b)
    | _, _ => Option.none
end
inductive RpKs (K : PySem.W.Frag) (G : Hp) : List D → List (NestedKey × Addr × Value) → Prop
  | nil : RpKs K G [] []
  | cons {k : D} {ks : List D} {nk : NestedKey} {a : Addr} {v : Value} {xs : List (NestedKey × Addr × Value)} : nkey k = some nk → nk.depth ≤ 8 → Rp K G (.ref a) k → RpKs K G ks xs → RpKs K G (k :: ks) ((nk, a, v) :: xs)
theorem RpKs.mono {K : PySem.W.Frag} {G G' : Hp} (e : Ex G G') : ∀ {ks : List D} {xs : List (NestedKey × Addr × Value)}, RpKs K G ks xs → RpKs K G' ks xs
  | _, _, .nil => .nil
  | _, _, .cons a b c r => .cons a b (c.mono e) (RpKs.mono e r)
/-- what is known of such a dict -/
def KdOk (K : PySem.W.Frag) (G : Hp) (a : Addr) (φ : Heap → Prop) (ks : List D) : Prop :=
  ks.length ≤ lim ∧ (∀ h, φ h → (a == sysModules) = false ∧ ∃ es ep, h.DictRaw a es ep ∧ es.size = ks.length) ∧
  (ks = [.none] ∨ ∃ xs : List (NestedKey × Addr × Value), (∀ (P : Program) (w : World) h, φ h → ∃ o es ep, h.get? a = some o ∧ o.ExactDict ∧ o.data = .dict es ep ∧ es.toList = xs.map (entryOfKey (nestedKind P w))) ∧ (xs.map (·.1)).Nodup ∧ RpKs K G ks xs)
theorem KdOk.mono {K : PySem.W.Frag} {G G' : Hp} (e : Ex G G') {a : Addr} {φ : Heap → Prop} {ks : List D} (h : KdOk K G a φ ks) : KdOk K G' a φ ks :=
  ⟨h.1, h.2.1, h.2.2.imp id fun ⟨xs, p, q, r⟩ => ⟨xs, p, q, r.mono e⟩⟩
/-- lists that one list of one's own holds -/
inductive Oo (K : PySem.W.Frag) (H0 G H : Hp) : List Addr → List (List D) → Prop
  | nil : Oo K H0 G H [] []
  | cons {a : Addr} {as : List Addr} {vs : List V} {ds : List D} {dss : List (List D)} : H0 a = none → G a = none → H a = some (.lst vs) → RpAll K G vs ds → Oo K H0 G H as dss → Oo K H0 G H (a :: as) (ds :: dss)
/-! ### states -/
/-- a slot -/
def RpS (K : PySem.W.Frag) (H0 G H : Hp) (v : V) : S → Prop
  | .dat d => Rp K G v d
  | .own ds => ∃ a vs, v = .ref a ∧ H0 a = none ∧ G a = none ∧ H a = some (.lst vs) ∧ RpAll K G vs ds
  | .dic ks => ∃ a kvs, v = .ref a ∧ H0 a = none ∧ G a = none ∧ H a = some (.dK kvs) ∧ RpKV K G kvs ks
  | .kd ks => ∃ a φ, v = .ref a ∧ H0 a = none ∧ G a = none ∧ H a = some (.ext φ) ∧ KdOk K G a φ ks
  | .oo dss => ∃ a as, v = .ref a ∧ H0 a = none ∧ G a = none ∧ H a = some (.lst (as.map V.ref)) ∧ (a :: as).Nodup ∧ Oo K H0 G H as dss
/-- the addresses that a slot owns -/
def fpS (H : Hp) (v : V) : S → Addr → Prop
  | .dat _ => fun _ => False
  | .oo _ => fun b => v = .ref b ∨ ∃ (a : Addr) (as : List Addr), v = .ref a ∧ H a = some (.lst (as.map V.ref)) ∧ b ∈ as
  | .own _ => fun b => v = .ref b
  | .dic _ => fun b => v = .ref b
  | .kd _ => fun b => v = .ref b
def isOwn : S → Bool
  | .dat _ => false
  | _ => true
structure RpE (K : PySem.W.Frag) (G0 H0 G H : Hp) (σ : L2.St) (η : Env) : Prop where
  ext : Ext G0 H0 G H
  len : σ.length = η.length
  slot : ∀ (i : Nat) s, η[i]? = some (some s) → ∃ v, σ[i]? = some (some v) ∧ RpS K H0 G H v s
  apart : ∀ (i j : Nat) s t v u b, i ≠ j → η[i]? = some (some s) → η[j]? = some (some t) → σ[i]? = some (some v) → σ[j]? = some (some u) → fpS H v s b → fpS H u t b → False
section
variable {K : PySem.W.Frag} {G0 H0 G H G' H' : Hp} {σ : L2.St} {η : Env}
theorem ref_inj : ∀ {as bs : List Addr}, as.map V.ref = bs.map V.ref → as = bs
  | [], [], _ => rfl
  | [], _ :: _, h => nomatch h
  | _ :: _, [], h => nomatch h
  | a :: as, b :: bs, h => by
    rw [List.map_cons, List.map_cons, List.cons.injEq, V.ref.injEq] at h
    rw [h.1, ref_inj h.2]
theorem Oo.mem {as : List Addr} {dss : List (List D)} (h : Oo K H0 G H as dss) {b : Addr} (hb : b ∈ as) : H0 b = none ∧ G b = none ∧ ∃ vs, H b = some (.lst vs) := by
  induction h with
  | nil => cases hb
  | cons h1 h2 h3 h4 h5 ih =>
    rcases List.mem_cons.mp hb with rfl | hb
    · exact ⟨h1, h2, _, h3⟩
    · exact ih hb
theorem Oo.cong {as : List Addr} {dss : List (List D)} (h : Oo K H0 G H as dss) (k : ∀ b, b ∈ as → H' b = H b) : Oo K H0 G H' as dss := by
  induction h with
  | nil => exact .nil
  | cons h1 h2 h3 h4 h5 ih => exact .cons h1 h2 ((k _ List.mem_cons_self).trans h3) h4 (ih fun b hb => k b (List.mem_cons_of_mem _ hb))
theorem Oo.ext (x : Ext G H G' H') {as : List Addr} {dss : List (List D)} (h : Oo K H0 G H as dss) : Oo K H0 G' H' as dss := by
  induction h with
  | nil => exact .nil
  | cons h1 h2 h3 h4 h5 ih => exact .cons h1 (x.fr _ h2 (by rw [h3]; exact fun z => nomatch z)) (x.h _ _ h3) (h4.mono x.g) ih
theorem Oo.length {as : List Addr} {dss : List (List D)} (h : Oo K H0 G H as dss) : as.length = dss.length := by
  induction h with
  | nil => rfl
  | cons h1 h2 h3 h4 h5 ih => rw [List.length_cons, List.length_cons, ih]
theorem RpS.ext (x : Ext G H G' H') {v : V} : ∀ {s : S}, RpS K H0 G H v s → RpS K H0 G' H' v s
  | .dat _, h => Rp.mono x.g h
  | .own _, ⟨a, vs, e, h0, hg, hh, r⟩ => ⟨a, vs, e, h0, x.fr a hg (by rw [hh]; exact fun z => nomatch z), x.h _ _ hh, r.mono x.g⟩
  | .dic _, ⟨a, vs, e, h0, hg, hh, r⟩ => ⟨a, vs, e, h0, x.fr a hg (by rw [hh]; exact fun z => nomatch z), x.h _ _ hh, r.mono x.g⟩
  | .kd _, ⟨a, vs, e, h0, hg, hh, r⟩ => ⟨a, vs, e, h0, x.fr a hg (by rw [hh]; exact fun z => nomatch z), x.h _ _ hh, r.mono x.g⟩
  | .oo _, ⟨a, vs, e, h0, hg, hh, hn, r⟩ => ⟨a, vs, e, h0, x.fr a hg (by rw [hh]; exact fun z => nomatch z), x.h _ _ hh, hn, r.ext x⟩
/-- what a slot owns is of the def's own -/
theorem fp_own {v : V} : ∀ {s : S} {b : Addr}, RpS K H0 G H v s → fpS H v s b → H0 b = none ∧ G b = none ∧ ∃ o, H b = some o
  | .dat _, _, _, h => h.elim
  | .own _, b, ⟨a, vs, e, h0, hg, hh, r⟩, h => by
    have h : v = .ref b := h
    rw [e] at h
    cases h
    exact ⟨h0, hg, _, hh⟩
  | .dic _, b, ⟨a, vs, e, h0, hg, hh, r⟩, h => by
    have h : v = .ref b := h
    rw [e] at h
    cases h
    exact ⟨h0, hg, _, hh⟩
  | .kd _, b, ⟨a, vs, e, h0, hg, hh, r⟩, h => by
    have h : v = .ref b := h
    rw [e] at h
    cases h
    exact ⟨h0, hg, _, hh⟩
  | .oo _, b, ⟨a, as, e, h0, hg, hh, hn, r⟩, h => by
    have h : v = .ref b ∨ ∃ (a : Addr) (as : List Addr), v = .ref a ∧ H a = some (.lst (as.map V.ref)) ∧ b ∈ as := h
    rcases h with h | ⟨a', as', h1, h2, h3⟩
    · rw [e] at h
      cases h
      exact ⟨h0, hg, _, hh⟩
    · rw [e] at h1
      cases h1
      rw [hh] at h2
      have := ref_inj (HO.lst.inj (Option.some.inj h2))
      subst this
      obtain ⟨k1, k2, vs, k3⟩ := r.mem h3
      exact ⟨k1, k2, _, k3⟩
theorem RpS.cong {v : V} : ∀ {s : S}, RpS K H0 G H v s → (∀ b, fpS H v s b → H' b = H b) → RpS K H0 G H' v s
  | .dat _, h, _ => h
  | .own _, ⟨a, vs, e, h0, hg, hh, r⟩, k => ⟨a, vs, e, h0, hg, (k a e).trans hh, r⟩
  | .dic _, ⟨a, vs, e, h0, hg, hh, r⟩, k => ⟨a, vs, e, h0, hg, (k a e).trans hh, r⟩
  | .kd _, ⟨a, vs, e, h0, hg, hh, r⟩, k => ⟨a, vs, e, h0, hg, (k a e).trans hh, r⟩
  | .oo _, ⟨a, as, e, h0, hg, hh, hn, r⟩, k => ⟨a, as, e, h0, hg, (k a (.inl e)).trans hh, hn, r.cong fun b hb => k b (.inr ⟨a, as, e, hh, hb⟩)⟩
theorem fp_cong {v : V} : ∀ {s : S}, RpS K H0 G H v s → (∀ b, fpS H v s b → H' b = H b) → ∀ {b : Addr}, fpS H' v s b → fpS H v s b
  | .dat _, _, _, _, h => h
  | .own _, _, _, _, h => h
  | .dic _, _, _, _, h => h
  | .kd _, _, _, _, h => h
  | .oo _, ⟨a, as, e, h0, hg, hh, hn, r⟩, k, b, h => by
    have h : v = .ref b ∨ ∃ (a : Addr) (as : List Addr), v = .ref a ∧ H' a = some (.lst (as.map V.ref)) ∧ b ∈ as := h
    rcases h with h | ⟨a', as', h1, h2, h3⟩
    · exact .inl h
    · rw [e] at h1
      cases h1
      rw [k a (.inl e)] at h2
      exact .inr ⟨a, as', e, h2, h3⟩
theorem RpE.extd (r : RpE K G0 H0 G H σ η) (x : Ext G H G' H') : RpE K G0 H0 G' H' σ η := by
  have un : ∀ (i : Nat) s v b, η[i]? = some (some s) → σ[i]? = some (some v) → fpS H' v s b → fpS H v s b := fun i s v b e w h => by
    obtain ⟨v', h1, h2⟩ := r.slot i s e
    rw [w] at h1
    cases h1
    refine fp_cong h2 (fun c hc => ?_) h
    obtain ⟨_, _, o, ho⟩ := fp_own h2 hc
    rw [ho, x.h _ _ ho]
  exact ⟨r.ext.trans x, r.len, fun i s e => let ⟨v, h1, h2⟩ := r.slot i s e; ⟨v, h1, h2.ext x⟩, fun i j s t v u b hij e1 e2 w1 w2 f1 f2 => r.apart i j s t v u b hij e1 e2 w1 w2 (un i s v b e1 w1 f1) (un j t u b e2 w2 f2)⟩
theorem RpE.exg (r : RpE K G0 H0 G H σ η) : Ex G H := r.ext.gh
theorem RpE.dat (r : RpE K G0 H0 G H σ η) {i : Nat} {d : D} (e : η[i]? = some (some (.dat d))) : ∃ v, σ[i]? = some (some v) ∧ Rp K G v d := r.slot i _ e
theorem lt_of_get {α : Type} {l : List α} {i : Nat} {x : α} (h : l[i]? = some x) : i < l.length := by
  by_cases z : i < l.length
  · exact z
  · rw [List.getElem?_eq_none (by simpa using z)] at h
    cases h
theorem set_get {α : Type} {l : List α} {i : Nat} {x : α} (h : l[i]? = some x) : l.set i x = l := by
  obtain ⟨hl, e⟩ := List.getElem?_eq_some_iff.mp h
  rw [← e]
  exact List.set_getElem_self hl
/-- nobody's -/
def FreeA (H0 G H : Hp) (σ : L2.St) (η : Env) (b : Addr) : Prop := H0 b = none ∧ G b = none ∧ ∀ (j : Nat) s v, η[j]? = some (some s) → σ[j]? = some (some v) → ¬ fpS H v s b
theorem RpE.free_of (r : RpE K G0 H0 G H σ η) {b : Addr} (h : H b = none) : FreeA H0 G H σ η b :=
  ⟨r.ext.h.none h, r.exg.none h, fun j s v e w f => by
    obtain ⟨v', h1, h2⟩ := r.slot j s e
    rw [w] at h1
    cases h1
    obtain ⟨_, _, o, ho⟩ := fp_own h2 f
    rw [h] at ho
    cases ho⟩
/-- the slot i changed: what it owned, nobody's things -/
theorem RpE.chg (r : RpE K G0 H0 G H σ η) (i : Nat) {t : S} {v : V} (ch : ∀ b, H' b ≠ H b → (∃ s v0, η[i]? = some (some s) ∧ σ[i]? = some (some v0) ∧ fpS H v0 s b) ∨ FreeA H0 G H σ η b) (ht : RpS K H0 G H' v t)
    (hfp : ∀ b, fpS H' v t b → (∃ s v0, η[i]? = some (some s) ∧ σ[i]? = some (some v0) ∧ fpS H v0 s b) ∨ FreeA H0 G H σ η b) : RpE K G0 H0 G H' (σ.set i (some v)) (η.set i (some t)) := by
  have mine : ∀ s v0 b, η[i]? = some (some s) → σ[i]? = some (some v0) → fpS H v0 s b → H0 b = none ∧ G b = none := fun s v0 b e w f => by
    obtain ⟨v', h1, h2⟩ := r.slot i s e
    rw [w] at h1
    cases h1
    obtain ⟨k1, k2, _⟩ := fp_own h2 f
    exact ⟨k1, k2⟩
  have mine2 : ∀ b, H' b ≠ H b → H0 b = none ∧ G b = none := fun b z => by
    rcases ch b z with ⟨s, v0, k1, k2, k3⟩ | k
    · exact mine s v0 b k1 k2 k3
    · exact ⟨k.1, k.2.1⟩
  have sep : ∀ (j : Nat) s v' b, j ≠ i → η[j]? = some (some s) → σ[j]? = some (some v') → fpS H v' s b → ¬ ((∃ s v0, η[i]? = some (some s) ∧ σ[i]? = some (some v0) ∧ fpS H v0 s b) ∨ FreeA H0 G H σ η b) := fun j s v' b hj e w f z => by
    rcases z with ⟨s0, v0, k1, k2, k3⟩ | k
    · exact r.apart i j s0 s v0 v' b (Ne.symm hj) k1 e k2 w k3 f
    · exact k.2.2 j s v' e w f
  have oth : ∀ (j : Nat) s v', j ≠ i → η[j]? = some (some s) → σ[j]? = some (some v') → ∀ b, fpS H v' s b → H' b = H b := fun j s v' hj e w b f => by
    by_cases z : H' b = H b
    · exact z
    · exact absurd (ch b z) (sep j s v' b hj e w f)
  have und : ∀ (j : Nat) s v', j ≠ i → η[j]? = some (some s) → σ[j]? = some (some v') → ∀ b, fpS H' v' s b → fpS H v' s b := fun j s v' hj e w b f => by
    obtain ⟨v2, h1, h2⟩ := r.slot j s e
    have w0 := w
    rw [w] at h1
    cases h1
    exact fp_cong h2 (oth j s v' hj e w0) f
  have new : ∀ (j : Nat) s v' b, j ≠ i → η[j]? = some (some s) → σ[j]? = some (some v') → fpS H' v t b → fpS H' v' s b → False := fun j s v' b hj e w f1 f2 => sep j s v' b hj e w (und j s v' hj e w b f2) (hfp b f1)
  have at_i : ∀ {x : S}, (η.set i (some t))[i]? = some (some x) → x = t ∧ i < η.length := fun {x} e => by
    have hl : i < η.length := by simpa using lt_of_get e
    rw [List.getElem?_set_self hl] at e
    cases e
    exact ⟨rfl, hl⟩
  have at_s : i < η.length → (σ.set i (some v))[i]? = some (some v) := fun hl => List.getElem?_set_self (by rw [r.len]; exact hl)
  refine ⟨⟨r.ext.g, fun b u z => ?_, fun b u z => ?_, r.ext.fr⟩, by rw [List.length_set, List.length_set]; exact r.len, fun j s e => ?_, fun j k s u v1 v2 b hjk e1 e2 w1 w2 f1 f2 => ?_⟩
  · by_cases q : H' b = H b
    · rw [q]
      exact r.ext.gh b u z
    · rw [(mine2 b q).2] at z
      cases z
  · by_cases q : H' b = H b
    · rw [q]
      exact r.ext.h b u z
    · rw [(mine2 b q).1] at z
      cases z
  · by_cases hj : j = i
    · subst hj
      obtain ⟨rfl, hl⟩ := at_i e
      exact ⟨v, at_s hl, ht⟩
    · rw [List.getElem?_set_ne (Ne.symm hj)] at e ⊢
      obtain ⟨v', h1, h2⟩ := r.slot j s e
      exact ⟨v', h1, h2.cong (oth j s v' hj e h1)⟩
  · by_cases hj : j = i
    · subst hj
      obtain ⟨rfl, hl⟩ := at_i e1
      rw [at_s hl] at w1
      cases w1
      rw [List.getElem?_set_ne hjk] at e2 w2
      exact new k u v2 b (Ne.symm hjk) e2 w2 f1 f2
    · rw [List.getElem?_set_ne (Ne.symm hj)] at e1 w1
      by_cases hk : k = i
      · subst hk
        obtain ⟨rfl, hl⟩ := at_i e2
        rw [at_s hl] at w2
        cases w2
        exact new j s v1 b hj e1 w1 f2 f1
      · rw [List.getElem?_set_ne (Ne.symm hk)] at e2 w2
        exact r.apart j k s u v1 v2 b hjk e1 e2 w1 w2 (und j s v1 hj e1 w1 b f1) (und k u v2 hk e2 w2 b f2)
/-- data stored -/
theorem RpE.set (r : RpE K G0 H0 G H σ η) (i : Nat) {v : V} {d : D} (h : Rp K G v d) : RpE K G0 H0 G H (σ.set i (some v)) (η.set i (some (.dat d))) :=
  r.chg i (t := .dat d) (fun b z => absurd rfl z) h fun b z => z.elim
/-- an own thing at a new place -/
theorem RpE.setNew (r : RpE K G0 H0 G H σ η) (i : Nat) {p : Addr} {o : HO} {s : S} (hp : H p = none) (h : RpS K H0 G (upd H p o) (.ref p) s) (hf : ∀ b, fpS (upd H p o) (.ref p) s b → b = p := by intro b h; cases h; rfl) : RpE K G0 H0 G (upd H p o) (σ.set i (some (.ref p))) (η.set i (some s)) :=
  r.chg i (fun b z => .inr (r.free_of (by
    by_cases hb : b = p
    · rw [hb, hp]
    · exact absurd (upd_ne hb) z))) h fun b z => .inr (r.free_of (by rw [hf b z, hp]))
theorem fp_top {v : V} {a : Addr} : ∀ {s : S}, isOwn s = true → v = .ref a → fpS H v s a
  | .dat _, h, _ => nomatch h
  | .own _, _, h => h
  | .dic _, _, h => h
  | .kd _, _, h => h
  | .oo _, _, h => .inl h
/-- an own thing changed where it stands -/
theorem RpE.mut (r : RpE K G0 H0 G H σ η) {i : Nat} {a : Addr} {o : HO} {s t : S} (e : η[i]? = some (some s)) (hs : isOwn s = true) (ht : isOwn t = true) (w : σ[i]? = some (some (.ref a))) (h0 : H0 a = none) (hg : G a = none) (h : RpS K H0 G (upd H a o) (.ref a) t)
    (hf : ∀ b, fpS (upd H a o) (.ref a) t b → b = a := by intro b h; cases h; rfl) : RpE K G0 H0 G (upd H a o) σ (η.set i (some t)) := by
  have := r.chg i (t := t) (v := .ref a) (H' := upd H a o) (fun b z => .inl ⟨s, _, e, w, by
    by_cases hb : b = a
    · rw [hb]
      exact fp_top hs rfl
    · exact absurd (upd_ne hb) z⟩) h fun b z => .inl ⟨s, _, e, w, by
    rw [hf b z]
    exact fp_top hs rfl⟩
  rw [set_get w] at this
  exact this
/-- another object that nobody holds is changed -/
theorem RpE.far (r : RpE K G0 H0 G H σ η) {p0 : Addr} {o : HO} (hg : G p0 = none) (h0 : H0 p0 = none) (hf : ∀ (j : Nat) s v, η[j]? = some (some s) → σ[j]? = some (some v) → ¬ fpS H v s p0) : RpE K G0 H0 G (upd H p0 o) σ η := by
  have same : ∀ (j : Nat) s v, η[j]? = some (some s) → σ[j]? = some (some v) → ∀ b, fpS H v s b → upd H p0 o b = H b := fun j s v e w b f => upd_ne fun z => by
    subst z
    exact hf j s v e w f
  refine ⟨⟨r.ext.g, fun b u z => ?_, fun b u z => ?_, r.ext.fr⟩, r.len, fun j s e => ?_, fun j k s u v1 v2 b hjk e1 e2 w1 w2 f1 f2 => ?_⟩
  · rw [upd_ne (ne_of_none z hg)]
    exact r.ext.gh b u z
  · rw [upd_ne (ne_of_none z h0)]
    exact r.ext.h b u z
  · obtain ⟨v, h1, h2⟩ := r.slot j s e
    exact ⟨v, h1, h2.cong (same j s v e h1)⟩
  · obtain ⟨v1', h1, h2⟩ := r.slot j s e1
    rw [w1] at h1
    cases h1
    obtain ⟨v2', k1, k2⟩ := r.slot k u e2
    rw [w2] at k1
    cases k1
    exact r.apart j k s u v1 v2 b hjk e1 e2 w1 w2 (fp_cong h2 (same j s v1 e1 w1) f1) (fp_cong k2 (same k u v2 e2 w2) f2)
/-- fewer slots -/
theorem RpE.less (r : RpE K G0 H0 G H σ η) {σ' : L2.St} {η' : Env} (hl : σ'.length = η'.length) (k : ∀ (j : Nat) s, η'[j]? = some (some s) → η[j]? = some (some s) ∧ σ'[j]? = σ[j]?) : RpE K G0 H0 G H σ' η' := by
  refine ⟨r.ext, hl, fun j s e => ?_, fun j l s t v u b hjk e1 e2 w1 w2 f1 f2 => ?_⟩
  · obtain ⟨e, w⟩ := k j s e
    rw [w]
    exact r.slot j s e
  · obtain ⟨e1, x1⟩ := k j s e1
    obtain ⟨e2, x2⟩ := k l t e2
    rw [x1] at w1
    rw [x2] at w2
    exact r.apart j l s t v u b hjk e1 e2 w1 w2 f1 f2
theorem RpE.forget (r : RpE K G0 H0 G H σ η) (i : Nat) (z : Option V) : RpE K G0 H0 G H (σ.set i z) (η.set i Option.none) :=
  r.less (by rw [List.length_set, List.length_set]; exact r.len) fun j s e => by
    by_cases hj : i = j
    · subst hj
      have hl : i < η.length := by simpa using lt_of_get e
      rw [List.getElem?_set_self hl] at e
      cases e
    · rw [List.getElem?_set_ne hj] at e
      exact ⟨e, List.getElem?_set_ne hj⟩
theorem Oo.gcong {as : List Addr} {dss : List (List D)} (h : Oo K H0 G H as dss) (x : Ex G G') (k : ∀ b, b ∈ as → G' b = none) : Oo K H0 G' H as dss := by
  induction h with
  | nil => exact .nil
  | cons h1 h2 h3 h4 h5 ih => exact .cons h1 (k _ List.mem_cons_self) h3 (h4.mono x) (ih fun b hb => k b (List.mem_cons_of_mem _ hb))
theorem RpS.gcong {v : V} (x : Ex G G') : ∀ {s : S}, RpS K H0 G H v s → (∀ b, fpS H v s b → G' b = none) → RpS K H0 G' H v s
  | .dat _, h, _ => Rp.mono x h
  | .own _, ⟨a, vs, e, h0, hg, hh, r⟩, k => ⟨a, vs, e, h0, k a e, hh, r.mono x⟩
  | .dic _, ⟨a, vs, e, h0, hg, hh, r⟩, k => ⟨a, vs, e, h0, k a e, hh, r.mono x⟩
  | .kd _, ⟨a, vs, e, h0, hg, hh, r⟩, k => ⟨a, vs, e, h0, k a e, hh, r.mono x⟩
  | .oo _, ⟨a, as, e, h0, hg, hh, hn, r⟩, k => ⟨a, as, e, h0, k a (.inl e), hh, hn, r.gcong x fun b hb => k b (.inr ⟨a, as, e, hh, hb⟩)⟩
/-- the things at A, of the slot i, known for good from here on -/
def frzG (A : List Addr) (G H : Hp) : Hp := fun b => if b ∈ A then H b else G b
theorem frz_ex {A : List Addr} (e : Ex G H) : Ex G (frzG A G H) := fun b o z => by
  unfold frzG
  by_cases h : b ∈ A
  · rw [if_pos h]
    exact e b o z
  · rw [if_neg h]
    exact z
theorem RpE.frz (r : RpE K G0 H0 G H σ η) {i : Nat} {s : S} {v : V} {d : D} (A : List Addr) (e : η[i]? = some (some s)) (w : σ[i]? = some (some v)) (hA : ∀ b, b ∈ A → fpS H v s b) (hd : Rp K (frzG A G H) v d) : RpE K G0 H0 (frzG A G H) H σ (η.set i (some (.dat d))) := by
  have mine : ∀ b, b ∈ A → H0 b = none := fun b hb => by
    obtain ⟨v', h1, h2⟩ := r.slot i s e
    rw [w] at h1
    cases h1
    exact (fp_own h2 (hA b hb)).1
  have hl : i < η.length := lt_of_get e
  have at_i : ∀ {x : S}, (η.set i (some (.dat d)))[i]? = some (some x) → x = .dat d := fun {x} e => by
    rw [List.getElem?_set_self hl] at e
    cases e
    rfl
  refine ⟨⟨r.ext.g.trans (frz_ex r.exg), fun b u z => ?_, r.ext.h, fun b h1 h2 => ?_⟩, by rw [List.length_set]; exact r.len, fun j t e1 => ?_, fun j k t u v1 v2 b hjk e1 e2 w1 w2 f1 f2 => ?_⟩
  · unfold frzG at z
    by_cases h : b ∈ A
    · rw [if_pos h] at z
      exact z
    · rw [if_neg h] at z
      exact r.exg b u z
  · unfold frzG
    rw [if_neg fun hb => h2 (mine b hb)]
    exact r.ext.fr b h1 h2
  · by_cases hj : j = i
    · subst hj
      have := at_i e1
      subst this
      exact ⟨v, w, hd⟩
    · rw [List.getElem?_set_ne (Ne.symm hj)] at e1
      obtain ⟨v', h1, h2⟩ := r.slot j t e1
      refine ⟨v', h1, h2.gcong (frz_ex r.exg) fun b f => ?_⟩
      unfold frzG
      rw [if_neg fun hb => r.apart i j s t v v' b (Ne.symm hj) e e1 w h1 (hA b hb) f]
      exact (fp_own h2 f).2.1
  · by_cases hj : j = i
    · subst hj
      have := at_i e1
      subst this
      exact f1
    · by_cases hk : k = i
      · subst hk
        have := at_i e2
        subst this
        exact f2
      · rw [List.getElem?_set_ne (Ne.symm hj)] at e1
        rw [List.getElem?_set_ne (Ne.symm hk)] at e2
        exact r.apart j k t u v1 v2 b hjk e1 e2 w1 w2 f1 f2
/-- slots forgotten -/
theorem wipe_rel (r : RpE K G0 H0 G H σ η) : ∀ vs : List Nat, RpE K G0 H0 G H (wipe σ vs) (wipes η vs)
  | [] => r
  | v :: vs => (wipe_rel r vs).forget v Option.none
end

/-! ### the readings -/
/-- what a def starts from, what it wishes of refusals -/
structure Bs where
  G0 : Hp
  H0 : Hp
  cl : Cls → Addr
  ex : XK
abbrev Bs.calm (B : Bs) : Bs := { B with ex := fun _ _ _ => False }
def Rz (B : Bs) (c : Cls) : Prop := ∀ H', Ex B.H0 H' → B.ex (.ref (B.cl c)) Option.none H'
def tX (K : PySem.W.Frag) (B : Bs) (f : E) : TE := fun σ H Q => ∃ G η, RpE K B.G0 B.H0 G H σ η ∧ (f η).Sat (fun d => ∀ G' H' v, Ext G H G' H' → Rp K G' v d → Q v H') (Rz B)
def tT (K : PySem.W.Frag) (B : Bs) (f : T) : TT := fun σ H Q => ∃ G η, RpE K B.G0 B.H0 G H σ η ∧ (f η).Sat (fun d => ∀ G' H', Ext G H G' H' → Q d H') (Rz B)
def tA (K : PySem.W.Frag) (B : Bs) (fs : List E) : TA := fun σ H Q => ∃ G η, RpE K B.G0 B.H0 G H σ η ∧ (evals fs η).Sat (fun ds => ∀ G' H' vs, Ext G H G' H' → RpAll K G' vs ds → Q vs H') (Rz B)
def tG (K : PySem.W.Frag) (B : Bs) (g : G) : TG := fun v σ H Q => ∃ G η d, RpE K B.G0 B.H0 G H σ η ∧ Rp K G v d ∧ (g d η).Sat (fun η' => ∀ G' H' σ', Ext G H G' H' → RpE K B.G0 B.H0 G' H' σ' η' → Q σ' H') (fun _ => False)
/-- the end of a statement -/
def Fin (K : PySem.W.Frag) (B : Bs) (D : Ends) (G : Hp) : Out → Prop
  | .next η' => ∀ G' H' σ', Ex G G' → RpE K B.G0 B.H0 G' H' σ' η' → D.nx σ' H'
  | .brk η' => ∀ G' H' σ', Ex G G' → RpE K B.G0 B.H0 G' H' σ' η' → D.bk σ' H'
  | .ct η' => ∀ G' H' σ', Ex G G' → RpE K B.G0 B.H0 G' H' σ' η' → D.ct σ' H'
  | .ret d => ∀ G' H' v, Ex G G' → Ext B.G0 B.H0 G' H' → Rp K G' v d → D.rt v H'
  | .raise c => Rz B c
  | .bad => False
def tS (K : PySem.W.Frag) (B : Bs) (g : St) : TS := fun D σ H => ∃ G η, RpE K B.G0 B.H0 G H σ η ∧ Fin K B D G (g η)
theorem Fin.up {K : PySem.W.Frag} {B : Bs} {D : Ends} {G G1 : Hp} (e : Ex G G1) : ∀ {o : Out}, Fin K B D G o → Fin K B D G1 o
  | .next _, h => fun G' H' σ' x r => h G' H' σ' (e.trans x) r
  | .brk _, h => fun G' H' σ' x r => h G' H' σ' (e.trans x) r
  | .ct _, h => fun G' H' σ' x r => h G' H' σ' (e.trans x) r
  | .ret _, h => fun G' H' v x r q => h G' H' v (e.trans x) r q
  | .raise _, h => h
  | .bad, h => h
theorem Fin.ofRes {K : PySem.W.Frag} {B : Bs} {D : Ends} {G : Hp} {α : Type} {m : Res α} {k : α → Out} (h : Fin K B D G (outOf m k)) : m.Sat (fun a => Fin K B D G (k a)) (Rz B) := by
  cases m with
  | ok a => exact h
  | raise c => exact h
  | bad => exact h
theorem Fin.andThen {K : PySem.W.Frag} {B : Bs} {D : Ends} {G : Hp} {o : Out} {k : St} (h : Fin K B D G (o.andThen k)) : Fin K B { D with nx := tS K B k D } G o := by
  cases o with
  | next η => exact fun G' H' σ' x r => ⟨G', η, r, Fin.up x h⟩
  | brk η => exact h
  | ct η => exact h
  | ret d => exact h
  | raise c => exact h
  | bad => exact h

/-! ### the judgements -/
section
variable {X : Cx} {B : Bs}
theorem pe_weak {e : Expr} {t t' : TE} (h : PE X e t) (w : ∀ σ H Q, t' σ H Q → t σ H Q) : PE X e t' := ⟨fun pins s σ H Q I q => h.run pins s σ H Q I (w σ H Q q)⟩
theorem pt_weak {e : Expr} {t t' : TT} (h : PT X e t) (w : ∀ σ H Q, t' σ H Q → t σ H Q) : PT X e t' := ⟨fun pins s σ H Q I q => h.run pins s σ H Q I (w σ H Q q)⟩
theorem pw_weak {e : Expr} {t t' : TT} (h : PW X e t) (w : ∀ σ H Q, t' σ H Q → t σ H Q) : PW X e t' := ⟨fun wh pins s σ H Q I q => h.run wh pins s σ H Q I (w σ H Q q)⟩
theorem ps_weak {e : Stmt} {t t' : TS} (h : PS X e t) (w : ∀ D σ H, t' D σ H → t D σ H) : PS X e t' := ⟨fun pins s σ H D I q => h.run pins s σ H D I (w D σ H q)⟩
theorem pss_weak {e : List Stmt} {t t' : TS} (h : PSs X e t) (w : ∀ D σ H, t' D σ H → t D σ H) : PSs X e t' := ⟨fun pins s σ H D I q => h.run pins s σ H D I (w D σ H q)⟩
theorem pa_weak {es : List Expr} {t t' : TA} (h : PA X es t) (w : ∀ σ H Q, t' σ H Q → t σ H Q) : PA X es t' := ⟨fun pos pins s σ H Q I q => h.run pos pins s σ H Q I (w σ H Q q)⟩
theorem pg_weak {e : Expr} {t t' : TG} (h : PG X e t) (w : ∀ v σ H Q, t' v σ H Q → t v σ H Q) : PG X e t' := ⟨fun pins s σ H v u Q I r q => h.run pins s σ H v u Q I r (w v σ H Q q)⟩
/-- run: the reading of a part, from what it gives -/
theorem tX.of {K : PySem.W.Frag} {f : E} {σ : L2.St} {H G : Hp} {η : Env} {Q : VK} (r : RpE K B.G0 B.H0 G H σ η) {P : D → Prop} (h : (f η).Sat P (Rz B)) (q : ∀ d, P d → ∀ G' H' v, Ext G H G' H' → Rp K G' v d → Q v H') : tX K B f σ H Q :=
  ⟨G, η, r, Sat.mono h (fun d p => q d p) fun _ z => z⟩
theorem tA.of {K : PySem.W.Frag} {f : List E} {σ : L2.St} {H G : Hp} {η : Env} {Q : List V → Hp → Prop} (r : RpE K B.G0 B.H0 G H σ η) {P : List D → Prop} (h : (evals f η).Sat P (Rz B)) (q : ∀ d, P d → ∀ G' H' v, Ext G H G' H' → RpAll K G' v d → Q v H') : tA K B f σ H Q :=
  ⟨G, η, r, Sat.mono h (fun d p => q d p) fun _ z => z⟩
theorem tT.of {K : PySem.W.Frag} {f : T} {σ : L2.St} {H G : Hp} {η : Env} {Q : Bool → Hp → Prop} (r : RpE K B.G0 B.H0 G H σ η) {P : Bool → Prop} (h : (f η).Sat P (Rz B)) (q : ∀ d, P d → ∀ G' H', Ext G H G' H' → Q d H') : tT K B f σ H Q :=
  ⟨G, η, r, Sat.mono h (fun d p => q d p) fun _ z => z⟩
end
end Bk
end
/-! BkOps -/
section
set_option Elab.async false
set_option linter.all false
set_option autoImplicit false
set_option maxRecDepth 100000
set_option maxHeartbeats 4000000
/-! BkOps: operators, comparisons, places, truth, slices: what they give of data -/
namespace Bk
open PySem PySem.Spec PyProof.Rows L2
/-! ### data as the library has it -/
mutual
def toPy : D → PyData
  | .none => .none
  | .bool b => .bool b
  | .int i => .int i
  | .str s => .str (Sx s)
  | .tup xs => .tuple (toPys xs)
  | .lst xs => .list (toPys xs)
  | .dic _ => .dict []
def toPys : List D → List PyData
  | [] => []
  | x :: xs => toPy x :: toPys xs
end
theorem toPys_map : ∀ xs : List D, toPys xs = xs.map toPy
  | [] => by rw [toPys] <;> rfl
  | x :: xs => by rw [toPys, toPys_map xs] <;> rfl
theorem sx_beq (x y : List Nat) : ((Sx x == Sx y) : Bool) = (x == y) := by
  by_cases h : x = y
  · subst h
    simp
  · have h' : ¬ Sx x = Sx y := fun e => h (sx_inj e)
    rw [beq_eq_false_iff_ne.mpr h', beq_eq_false_iff_ne.mpr h]
mutual
theorem eqv_py : ∀ d e : D, D.eqv d e = PyData.eqv (toPy d) (toPy e)
  | .none, e => by cases e <;> simp [D.eqv, toPy, PyData.eqv]
  | .bool b, e => by cases e <;> simp [D.eqv, toPy, PyData.eqv]
  | .int b, e => by cases e <;> simp [D.eqv, toPy, PyData.eqv]
  | .str b, e => by cases e <;> simp [D.eqv, toPy, PyData.eqv, sx_beq]
  | .tup xs, e => by
    cases e with
    | tup ys => simp only [D.eqv, toPy, PyData.eqv]; exact eqv_pys xs ys
    | _ => simp [D.eqv, toPy, PyData.eqv]
  | .lst xs, e => by
    cases e with
    | lst ys => simp only [D.eqv, toPy, PyData.eqv]; exact eqv_pys xs ys
    | _ => simp [D.eqv, toPy, PyData.eqv]
  | .dic _, e => by cases e <;> simp [D.eqv, toPy, PyData.eqv]
theorem eqv_pys : ∀ xs ys : List D, D.eqvAll xs ys = PyData.eqvAll (toPys xs) (toPys ys)
  | [], [] => by simp [D.eqvAll, toPys, PyData.eqvAll]
  | [], _ :: _ => by simp [D.eqvAll, toPys, PyData.eqvAll]
  | _ :: _, [] => by simp [D.eqvAll, toPys, PyData.eqvAll]
  | x :: xs, y :: ys => by
    rw [D.eqvAll, toPys, toPys, PyData.eqvAll, eqv_py x y, eqv_pys xs ys]
end
theorem strOk_of {s : List Nat} (h : plainS s = true) : PyData.strOk (Sx s) = true := by
  unfold PyData.strOk
  unfold plainS at h
  rw [← Array.all_toList]
  show (s.all fun c => decide (c < 0x110000)) = true
  rw [List.all_eq_true] at h ⊢
  intro c hc
  have := h c hc
  simp only [decide_eq_true_eq] at this ⊢
  omega
mutual
theorem cmp_shape : ∀ (n : Nat) (d : D), D.cmp n d = true → (toPy d).canLay0 = true ∧ (toPy d).depth ≤ n
  | _, .none, _ => by simp [toPy, PyData.canLay0, PyData.depth]
  | _, .bool _, _ => by simp [toPy, PyData.canLay0, PyData.depth]
  | _, .int _, _ => by simp [toPy, PyData.canLay0, PyData.depth]
  | n, .str s, h => by
    have h' : plainS s = true := by
      cases n <;> (simp only [D.cmp, Bool.and_eq_true] at h; exact h.1)
    exact ⟨by rw [toPy, PyData.canLay0]; exact strOk_of h', by rw [toPy, PyData.depth]; exact Nat.zero_le _⟩
  | 0, .tup _, h => by simp [D.cmp] at h
  | 0, .lst _, h => by simp [D.cmp] at h
  | n + 1, .tup xs, h => by
    simp only [D.cmp] at h
    obtain ⟨h1, h2⟩ := cmp_shapes n xs h
    exact ⟨by rw [toPy, PyData.canLay0]; exact h1, by rw [toPy, PyData.depth]; omega⟩
  | n + 1, .lst xs, h => by
    simp only [D.cmp] at h
    obtain ⟨h1, h2⟩ := cmp_shapes n xs h
    exact ⟨by rw [toPy, PyData.canLay0]; exact h1, by rw [toPy, PyData.depth]; omega⟩
  | n, .dic _, h => by cases n <;> simp [D.cmp] at h
theorem cmp_shapes : ∀ (n : Nat) (ds : List D), D.cmpAll n ds = true → PyData.canLayAll0 (toPys ds) = true ∧ PyData.depthAll (toPys ds) ≤ n
  | _, [], _ => by simp [toPys, PyData.canLayAll0, PyData.depthAll]
  | n, x :: xs, h => by
    simp only [D.cmpAll, Bool.and_eq_true] at h
    obtain ⟨h1, h2⟩ := cmp_shape n x h.1
    obtain ⟨h3, h4⟩ := cmp_shapes n xs h.2
    refine ⟨by rw [toPys, PyData.canLayAll0, h1, h3]; rfl, ?_⟩
    rw [toPys, PyData.depthAll]
    omega
end
theorem cmp_shaped {d : D} (h : D.cmp 64 d = true) : SeqAt.shaped (toPy d) = true := by
  obtain ⟨h1, h2⟩ := cmp_shape 64 d h
  unfold SeqAt.shaped
  rw [h1, decide_eq_true h2]
  rfl
section
variable {K : PySem.W.Frag} {G : Hp}
mutual
theorem dp_of : ∀ {n : Nat} {d : D} {v : V}, D.cmp n d = true → Rp K G v d → Dp K G v (toPy d)
  | _, .none, _, _, .none => by rw [toPy]; exact .non
  | _, .bool _, _, _, .bool b => by rw [toPy]; exact .bl b
  | _, .int _, _, _, .int b => by rw [toPy]; exact .int b
  | _, .str _, _, _, .str b => by rw [toPy]; exact .str _
  | 0, .tup _, _, h, _ => by simp [D.cmp] at h
  | 0, .lst _, _, h, _ => by simp [D.cmp] at h
  | n + 1, .tup _, _, h, .tup s r => by rw [toPy]; exact .tup s (dp_all (n := n) (by simpa [D.cmp] using h) r)
  | n + 1, .lst _, _, h, .lst s r => by rw [toPy]; exact .lst s (dp_all (n := n) (by simpa [D.cmp] using h) r)
  | n, .dic _, _, h, _ => by cases n <;> simp [D.cmp] at h
theorem dp_all : ∀ {n : Nat} {ds : List D} {vs : List V}, D.cmpAll n ds = true → RpAll K G vs ds → DpAll K G vs (toPys ds)
  | _, [], _, _, .nil => by rw [toPys]; exact .nil
  | n, _ :: _, _, h, .cons a r => by
    simp only [D.cmpAll, Bool.and_eq_true] at h
    rw [toPys]
    exact .cons (dp_of h.1 a) (dp_all h.2 r)
end
end
section
variable {K : PySem.W.Frag} {H H' : Hp}
end
/-! ### operators on two data -/
def RD (K : PySem.W.Frag) (b : D → D → Res D) : R2 := fun x y H Q => ∃ G d e, Ex G H ∧ Rp K G x d ∧ Rp K G y e ∧ (b d e).Sat (fun r => ∀ G' H' v, Ext G H G' H' → Rp K G' v r → Q v H') (fun _ => False)
def OpD (X : Cx) (f : Value → Value → Sem Value) (b : D → D → Res D) : Prop := OpR X f (RD X.K b)
theorem sat_if {α : Type} {c : Prop} [Decidable c] {m : Res α} {P : α → Prop} {R : Cls → Prop} (h : (if c then m else .bad).Sat P R) : c ∧ m.Sat P R := by
  by_cases hc : c
  · rw [if_pos hc] at h
    exact ⟨hc, h⟩
  · rw [if_neg hc] at h
    exact h.elim
theorem line_eq : sizeLine = lim := by rw [sizeLine_eq]
section
variable {X : Cx}
/-- of two flat things, that give a flat one -/
theorem OpD.flat {f : Value → Value → Sem Value} {b : D → D → Res D} {r : R2} (o : OpR X f r) (h : ∀ x y H Q, RD X.K b x y H Q → r x y H Q) : OpD X f b := fun pins s σ H x y v u Q I rx ry q => o pins s σ H x y v u Q I rx ry (h x y H Q q)

theorem list_sum {l b : Addr} {xs zs : List V} {Q : VK} {pins : List (Addr × Obj)} {s : Shared} {σ : L2.St} {H : Hp} (I : Inv X pins σ H s) (hl : SqL X.K H l xs) (hb : SqL X.K H b zs) (hz : xs.length + zs.length ≤ sizeLine)
    (q : ∀ p, H p = none → Q (.ref p) (upd H p (.lst (xs ++ zs)))) : wpAny (model X.prog X.w) X.A (binaryOp .Add (.ref l) (.ref b)) (EP X pins σ Q) X.xe s := by
  obtain ⟨its, r, ⟨⟨cls, dd, data, sl⟩, n, ho, hc, hdd, hd⟩, z1⟩ := I.list hl
  obtain ⟨its2, r2, ⟨⟨cls2, dd2, data2, sl2⟩, n2, ho2, hc2, hdd2, hd2⟩, z2⟩ := I.list hb
  simp only at hc hd hc2 hd2
  subst hc hd hc2 hd2
  have l1 := r.length
  have l2 := r2.length
  refine concat_meets ⟨_, ho, rfl⟩ ⟨_, ho2, rfl⟩ noFill_list_add seq_list_add PySem.F.slot_list_add PySem.F.entry_list_add (PySem.F.args_list_add_2 _ _) (list_addW l b its.toArray its2.toArray n n2 dd dd2 sl sl2 (by rw [List.size_toArray, List.size_toArray]; omega)) ⟨ho, ho2, ?_⟩
  have ea : its.toArray ++ its2.toArray = (its ++ its2).toArray := by simp
  rw [ea]
  exact ⟨.ref _, _, I.lnew (t' := s.toks) (r.append r2) (by rw [List.length_append]; exact hz), rfl, q _ I.fresh⟩
theorem od_add : OpD X (binaryOp .Add) dAdd := by
  intro pins s σ H x y v u Q I rx ry h
  obtain ⟨G, d, e, ex, rd, re, h⟩ := h
  cases rd with
  | int i =>
    cases re with
    | int j => exact op_add pins s σ H _ _ v u Q I rx ry ⟨i, j, rfl, rfl, h G H _ (Ext.refl ex) (.int _)⟩
    | _ => exact h.elim
  | str i =>
    cases re with
    | str j =>
      obtain ⟨hl, h⟩ := sat_if h
      refine op_add_str pins s σ H _ _ v u Q I rx ry ⟨_, _, rfl, rfl, ?_, ?_⟩
      · rw [sx_len, sx_len, line_eq]
        exact hl
      · rw [sx_app]
        exact h G H _ (Ext.refl ex) (.str _)
    | _ => exact h.elim
  | lst hs r =>
    cases re with
    | lst hs2 r2 =>
      obtain ⟨hl, h⟩ := sat_if h
      cases rx
      cases ry
      rename_i a1 xs1 ds1 a2 xs2 ds2 h0
      refine list_sum I (ex.l hs) (ex.l hs2) (by rw [r.length, r2.length, line_eq]; exact hl) fun p hp => ?_
      have hn : Ext G H (upd G p (.lst (xs1 ++ xs2))) (upd H p (.lst (xs1 ++ xs2))) := Ext.new ex hp
      exact h _ _ _ hn (.lst (.inl (.inl upd_same)) ((r.append r2).mono hn.g))
    | _ => exact h.elim
  | tup hs r =>
    cases re with
    | tup hs2 r2 =>
      obtain ⟨⟨hl, hn⟩, h⟩ := sat_if h
      rename_i a1 xs1 ds1 a2 xs2 ds2 h0
      refine op_catT pins s σ H _ _ v u Q I rx ry ⟨_, _, _, _, rfl, rfl, ex.t hs, ex.t hs2, ?_, ?_, fun z => ?_, fun z p hp => ?_⟩
      · intro z
        subst z
        cases r
        exact hn rfl
      · rw [r.length, r2.length, line_eq]
        exact hl
      · subst z
        cases r2
        refine h G H _ (Ext.refl ex) ?_
        rw [List.append_nil]
        exact .tup hs r
      · have hn : Ext G H (upd G p (.tup (xs1 ++ xs2))) (upd H p (.tup (xs1 ++ xs2))) := Ext.new ex hp
        exact h _ _ _ hn (.tup (.inl (.inl upd_same)) ((r.append r2).mono hn.g))
    | _ => exact h.elim
  | _ => cases re <;> exact h.elim
theorem od_sub : OpD X (binaryOp .Sub) dSub := by
  intro pins s σ H x y v u Q I rx ry h
  obtain ⟨G, d, e, ex, rd, re, h⟩ := h
  cases rd with
  | int i =>
    cases re with
    | int j => exact op_sub pins s σ H _ _ v u Q I rx ry ⟨i, j, rfl, rfl, h G H _ (Ext.refl ex) (.int _)⟩
    | _ => exact h.elim
  | _ => cases re <;> exact h.elim
theorem mul_ok {a b : Int} (h : small a ∨ small b ∨ a.natAbs.log2 + b.natAbs.log2 < 100000000) : IntMulOk a b := by
  rcases h with h | h | h
  · exact .of_left (intBits_le_64 h.1 h.2)
  · exact .of_right (intBits_le_64 h.1 h.2)
  · have bd : ∀ x : Int, Builtin.Int.intBits x ≤ x.natAbs.log2 + 1 := fun x => by
      unfold Builtin.Int.intBits
      split <;> omega
    have h1 := bd a
    have h2 := bd b
    have e : bitsLine = 134217728 := by decide
    unfold IntMulOk
    intro z
    rw [Bool.and_eq_true] at z
    have z2 := z.2
    unfold Builtin.Int.intTooBig at z2
    have z3 := of_decide_eq_true z2
    rw [e] at z3
    omega
theorem fold_rep (c : Array Nat) : ∀ (n : Nat) (acc : Array Nat), ((List.replicate n c).foldl (· ++ ·) acc).toList = acc.toList ++ (List.replicate n c.toList).flatten
  | 0, acc => by simp
  | n + 1, acc => by
    rw [List.replicate_succ, List.foldl_cons, fold_rep c n, List.replicate_succ, List.flatten_cons, Array.toList_append, List.append_assoc]
theorem rep_len (a : List Nat) : ∀ n : Nat, (List.replicate n a).flatten.length = a.length * n
  | 0 => by simp
  | n + 1 => by rw [List.replicate_succ, List.flatten_cons, List.length_append, rep_len a n, Nat.mul_succ, Nat.add_comm]
theorem od_mul : OpD X (binaryOp .Mult) dMul := by
  intro pins s σ H x y v u Q I rx ry h
  obtain ⟨G, d, e, ex, rd, re, h⟩ := h
  cases rd with
  | int i =>
    cases re with
    | int j =>
      obtain ⟨hm, h⟩ := sat_if h
      obtain ⟨t, rfl⟩ := rx
      obtain ⟨t', rfl⟩ := ry
      exact mul_int ⟨.int _, H, I.tok _, ⟨_, rfl⟩, h G H _ (Ext.refl ex) (.int _)⟩ (mul_ok hm)
    | _ => exact h.elim
  | str i =>
    cases re with
    | int n =>
      obtain ⟨⟨hm1, hm2, hl⟩, h⟩ := sat_if h
      obtain ⟨t, rfl⟩ := rx
      obtain ⟨t', rfl⟩ := ry
      have q := h G H _ (Ext.refl ex) (.str _)
      have le : sizeLine = 16777216 := sizeLine_eq
      have hm2' : n ≤ 16777216 := hm2
      have hl' : i.length * n.toNat ≤ 16777216 := hl
      have el := sx_len i
      have ok : MulOk (Sx i) n := by
        refine ⟨?_, fun h1 h2 => ?_, fun h1 h2 => ?_⟩
        · rw [decide_eq_false (by omega), decide_eq_false (by omega)]
          rfl
        · rw [el]
          have hn : 0 < n := by omega
          have h3 : (i.length : Int) * n ≤ 16777216 := by
            have e1 : ((n.toNat : Nat) : Int) = n := Int.toNat_of_nonneg (by omega)
            rw [← e1, ← Int.natCast_mul]
            omega
          have h4 : (i.length : Int) ≤ (2 ^ 63 - 1) / n := by
            refine (Int.le_ediv_iff_mul_le hn).mpr ?_
            omega
          omega
        · unfold Builtin.Str.tooLong
          rw [el, decide_eq_false (by omega)]
      refine SB.mul ok fun tk k => ?_
      have e : Txt.mul (Sx i) n = Sx (List.replicate n.toNat i).flatten := by
        unfold Txt.mul
        by_cases hn : n < 1
        · have e0 : n.toNat = 0 := by omega
          rw [if_pos hn, e0]
          rfl
        · rw [if_neg hn]
          by_cases h1 : (n == 1 || (Sx i).length == 0) = true
          · rw [if_pos h1]
            rw [Bool.or_eq_true, beq_iff_eq, beq_iff_eq, sx_len] at h1
            have e : (List.replicate n.toNat i).flatten = i := by
              rcases h1 with h1 | h1
              · have e1 : n.toNat = 1 := by omega
                rw [e1]
                simp
              · have e1 : i = [] := List.length_eq_zero_iff.mp h1
                subst e1
                simp
            rw [e]
          · rw [if_neg h1]
            refine Str.ext' (Array.toList_inj.mp ?_)
            show ((List.replicate n.toNat i.toArray).foldl (· ++ ·) #[]).toList = (List.replicate n.toNat i).flatten
            rw [fold_rep]
            rfl
      rw [e]
      exact ⟨.str _, H, I.tok k, ⟨tk, rfl⟩, q⟩
    | _ => exact h.elim
  | _ => cases re <;> exact h.elim
theorem od_div : OpD X (binaryOp .FloorDiv) dDiv := by
  intro pins s σ H x y v u Q I rx ry h
  obtain ⟨G, d, e, ex, rd, re, h⟩ := h
  cases rd with
  | int i =>
    cases re with
    | int j =>
      obtain ⟨hc, h⟩ := sat_if h
      exact op_fdiv pins s σ H _ _ v u Q I rx ry ⟨i, j, rfl, rfl, hc, h G H _ (Ext.refl ex) (.int _)⟩
    | _ => exact h.elim
  | _ => cases re <;> exact h.elim
theorem od_mod : OpD X (binaryOp .Mod) dMod := by
  intro pins s σ H x y v u Q I rx ry h
  obtain ⟨G, d, e, ex, rd, re, h⟩ := h
  cases rd with
  | int i =>
    cases re with
    | int j =>
      obtain ⟨hc, h⟩ := sat_if h
      exact op_mod pins s σ H _ _ v u Q I rx ry ⟨i, j, rfl, rfl, hc, h G H _ (Ext.refl ex) (.int _)⟩
    | _ => exact h.elim
  | _ => cases re <;> exact h.elim
theorem od_pow : OpD X (binaryOp .Pow) dPow := by
  intro pins s σ H x y v u Q I rx ry h
  obtain ⟨G, d, e, ex, rd, re, h⟩ := h
  cases rd with
  | int i =>
    cases re with
    | int j =>
      obtain ⟨hc, h⟩ := sat_if h
      exact op_pow pins s σ H _ _ v u Q I rx ry ⟨i, j, rfl, rfl, hc, h G H _ (Ext.refl ex) (.int _)⟩
    | _ => exact h.elim
  | _ => cases re <;> exact h.elim
/-! ### comparisons -/
theorem od_eq (hu : X.A.units + 64 < cLine) : OpD X (compareOp .Eq) dEq := by
  intro pins s σ H x y v u Q I rx ry h
  obtain ⟨G, d, e, ex, rd, re, h⟩ := h
  obtain ⟨hc, h⟩ := sat_if h
  rw [Bool.and_eq_true] at hc
  refine op_eqD hu pins s σ H x y v u Q I rx ry ⟨_, _, dp_of hc.1 (rd.mono ex), dp_of hc.2 (re.mono ex), cmp_shaped hc.1, cmp_shaped hc.2, ?_⟩
  rw [← eqv_py]
  exact h G H _ (Ext.refl ex) (.bool _)
theorem od_ne (hu : X.A.units + 64 < cLine) : OpD X (compareOp .NotEq) dNe := by
  intro pins s σ H x y v u Q I rx ry h
  obtain ⟨G, d, e, ex, rd, re, h⟩ := h
  obtain ⟨hc, h⟩ := sat_if h
  rw [Bool.and_eq_true] at hc
  refine op_neD hu pins s σ H x y v u Q I rx ry ⟨_, _, dp_of hc.1 (rd.mono ex), dp_of hc.2 (re.mono ex), cmp_shaped hc.1, cmp_shaped hc.2, ?_⟩
  rw [← eqv_py]
  exact h G H _ (Ext.refl ex) (.bool _)
theorem od_lt : OpD X (compareOp .Lt) dLt := by
  intro pins s σ H x y v u Q I rx ry h
  obtain ⟨G, d, e, ex, rd, re, h⟩ := h
  cases rd with
  | int i =>
    cases re with
    | int j => exact op_lt pins s σ H _ _ v u Q I rx ry ⟨i, j, rfl, rfl, h G H _ (Ext.refl ex) (.bool _)⟩
    | _ => exact h.elim
  | str i =>
    cases re with
    | str j => exact op_lt_str pins s σ H _ _ v u Q I rx ry ⟨_, _, rfl, rfl, h G H _ (Ext.refl ex) (.bool _)⟩
    | _ => exact h.elim
  | _ => cases re <;> exact h.elim
theorem od_le : OpD X (compareOp .LtE) dLe := by
  intro pins s σ H x y v u Q I rx ry h
  obtain ⟨G, d, e, ex, rd, re, h⟩ := h
  cases rd with
  | int i =>
    cases re with
    | int j => exact op_le pins s σ H _ _ v u Q I rx ry ⟨i, j, rfl, rfl, h G H _ (Ext.refl ex) (.bool _)⟩
    | _ => exact h.elim
  | _ => cases re <;> exact h.elim
theorem od_gt : OpD X (compareOp .Gt) dGt := by
  intro pins s σ H x y v u Q I rx ry h
  obtain ⟨G, d, e, ex, rd, re, h⟩ := h
  cases rd with
  | int i =>
    cases re with
    | int j => exact op_gt pins s σ H _ _ v u Q I rx ry ⟨i, j, rfl, rfl, h G H _ (Ext.refl ex) (.bool _)⟩
    | _ => exact h.elim
  | _ => cases re <;> exact h.elim
theorem od_ge : OpD X (compareOp .GtE) dGe := by
  intro pins s σ H x y v u Q I rx ry h
  obtain ⟨G, d, e, ex, rd, re, h⟩ := h
  cases rd with
  | int i =>
    cases re with
    | int j => exact op_ge pins s σ H _ _ v u Q I rx ry ⟨i, j, rfl, rfl, h G H _ (Ext.refl ex) (.bool _)⟩
    | _ => exact h.elim
  | _ => cases re <;> exact h.elim
theorem od_isN : OpD X (compareOp .Is) dIsN := by
  intro pins s σ H x y v u Q I rx ry h
  obtain ⟨G, d, e, ex, rd, re, h⟩ := h
  cases re with
  | none =>
    refine op_isN pins s σ H x _ v u Q I rx ry ⟨rfl, ?_⟩
    cases rd <;> exact h G H _ (Ext.refl ex) (.bool _)
  | _ => cases rd <;> exact h.elim
theorem od_notN : OpD X (compareOp .IsNot) dNotN := by
  intro pins s σ H x y v u Q I rx ry h
  obtain ⟨G, d, e, ex, rd, re, h⟩ := h
  cases re with
  | none =>
    refine op_notN pins s σ H x _ v u Q I rx ry ⟨rfl, ?_⟩
    cases rd <;> exact h G H _ (Ext.refl ex) (.bool _)
  | _ => cases rd <;> exact h.elim
theorem od_isB : OpD X (compareOp .Is) dIsB := by
  intro pins s σ H x y v u Q I rx ry h
  obtain ⟨G, d, e, ex, rd, re, h⟩ := h
  cases rd with
  | bool i =>
    cases re with
    | bool j =>
      refine op_isBl pins s σ H _ _ v u Q I rx ry ⟨i, j, rfl, rfl, ?_⟩
      have q := h G H _ (Ext.refl ex) (.bool _)
      rw [Bool.beq_eq_decide_eq] at q
      exact q
    | _ => exact h.elim
  | _ => cases re <;> exact h.elim
theorem od_notB : OpD X (compareOp .IsNot) dNotB := by
  intro pins s σ H x y v u Q I rx ry h
  obtain ⟨G, d, e, ex, rd, re, h⟩ := h
  cases rd with
  | bool i =>
    cases re with
    | bool j =>
      refine op_notBl pins s σ H _ _ v u Q I rx ry ⟨i, j, rfl, rfl, ?_⟩
      have q := h G H _ (Ext.refl ex) (.bool _)
      rw [Bool.beq_eq_decide_eq] at q
      exact q
    | _ => exact h.elim
  | _ => cases re <;> exact h.elim
theorem od_inS : OpD X (compareOp .In) dInS := by
  intro pins s σ H x y v u Q I rx ry h
  obtain ⟨G, d, e, ex, rd, re, h⟩ := h
  cases rd with
  | str i =>
    cases re with
    | str j =>
      match i, h with
      | [c], h => exact op_in_sign pins s σ H _ _ v u Q I rx ry ⟨c, _, rfl, rfl, h G H _ (Ext.refl ex) (.bool _)⟩
      | [], h => exact h.elim
      | _ :: _ :: _, h => exact h.elim
    | _ => rcases i with _ | ⟨c, _ | ⟨c2, r⟩⟩ <;> exact h.elim
  | _ => cases re <;> exact h.elim
/-! ### places -/
theorem at_rp {K : PySem.W.Frag} {G : Hp} {vs : List V} {ds : List D} {i : Int} {d : D} (r : RpAll K G vs ds) (h : at? ds i = some d) : ∃ v, atI vs i = some v ∧ Rp K G v d := by
  unfold at? at h
  cases q : ix ds.length i with
  | none =>
    rw [q] at h
    cases h
  | some j =>
    rw [q] at h
    obtain ⟨v, h1, h2⟩ := r.get (i := j) h
    refine ⟨v, ?_, h2⟩
    have e : ixN vs.length i = some j := by
      rw [r.length]
      exact q
    show (ixN vs.length i).bind (fun j => vs[j]?) = some v
    rw [e]
    exact h1
theorem at_str {s : List Nat} {i : Int} {c : Nat} (h : at? s i = some c) : atI (Sx s).cps.toList i = some c := h
theorem ix_data : IxR X (RD X.K dIdx) := by
  intro value slice pins s σ H x y v u Q I rx ry h hsub
  obtain ⟨G, d, e, ex, rd, re, h⟩ := h
  cases re with
  | int i =>
    cases rd with
    | lst hs r =>
      rename_i a xs ds
      cases q : at? ds i with
      | none => simp [dIdx, q, Res.Sat] at h
      | some z =>
        simp only [dIdx, q] at h
        obtain ⟨w', h1, h2⟩ := at_rp r q
        refine ix_list value slice pins s σ H _ _ v u Q I rx ry ?_ hsub
        exact ⟨_, xs, i, w', rfl, rfl, ex.l hs, h1, h G H _ (Ext.refl ex) h2⟩
    | tup hs r =>
      rename_i a xs ds
      cases q : at? ds i with
      | none => simp [dIdx, q, Res.Sat] at h
      | some z =>
        simp only [dIdx, q] at h
        obtain ⟨w', h1, h2⟩ := at_rp r q
        refine ix_tup value slice pins s σ H _ _ v u Q I rx ry ?_ hsub
        exact ⟨_, xs, i, w', rfl, rfl, ex.t hs, h1, h G H _ (Ext.refl ex) h2⟩
    | str t =>
      obtain ⟨hl, h⟩ := sat_if h
      cases q : at? t i with
      | none => simp [q, Res.Sat] at h
      | some z =>
        simp only [q] at h
        refine ix_str value slice pins s σ H _ _ v u Q I rx ry ?_ hsub
        exact ⟨_, i, z, rfl, rfl, by rw [sx_len, line_eq]; exact hl, q, h G H _ (Ext.refl ex) (.str [z])⟩
    | _ => exact h.elim
  | _ => cases rd <;> exact h.elim
end
end Bk
end
/-! BkSort -/
section
set_option Elab.async false
set_option linter.all false
set_option autoImplicit false
set_option maxRecDepth 100000
set_option maxHeartbeats 4000000
/-! BkSort: sorted of lists, tuples, dicts of data -/
namespace Bk
open PySem PySem.Spec PyProof.Rows L2
/-! ### the order -/
mutual
theorem alike_py : ∀ d e : D, PySem.W.alike (toPy d) (toPy e) = D.alike d e
  | .none, e => by cases e <;> simp [D.alike, toPy, PySem.W.alike]
  | .bool b, e => by cases e <;> simp [D.alike, toPy, PySem.W.alike]
  | .int b, e => by cases e <;> simp [D.alike, toPy, PySem.W.alike]
  | .str b, e => by cases e <;> simp [D.alike, toPy, PySem.W.alike]
  | .tup xs, e => by
    cases e with
    | tup ys => simp only [D.alike, toPy, PySem.W.alike]; exact alike_pys xs ys
    | _ => simp [D.alike, toPy, PySem.W.alike]
  | .lst xs, e => by
    cases e with
    | lst ys => simp only [D.alike, toPy, PySem.W.alike]; exact alike_pys xs ys
    | _ => simp [D.alike, toPy, PySem.W.alike]
  | .dic _, e => by cases e <;> simp [D.alike, toPy, PySem.W.alike]
theorem alike_pys : ∀ xs ys : List D, PySem.W.alikeAll (toPys xs) (toPys ys) = D.alikeAll xs ys
  | [], [] => by simp [D.alikeAll, toPys, PySem.W.alikeAll]
  | [], _ :: _ => by simp [D.alikeAll, toPys, PySem.W.alikeAll]
  | _ :: _, [] => by simp [D.alikeAll, toPys, PySem.W.alikeAll]
  | x :: xs, y :: ys => by
    rw [D.alikeAll, toPys, toPys, PySem.W.alikeAll, alike_py x y, alike_pys xs ys]
end
mutual
theorem lt_py : ∀ d e : D, D.alike d e = true → PySem.W.dataLt (toPy d) (toPy e) = D.lt d e
  | .none, e, h => by
    cases e with
    | none => simp [D.lt, toPy, PySem.W.dataLt, PySem.W.keyToks]; rfl
    | _ => simp [D.alike] at h
  | .bool b, e, h => by
    cases e with
    | bool c =>
      rw [toPy, toPy, PySem.W.dataLt_bool, D.lt]
      cases b <;> cases c <;> rfl
    | _ => simp [D.alike] at h
  | .int b, e, h => by
    cases e with
    | int c => rw [toPy, toPy, PySem.W.dataLt_int, D.lt]
    | _ => simp [D.alike] at h
  | .str b, e, h => by
    cases e with
    | str c => rw [toPy, toPy, PySem.W.dataLt_str, D.lt]
    | _ => simp [D.alike] at h
  | .tup xs, e, h => by
    cases e with
    | tup ys =>
      rw [toPy, toPy, PySem.W.dataLt_tuple, D.lt]
      exact lt_pys xs ys (by simpa [D.alike] using h)
    | _ => simp [D.alike] at h
  | .lst xs, e, h => by
    cases e with
    | lst ys =>
      rw [toPy, toPy, PySem.W.dataLt_list, D.lt]
      exact lt_pys xs ys (by simpa [D.alike] using h)
    | _ => simp [D.alike] at h
  | .dic _, e, h => by cases e <;> simp [D.alike] at h
theorem lt_pys : ∀ xs ys : List D, D.alikeAll xs ys = true → PyProof.Rows.lexLt itemOrd (PySem.W.keyToksAll (toPys xs)) (PySem.W.keyToksAll (toPys ys)) = D.ltAll xs ys
  | [], [], _ => by
    rw [toPys, D.ltAll]
    simp [PySem.W.keyToksAll]
    decide
  | [], y :: ys, _ => by
    rw [toPys, toPys, D.ltAll, PySem.W.keyToksAll, PySem.W.keyToksAll]
    rfl
  | x :: xs, [], _ => by
    rw [toPys, toPys, D.ltAll, PySem.W.keyToksAll, PySem.W.keyToksAll]
    rfl
  | x :: xs, y :: ys, h => by
    rw [D.alikeAll, Bool.and_eq_true] at h
    have ha : PySem.W.alike (toPy x) (toPy y) = true := by rw [alike_py]; exact h.1
    rw [toPys, toPys, D.ltAll, eqv_py]
    by_cases e : PyData.eqv (toPy x) (toPy y) = true
    · rw [PySem.W.dataLt_all_yes ha e, if_pos e]
      exact lt_pys xs ys h.2
    · rw [PySem.W.dataLt_all_no ha (by simpa using e), if_neg e]
      exact lt_py x y h.1
end
theorem merge_congr {α : Type} {f g : α → α → Bool} {xs : List α} (h : ∀ a ∈ xs, ∀ b ∈ xs, f a b = g a b) : xs.mergeSort f = xs.mergeSort g := by
  have e := List.map_mergeSort (r := f) (s := g) (f := id) (l := xs) h
  rw [List.map_id, List.map_id] at e
  exact e
theorem sort_eq {xs : List D} (h : (xs.all fun a => xs.all fun b => D.alike a b) = true) : xs.mergeSort (PySem.W.dataLe false toPy) = xs.mergeSort D.le := by
  refine merge_congr fun a ha b hb => ?_
  have hab : D.alike b a = true := List.all_eq_true.mp (List.all_eq_true.mp h b hb) a ha
  show (!PySem.W.dataLt (toPy b) (toPy a)) = (!D.lt b a)
  rw [lt_py b a hab]

/-! ### the call -/
section
variable {prog : Program} {w : World} {A : Around} {E : Value → Shared → Prop} {s : Shared}
open PySem.W in
theorem sorted_gen {v : Value} {vs : List Value} {ds : List D} {R : Value → D → Prop} {Q : Value → Shared → Prop} (ha : argsOk "sorted" ⟨[v], []⟩)
    (hc : ∀ Q' : List Value → Shared → Prop, (∀ (h' : Heap) (tk : Nat), (∀ b o, s.heap.get? b = some o → h'.get? b = some o) → Q' vs { s with heap := h', toks := tk }) → wpAny (model prog w) A.in1 (collect v) Q' (fun _ _ => False) s)
    (e : EachIs R vs ds) (er : EachIs (fun v d => ∃ as, Reads s.heap v (toPy d) as) vs ds) (hs : sortable ds = true) (hu : A.units + 12 < cLine)
    (h : ∀ (h1 h' : Heap) (tk n : Nat) (out : List Value), (∀ b o, s.heap.get? b = some o → h1.get? b = some o) → (∀ b o, h1.get? b = some o → h'.get? b = some o) → h'.get? h1.objs.size = some (seqObj "list" out.toArray n) → EachIs R out (ds.mergeSort D.le) → Q (.ref h1.objs.size) { s with heap := h', toks := tk }) :
    wpAny (model prog w) A (call (.builtin "sorted") [v]) Q E s := by
  unfold sortable at hs
  simp only [Bool.and_eq_true, decide_eq_true_eq] at hs
  obtain ⟨⟨⟨h1', h2⟩, h3⟩, h4⟩ := hs
  have hal : AllAlike (ds.map toPy) := by
    intro d hd d' hd'
    obtain ⟨b, hb, rfl⟩ := List.mem_map.mp hd
    obtain ⟨b', hb', rfl⟩ := List.mem_map.mp hd'
    rw [alike_py]
    exact List.all_eq_true.mp (List.all_eq_true.mp h1' b hb) b' hb'
  have hk : Sortable (ds.map toPy) := by
    rw [Bool.or_eq_true, List.all_eq_true, List.all_eq_true] at h2
    rcases h2 with h2 | h2
    · refine .inl fun d hd => ?_
      obtain ⟨b, hb, rfl⟩ := List.mem_map.mp hd
      have q := h2 b hb
      cases b with
      | tup xs =>
        cases xs with
        | nil => simp [D.row1] at q
        | cons x r => exact ⟨toPy x, toPys r, by rw [toPy, toPys]⟩
      | _ => simp [D.row1] at q
    · refine .inr fun d hd => ?_
      obtain ⟨b, hb, rfl⟩ := List.mem_map.mp hd
      have q := h2 b hb
      cases b with
      | tup xs => simp [D.row0] at q
      | none => simp [D.row0] at q
      | _ => simp [toPy]
  have hL : vs.length ≤ sizeLine := by rw [er.length, line_eq]; exact h4
  refine call_function_entry_kw (kw := []) kind_sorted plain_sorted entry_sorted ha ?_
  unfold Builtin.«sorted»
  refine wpAny_bind (m := checkCount "sorted" 1 1 _) (wpAny_pure ?_)
  refine wpAny_bind (wpAny_mono (hc _ fun h1 tk k1 => ?_) (fun _ _ z => z) (fun _ _ z => z.elim))
  refine wpAny_bind (wpAny_newList ?_ hL)
  generalize hB : h1.objs.size = B
  have hat : (h1.push { cls := .type "list", data := .seq vs.toArray }).get? B = some (seqObj "list" vs.toArray 0) := by
    rw [← hB]
    exact Heap.get?_push_size _ rfl
  have k2 : ∀ b o, s.heap.get? b = some o → (h1.push { cls := .type "list", data := .seq vs.toArray }).get? b = some o := fun b o q => Heap.get?_push_of_some _ (k1 b o q)
  have hlt : ∀ b o, h1.get? b = some o → b ≠ B := fun b o q => by
    rw [← hB]
    exact Nat.ne_of_lt (Heap.lt_size q)
  have kS : ∀ b o, s.heap.get? b = some o → (sortingHeap (h1.push { cls := .type "list", data := .seq vs.toArray }) B vs).get? b = some o := fun b o q =>
    sortingHeap_old (hlt b o (k1 b o q)) (k2 b o q)
  have er' : EachIs (fun v d => ∃ as, Reads (sortingHeap (h1.push { cls := .type "list", data := .seq vs.toArray }) B vs) v (toPy d) as) vs ds := er.mono fun _ _ ⟨as, r⟩ => ⟨as, PyProof.Rows.Reads.keeps kS r⟩
  refine wpAny_bind (wpAny_holding (wpAny_call_entry_kw slot_list_sort ⟨_, hat, rfl⟩ entry_list_sort ?body (args_list_sort _)))
  case body =>
    have S : SortsAt prog w A.in1.in1 { s with heap := sortingHeap (h1.push { cls := .type "list", data := .seq vs.toArray }) B vs, toks := tk } (dataKind (sortingHeap (h1.push { cls := .type "list", data := .seq vs.toArray }) B vs) (ds.map toPy)) vs :=
      SortsAt.data (s := { s with heap := sortingHeap (h1.push { cls := .type "list", data := .seq vs.toArray }) B vs, toks := tk }) (each_map (R := fun v d => ∃ as, Reads (sortingHeap (h1.push { cls := .type "list", data := .seq vs.toArray }) B vs) v d as) toPy er') hal hk (fun d hd => by
        obtain ⟨b, hb, rfl⟩ := List.mem_map.mp hd
        have q := (cmp_shape 8 b (List.all_eq_true.mp h3 b hb)).2
        show A.units + 1 + 1 + _ < cLine
        omega)
    show wpAny (model prog w) A.in1.in1 (Builtin.«list.sort» ⟨[.ref B], []⟩) _ _ _
    refine wpAny_mono (list_sort_vals (P := fun f s' => f = .done (.ret .none) ∧ s' = { s with heap := sortedHeap (h1.push { cls := .type "list", data := .seq vs.toArray }) B vs (sortVals (dataKind (sortingHeap (h1.push { cls := .type "list", data := .seq vs.toArray }) B vs) (ds.map toPy)) false vs vs).toArray, toks := tk }) hat S hL ⟨rfl, rfl⟩) (fun f s' hf => ?_) fun _ _ e => e
    obtain ⟨rfl, rfl⟩ := hf
    refine ⟨_, rfl, wpAny_pure ⟨_, rfl, ?_⟩⟩
    obtain ⟨n, hn⟩ := sortedHeap_at (out := (sortVals (dataKind (sortingHeap (h1.push { cls := .type "list", data := .seq vs.toArray }) B vs) (ds.map toPy)) false vs vs).toArray) hat
    have fin := sortVals_data (enc := toPy) false e er' hal
    rw [sort_eq h1'] at fin
    subst hB
    refine h h1 _ tk n _ k1 (fun b o q => ?_) hn ?_
    · have q2 := Heap.get?_push_of_some ({ cls := .type "list", data := .seq vs.toArray } : Obj) q
      rw [sortedHeap_old (Nat.ne_of_lt (Heap.lt_size q)) (Heap.lt_size q2)]
      exact q2
    · exact fin
end

/-! ### over the layer -/
theorem each_of {K : PySem.W.Frag} {G : Hp} : ∀ {vs : List V} {us : List Value} {ds : List D}, Vals vs us → RpAll K G vs ds → PySem.W.EachIs (fun u d => ∃ v, RelV v u ∧ Rp K G v d) us ds
  | _, _, _, .nil, .nil => .nil
  | _, _, _, .cons r t, .cons a b => .cons ⟨_, r, a⟩ (each_of t b)
theorem of_each {K : PySem.W.Frag} {G : Hp} : ∀ {us : List Value} {ds : List D}, PySem.W.EachIs (fun u d => ∃ v, RelV v u ∧ Rp K G v d) us ds → ∃ vs, Vals vs us ∧ RpAll K G vs ds
  | _, _, .nil => ⟨[], .nil, .nil⟩
  | _, _, .cons ⟨v, r, a⟩ t =>
    let ⟨vs, h1, h2⟩ := of_each t
    ⟨v :: vs, .cons r h1, .cons a h2⟩
section
variable {X : Cx} {pins : List (Addr × Obj)} {σ : L2.St} {H G : Hp} {s : Shared}
theorem reads_of (I : Inv X pins σ H s) (ex : Ex G H) {n : Nat} {us : List Value} {ds : List D} (h : (ds.all (D.cmp n)) = true) (e : PySem.W.EachIs (fun u d => ∃ v, RelV v u ∧ Rp X.K G v d) us ds) : PySem.W.EachIs (fun u d => ∃ as, Reads s.heap u (toPy d) as) us ds := by
  induction e with
  | nil => exact .nil
  | cons a t ih =>
    rw [List.all_cons, Bool.and_eq_true] at h
    obtain ⟨v, r, q⟩ := a
    exact .cons (Dp.reads I _ _ _ (dp_of h.1 (q.mono ex)) r) (ih h.2)
/-- sorted(v), v walked by collect -/
theorem sorted_lay {v : Value} {vs : List Value} {ds : List D} {Q : VK} (I : Inv X pins σ H s) (ex : Ex G H) (hr : X.A.units + 12 < cLine) (ha : argsOk "sorted" ⟨[v], []⟩)
    (hc : ∀ Q' : List Value → Shared → Prop, (∀ (h' : Heap) (tk : Nat), (∀ b o, s.heap.get? b = some o → h'.get? b = some o) → Q' vs { s with heap := h', toks := tk }) → wpAny (model X.prog X.w) X.A.in1 (collect v) Q' (fun _ _ => False) s)
    (e : PySem.W.EachIs (fun u d => ∃ v, RelV v u ∧ Rp X.K G v d) vs ds) (hs : sortable ds = true) (q : ∀ G' H' p, Ext G H G' H' → Rp X.K G' p (.lst (ds.mergeSort D.le)) → Q p H') :
    wpAny (model X.prog X.w) X.A (call (.builtin "sorted") [v]) (EP X pins σ Q) X.xe s := by
  have hs' := hs
  unfold sortable at hs'
  simp only [Bool.and_eq_true, decide_eq_true_eq] at hs'
  refine sorted_gen ha hc e (reads_of I ex hs'.1.2 e) hs hr fun h1 h' tk n out k1 k2 hat eo => ?_
  obtain ⟨ws, rv, ra⟩ := of_each eo
  have I1 : Inv X pins σ H { s with heap := h1, toks := tk } := I.kept k1
  have hf : H h1.objs.size = none := I1.hok.fresh (Nat.le_refl _)
  have hz : ws.length ≤ sizeLine := by
    rw [ra.length, List.length_mergeSort, line_eq]
    exact hs'.2
  have I2 : Inv X pins σ (upd H h1.objs.size (.lst ws)) { s with heap := h', toks := tk } := I1.laid (t' := tk) k2 (Nat.le_refl _) ⟨hz, out, n, rv, hat⟩
  have hn : Ext G H (upd G h1.objs.size (.lst ws)) (upd H h1.objs.size (.lst ws)) := Ext.new ex hf
  exact ⟨.ref h1.objs.size, _, I2, rfl, q _ _ _ hn (.lst (.inl (.inl upd_same)) (ra.mono hn.g))⟩
end
end Bk
end
/-! BkFns -/
section
set_option Elab.async false
set_option linter.all false
set_option autoImplicit false
set_option maxRecDepth 100000
set_option maxHeartbeats 4000000
/-! BkFns: truth, slices, the built-ins of one and of two things -/
namespace Bk
open PySem PySem.Spec PyProof.Rows L2
/-- v stands for d, known for good, or as a list of the def's own -/
inductive Src (K : PySem.W.Frag) (G H : Hp) : V → D → Prop
  | of {v : V} {d : D} : Rp K G v d → Src K G H v d
  | own {a : Addr} {vs : List V} {ds : List D} : SqL K H a vs → RpAll K G vs ds → Src K G H (.ref a) (.lst ds)
section
variable {K : PySem.W.Frag} {G H : Hp}
theorem Src.lst (ex : Ex G H) {v : V} {ds : List D} (h : Src K G H v (.lst ds)) : ∃ a vs, v = .ref a ∧ SqL K H a vs ∧ RpAll K G vs ds := by
  cases h with
  | of r =>
    cases r with
    | lst hs r => exact ⟨_, _, rfl, ex.l hs, r⟩
  | own hs r => exact ⟨_, _, rfl, hs, r⟩
theorem Src.tup {v : V} {ds : List D} (h : Src K G H v (.tup ds)) : ∃ a vs, v = .ref a ∧ SqT K G a vs ∧ RpAll K G vs ds := by
  cases h with
  | of r =>
    cases r with
    | tup hs r => exact ⟨_, _, rfl, hs, r⟩
theorem Src.str {v : V} {s : List Nat} (h : Src K G H v (.str s)) : v = .str (Sx s) := by
  cases h with
  | of r =>
    cases r
    rfl
theorem Src.bool {v : V} {s : Bool} (h : Src K G H v (.bool s)) : v = .bl s := by
  cases h with
  | of r =>
    cases r
    rfl
theorem Src.int {v : V} {s : Int} (h : Src K G H v (.int s)) : v = .int s := by
  cases h with
  | of r =>
    cases r
    rfl
theorem Src.none {v : V} (h : Src K G H v .none) : v = .non := by
  cases h with
  | of r =>
    cases r
    rfl
end
/-- a call of one thing -/
def RU (K : PySem.W.Frag) (u : D → Res D) : List V → Hp → VK → Prop := fun xs H Q => ∃ x G d, xs = [x] ∧ Ex G H ∧ Src K G H x d ∧ (u d).Sat (fun r => ∀ G' H' v, Ext G H G' H' → Rp K G' v r → Q v H') (fun _ => False)
def CallU (X : Cx) (f : Value) (u : D → Res D) : Prop := CallR X f (RU X.K u)
theorem nat_str (s : List Nat) : (Sx s).length = s.length := sx_len s
section
variable {X : Cx}
theorem cu_len : CallU X (.builtin "len") bLen := by
  intro pins s σ H xs us Q I r h
  obtain ⟨x, G, d, rfl, ex, sr, h⟩ := h
  cases d with
  | str t =>
    obtain ⟨hl, h⟩ := sat_if h
    obtain rfl := sr.str
    refine call_len_str pins s σ H _ us Q I r ⟨_, rfl, by rw [sx_len, line_eq]; exact hl, ?_⟩
    rw [sx_len]
    exact h G H _ (Ext.refl ex) (.int _)
  | lst ds =>
    obtain ⟨a, vs, rfl, hs, ra⟩ := sr.lst ex
    refine call_len_seq pins s σ H _ us Q I r ⟨a, vs, rfl, .inl hs, ?_⟩
    rw [ra.length]
    exact h G H _ (Ext.refl ex) (.int _)
  | tup ds =>
    obtain ⟨a, vs, rfl, hs, ra⟩ := sr.tup
    refine call_len_seq pins s σ H _ us Q I r ⟨a, vs, rfl, .inr (ex.t hs), ?_⟩
    rw [ra.length]
    exact h G H _ (Ext.refl ex) (.int _)
  | _ => exact h.elim
theorem cu_int : CallU X (.type "int") bInt := by
  intro pins s σ H xs us Q I r h
  obtain ⟨x, G, d, rfl, ex, sr, h⟩ := h
  cases d with
  | bool b =>
    obtain rfl := sr.bool
    exact call_int1 pins s σ H _ us Q I r (.inr ⟨b, rfl, h G H _ (Ext.refl ex) (.int _)⟩)
  | int i =>
    obtain rfl := sr.int
    exact call_int1 pins s σ H _ us Q I r (.inl ⟨i, rfl, h G H _ (Ext.refl ex) (.int _)⟩)
  | _ => exact h.elim
theorem least_spec : ∀ (r : List Int) (m : Int), least m r ∈ m :: r ∧ ∀ y ∈ m :: r, least m r ≤ y
  | [], m => by simp [least]
  | x :: r, m => by
    rw [least]
    obtain ⟨h1, h2⟩ := least_spec r (if x < m then x else m)
    refine ⟨?_, fun y hy => ?_⟩
    · rcases List.mem_cons.mp h1 with e | e
      · rw [e]
        split <;> simp
      · simp [e]
    · have h3 := h2 _ List.mem_cons_self
      rcases List.mem_cons.mp hy with e | e
      · subst e
        refine Int.le_trans h3 ?_
        split <;> omega
      · rcases List.mem_cons.mp e with e | e
        · subst e
          refine Int.le_trans h3 ?_
          split <;> omega
        · exact h2 y (List.mem_cons_of_mem _ e)
theorem most_spec : ∀ (r : List Int) (m : Int), most m r ∈ m :: r ∧ ∀ y ∈ m :: r, y ≤ most m r
  | [], m => by simp [most]
  | x :: r, m => by
    rw [most]
    obtain ⟨h1, h2⟩ := most_spec r (if m < x then x else m)
    refine ⟨?_, fun y hy => ?_⟩
    · rcases List.mem_cons.mp h1 with e | e
      · rw [e]
        split <;> simp
      · simp [e]
    · have h3 := h2 _ List.mem_cons_self
      rcases List.mem_cons.mp hy with e | e
      · subst e
        refine Int.le_trans ?_ h3
        split <;> omega
      · rcases List.mem_cons.mp e with e | e
        · subst e
          refine Int.le_trans ?_ h3
          split <;> omega
        · exact h2 y (List.mem_cons_of_mem _ e)
theorem cu_min (hc : X.calm = true) : CallU X (.builtin "min") bMin := by
  intro pins s σ H xs us Q I r h
  obtain ⟨x, G, d, rfl, ex, sr, h⟩ := h
  cases d with
  | lst ds =>
    obtain ⟨a, vs, rfl, hs, ra⟩ := sr.lst ex
    cases q : numsL ds with
    | none => simp [bMin, q, Res.Sat] at h
    | some ns =>
      cases ns with
      | nil => simp [bMin, q, Res.Sat] at h
      | cons m t =>
        simp only [bMin, q] at h
        have e := ra.nums q
        subst e
        refine cr_min hc pins s σ H _ us Q I r ⟨a, _, rfl, hs, by simp, fun k hk hle => ?_⟩
        obtain ⟨s1, s2⟩ := least_spec t m
        have ek : k = least m t := Int.le_antisymm (hle _ s1) (s2 _ hk)
        rw [ek]
        exact h G H _ (Ext.refl ex) (.int _)
  | _ => exact h.elim
theorem cu_max (hc : X.calm = true) : CallU X (.builtin "max") bMax := by
  intro pins s σ H xs us Q I r h
  obtain ⟨x, G, d, rfl, ex, sr, h⟩ := h
  cases d with
  | lst ds =>
    obtain ⟨a, vs, rfl, hs, ra⟩ := sr.lst ex
    cases q : numsL ds with
    | none => simp [bMax, q, Res.Sat] at h
    | some ns =>
      cases ns with
      | nil => simp [bMax, q, Res.Sat] at h
      | cons m t =>
        simp only [bMax, q] at h
        have e := ra.nums q
        subst e
        refine cr_max hc pins s σ H _ us Q I r ⟨a, _, rfl, hs, by simp, fun k hk hle => ?_⟩
        obtain ⟨s1, s2⟩ := most_spec t m
        have ek : k = most m t := Int.le_antisymm (s2 _ hk) (hle _ s1)
        rw [ek]
        exact h G H _ (Ext.refl ex) (.int _)
  | _ => exact h.elim
theorem cu_sum (hc : X.calm = true) : CallU X (.builtin "sum") bSum := by
  intro pins s σ H xs us Q I r h
  obtain ⟨x, G, d, rfl, ex, sr, h⟩ := h
  cases d with
  | lst ds =>
    obtain ⟨a, vs, rfl, hs, ra⟩ := sr.lst ex
    cases q : numsL ds with
    | none => simp [bSum, q, Res.Sat] at h
    | some ns =>
      simp only [bSum, q] at h
      have e := ra.nums q
      subst e
      exact cr_sum hc pins s σ H _ us Q I r ⟨a, _, rfl, hs, h G H _ (Ext.refl ex) (.int _)⟩
  | _ => exact h.elim
theorem cu_all (hc : X.calm = true) : CallU X (.builtin "all") bAll := by
  intro pins s σ H xs us Q I r h
  obtain ⟨x, G, d, rfl, ex, sr, h⟩ := h
  cases d with
  | lst ds =>
    obtain ⟨a, vs, rfl, hs, ra⟩ := sr.lst ex
    cases q : boolsL ds with
    | none => simp [bAll, q, Res.Sat] at h
    | some ns =>
      simp only [bAll, q] at h
      have e := ra.bools q
      subst e
      exact cr_all hc pins s σ H _ us Q I r ⟨a, _, rfl, hs, h G H _ (Ext.refl ex) (.bool _)⟩
  | _ => exact h.elim
theorem newL {G H : Hp} {vs : List V} {ds : List D} {Q : VK} {K : PySem.W.Frag} (ex : Ex G H) (ra : RpAll K G vs ds) (h : ∀ G' H' v, Ext G H G' H' → Rp K G' v (.lst ds) → Q v H') : ∀ p, H p = Option.none → Q (.ref p) (upd H p (.lst vs)) := fun p hp =>
  have hn : Ext G H (upd G p (.lst vs)) (upd H p (.lst vs)) := Ext.new ex hp
  h _ _ _ hn (.lst (.inl (.inl upd_same)) (ra.mono hn.g))
theorem newT {G H : Hp} {vs : List V} {ds : List D} {Q : VK} {K : PySem.W.Frag} (ex : Ex G H) (ra : RpAll K G vs ds) (h : ∀ G' H' v, Ext G H G' H' → Rp K G' v (.tup ds) → Q v H') : ∀ p, H p = Option.none → Q (.ref p) (upd H p (.tup vs)) := fun p hp =>
  have hn : Ext G H (upd G p (.tup vs)) (upd H p (.tup vs)) := Ext.new ex hp
  h _ _ _ hn (.tup (.inl (.inl upd_same)) (ra.mono hn.g))
theorem cu_list : CallU X (.type "list") bList := by
  intro pins s σ H xs us Q I r h
  obtain ⟨x, G, d, rfl, ex, sr, h⟩ := h
  cases d with
  | lst ds =>
    obtain ⟨a, vs, rfl, hs, ra⟩ := sr.lst ex
    exact call_list_of pins s σ H _ us Q I r ⟨a, vs, rfl, .inl hs, newL ex ra h⟩
  | tup ds =>
    obtain ⟨a, vs, rfl, hs, ra⟩ := sr.tup
    exact call_list_of pins s σ H _ us Q I r ⟨a, vs, rfl, .inr (ex.t hs), newL ex ra h⟩
  | _ => exact h.elim
theorem cu_tuple : CallU X (.type "tuple") bTuple := by
  intro pins s σ H xs us Q I r h
  obtain ⟨x, G, d, rfl, ex, sr, h⟩ := h
  cases d with
  | lst ds =>
    obtain ⟨a, vs, rfl, hs, ra⟩ := sr.lst ex
    exact call_tuple_of pins s σ H _ us Q I r ⟨a, vs, rfl, .inl ⟨hs, newT ex ra h⟩⟩
  | tup ds =>
    obtain ⟨a, vs, rfl, hs, ra⟩ := sr.tup
    exact call_tuple_of pins s σ H _ us Q I r ⟨a, vs, rfl, .inr ⟨ex.t hs, h G H _ (Ext.refl ex) (.tup hs ra)⟩⟩
  | _ => exact h.elim
theorem cu_sorted (hu : X.A.units + 12 < cLine) : CallU X (.builtin "sorted") bSorted := by
  intro pins s σ H xs us Q I r h
  obtain ⟨x, G, d, rfl, ex, sr, h⟩ := h
  cases d with
  | lst ds =>
    obtain ⟨hs', h⟩ := sat_if h
    obtain ⟨a, vs, rfl, hs, ra⟩ := sr.lst ex
    obtain ⟨u, rfl, ru⟩ := vals1 r
    cases ru
    obtain ⟨its, rv, ⟨o, n, ho, hcl, hdd, hd⟩, hz⟩ := I.list hs
    exact sorted_lay I ex hu (args_sorted1 _) (fun Q' k => wpAny_collect_seq a (.inl rfl) ho hcl hd (fun h' hk => k h' s.toks hk) (by rw [List.size_toArray, ← rv.length]; exact hz)) (each_of rv ra) hs' h
  | tup ds =>
    obtain ⟨hs', h⟩ := sat_if h
    obtain ⟨a, vs, rfl, hs, ra⟩ := sr.tup
    obtain ⟨u, rfl, ru⟩ := vals1 r
    cases ru
    obtain ⟨its, rv, ⟨o, ho, hcl, n, hd⟩, hz⟩ := I.tuple (ex.t hs)
    exact sorted_lay I ex hu (args_sorted1 _) (fun Q' k => wpAny_collect_seq a (.inr rfl) ho hcl hd (fun h' hk => k h' s.toks hk) (by rw [List.size_toArray, ← rv.length]; exact hz)) (each_of rv ra) hs' h
  | _ => exact h.elim
/-- isinstance, a written type -/
def tyN : Ty → String
  | .str => "str"
  | .int => "int"
  | .bool => "bool"
  | .tuple => "tuple"
theorem isi_run {t : Ty} {d : D} {x : V} {H G : Hp} {pins : List (Addr × Obj)} {σ : L2.St} {s : Shared} {us : List Value} {Q : VK} (I : Inv X pins σ H s) (ex : Ex G H) (rp : Rp X.K G x d) (r : Vals [x, .ty (tyN t)] us) (h : (bIs t d).Sat (fun r => ∀ G' H' v, Ext G H G' H' → Rp X.K G' v r → Q v H') (fun _ => False)) :
    wpAny (model X.prog X.w) X.A (call (.builtin "isinstance") us) (EP X pins σ Q) X.xe s := by
  have go : ∀ (T : String) (b : Bool), TyX X.K H x (.type T) → kitB T (tyN t) = some b → Q (.bl b) H → wpAny (model X.prog X.w) X.A (call (.builtin "isinstance") us) (EP X pins σ Q) X.xe s := fun T b ty hk q =>
    call_isi pins s σ H _ us Q I r ⟨x, .ty (tyN t), .type T, .type (tyN t), b, rfl, .ty _, ty, kit_ty hk, q⟩
  cases rp with
  | none => cases t <;> exact go "NoneType" false (.base .non) (by decide +kernel) (h G H _ (Ext.refl ex) (.bool _))
  | bool b =>
    cases t with
    | str => exact go "bool" false (.base (.bl b)) (by decide +kernel) (h G H _ (Ext.refl ex) (.bool _))
    | int => exact go "bool" true (.base (.bl b)) (by decide +kernel) (h G H _ (Ext.refl ex) (.bool _))
    | bool => exact go "bool" true (.base (.bl b)) (by decide +kernel) (h G H _ (Ext.refl ex) (.bool _))
    | tuple => exact go "bool" false (.base (.bl b)) (by decide +kernel) (h G H _ (Ext.refl ex) (.bool _))
  | int b =>
    cases t with
    | str => exact go "int" false (.base (.int b)) (by decide +kernel) (h G H _ (Ext.refl ex) (.bool _))
    | int => exact go "int" true (.base (.int b)) (by decide +kernel) (h G H _ (Ext.refl ex) (.bool _))
    | bool => exact go "int" false (.base (.int b)) (by decide +kernel) (h G H _ (Ext.refl ex) (.bool _))
    | tuple => exact go "int" false (.base (.int b)) (by decide +kernel) (h G H _ (Ext.refl ex) (.bool _))
  | str b =>
    cases t with
    | str => exact go "str" true (.base (.str _)) (by decide +kernel) (h G H _ (Ext.refl ex) (.bool _))
    | int => exact go "str" false (.base (.str _)) (by decide +kernel) (h G H _ (Ext.refl ex) (.bool _))
    | bool => exact go "str" false (.base (.str _)) (by decide +kernel) (h G H _ (Ext.refl ex) (.bool _))
    | tuple => exact go "str" false (.base (.str _)) (by decide +kernel) (h G H _ (Ext.refl ex) (.bool _))
  | lst hs ra =>
    rename_i a0 _ _
    have ty : TyX X.K H (.ref a0) (.type "list") := by
      rcases ex.l hs with (z | ⟨o, z⟩) | ⟨o, its, n, hk, hc, _⟩
      · exact .base (.lst z)
      · exact .base (.frz z)
      · exact .kList hk hc
    cases t <;> exact go "list" false ty (by decide +kernel) (h G H _ (Ext.refl ex) (.bool _))
  | tup hs ra =>
    rename_i a0 _ _
    have ty : TyX X.K H (.ref a0) (.type "tuple") := by
      rcases ex.t hs with (z | ⟨o, z⟩) | ⟨o, its, n, hk, hc, _⟩
      · exact .base (.tup z)
      · exact .fTuple z
      · exact .kTuple hk hc
    cases t with
    | tuple => exact go "tuple" true ty (by decide +kernel) (h G H _ (Ext.refl ex) (.bool _))
    | str => exact go "tuple" false ty (by decide +kernel) (h G H _ (Ext.refl ex) (.bool _))
    | int => exact go "tuple" false ty (by decide +kernel) (h G H _ (Ext.refl ex) (.bool _))
    | bool => exact go "tuple" false ty (by decide +kernel) (h G H _ (Ext.refl ex) (.bool _))
  | dic _ _ => exact h.elim
/-! ### of two things -/
def RB (K : PySem.W.Frag) (b : D → D → Res D) : List V → Hp → VK → Prop := fun xs H Q => ∃ x y G d e, xs = [x, y] ∧ Ex G H ∧ Rp K G x d ∧ Rp K G y e ∧ (b d e).Sat (fun r => ∀ G' H' v, Ext G H G' H' → Rp K G' v r → Q v H') (fun _ => False)
theorem cb_min2 (hc : X.calm = true) : CallR X (.builtin "min") (RB X.K dMin2) := by
  intro pins s σ H xs us Q I r h
  obtain ⟨x, y, G, d, e, rfl, ex, rd, re, h⟩ := h
  cases rd with
  | int i =>
    cases re with
    | int j => exact call_min2 hc pins s σ H _ us Q I r ⟨i, j, rfl, h G H _ (Ext.refl ex) (.int _)⟩
    | _ => exact h.elim
  | _ => cases re <;> exact h.elim
/-! ### truth -/
theorem truth_rp {G H : Hp} {v : V} {d : D} {b : Bool} (ex : Ex G H) (r : Rp X.K G v d) (h : dTruth d = .ok b) : TruV X.K v H b := by
  cases r with
  | none =>
    simp [dTruth] at h
    show b = false
    exact h
  | bool c =>
    simp [dTruth] at h
    show b = c
    exact h.symm
  | int i =>
    simp only [dTruth, Res.ok.injEq] at h
    exact h.symm
  | str t =>
    simp only [dTruth] at h
    by_cases hl : t.length ≤ lim
    · rw [if_pos hl] at h
      injection h with h
      subst h
      refine ⟨by rw [sx_len, line_eq]; exact hl, ?_⟩
      rw [sx_len]
      cases t with
      | nil => rfl
      | cons c r =>
        have z : ((c :: r).length : Int) ≠ 0 := by
          rw [List.length_cons]
          omega
        show true = (((c :: r).length : Int) != 0)
        exact (bne_iff_ne.mpr z).symm
    · rw [if_neg hl] at h
      cases h
  | lst hs ra =>
    rename_i a xs ds
    simp only [dTruth, Res.ok.injEq] at h
    refine .inl ⟨_, ex.l hs, ?_⟩
    rw [← h]
    have := ra.length
    cases xs <;> cases ds <;> simp_all
  | tup hs ra =>
    rename_i a xs ds
    simp only [dTruth, Res.ok.injEq] at h
    refine .inr (.inl ⟨_, ex.t hs, ?_⟩)
    rw [← h]
    have := ra.length
    cases xs <;> cases ds <;> simp_all
  | dic _ _ => simp [dTruth] at h
/-! ### slices -/
theorem sl_eq (n d : Nat) (o : Option Int) : HT.sIx n d o = sl n d o := by
  cases o <;> rfl
theorem cut_eq {vs : List V} {ds : List D} {K : PySem.W.Frag} {G : Hp} (ra : RpAll K G vs ds) (lo hi : Option Int) : RpAll K G (cutV vs lo hi) (cut ds lo hi) := by
  unfold cutV cut
  rw [ra.length, sl_eq, sl_eq]
  exact (ra.drop _).take _
def RS (K : PySem.W.Frag) : V → Option Int → Option Int → Hp → VK → Prop := fun x lo hi H Q => ∃ G d, Ex G H ∧ Rp K G x d ∧ (dCut d lo hi).Sat (fun r => ∀ G' H' v, Ext G H G' H' → Rp K G' v r → Q v H') (fun _ => False)
theorem sl_data : SlR X (RS X.K) := by
  intro pins s σ H x v vl vu lo hi sl Q I rx hs pl pu h
  obtain ⟨G, d, ex, rd, h⟩ := h
  cases rd with
  | str t =>
    obtain ⟨hl, h⟩ := sat_if h
    refine sl_str pins s σ H _ v vl vu lo hi sl Q I rx hs pl pu ⟨_, rfl, by rw [sx_len, line_eq]; exact hl, ?_⟩
    have e : cutS (Sx t) lo hi = Sx (cut t lo hi) := by
      unfold cutS cut
      rw [sx_len, sl_eq, sl_eq]
    rw [e]
    exact h G H _ (Ext.refl ex) (.str _)
  | lst hl ra => exact sl_list pins s σ H _ v vl vu lo hi sl Q I rx hs pl pu ⟨_, _, rfl, ex.l hl, newL ex (cut_eq ra lo hi) h⟩
  | tup hl ra =>
    obtain ⟨hn, h⟩ := sat_if h
    refine sl_tup pins s σ H _ v vl vu lo hi sl Q I rx hs pl pu ⟨_, _, rfl, ex.t hl, ?_, newT ex (cut_eq ra lo hi) h⟩
    rw [ra.length, sl_eq, sl_eq]
    exact hn
  | _ => exact h.elim
end
end Bk
end
/-! BkRules -/
section
set_option Elab.async false
set_option linter.all false
set_option autoImplicit false
set_option maxRecDepth 100000
set_option maxHeartbeats 4000000
/-! BkRules: the rules of expressions and tests -/
namespace Bk
open PySem PySem.Spec PyProof.Rows L2
section
variable {X : Cx} {B : Bs} {a b c e : Expr} {es : List Expr} {pos p : Pos} {f g h : E} {fs : List E} {t u : T}
/-! ### names and constants -/
theorem eVar_sat {i : Nat} {η : Env} {P : D → Prop} {R : Cls → Prop} (q : (eVar i η).Sat P R) : ∃ d, η[i]? = some (some (.dat d)) ∧ P d := by
  unfold eVar at q
  split at q
  · rename_i d e
    exact ⟨d, e, q⟩
  · exact q.elim
theorem pv (i : Nat) {x : Str} (hN : X.N[i]? = some x := by rfl) (hv : Vis X.env.scope x := by first | exact Or.inl rfl | exact Or.inr (Or.inl rfl) | exact Or.inr (Or.inr rfl)) (hd : (x == ("__debug__" : Str)) = false := by decide)
    (hcd : (x == ("__classdict__" : Str)) = false := by decide) : PE X (.Name x pos) (tX X.K B (eVar i)) := pe_weak (pe_var hN hv hd hcd) fun σ H Q q => by
  obtain ⟨G, η, r, q⟩ := q
  obtain ⟨d, e, q⟩ := eVar_sat q
  obtain ⟨v, h1, h2⟩ := r.dat e
  exact ⟨v, h1, q G H v (Ext.refl r.exg) h2⟩
theorem pc_weak {d : D} {v : V} {e : Expr} (h : PE X e (tC v)) (r : ∀ G, Rp X.K G v d) : PE X e (tX X.K B (eC d)) := pe_weak h fun σ H Q q => by
  obtain ⟨G, η, rp, q⟩ := q
  exact q G H v (Ext.refl rp.exg) (r G)
theorem pv_int {i : Int} {j : Nat} : PE X (.Constant (.int i) j pos) (tX X.K B (eC (.int i))) := pc_weak pe_int fun _ => .int i
theorem pv_bl {i : Bool} {j : Nat} : PE X (.Constant (.bool i) j pos) (tX X.K B (eC (.bool i))) := pc_weak pe_bl fun _ => .bool i
theorem pv_non {j : Nat} : PE X (.Constant .none j pos) (tX X.K B (eC .none)) := pc_weak pe_non fun _ => .none
theorem pv_str (l : List Nat) {x : Str} {j : Nat} (hx : x = Sx l := by decide +kernel) : PE X (.Constant (.str x) j pos) (tX X.K B (eC (.str l))) := pc_weak pe_str fun _ => by
  rw [hx]
  exact .str l
/-! ### operators -/
theorem bin_weak {bo : D → D → Res D} {σ : L2.St} {H : Hp} {Q : VK} (q : tX X.K B (eBin bo f g) σ H Q) : tOp (RD X.K bo) (tX X.K B f) (tX X.K B g) σ H Q := by
  obtain ⟨G, η, r, q⟩ := q
  refine tX.of r (sat_bind q) fun x hx G1 H1 v e1 r1 => ?_
  refine tX.of (r.extd e1) (sat_bind hx) fun y hy G2 H2 w e2 r2 => ?_
  exact ⟨G2, x, y, e2.gh, r1.mono e2.g, r2, Sat.mono (sat_calm hy) (fun d q G' H' u e3 r3 => q G' H' u ((e1.trans e2).trans e3) r3) fun _ z => z⟩
theorem pv_bin {op : Operator} {bo : D → D → Res D} (ho : OpD X (binaryOp op) bo) (ha : PE X a (tX X.K B f)) (hb : PE X b (tX X.K B g)) : PE X (.BinOp a op b pos) (tX X.K B (eBin bo f g)) :=
  pe_weak (pe_op ho ha hb) fun _ _ _ q => bin_weak q
theorem pv_add (ha : PE X a (tX X.K B f)) (hb : PE X b (tX X.K B g)) : PE X (.BinOp a .Add b pos) (tX X.K B (eBin dAdd f g)) := pv_bin od_add ha hb
theorem pv_sub (ha : PE X a (tX X.K B f)) (hb : PE X b (tX X.K B g)) : PE X (.BinOp a .Sub b pos) (tX X.K B (eBin dSub f g)) := pv_bin od_sub ha hb
theorem pv_mul (ha : PE X a (tX X.K B f)) (hb : PE X b (tX X.K B g)) : PE X (.BinOp a .Mult b pos) (tX X.K B (eBin dMul f g)) := pv_bin od_mul ha hb
theorem pv_div (ha : PE X a (tX X.K B f)) (hb : PE X b (tX X.K B g)) : PE X (.BinOp a .FloorDiv b pos) (tX X.K B (eBin dDiv f g)) := pv_bin od_div ha hb
theorem pv_mod (ha : PE X a (tX X.K B f)) (hb : PE X b (tX X.K B g)) : PE X (.BinOp a .Mod b pos) (tX X.K B (eBin dMod f g)) := pv_bin od_mod ha hb
theorem pv_pow (ha : PE X a (tX X.K B f)) (hb : PE X b (tX X.K B g)) : PE X (.BinOp a .Pow b pos) (tX X.K B (eBin dPow f g)) := pv_bin od_pow ha hb
/-- of one thing -/
theorem un_sat {u : D → Res D} {η : Env} {P : D → Prop} {R : Cls → Prop} (q : (eUn u f η).Sat P R) : (f η).Sat (fun x => ∀ R', (u x).Sat P R') R := Sat.mono (sat_bind q) (fun x hx R' => sat_calm hx) fun _ z => z
theorem pv_neg (ha : PE X a (tX X.K B f)) : PE X (.UnaryOp .USub a pos) (tX X.K B (eUn dNeg f)) := pe_weak (pe_un un_neg ha) fun σ H Q q => by
  obtain ⟨G, η, r, q⟩ := q
  refine tX.of r (un_sat q) fun x hx G1 H1 v e1 r1 => ?_
  have hx := hx fun _ => False
  cases r1 with
  | int i => exact ⟨i, rfl, hx G1 H1 _ e1 (.int _)⟩
  | _ => exact hx.elim
/-! ### comparisons -/
theorem pv_cmp {op : CmpOp} {bo : D → D → Res D} (ho : OpD X (compareOp op) bo) (ha : PE X a (tX X.K B f)) (hb : PE X b (tX X.K B g)) (hm : behindInMarks op b = false := by rfl) : PE X (.Compare a [op] [b] pos) (tX X.K B (eBin bo f g)) :=
  pe_weak (pe_cmpR ho ha hb hm) fun _ _ _ q => bin_weak q
theorem bool_sat {η : Env} {P : Bool → Prop} {R : Cls → Prop} (q : ((f η).bind asBool).Sat P R) : (f η).Sat (fun x => ∃ k, x = .bool k ∧ P k) R := by
  refine Sat.mono (sat_bind q) (fun x hx => ?_) fun _ z => z
  cases x with
  | bool k => exact ⟨k, rfl, hx⟩
  | _ => exact hx.elim
theorem tv_cmp {op : CmpOp} {bo : D → D → Res D} (ho : OpD X (compareOp op) bo) (ha : PE X a (tX X.K B f)) (hb : PE X b (tX X.K B g)) (hm : behindInMarks op b = false := by rfl) : PT X (.Compare a [op] [b] pos) (tT X.K B (tE (eBin bo f g))) :=
  pt_weak (pt_cmpR ho ha hb hm) fun σ H Q q => by
    obtain ⟨G, η, r, q⟩ := q
    refine bin_weak (B := B) (tX.of r (bool_sat q) fun x hx G1 H1 v e1 r1 => ?_)
    obtain ⟨k, rfl, q⟩ := hx
    cases r1
    exact ⟨k, rfl, q G1 H1 e1⟩
theorem chain_weak {r r' : D → D → Res D} {σ : L2.St} {H : Hp} {Q : VK} (q : tX X.K B (eChain r r' f g h) σ H Q) : tChain (RD X.K r) (RD X.K r') (tX X.K B f) (tX X.K B g) (tX X.K B h) σ H Q := by
  obtain ⟨G, η, rp, q⟩ := q
  refine tX.of rp (sat_bind q) fun x hx G1 H1 v e1 r1 => ?_
  refine tX.of (rp.extd e1) (sat_bind hx) fun y hy G2 H2 w e2 r2 => ?_
  refine ⟨G2, x, y, e2.gh, r1.mono e2.g, r2, Sat.mono (sat_calm (sat_bind hy)) (fun z hz G3 H3 v3 e3 r3 => ?_) fun _ z => z⟩
  cases r3 with
  | bool k =>
    refine ⟨k, rfl, ?_⟩
    cases k with
    | false =>
      rw [if_neg Bool.false_ne_true]
      exact hz G3 H3 _ ((e1.trans e2).trans e3) (.bool _)
    | true =>
      rw [if_pos rfl]
      refine tX.of (((rp.extd e1).extd e2).extd e3) (sat_bind hz) fun z' hz' G4 H4 v4 e4 r4 => ?_
      exact ⟨G4, y, z', e4.gh, (r2.mono e3.g).mono e4.g, r4, Sat.mono (sat_calm hz') (fun d q G' H' u e5 r5 => q G' H' u ((((e1.trans e2).trans e3).trans e4).trans e5) r5) fun _ z => z⟩
  | _ => exact hz.elim
theorem tv_chain {op op' : CmpOp} {r r' : D → D → Res D} (ho : OpD X (compareOp op) r) (ho' : OpD X (compareOp op') r') (ha : PE X a (tX X.K B f)) (hb : PE X b (tX X.K B g)) (hc : PE X c (tX X.K B h))
    (hm : lastMarks [op, op'] [b, c] = false := by with_unfolding_all rfl) : PT X (.Compare a [op, op'] [b, c] pos) (tT X.K B (tE (eChain r r' f g h))) :=
  pt_weak (pt_chain ho ho' ha hb hc hm) fun σ H Q q => by
    obtain ⟨G, η, rp, q⟩ := q
    refine chain_weak (B := B) (tX.of rp (bool_sat q) fun x hx G1 H1 v e1 r1 => ?_)
    obtain ⟨k, rfl, q⟩ := hx
    cases r1
    exact ⟨k, rfl, q G1 H1 e1⟩
/-! ### and, or, not as values -/
theorem pv_last {op} (ha : PE X a (tX X.K B f)) : PE X (.BoolOp op [a] pos) (tX X.K B f) := pe_one ha
theorem pv_and {rest : List Expr} (ha : PE X a (tX X.K B f)) (hb : PE X (.BoolOp .And (b :: rest) pos) (tX X.K B g)) : PE X (.BoolOp .And (a :: b :: rest) pos) (tX X.K B (eAnd f g)) := pe_weak (pe_and ha hb) fun σ H Q q => by
  obtain ⟨G, η, r, q⟩ := q
  refine tX.of r (sat_bind q) fun x hx G1 H1 v e1 r1 => ?_
  cases r1 with
  | bool k =>
    refine ⟨k, rfl, ?_⟩
    cases k with
    | false =>
      rw [if_neg Bool.false_ne_true]
      exact hx G1 H1 _ e1 (.bool _)
    | true =>
      rw [if_pos rfl]
      exact ⟨G1, η, r.extd e1, Sat.mono hx (fun d q G' H' u e3 r3 => q G' H' u (e1.trans e3) r3) fun _ z => z⟩
  | _ => exact hx.elim
theorem pv_or {rest : List Expr} (ha : PE X a (tX X.K B f)) (hb : PE X (.BoolOp .Or (b :: rest) pos) (tX X.K B g)) : PE X (.BoolOp .Or (a :: b :: rest) pos) (tX X.K B (eOr f g)) := pe_weak (pe_or ha hb) fun σ H Q q => by
  obtain ⟨G, η, r, q⟩ := q
  refine tX.of r (sat_bind q) fun x hx G1 H1 v e1 r1 => ?_
  cases r1 with
  | bool k =>
    refine ⟨k, rfl, ?_⟩
    cases k with
    | true =>
      rw [if_pos rfl]
      exact hx G1 H1 _ e1 (.bool _)
    | false =>
      rw [if_neg Bool.false_ne_true]
      exact ⟨G1, η, r.extd e1, Sat.mono hx (fun d q G' H' u e3 r3 => q G' H' u (e1.trans e3) r3) fun _ z => z⟩
  | _ => exact hx.elim
theorem pv_not (ha : PE X a (tX X.K B f)) : PE X (.UnaryOp .Not a pos) (tX X.K B (eNot f)) := pe_weak (pe_not ha) fun σ H Q q => by
  obtain ⟨G, η, r, q⟩ := q
  refine tX.of r (sat_bind q) fun x hx G1 H1 v e1 r1 => ?_
  cases r1 with
  | bool k => exact ⟨k, rfl, hx G1 H1 _ e1 (.bool _)⟩
  | _ => exact hx.elim
/-! ### tests -/
theorem tv_val (ha : PE X a (tX X.K B f)) (he : ∀ whole, isTrue a X.env whole = (do let v ← whole; standAt a.pos; holding [v] (truthy v)) := by intro _; rfl) : PT X a (tT X.K B (tE f)) := pt_weak (pt_val ha he) fun σ H Q q => by
  obtain ⟨G, η, r, q⟩ := q
  refine tX.of r (bool_sat q) fun x hx G1 H1 v e1 r1 => ?_
  obtain ⟨k, rfl, q⟩ := hx
  cases r1
  exact ⟨k, rfl, q G1 H1 e1⟩
theorem tv_truth (ha : PE X a (tX X.K B f)) (he : ∀ whole, isTrue a X.env whole = (do let v ← whole; standAt a.pos; holding [v] (truthy v)) := by intro _; rfl) : PT X a (tT X.K B (tV f)) := pt_weak (pt_truth ha he) fun σ H Q q => by
  obtain ⟨G, η, r, q⟩ := q
  refine tX.of r (sat_bind q) fun x hx G1 H1 v e1 r1 => ?_
  cases z : dTruth x with
  | ok k =>
    rw [z] at hx
    exact ⟨k, truth_rp e1.gh r1 z, hx G1 H1 e1⟩
  | raise c =>
    cases x <;> simp [dTruth] at z
    split at z <;> cases z
  | bad =>
    rw [z] at hx
    exact hx.elim
theorem tv_own (i : Nat) {x : Str} (hN : X.N[i]? = some x := by rfl) (hv : Vis X.env.scope x := by first | exact Or.inl rfl | exact Or.inr (Or.inl rfl) | exact Or.inr (Or.inr rfl)) (hd : (x == ("__debug__" : Str)) = false := by decide)
    (hcd : (x == ("__classdict__" : Str)) = false := by decide) (he : ∀ whole, isTrue (.Name x pos) X.env whole = (do let v ← whole; standAt (Expr.Name x pos).pos; holding [v] (truthy v)) := by intro _; rfl) : PT X (.Name x pos) (tT X.K B (tOwn i)) := pt_weak (pt_truth (pe_var hN hv hd hcd) he) fun σ H Q q => by
  obtain ⟨G, η, r, q⟩ := q
  unfold tOwn at q
  split at q
  · rename_i ds e
    obtain ⟨v, h1, w, vs, rfl, h0, hg, hh, ra⟩ := r.slot _ _ e
    refine ⟨_, h1, _, .inl ⟨vs, .inl (.inl hh), rfl⟩, ?_⟩
    have e2 : (!vs.isEmpty) = !ds.isEmpty := by
      have := ra.length
      cases vs <;> cases ds <;> simp_all
    rw [e2]
    exact q G H (Ext.refl r.exg)
  · exact q.elim
theorem tv_not (ha : PT X a (tT X.K B t)) : PT X (.UnaryOp .Not a pos) (tT X.K B (tNot t)) := pt_weak (pt_not ha) fun σ H Q q => by
  obtain ⟨G, η, r, q⟩ := q
  exact tT.of r (sat_bind q) fun k hk G1 H1 e1 => hk G1 H1 e1
theorem tw_one1 (ha : PT X a (tT X.K B t)) : PW X (.BoolOp .And [a] pos) (tT X.K B t) := pw_and1 ha
theorem tw_one0 (ha : PT X a (tT X.K B t)) : PW X (.BoolOp .Or [a] pos) (tT X.K B t) := pw_or1 ha
theorem tw_and {rest : List Expr} (ha : PT X a (tT X.K B t)) (hb : PW X (.BoolOp .And (b :: rest) pos) (tT X.K B u)) : PW X (.BoolOp .And (a :: b :: rest) pos) (tT X.K B (tAnd t u)) := pw_weak (pw_and ha hb) fun σ H Q q => by
  obtain ⟨G, η, r, q⟩ := q
  refine tT.of r (sat_bind q) fun k hk G1 H1 e1 => ?_
  cases k with
  | false =>
    rw [if_neg Bool.false_ne_true]
    exact hk G1 H1 e1
  | true =>
    rw [if_pos rfl]
    exact ⟨G1, η, r.extd e1, Sat.mono hk (fun d q G' H' e3 => q G' H' (e1.trans e3)) fun _ z => z⟩
theorem tw_or {rest : List Expr} (ha : PT X a (tT X.K B t)) (hb : PW X (.BoolOp .Or (b :: rest) pos) (tT X.K B u)) : PW X (.BoolOp .Or (a :: b :: rest) pos) (tT X.K B (tOr t u)) := pw_weak (pw_or ha hb) fun σ H Q q => by
  obtain ⟨G, η, r, q⟩ := q
  refine tT.of r (sat_bind q) fun k hk G1 H1 e1 => ?_
  cases k with
  | true =>
    rw [if_pos rfl]
    exact hk G1 H1 e1
  | false =>
    rw [if_neg Bool.false_ne_true]
    exact ⟨G1, η, r.extd e1, Sat.mono hk (fun d q G' H' e3 => q G' H' (e1.trans e3)) fun _ z => z⟩
theorem tw_pt {e : Expr} {t : TT} (h : PW X e t) : PT X e t := h.pt
/-! ### arguments, displays -/
theorem pas_nil : PA X [] (tA X.K B []) := pa_weak pa_nil fun σ H Q q => by
  obtain ⟨G, η, r, q⟩ := q
  exact q G H [] (Ext.refl r.exg) .nil
theorem pas_cons (ha : PE X a (tX X.K B f)) (hr : PA X es (tA X.K B fs)) (hs : starEach (a :: es) X.env = (false, eval a X.env) :: starEach es X.env := by rfl) : PA X (a :: es) (tA X.K B (f :: fs)) := pa_weak (pa_cons ha hr hs) fun σ H Q q => by
  obtain ⟨G, η, r, q⟩ := q
  refine tX.of r (sat_bind q) fun x hx G1 H1 v e1 r1 => ?_
  refine tA.of (r.extd e1) (sat_bind hx) fun xs hxs G2 H2 vs e2 r2 => ?_
  exact hxs G2 H2 (v :: vs) (e1.trans e2) (.cons (r1.mono e2.g) r2)
theorem evals_len {η : Env} : ∀ {fs : List E} {P : List D → Prop} {R : Cls → Prop}, (evals fs η).Sat P R → (evals fs η).Sat (fun ds => ds.length = fs.length ∧ P ds) R
  | [], _, _, q => ⟨rfl, q⟩
  | f :: r, P, R, q => by
    show ((f η).bind fun x => (evals r η).bind fun xs => .ok (x :: xs)).Sat _ _
    have q1 : ((f η).bind fun x => (evals r η).bind fun xs => .ok (x :: xs)).Sat P R := q
    cases h1 : f η with
    | ok x =>
      rw [h1] at q1
      rw [bind_ok] at q1 ⊢
      have q2 := evals_len (sat_bind q1)
      cases h2 : evals r η with
      | ok xs =>
        rw [h2] at q2
        exact ⟨by rw [List.length_cons, List.length_cons, q2.1], q2.2⟩
      | raise c =>
        rw [h2] at q2
        exact q2
      | bad =>
        rw [h2] at q2
        exact q2
    | raise c =>
      rw [h1] at q1
      exact q1
    | bad =>
      rw [h1] at q1
      exact q1
theorem pv_tup {k : Nat} (ha : PA X es (tA X.K B fs)) (hl : fs.length ≤ 1000 := by first | decide | simp) : PE X (.Tuple es k pos) (tX X.K B (eTup fs)) := pe_weak (pe_tup ha) fun σ H Q q => by
  obtain ⟨G, η, r, q⟩ := q
  refine tA.of r (evals_len (sat_bind q)) fun ds hds G1 H1 vs e1 r1 => ?_
  refine ⟨by rw [r1.length, hds.1, line_eq]; show fs.length ≤ 16777216; omega, newT e1.gh r1 fun G' H' v e2 r2 => hds.2 G' H' v (e1.trans e2) r2⟩
theorem pv_lst (ha : PA X es (tA X.K B fs)) (hl : fs.length ≤ 1000 := by first | decide | simp) : PE X (.List es pos) (tX X.K B (eLst fs)) := pe_weak (pe_lst ha) fun σ H Q q => by
  obtain ⟨G, η, r, q⟩ := q
  refine tA.of r (evals_len (sat_bind q)) fun ds hds G1 H1 vs e1 r1 => ?_
  refine ⟨by rw [r1.length, hds.1, line_eq]; show fs.length ≤ 16777216; omega, newL e1.gh r1 fun G' H' v e2 r2 => hds.2 G' H' v (e1.trans e2) r2⟩
/-! ### places and slices -/
theorem pv_ix (ha : PE X a (tX X.K B f)) (hb : PE X b (tX X.K B g)) (hs : PlainIx b := by exact fun _ _ => rfl) : PE X (.Subscript a b pos) (tX X.K B (eBin dIdx f g)) := pe_weak (pe_ix ix_data ha hb hs) fun _ _ _ q => bin_weak q
/-- the def's own list at a place -/
theorem pv_ixO (i : Nat) {x : Str} (hb : PE X b (tX X.K B g)) (hs : PlainIx b := by exact fun _ _ => rfl) (hN : X.N[i]? = some x := by rfl) (hv : Vis X.env.scope x := by first | exact Or.inl rfl | exact Or.inr (Or.inl rfl) | exact Or.inr (Or.inr rfl)) (hd : (x == ("__debug__" : Str)) = false := by decide)
    (hcd : (x == ("__classdict__" : Str)) = false := by decide) : PE X (.Subscript (.Name x p) b pos) (tX X.K B (eOwnB dIdx i g)) := pe_weak (pe_ix ix_list (pe_var hN hv hd hcd) hb hs) fun σ H Q q => by
  obtain ⟨G, η, r, q⟩ := q
  unfold eOwnB at q
  split at q
  · rename_i ds e
    obtain ⟨v, h1, _⟩ := r.slot _ _ e
    refine ⟨v, h1, tX.of r (sat_bind q) fun y hy G1 H1 w e1 r1 => ?_⟩
    obtain ⟨v', h1', aa, vs, ev, h0, hg, hh, ra⟩ := (r.extd e1).slot _ _ e
    rw [h1] at h1'
    cases h1'
    subst ev
    have hy := sat_calm (R' := fun _ => False) hy
    cases r1 with
    | int k =>
      cases z : at? ds k with
      | none => simp [dIdx, z, Res.Sat] at hy
      | some d =>
        simp only [dIdx, z] at hy
        obtain ⟨w', k1, k2⟩ := at_rp ra z
        exact ⟨aa, vs, k, w', rfl, rfl, .inl (.inl hh), k1, hy G1 H1 _ e1 k2⟩
    | _ => exact hy.elim
  · exact q.elim
def tP (K : PySem.W.Frag) (B : Bs) (o : Option E) : TO := fun σ H Q => ∃ G η, RpE K B.G0 B.H0 G H σ η ∧ (ePart o η).Sat (fun d => ∀ G' H', Ext G H G' H' → Q d H') (Rz B)
theorem po_weak {e : Option Expr} {t t' : TO} (h : PO X e t) (w : ∀ σ H Q, t' σ H Q → t σ H Q) : PO X e t' := ⟨fun pins s σ H Q I q => h.run pins s σ H Q I (w σ H Q q)⟩
theorem ps0 : PO X none (tP X.K B none) := po_weak po_none fun σ H Q q => by
  obtain ⟨G, η, r, q⟩ := q
  exact q G H (Ext.refl r.exg)
theorem ps1 (ha : PE X a (tX X.K B f)) : PO X (some a) (tP X.K B (some f)) := po_weak (po_some ha) fun σ H Q q => by
  obtain ⟨G, η, r, q⟩ := q
  refine tX.of r (sat_bind q) fun x hx G1 H1 v e1 r1 => ?_
  cases r1 with
  | int i => exact ⟨i, rfl, hx G1 H1 e1⟩
  | _ => exact hx.elim
theorem pv_sl {lo hi : Option Expr} {l m : Option E} {p2 : Pos} (ha : PE X a (tX X.K B f)) (hl : PO X lo (tP X.K B l)) (hh : PO X hi (tP X.K B m)) : PE X (.Subscript a (.Slice lo hi none p2) pos) (tX X.K B (eSlice f l m)) := pe_weak (pe_slice sl_data ha hl hh) fun σ H Q q => by
  obtain ⟨G, η, r, q⟩ := q
  refine tX.of r (sat_bind q) fun x hx G1 H1 v e1 r1 => ?_
  refine ⟨G1, η, r.extd e1, Sat.mono (sat_bind hx) (fun lo' hlo G2 H2 e2 => ?_) fun _ z => z⟩
  refine ⟨G2, η, (r.extd e1).extd e2, Sat.mono (sat_bind hlo) (fun hi' hhi G3 H3 e3 => ?_) fun _ z => z⟩
  refine ⟨G3, x, e3.gh, (r1.mono e2.g).mono e3.g, ?_⟩
  exact Sat.mono (sat_calm hhi) (fun d q G' H' u e4 r4 => q G' H' u (((e1.trans e2).trans e3).trans e4) r4) fun _ z => z
theorem pv_rev {k : Nat} {p1 p2 p3 : Pos} (ha : PE X a (tX X.K B f)) : PE X (.Subscript a (.Slice none none (some (.UnaryOp .USub (.Constant (.int 1) k p1) p2)) p3) pos) (tX X.K B (eUn bRev f)) := pe_weak (pe_revL ha) fun σ H Q q => by
  obtain ⟨G, η, r, q⟩ := q
  refine tX.of r (un_sat q) fun x hx G1 H1 v e1 r1 => ?_
  have hx := hx fun _ => False
  cases r1 with
  | lst hs ra => exact ⟨_, _, rfl, e1.gh.l hs, newL e1.gh ra.reverse fun G' H' v e2 r2 => hx G' H' v (e1.trans e2) r2⟩
  | _ => exact hx.elim
/-! ### calls of built-ins -/
section
variable {x : Str} {id Ty' : String} {u : D → Res D}
theorem ru_weak {r : List V → Hp → VK → Prop} {σ : L2.St} {H : Hp} {Q : VK} (q : tX X.K B (eUn u f) σ H Q) : tCB (RU X.K u) (tCons (tX X.K B f) tNil) σ H Q := by
  obtain ⟨G, η, r, q⟩ := q
  refine tX.of r (un_sat q) fun x hx G1 H1 v e1 r1 => ?_
  exact ⟨v, G1, x, rfl, e1.gh, .of r1, Sat.mono (hx fun _ => False) (fun d q G' H' u e2 r2 => q G' H' u (e1.trans e2) r2) fun _ z => z⟩
theorem pv_b1 (hc : CallU X (.builtin id) u) (hm : X.mg x = none) (ha : PE X a (tX X.K B f)) (hg : Gl X x := by rfl) (hv : bootBuiltins x = some (.builtin id) := by decide +kernel) (hn : x ≠ "__name__" := by decide) (hdb : (x == ("__debug__" : Str)) = false := by decide)
    (h0 : starEach [a] X.env = (false, eval a X.env) :: starEach [] X.env := by rfl) (hpl : (backTo pos (starEach [] X.env)).any (·.1) = false := by rfl) : PE X (.Call (.Name x p) [a] [] pos) (tX X.K B (eUn u f)) :=
  pe_weak (pe_callB hc hg hm hv (pa_cons ha pa_nil h0) hn hdb h0 hpl) fun _ _ _ q => ru_weak (r := RU X.K u) q
theorem pv_t1 (hc : CallU X (.type Ty') u) (hm : X.mg x = none) (ha : PE X a (tX X.K B f)) (hg : Gl X x := by rfl) (hv : bootBuiltins x = some (.type Ty') := by decide +kernel) (hn : x ≠ "__name__" := by decide) (hdb : (x == ("__debug__" : Str)) = false := by decide)
    (h0 : starEach [a] X.env = (false, eval a X.env) :: starEach [] X.env := by rfl) (hpl : (backTo pos (starEach [] X.env)).any (·.1) = false := by rfl) : PE X (.Call (.Name x p) [a] [] pos) (tX X.K B (eUn u f)) :=
  pe_weak (pe_callTy hc hg hm hv (pa_cons ha pa_nil h0) hn hdb h0 hpl) fun _ _ _ q => ru_weak (r := RU X.K u) q
theorem own_sat {i : Nat} {η : Env} {P : D → Prop} {R : Cls → Prop} (q : (eOwn u i η).Sat P R) : ∃ ds, η[i]? = some (some (.own ds)) ∧ ∀ R', (u (.lst ds)).Sat P R' := by
  unfold eOwn at q
  split at q
  · rename_i ds e
    exact ⟨ds, e, fun R' => sat_calm q⟩
  · exact q.elim
theorem ro_weak {i : Nat} {σ : L2.St} {H : Hp} {Q : VK} (q : tX X.K B (eOwn u i) σ H Q) : tCB (RU X.K u) (tCons (tVar i) tNil) σ H Q := by
  obtain ⟨G, η, r, q⟩ := q
  obtain ⟨ds, e, q⟩ := own_sat q
  obtain ⟨v, h1, aa, vs, rfl, h0, hg, hh, ra⟩ := r.slot _ _ e
  exact ⟨_, h1, _, G, _, rfl, r.exg, .own (.inl (.inl hh)) ra, q fun _ => False⟩
theorem pv_b1O (i : Nat) {y : Str} {py : Pos} (hc : CallU X (.builtin id) u) (hm : X.mg x = none) (hg : Gl X x := by rfl) (hv : bootBuiltins x = some (.builtin id) := by decide +kernel) (hN : X.N[i]? = some y := by rfl) (hy : Vis X.env.scope y := by first | exact Or.inl rfl | exact Or.inr (Or.inl rfl) | exact Or.inr (Or.inr rfl)) (hd : (y == ("__debug__" : Str)) = false := by decide)
    (hcd : (y == ("__classdict__" : Str)) = false := by decide) (hn : x ≠ "__name__" := by decide) (hdb : (x == ("__debug__" : Str)) = false := by decide)
    (h0 : starEach [.Name y py] X.env = (false, eval (.Name y py) X.env) :: starEach [] X.env := by rfl) (hpl : (backTo pos (starEach [] X.env)).any (·.1) = false := by rfl) : PE X (.Call (.Name x p) [.Name y py] [] pos) (tX X.K B (eOwn u i)) :=
  pe_weak (pe_callB hc hg hm hv (pa_cons (pe_var hN hy hd hcd) pa_nil h0) hn hdb h0 hpl) fun _ _ _ q => ro_weak q
theorem pv_t1O (i : Nat) {y : Str} {py : Pos} (hc : CallU X (.type Ty') u) (hm : X.mg x = none) (hg : Gl X x := by rfl) (hv : bootBuiltins x = some (.type Ty') := by decide +kernel) (hN : X.N[i]? = some y := by rfl) (hy : Vis X.env.scope y := by first | exact Or.inl rfl | exact Or.inr (Or.inl rfl) | exact Or.inr (Or.inr rfl)) (hd : (y == ("__debug__" : Str)) = false := by decide)
    (hcd : (y == ("__classdict__" : Str)) = false := by decide) (hn : x ≠ "__name__" := by decide) (hdb : (x == ("__debug__" : Str)) = false := by decide)
    (h0 : starEach [.Name y py] X.env = (false, eval (.Name y py) X.env) :: starEach [] X.env := by rfl) (hpl : (backTo pos (starEach [] X.env)).any (·.1) = false := by rfl) : PE X (.Call (.Name x p) [.Name y py] [] pos) (tX X.K B (eOwn u i)) :=
  pe_weak (pe_callTy hc hg hm hv (pa_cons (pe_var hN hy hd hcd) pa_nil h0) hn hdb h0 hpl) fun _ _ _ q => ro_weak q
/-- min(a, b) -/
theorem pv_b2 {bo : D → D → Res D} (hc : CallR X (.builtin id) (RB X.K bo)) (hm : X.mg x = none) (ha : PE X a (tX X.K B f)) (hb : PE X b (tX X.K B g)) (hg : Gl X x := by rfl) (hv : bootBuiltins x = some (.builtin id) := by decide +kernel) (hn : x ≠ "__name__" := by decide) (hdb : (x == ("__debug__" : Str)) = false := by decide)
    (h0 : starEach [a, b] X.env = (false, eval a X.env) :: starEach [b] X.env := by rfl) (h1 : starEach [b] X.env = (false, eval b X.env) :: starEach [] X.env := by rfl) (hpl : (backTo pos (starEach [b] X.env)).any (·.1) = false := by rfl) : PE X (.Call (.Name x p) [a, b] [] pos) (tX X.K B (eBin bo f g)) :=
  pe_weak (pe_callB hc hg hm hv (pa_cons ha (pa_cons hb pa_nil h1) h0) hn hdb h0 hpl) fun σ H Q q => by
    obtain ⟨G, η, r, q⟩ := q
    refine tX.of r (sat_bind q) fun x hx G1 H1 v e1 r1 => ?_
    refine tX.of (r.extd e1) (sat_bind hx) fun y hy G2 H2 w e2 r2 => ?_
    exact ⟨v, w, G2, x, y, rfl, e2.gh, r1.mono e2.g, r2, Sat.mono (sat_calm hy) (fun d q G' H' u e3 r3 => q G' H' u ((e1.trans e2).trans e3) r3) fun _ z => z⟩
/-- isinstance(a, T) -/
theorem pv_isi (ty : Ty) {y : Str} {py : Pos} (hm : X.mg "isinstance" = none) (hm2 : X.mg y = none) (ha : PE X a (tX X.K B f)) (hv2 : bootBuiltins y = some (.type (tyN ty)) := by decide +kernel) (hg : Gl X "isinstance" := by rfl) (hg2 : Gl X y := by rfl) (hn2 : y ≠ "__name__" := by decide) (hdb2 : (y == ("__debug__" : Str)) = false := by decide)
    (h0 : starEach [a, .Name y py] X.env = (false, eval a X.env) :: starEach [.Name y py] X.env := by rfl) (h1 : starEach [.Name y py] X.env = (false, eval (.Name y py) X.env) :: starEach [] X.env := by rfl) (hpl : (backTo pos (starEach [.Name y py] X.env)).any (·.1) = false := by rfl) :
    PE X (.Call (.Name "isinstance" p) [a, .Name y py] [] pos) (tX X.K B (eUn (bIs ty) f)) := by
  have hc : CallR X (.builtin "isinstance") (fun xs H Q => ∃ x G d, xs = [x, .ty (tyN ty)] ∧ Ex G H ∧ Rp X.K G x d ∧ (bIs ty d).Sat (fun r => ∀ G' H' v, Ext G H G' H' → Rp X.K G' v r → Q v H') (fun _ => False)) := by
    intro pins s σ H xs us Q I r h
    obtain ⟨x, G, d, rfl, ex, rd, h⟩ := h
    exact isi_run I ex rd r h
  have h2 : PE X (.Name y py) (tC (.ty (tyN ty))) := pe_bltn hg2 hm2 hv2 rfl hn2 hdb2
  refine pe_weak (pe_callB hc hg hm (by decide +kernel) (pa_cons ha (pa_cons h2 pa_nil h1) h0) (by decide) (by decide) h0 hpl) fun σ H Q q => ?_
  obtain ⟨G, η, r, q⟩ := q
  refine tX.of r (un_sat q) fun x hx G1 H1 v e1 r1 => ?_
  exact ⟨v, G1, x, rfl, e1.gh, r1, Sat.mono (hx fun _ => False) (fun d q G' H' u e2 r2 => q G' H' u (e1.trans e2) r2) fun _ z => z⟩
end
end
end Bk
end
/-! BkLoops -/
section
set_option Elab.async false
set_option linter.all false
set_option autoImplicit false
set_option maxRecDepth 100000
set_option maxHeartbeats 4000000
/-! BkLoops: targets, what is walked, comprehensions, statements, loops -/
namespace Bk
open PySem PySem.Spec PyProof.Rows L2
section
variable {X : Cx} {B : Bs} {a b c e tg iter : Expr} {es : List Expr} {pos p : Pos} {f g h : E} {fs : List E} {t u : T}
/-! ### targets -/
def tGo (K : PySem.W.Frag) (B : Bs) (own : List Nat) (g : G) : TG := fun v σ H Q => ∃ G η d, RpE K B.G0 B.H0 G H σ η ∧ Rp K G v d ∧ (g d η).Sat (fun η' => ∀ σ', RpE K B.G0 B.H0 G H σ' η' → wipe σ' own = wipe σ own → Q σ' H) (fun _ => False)
theorem set_none_of {α : Type} {l : List (Option α)} {i : Nat} (h : l[i]? = some none) : l.set i none = l := by
  refine List.ext_getElem? fun j => ?_
  by_cases hj : i = j
  · subst hj
    rw [List.getElem?_set_self (lt_of_get h), h]
  · rw [List.getElem?_set_ne hj]
theorem wipe_get {σ : L2.St} {i : Nat} : ∀ {vs : List Nat}, i ∈ vs → i < σ.length → (wipe σ vs)[i]? = some none
  | v :: vs, h, hl => by
    show ((wipe σ vs).set v none)[i]? = some none
    have hl2 : i < (wipe σ vs).length := by rw [wipe_length]; exact hl
    by_cases hv : v = i
    · subst hv
      exact List.getElem?_set_self hl2
    · rw [List.getElem?_set_ne hv]
      rcases List.mem_cons.mp h with e | e
      · exact absurd e.symm hv
      · exact wipe_get e hl
theorem wipe_set {σ : L2.St} {i : Nat} {x : Option V} : ∀ {vs : List Nat}, i ∈ vs → wipe (σ.set i x) vs = wipe σ vs
  | v :: vs, h => by
    show (wipe (σ.set i x) vs).set v none = (wipe σ vs).set v none
    by_cases hv : i ∈ vs
    · rw [wipe_set hv]
    · have e : i = v := by
        rcases List.mem_cons.mp h with e | e
        · exact e
        · exact absurd e hv
      subst e
      have aux : ∀ ws : List Nat, i ∉ ws → wipe (σ.set i x) ws = (wipe σ ws).set i x := by
        intro ws
        induction ws with
        | nil => intro _; rfl
        | cons w ws ih =>
          intro hw
          simp only [List.mem_cons, not_or] at hw
          show (wipe (σ.set i x) ws).set w none = ((wipe σ ws).set w none).set i x
          rw [ih hw.2, List.set_comm _ _ hw.1]
      rw [aux vs hv, List.set_set]
theorem pg_n (i : Nat) (own : List Nat) {x : Str} (hN : X.N.Nodup) (hi : X.N[i]? = some x := by rfl) (hx : Loc X.env.scope x := by first | exact .inl rfl | exact .inr rfl) (ho : i ∈ own := by decide) (hf : X.fn x = true ∨ X.env.scope.names.lookup x = some .local := by first | exact .inl rfl | exact .inr rfl) :
    PG X (.Name x pos) (tGo X.K B own (gName i)) := pg_weak (L2.pg_name hN hi hx hf) fun v σ H Q q => by
  obtain ⟨G, η, d, r, rd, q⟩ := q
  exact q _ (r.set i rd) (wipe_set ho)
theorem pgs_n (i : Nat) {x : Str} (hN : X.N.Nodup) (hi : X.N[i]? = some x := by rfl) (hx : Loc X.env.scope x := by first | exact .inl rfl | exact .inr rfl) (hf : X.fn x = true ∨ X.env.scope.names.lookup x = some .local := by first | exact .inl rfl | exact .inr rfl) :
    PG X (.Name x pos) (L2.gName i) := L2.pg_name hN hi hx hf
theorem pg_2 {i j : Nat} (own : List Nat) {k : Nat} (hc : X.calm = true) (ha : PG X a (L2.gName i)) (hb : PG X b (L2.gName j)) (ho : i ∈ own := by decide) (ho2 : j ∈ own := by decide)
    (h1 : (assignEach [a, b] X.env).map (·.2) = assign a X.env :: (assignEach [b] X.env).map (·.2) := by rfl) (h2 : (assignEach [b] X.env).map (·.2) = assign b X.env :: (assignEach [] X.env).map (·.2) := by rfl)
    (hn : (assignEach [a, b] X.env).length = 2 := by rfl) (hst : (assignEach [a, b] X.env).findIdx? (·.1) = none := by rfl) : PG X (.Tuple [a, b] k pos) (tGo X.K B own (gPair i j)) :=
  pg_weak (L2.pg_tup hc (L2.pgs_cons ha (L2.pgs_cons hb L2.pgs_nil h2) h1) hn hst) fun v σ H Q q => by
    obtain ⟨G, η, d, r, rd, q⟩ := q
    cases rd with
    | tup hs ra =>
      rename_i aa vs ds
      rcases ds with _ | ⟨d1, _ | ⟨d2, _ | ⟨d3, ds⟩⟩⟩
      · exact q.elim
      · exact q.elim
      · cases ra with
        | cons r1 ra =>
          cases ra with
          | cons r2 ra =>
            cases ra
            refine ⟨_, _, rfl, r.exg.t hs, rfl, _, _, rfl, _, _, rfl, rfl, ?_⟩
            refine q _ ((r.set i r1).set j r2) ?_
            rw [wipe_set ho2, wipe_set ho]
      · exact q.elim
    | _ => exact q.elim
theorem pg_2L {i j : Nat} (own : List Nat) {k : Nat} (hc : X.calm = true) (ha : PG X a (L2.gName i)) (hb : PG X b (L2.gName j)) (ho : i ∈ own := by decide) (ho2 : j ∈ own := by decide)
    (h1 : (assignEach [a, b] X.env).map (·.2) = assign a X.env :: (assignEach [b] X.env).map (·.2) := by rfl) (h2 : (assignEach [b] X.env).map (·.2) = assign b X.env :: (assignEach [] X.env).map (·.2) := by rfl)
    (hn : (assignEach [a, b] X.env).length = 2 := by rfl) (hst : (assignEach [a, b] X.env).findIdx? (·.1) = none := by rfl) : PG X (.Tuple [a, b] k pos) (tGo X.K B own (gPairL i j)) :=
  pg_weak (L2.pg_lst hc (L2.pgs_cons ha (L2.pgs_cons hb L2.pgs_nil h2) h1) hn hst) fun v σ H Q q => by
    obtain ⟨G, η, d, r, rd, q⟩ := q
    cases rd with
    | lst hs ra =>
      rename_i aa vs ds
      rcases ds with _ | ⟨d1, _ | ⟨d2, _ | ⟨d3, ds⟩⟩⟩
      · exact q.elim
      · exact q.elim
      · cases ra with
        | cons r1 ra =>
          cases ra with
          | cons r2 ra =>
            cases ra
            refine ⟨_, _, rfl, r.exg.l hs, rfl, _, _, rfl, _, _, rfl, rfl, ?_⟩
            refine q _ ((r.set i r1).set j r2) ?_
            rw [wipe_set ho2, wipe_set ho]
      · exact q.elim
    | _ => exact q.elim
theorem pg_3 {i j l : Nat} (own : List Nat) {k : Nat} (hc : X.calm = true) (ha : PG X a (L2.gName i)) (hb : PG X b (L2.gName j)) (hd : PG X c (L2.gName l)) (ho : i ∈ own := by decide) (ho2 : j ∈ own := by decide) (ho3 : l ∈ own := by decide)
    (h1 : (assignEach [a, b, c] X.env).map (·.2) = assign a X.env :: (assignEach [b, c] X.env).map (·.2) := by rfl) (h2 : (assignEach [b, c] X.env).map (·.2) = assign b X.env :: (assignEach [c] X.env).map (·.2) := by rfl) (h3 : (assignEach [c] X.env).map (·.2) = assign c X.env :: (assignEach [] X.env).map (·.2) := by rfl)
    (hn : (assignEach [a, b, c] X.env).length = 3 := by rfl) (hst : (assignEach [a, b, c] X.env).findIdx? (·.1) = none := by rfl) : PG X (.Tuple [a, b, c] k pos) (tGo X.K B own (gTri i j l)) :=
  pg_weak (L2.pg_tup hc (L2.pgs_cons ha (L2.pgs_cons hb (L2.pgs_cons hd L2.pgs_nil h3) h2) h1) hn hst) fun v σ H Q q => by
    obtain ⟨G, η, d, r, rd, q⟩ := q
    cases rd with
    | tup hs ra =>
      rename_i aa vs ds
      rcases ds with _ | ⟨d1, _ | ⟨d2, _ | ⟨d3, _ | ⟨d4, ds⟩⟩⟩⟩
      · exact q.elim
      · exact q.elim
      · exact q.elim
      · cases ra with
        | cons r1 ra =>
          cases ra with
          | cons r2 ra =>
            cases ra with
            | cons r3 ra =>
              cases ra
              refine ⟨_, _, rfl, r.exg.t hs, rfl, _, _, rfl, _, _, rfl, _, _, rfl, rfl, ?_⟩
              refine q _ (((r.set i r1).set j r2).set l r3) ?_
              rw [wipe_set ho3, wipe_set ho2, wipe_set ho]
      · exact q.elim
    | _ => exact q.elim
/-! ### what is walked -/
structure WalkD (K : PySem.W.Frag) (J : It) (G0 : Hp) (ds : List D) : Prop where
  goes : ∀ i H, i < ds.length → Ex G0 H → J.go i H
  stops : ∀ H, Ex G0 H → J.stop ds.length H
  yields : ∀ (i : Nat) H x H' d, ds[i]? = some d → Ex G0 H → J.yld i H x H' → ∀ G, Ex G0 G → Ex G H → ∃ G', Ext G H G' H' ∧ Rp K G' x d
def tI (K : PySem.W.Frag) (B : Bs) (fi : I) : TI := fun σ H R => ∃ G η, RpE K B.G0 B.H0 G H σ η ∧ (fi η).Sat (fun ds => ∀ G' H' J, Ext G H G' H' → WalkD K J G' ds → R J H') (Rz B)
theorem pi_weak {t t' : TI} (h : PI X tg e t) (w : ∀ σ H Q, t' σ H Q → t σ H Q) : PI X tg e t' := ⟨fun pins s σ H Q I q => h.run pins s σ H Q I (w σ H Q q)⟩
theorem walkd_list {K : PySem.W.Frag} {G : Hp} {aa : Addr} {vs : List V} {ds : List D} (hs : SqL K G aa vs) (ra : RpAll K G vs ds) : WalkD K (Itl K aa) G ds := by
  refine ⟨fun i H hi ex => ?_, fun H ex => ⟨vs, ex.l hs, Nat.le_of_eq ra.length⟩, fun i H x H' d hd ex y G1 e1 e2 => ?_⟩
  · have hi' : i < vs.length := by rw [ra.length]; exact hi
    exact ⟨vs, vs[i], ex.l hs, List.getElem?_eq_getElem hi'⟩
  · obtain ⟨rfl, y⟩ := y
    obtain ⟨v, h1, h2⟩ := ra.get hd
    have := y vs (ex.l hs)
    rw [h1] at this
    cases this
    exact ⟨G1, Ext.refl e2, h2.mono e1⟩
theorem walkd_tup {K : PySem.W.Frag} {G : Hp} {aa : Addr} {vs : List V} {ds : List D} (hs : SqT K G aa vs) (ra : RpAll K G vs ds) : WalkD K (Itt K aa) G ds := by
  refine ⟨fun i H hi ex => ?_, fun H ex => ⟨vs, ex.t hs, Nat.le_of_eq ra.length⟩, fun i H x H' d hd ex y G1 e1 e2 => ?_⟩
  · have hi' : i < vs.length := by rw [ra.length]; exact hi
    exact ⟨vs, vs[i], ex.t hs, List.getElem?_eq_getElem hi'⟩
  · obtain ⟨rfl, y⟩ := y
    obtain ⟨v, h1, h2⟩ := ra.get hd
    have := y vs (ex.t hs)
    rw [h1] at this
    cases this
    exact ⟨G1, Ext.refl e2, h2.mono e1⟩
theorem signs_len (s : List Nat) : (signs s).length = s.length := by simp [signs]
theorem walkd_str {K : PySem.W.Frag} {G : Hp} (s : List Nat) : WalkD K (Its (Sx s)) G (signs s) := by
  refine ⟨fun i H hi _ => ?_, fun H _ => ?_, fun i H x H' d hd _ y G1 e1 e2 => ?_⟩
  · rw [signs_len] at hi
    show i < s.toArray.size
    simpa using hi
  · show s.toArray.size ≤ (signs s).length
    rw [signs_len]
    simp
  · obtain ⟨rfl, c, h1, rfl⟩ := y
    have h1 : s.toArray[i]? = some c := h1
    rw [List.getElem?_toArray] at h1
    unfold signs at hd
    rw [List.getElem?_map, h1] at hd
    cases hd
    exact ⟨G1, Ext.refl e2, .str [c]⟩
theorem numbers_len (lo : Int) (n : Nat) : (numbers lo n).length = n := by simp [numbers]
theorem walkd_range {K : PySem.W.Frag} {G : Hp} (lo : Int) (n : Nat) : WalkD K (Itr lo n) G (numbers lo n) := by
  refine ⟨fun i H hi _ => by rw [numbers_len] at hi; exact hi, fun H _ => by rw [numbers_len]; exact Nat.le_refl _, fun i H x H' d hd _ y G1 e1 e2 => ?_⟩
  obtain ⟨rfl, rfl⟩ := y
  have hi : i < n := by
    have := lt_of_get hd
    rw [numbers_len] at this
    exact this
  unfold numbers at hd
  rw [List.getElem?_map, List.getElem?_range hi] at hd
  cases hd
  exact ⟨G1, Ext.refl e2, .int _⟩
/-- any of a list, a tuple, a text -/
theorem pi_any (ha : PE X e (tX X.K B f)) : PI X tg e (tI X.K B (iAny f)) := by
  have hl := L2.pi_list (tg := tg) ha
  have ht := L2.pi_tup (tg := tg) ha
  have hs := L2.pi_str (tg := tg) ha
  refine ⟨fun pins s σ H R I q => ?_⟩
  obtain ⟨G, η, r, q⟩ := q
  have q := sat_bind q
  cases z : f η with
  | ok d =>
    rw [z] at q
    have fin : ∀ Q : VK, (∀ G' H' v, Ext G H G' H' → Rp X.K G' v d → Q v H') → tX X.K B f σ H Q := fun Q k => ⟨G, η, r, by rw [z]; exact k⟩
    cases d with
    | lst ds => exact hl.run pins s σ H R I (fin _ fun G1 H1 v e1 r1 => by
        cases r1 with
        | lst hs ra => exact ⟨_, rfl, ⟨_, e1.gh.l hs⟩, q G1 H1 _ e1 (walkd_list hs ra)⟩)
    | tup ds => exact ht.run pins s σ H R I (fin _ fun G1 H1 v e1 r1 => by
        cases r1 with
        | tup hs ra => exact ⟨_, rfl, ⟨_, e1.gh.t hs⟩, q G1 H1 _ e1 (walkd_tup hs ra)⟩)
    | str ds => exact hs.run pins s σ H R I (fin _ fun G1 H1 v e1 r1 => by
        cases r1
        exact ⟨_, rfl, q G1 H1 _ e1 (walkd_str ds)⟩)
    | _ => exact q.elim
  | raise cl =>
    rw [z] at q
    exact hl.run pins s σ H R I ⟨G, η, r, by rw [z]; exact q⟩
  | bad =>
    rw [z] at q
    exact q.elim
theorem rng_ok {i : Int} (h : rngOk i = true) : -(2 ^ 62) ≤ i ∧ i < 2 ^ 62 := by
  unfold rngOk at h
  rw [Bool.and_eq_true, decide_eq_true_eq, decide_eq_true_eq] at h
  exact h
theorem pi_rng1 (hm : X.mg "range" = none) (ha : PE X a (tX X.K B f)) (hg : Gl X "range" := by rfl) (h0 : starEach [a] X.env = (false, eval a X.env) :: starEach [] X.env := by rfl) (hs : starEach [a] X.env = [(false, eval a X.env)] := by rfl) : PI X tg (.Call (.Name "range" p) [a] [] pos) (tI X.K B (iRange1 f)) :=
  pi_weak (L2.pi_range1 hg hm (pa_cons ha pa_nil h0) hs) fun σ H R q => by
    obtain ⟨G, η, r, q⟩ := q
    refine tX.of r (sat_bind q) fun x hx G1 H1 v e1 r1 => ?_
    cases r1 with
    | int n =>
      obtain ⟨hr, hx⟩ := sat_if hx
      obtain ⟨h1, h2⟩ := rng_ok hr
      exact ⟨n, rfl, h1, h2, hx G1 H1 _ e1 (walkd_range 0 n.toNat)⟩
    | _ => exact hx.elim
theorem pi_rng2 (hm : X.mg "range" = none) (ha : PE X a (tX X.K B f)) (hb : PE X b (tX X.K B g)) (hg : Gl X "range" := by rfl) (h0 : starEach [a, b] X.env = (false, eval a X.env) :: starEach [b] X.env := by rfl) (h1 : starEach [b] X.env = (false, eval b X.env) :: starEach [] X.env := by rfl) (hs : starEach [a, b] X.env = [(false, eval a X.env), (false, eval b X.env)] := by rfl) (hs2 : starEach [b] X.env = [(false, eval b X.env)] := by rfl) :
    PI X tg (.Call (.Name "range" p) [a, b] [] pos) (tI X.K B (iRange2 f g)) :=
  pi_weak (L2.pi_range2 hg hm (pa_cons ha (pa_cons hb pa_nil h1) h0) hs hs2) fun σ H R q => by
    obtain ⟨G, η, r, q⟩ := q
    refine tX.of r (sat_bind q) fun x hx G1 H1 v e1 r1 => ?_
    refine tX.of (r.extd e1) (sat_bind hx) fun y hy G2 H2 w e2 r2 => ?_
    cases r1 with
    | int n =>
      cases r2 with
      | int m =>
        obtain ⟨hr, hx⟩ := sat_if hy
        rw [Bool.and_eq_true] at hr
        obtain ⟨k1, k2⟩ := rng_ok hr.1
        obtain ⟨k3, k4⟩ := rng_ok hr.2
        exact ⟨n, m, rfl, ⟨k1, k2, k3, k4⟩, hx G2 H2 _ (e1.trans e2) (walkd_range n (m - n).toNat)⟩
      | _ => exact hy.elim
    | _ => exact hy.elim
/-! ### comprehensions -/
theorem pts_y : PTs X [] (tT X.K B tYes) := ⟨fun pins s σ H Q I q => pts_nil.run pins s σ H Q I (by
  obtain ⟨G, η, r, q⟩ := q
  exact q G H (Ext.refl r.exg))⟩
theorem pts_1 (ha : PT X a (tT X.K B t)) : PTs X [a] (tT X.K B t) := pts_one ha
theorem lc_weak {own : List Nat} {fi : I} {gg : G} {σ : L2.St} {H : Hp} {Q : VK} {te : E} (q : tX X.K B (eComp own fi gg t te) σ H Q) :
    tLc (tI X.K B fi) (tGo X.K B own gg) (tT X.K B.calm t) (tX X.K B.calm te) own σ H Q := by
  obtain ⟨G, η, r, q⟩ := q
  refine ⟨G, η, r, Sat.mono (sat_bind q) (fun ds hds G1 H1 J e1 wk D hD => ?_) fun _ z => z⟩
  obtain ⟨hl, hds⟩ := sat_if hds
  have hds := sat_bind (sat_calm (R' := fun _ => False) hds)
  have r1 := r.extd e1
  have gD : G1 D = Option.none := e1.gh.none hD
  have e0 : Ext G H G1 (upd H1 D (.lst [])) := e1.trans (Ext.drop e1.gh hD)
  have nD : H D = Option.none := e1.h.none hD
  refine ⟨fun i m H' => m = ds.length - i ∧ i ≤ ds.length ∧ ∃ G' acc ys, Ext G H G' H' ∧ Ex G1 G' ∧ G' D = Option.none ∧ H' D = some (.lst acc) ∧ RpAll X.K G' acc ys ∧ ys.length ≤ i ∧
    (comp gg t te (wipes η own) (ds.drop i)).Sat (fun zs => ∀ G' H' v, Ext G H G' H' → Rp X.K G' v (.lst (ys ++ zs)) → Q v H') (fun _ => False),
    ⟨ds.length, by simp, Nat.zero_le _, G1, [], [], e0, Ex.refl _, gD, upd_same, .nil, Nat.zero_le _, hds⟩, ?_⟩
  rintro i m H' ⟨rfl, hi, G', acc, ys, x, xg, dn, hacc, ra, hyl, hc⟩
  have exH : Ex G1 H' := xg.trans x.gh
  by_cases hlt : i < ds.length
  · right
    refine ⟨wk.goes i H' hlt exH, fun H2 => i + 1 ≤ ds.length ∧ ∃ G' acc ys, Ext G H G' H2 ∧ Ex G1 G' ∧ G' D = Option.none ∧ H2 D = some (.lst acc) ∧ RpAll X.K G' acc ys ∧ ys.length ≤ i + 1 ∧
      (comp gg t te (wipes η own) (ds.drop (i + 1))).Sat (fun zs => ∀ G' H' v, Ext G H G' H' → Rp X.K G' v (.lst (ys ++ zs)) → Q v H') (fun _ => False), fun H2 hN => ⟨ds.length - (i + 1), by omega, rfl, hN⟩, fun v H2 yl => ?_⟩
    have hd : ds[i]? = some ds[i] := List.getElem?_eq_getElem hlt
    obtain ⟨G2, x2, rv⟩ := wk.yields i H' v H2 _ hd exH yl G' xg x.gh
    rw [List.drop_eq_getElem_cons hlt] at hc
    have hc := sat_bind hc
    have rw2 := wipe_rel (r.extd (x.trans x2)) own
    refine ⟨G2, wipes η own, ds[i], rw2, rv, Sat.mono (sat_calm hc) (fun η1 h1 σ2 r2 hw => ⟨?_, ?_⟩) fun _ z => z⟩
    · rw [hw]
      have idem : ∀ (vs : List Nat) (τ : L2.St), wipe (wipe τ vs) vs = wipe τ vs := by
        intro vs
        have aux : ∀ (ws : List Nat) (τ : L2.St), (∀ w ∈ ws, w < τ.length → τ[w]? = some none) → wipe τ ws = τ := by
          intro ws
          induction ws with
          | nil => intro τ _; rfl
          | cons w ws ih =>
            intro τ hτ
            show (wipe τ ws).set w none = τ
            rw [ih τ fun w' hw' => hτ w' (List.mem_cons_of_mem _ hw')]
            by_cases hl : w < τ.length
            · exact set_none_of (hτ w List.mem_cons_self hl)
            · exact List.set_eq_of_length_le (by omega)
        intro τ
        exact aux vs _ fun w hw hl => wipe_get hw (by rw [wipe_length] at hl; exact hl)
      exact idem own σ
    · refine tT.of (B := B.calm) (G := G2) (η := η1) r2 (P := fun bb => (if bb = true then (te η1).bind fun y => (comp gg t te (wipes η own) (ds.drop (i + 1))).bind fun ys => .ok (y :: ys) else comp gg t te (wipes η own) (ds.drop (i + 1))).Sat (fun zs => ∀ G' H' v, Ext G H G' H' → Rp X.K G' v (.lst (ys ++ zs)) → Q v H') (fun _ => False)) (Sat.mono (sat_bind h1) (fun _ z => z) fun _ z => z.elim) fun bb hb G3 H3 x3 => ?_
      have hD3 : H3 D = some (.lst acc) := x3.h _ _ (x2.h _ _ hacc)
      have dn2 : G2 D = Option.none := x2.fr D dn (by rw [hacc]; exact fun z => nomatch z)
      have dn3 : G3 D = Option.none := x3.fr D dn2 (by rw [x2.h _ _ hacc]; exact fun z => nomatch z)
      have xx3 : Ext G H G3 H3 := (x.trans x2).trans x3
      cases bb with
      | false =>
        rw [if_neg Bool.false_ne_true] at hb ⊢
        exact ⟨hlt, G3, acc, ys, xx3, (xg.trans x2.g).trans x3.g, dn3, hD3, (ra.mono x2.g).mono x3.g, by omega, hb⟩
      | true =>
        rw [if_pos rfl] at hb ⊢
        have r3 : RpE X.K B.G0 B.H0 G3 H3 σ2 η1 := r2.extd x3
        refine tX.of (B := B.calm) (G := G3) (η := η1) r3 (Sat.mono (sat_bind hb) (fun _ z => z) fun _ z => z.elim) fun y hy G4 H4 w x4 rw4 => ?_
        have hy := sat_bind hy
        have hD4 : H4 D = some (.lst acc) := x4.h _ _ hD3
        have dn4 : G4 D = Option.none := x4.fr D dn3 (by rw [hD3]; exact fun z => nomatch z)
        have xx4 : Ext G H G4 H4 := xx3.trans x4
        have al := ra.length
        have hl' : ds.length ≤ 16777216 := hl
        refine ⟨acc, hD4, by rw [line_eq]; show acc.length < 16777216; omega, hlt, G4, acc ++ [w], ys ++ [y], ⟨xx4.g, fun b o z => ?_, fun b o z => ?_, xx4.fr⟩, ((xg.trans x2.g).trans x3.g).trans x4.g, dn4, upd_same, (((ra.mono x2.g).mono x3.g).mono x4.g).snoc rw4, by rw [List.length_append, List.length_singleton]; omega, Sat.mono hy (fun zs q G' H' v e r => q G' H' v e (by rw [List.append_assoc] at r; exact r)) fun _ z => z⟩
        · rw [upd_ne (ne_of_none z dn4)]
          exact xx4.gh b o z
        · rw [upd_ne (ne_of_none z nD)]
          exact xx4.h b o z
  · left
    have ei : i = ds.length := by omega
    subst ei
    refine ⟨wk.stops H' exH, ?_⟩
    rw [List.drop_length] at hc
    have hc : ∀ G' H' v, Ext G H G' H' → Rp X.K G' v (.lst (ys ++ [])) → Q v H' := hc
    rw [List.append_nil] at hc
    refine hc (upd G' D (.lst acc)) H' (.ref D) ⟨fun b o z => ?_, fun b o z => ?_, x.h, fun b h1 h2 => ?_⟩ (.lst (.inl (.inl upd_same)) (ra.mono (Ex.new dn)))
    · rw [upd_ne (ne_of_none (x.g b o z) dn)]
      exact x.g b o z
    · by_cases hb : b = D
      · subst hb
        rw [upd_same] at z
        cases z
        exact hacc
      · rw [upd_ne hb] at z
        exact x.gh b o z
    · have hb : b ≠ D := fun z => by
        subst z
        exact h2 nD
      rw [upd_ne hb]
      exact x.fr b h1 h2
theorem pv_lc (own : List (Str × Nat)) {own' : List Nat} {elt : Expr} {ifs : List Expr} {scope : Scope} {fi : I} {gg : G} {te : E} (hc : X.calm = true) (hN : X.N.Nodup) (hi : PI X tg iter (tI X.K B fi)) (ok : BlkOk X.N X.env.scope scope own)
    (hg : ∀ (s : Shared) (H : Hp) (C : Addr) (cl : List (Str × Addr)) (fp : List Addr), PG (X.blk s H scope (compEnvC scope cl C X.env) fp) tg (tGo X.K B own' gg)) (ht : ∀ (s : Shared) (H : Hp) (C : Addr) (cl : List (Str × Addr)) (fp : List Addr), PTs (X.blk s H scope (compEnvC scope cl C X.env) fp) ifs (tT X.K B.calm t))
    (he : ∀ (s : Shared) (H : Hp) (C : Addr) (cl : List (Str × Addr)) (fp : List Addr), PE (X.blk s H scope (compEnvC scope cl C X.env) fp) elt (tX X.K B.calm te)) (ho : own' = own.map (·.2) := by rfl) (hs : ∀ x, foldedSetIterable iter X.env x = pure x := by intro _; rfl) :
    PE X (.ListComp elt [⟨tg, iter, ifs, 0⟩] scope pos) (tX X.K B (eComp own' fi gg t te)) := by
  subst ho
  exact pe_weak (pe_lc hc hN hi ok hg ht he hs) fun σ H Q q => lc_weak q
end
end Bk
end
/-! BkStmts -/
section
set_option Elab.async false
set_option linter.all false
set_option autoImplicit false
set_option maxRecDepth 100000
set_option maxHeartbeats 4000000
/-! BkStmts: statements, loops, defs and their calls -/
namespace Bk
open PySem PySem.Spec PyProof.Rows L2
theorem Fin.ofSat {K : PySem.W.Frag} {B : Bs} {D : Ends} {G : Hp} {α : Type} {m : Res α} {k : α → Out} {P : α → Prop} (h : m.Sat P (Rz B)) (q : ∀ a, P a → Fin K B D G (k a)) : Fin K B D G (outOf m k) := by
  cases m with
  | ok a => exact q a h
  | raise c => exact h
  | bad => exact h.elim
section
variable {X : Cx} {B : Bs} {a b c e tg iter : Expr} {es : List Expr} {pos p : Pos} {f g h : E} {fs : List E} {t u : T} {st : Stmt} {rest body orelse : List Stmt} {s1 s2 : St}
theorem ss_nil : PSs X [] (tS X.K B sSkip) := pss_weak pss_nil fun D σ H q => by
  obtain ⟨G, η, r, q⟩ := q
  exact q G H σ (Ex.refl G) r
theorem ss_cons (h1 : PS X st (tS X.K B s1)) (h2 : PSs X rest (tS X.K B s2)) : PSs X (st :: rest) (tS X.K B (sSeq s1 s2)) := pss_weak (pss_cons h1 h2) fun D σ H q => by
  obtain ⟨G, η, r, q⟩ := q
  exact ⟨G, η, r, Fin.andThen q⟩
theorem ss_one (h1 : PS X st (tS X.K B s1)) : PSs X [st] (tS X.K B s1) := pss_one h1
/-- x = e, where nothing is to be said of tuples -/
theorem asg_weak {own : List Nat} {gg : G} (q : ∃ σ H D, tS X.K B (sAsg f gg) D σ H) : True := True.intro
theorem asg_w {own : List Nat} {gg : G} {D : Ends} {σ : L2.St} {H : Hp} (q : tS X.K B (sAsg f gg) D σ H) : tAsg (tX X.K B f) (tGo X.K B own gg) D σ H := by
  obtain ⟨G, η, r, q⟩ := q
  refine tX.of r (Fin.ofRes q) fun d hd G1 H1 v e1 r1 => ?_
  have hd : Fin X.K B D G (outOf (gg d η).calm fun η' => .next η') := hd
  refine ⟨G1, η, d, r.extd e1, r1, ?_⟩
  cases z : gg d η with
  | ok η' =>
    rw [z] at hd
    exact fun σ' r2 _ => hd G1 H1 σ' e1.g r2
  | raise cl =>
    rw [z] at hd
    exact hd.elim
  | bad =>
    rw [z] at hd
    exact hd.elim
theorem s_asg {own : List Nat} {gg : G} (ha : PE X a (tX X.K B f)) (hg : PG X tg (tGo X.K B own gg)) (hs : swapsWithSole [tg] a pos.line X.env = pure false := by rfl) (hw : swappedStores [tg] a X.env = pure none := by rfl)
    (h1 : (assignEach [tg] X.env).map (·.2) = [assign tg X.env] := by rfl) : PS X (.Assign [tg] a pos) (tS X.K B (sAsg f gg)) := ps_weak (ps_asg ha hg hs hw h1) fun D σ H q => asg_w q
theorem s_set (i : Nat) {x : Str} {px : Pos} (hN : X.N.Nodup) (ha : PE X a (tX X.K B f)) (hi : X.N[i]? = some x := by rfl) (hx : Loc X.env.scope x := by first | exact .inl rfl | exact .inr rfl) (hs : swapsWith a (some (.Name x px)) pos.line X.env = pure false := by rfl) (hf : X.fn x = true ∨ X.env.scope.names.lookup x = some .local := by first | exact .inl rfl | exact .inr rfl) :
    PS X (.Assign [.Name x px] a pos) (tS X.K B (sSet i f)) := ps_weak (ps_set hN hi hx ha hs hf) fun D σ H q => by
  obtain ⟨G, η, r, q⟩ := q
  refine tX.of r (Fin.ofRes q) fun d hd G1 H1 v e1 r1 => ?_
  have hd : Fin X.K B D G (.next (η.set i (some (.dat d)))) := hd
  exact hd G1 H1 _ e1.g ((r.extd e1).set i r1)
/-- x = [.. for ..] on one line -/
theorem s_setLc (i : Nat) (own : List (Str × Nat)) {own' : List Nat} {y : Str} {py : Pos} {elt : Expr} {ifs : List Expr} {scope : Scope} {spos : Pos} {fi : I} {gg : G} {te : E} (hc : X.calm = true) (hN : X.N.Nodup) (hi : PI X tg iter (tI X.K B fi)) (ok : BlkOk X.N X.env.scope scope own)
    (hg : ∀ (s : Shared) (H : Hp) (C : Addr) (cl : List (Str × Addr)) (fp : List Addr), PG (X.blk s H scope (compEnvC scope cl C X.env) fp) tg (tGo X.K B own' gg)) (ht : ∀ (s : Shared) (H : Hp) (C : Addr) (cl : List (Str × Addr)) (fp : List Addr), PTs (X.blk s H scope (compEnvC scope cl C X.env) fp) ifs (tT X.K B.calm t))
    (he : ∀ (s : Shared) (H : Hp) (C : Addr) (cl : List (Str × Addr)) (fp : List Addr), PE (X.blk s H scope (compEnvC scope cl C X.env) fp) elt (tX X.K B.calm te)) (ho : own' = own.map (·.2) := by rfl) (hy : X.N[i]? = some y := by rfl) (hyl : X.env.scope.names.lookup y = some .local := by rfl)
    (hsw : swapsWith (.ListComp elt [⟨tg, iter, ifs, 0⟩] scope pos) (some (.Name y py)) spos.line X.env = pure true := by exact sw_true rfl rfl rfl (by decide +kernel)) (hs : ∀ x, foldedSetIterable iter X.env x = pure x := by intro _; rfl) :
    PS X (.Assign [.Name y py] (.ListComp elt [⟨tg, iter, ifs, 0⟩] scope pos) spos) (tS X.K B (sSet i (eComp own' fi gg t te))) := by
  subst ho
  refine ps_weak (ps_setLc hc hN hy hyl hsw hi ok hg ht he hs) fun D σ H q => ?_
  obtain ⟨G, η, r, q⟩ := q
  refine lc_weak (B := B) (tX.of r (Fin.ofRes q) fun d hd G1 H1 v e1 r1 => ?_)
  have hd : Fin X.K B D G (.next (η.set i (some (.dat d)))) := hd
  exact hd G1 H1 _ e1.g ((r.extd e1).set i r1)
theorem s_drop (ha : PE X a (tX X.K B f)) (hs : swapsWith a none pos.line X.env = pure false := by rfl) : PS X (.Expr a pos) (tS X.K B (sDrop f)) := ps_weak (ps_expr ha hs) fun D σ H q => by
  obtain ⟨G, η, r, q⟩ := q
  refine tX.of r (Fin.ofRes q) fun d hd G1 H1 v e1 r1 => ?_
  have hd : Fin X.K B D G (.next η) := hd
  exact hd G1 H1 _ e1.g (r.extd e1)
theorem s_ret (ha : PE X a (tX X.K B f)) : PS X (.Return (some a) pos) (tS X.K B (sRet f)) := ps_weak (ps_ret ha) fun D σ H q => by
  obtain ⟨G, η, r, q⟩ := q
  refine tX.of r (Fin.ofRes q) fun d hd G1 H1 v e1 r1 => ?_
  have hd : Fin X.K B D G (.ret d) := hd
  exact hd G1 H1 v e1.g (r.ext.trans e1) r1
/-- return of the def's own list -/
theorem s_retO (i : Nat) {x : Str} (hN : X.N[i]? = some x := by rfl) (hv : Vis X.env.scope x := by first | exact Or.inl rfl | exact Or.inr (Or.inl rfl) | exact Or.inr (Or.inr rfl)) (hd : (x == ("__debug__" : Str)) = false := by decide)
    (hcd : (x == ("__classdict__" : Str)) = false := by decide) : PS X (.Return (some (.Name x p)) pos) (tS X.K B (sRetOwn i)) := ps_weak (ps_ret (pe_var hN hv hd hcd)) fun D σ H q => by
  obtain ⟨G, η, r, q⟩ := q
  unfold sRetOwn at q
  split at q
  · rename_i ds e
    obtain ⟨v, h1, aa, vs, rfl, h0, hg, hh, ra⟩ := r.slot _ _ e
    refine ⟨_, h1, q (upd G aa (.lst vs)) H (.ref aa) (Ex.new hg) ⟨fun z o w => ?_, fun z o w => ?_, r.ext.h, fun z w1 w2 => ?_⟩ (.lst (.inl (.inl upd_same)) (ra.mono (Ex.new hg)))⟩
    · rw [upd_ne (ne_of_none (r.ext.g z o w) hg)]
      exact r.ext.g z o w
    · by_cases hz : z = aa
      · subst hz
        rw [upd_same] at w
        cases w
        exact hh
      · rw [upd_ne hz] at w
        exact r.ext.gh z o w
    · have hz : z ≠ aa := fun y => by
        subst y
        exact w2 h0
      rw [upd_ne hz]
      exact r.ext.fr z w1 w2
  · exact q.elim
theorem s_if (hc : PT X a (tT X.K B t)) (h1 : PSs X body (tS X.K B s1)) (h2 : PSs X orelse (tS X.K B s2)) : PS X (.If a body orelse pos) (tS X.K B (sIf t s1 s2)) := ps_weak (ps_if hc h1 h2) fun D σ H q => by
  obtain ⟨G, η, r, q⟩ := q
  refine tT.of r (Fin.ofRes q) fun k hk G1 H1 e1 => ?_
  cases k with
  | true =>
    rw [if_pos rfl] at hk ⊢
    exact ⟨G1, η, r.extd e1, Fin.up e1.g hk⟩
  | false =>
    rw [if_neg Bool.false_ne_true] at hk ⊢
    exact ⟨G1, η, r.extd e1, Fin.up e1.g hk⟩
theorem s_brk : PS X (.Break pos) (tS X.K B sBrk) := ps_weak ps_break fun D σ H q => by
  obtain ⟨G, η, r, q⟩ := q
  exact q G H σ (Ex.refl G) r
theorem s_cont : PS X (.Continue pos) (tS X.K B sCont) := ps_weak ps_continue fun D σ H q => by
  obtain ⟨G, η, r, q⟩ := q
  exact q G H σ (Ex.refl G) r
/-! ### loops -/
theorem loop_step {K : PySem.W.Frag} {D : Ends} {G : Hp} {gg : Bk.G} {b : St} {d : Bk.D} {ds : List Bk.D} {η : Env} (h : Fin K B D G (loop gg b (d :: ds) η)) : (gg d η).Sat (fun η1 => Fin K B D G (match b η1 with
    | .next η' => loop gg b ds η'
    | .ct η' => loop gg b ds η'
    | .brk η' => .next η'
    | o => o)) (fun _ => False) := by
  have h : Fin K B D G (outOf (gg d η).calm fun η1 => match b η1 with
    | .next η' => loop gg b ds η'
    | .ct η' => loop gg b ds η'
    | .brk η' => .next η'
    | o => o) := h
  cases z : gg d η with
  | ok η' =>
    rw [z] at h
    exact h
  | raise cl =>
    rw [z] at h
    exact h.elim
  | bad =>
    rw [z] at h
    exact h.elim
theorem s_for {own : List Nat} {fi : I} {gg : G} (hp : PassesOwn (model X.prog X.w) X.A X.env X.xe) (hc : X.calm = true) (hi : PI X tg iter (tI X.K B fi)) (hg : PG X tg (tGo X.K B own gg)) (hb : PSs X body (tS X.K B s1))
    (hs : ∀ x, foldedSetIterable iter X.env x = pure x := by intro _; rfl) : PS X (.For tg iter body [] pos) (tS X.K B (sFor fi gg s1)) := ps_weak (ps_for hp hc hi hg hb hs) fun D σ H q => by
  obtain ⟨G, η, r, q⟩ := q
  refine ⟨G, η, r, Sat.mono (Fin.ofRes q) (fun ds hds G1 H1 J e1 wk => ?_) fun _ z => z⟩
  refine ⟨fun i m σ' H' => m = ds.length - i ∧ i ≤ ds.length ∧ ∃ G' η', Ex G1 G' ∧ RpE X.K B.G0 B.H0 G' H' σ' η' ∧ Fin X.K B D G' (loop gg s1 (ds.drop i) η'), ⟨ds.length, by simp, Nat.zero_le _, G1, η, Ex.refl _, r.extd e1, Fin.up e1.g hds⟩, ?_⟩
  rintro i m σ' H' ⟨rfl, hi', G', η', xg, r', hq⟩
  have exH : Ex G1 H' := xg.trans r'.exg
  by_cases hlt : i < ds.length
  · right
    refine ⟨wk.goes i H' hlt exH, fun σ2 H2 => i + 1 ≤ ds.length ∧ ∃ G' η', Ex G1 G' ∧ RpE X.K B.G0 B.H0 G' H2 σ2 η' ∧ Fin X.K B D G' (loop gg s1 (ds.drop (i + 1)) η'), fun σ2 H2 hN => ⟨ds.length - (i + 1), by omega, rfl, hN⟩, fun v H2 yl => ?_⟩
    have hd : ds[i]? = some ds[i] := List.getElem?_eq_getElem hlt
    obtain ⟨G2, x2, rv⟩ := wk.yields i H' v H2 _ hd exH yl G' xg r'.exg
    rw [List.drop_eq_getElem_cons hlt] at hq
    refine ⟨G2, η', ds[i], r'.extd x2, rv, Sat.mono (loop_step hq) (fun η1 h1 σ3 r3 _ => ⟨G2, η1, r3, ?_⟩) fun _ z => z⟩
    cases z : s1 η1 with
    | next η2 =>
      rw [z] at h1
      exact fun G4 H4 σ4 x4 r4 => ⟨hlt, G4, η2, (xg.trans x2.g).trans x4, r4, Fin.up (x2.g.trans x4) h1⟩
    | ct η2 =>
      rw [z] at h1
      exact fun G4 H4 σ4 x4 r4 => ⟨hlt, G4, η2, (xg.trans x2.g).trans x4, r4, Fin.up (x2.g.trans x4) h1⟩
    | brk η2 =>
      rw [z] at h1
      exact fun G4 H4 σ4 x4 r4 => h1 G4 H4 σ4 (x2.g.trans x4) r4
    | ret d =>
      rw [z] at h1
      exact fun G4 H4 v4 x4 r4 => h1 G4 H4 v4 (x2.g.trans x4) r4
    | raise cl =>
      rw [z] at h1
      exact h1
    | bad =>
      rw [z] at h1
      exact h1
  · left
    have ei : i = ds.length := by omega
    subst ei
    rw [List.drop_length] at hq
    exact ⟨wk.stops H' exH, hq G' H' σ' (Ex.refl _) r'⟩
theorem s_while (n : Nat) (hp : PassesOwn (model X.prog X.w) X.A X.env X.xe) (hc : PT X a (tT X.K B t)) (hb : PSs X body (tS X.K B s1)) : PS X (.While a body [] pos) (tS X.K B (sWhile n t s1)) := ps_weak (ps_while hp hc hb) fun D σ H q => by
  obtain ⟨G, η, r, q⟩ := q
  refine ⟨fun m σ' H' => ∃ G' η', Ex G G' ∧ RpE X.K B.G0 B.H0 G' H' σ' η' ∧ Fin X.K B D G' (whil t s1 m η'), ⟨n, G, η, Ex.refl _, r, q⟩, ?_⟩
  rintro m σ' H' ⟨G', η', xg, r', hq⟩
  cases m with
  | zero => exact hq.elim
  | succ m =>
    refine tT.of r' (Fin.ofRes hq) fun k hk G1 H1 e1 => ?_
    cases k with
    | false =>
      rw [if_neg Bool.false_ne_true] at hk ⊢
      exact hk G1 H1 σ' e1.g (r'.extd e1)
    | true =>
      rw [if_pos rfl] at hk ⊢
      refine ⟨fun σ2 H2 => ∃ G' η', Ex G G' ∧ RpE X.K B.G0 B.H0 G' H2 σ2 η' ∧ Fin X.K B D G' (whil t s1 m η'), fun σ2 H2 hN => ⟨m, Nat.lt_succ_self m, hN⟩, ⟨G1, η', r'.extd e1, ?_⟩⟩
      cases z : s1 η' with
      | next η2 =>
        rw [z] at hk
        exact fun G4 H4 σ4 x4 r4 => ⟨G4, η2, (xg.trans e1.g).trans x4, r4, Fin.up (e1.g.trans x4) hk⟩
      | ct η2 =>
        rw [z] at hk
        exact fun G4 H4 σ4 x4 r4 => ⟨G4, η2, (xg.trans e1.g).trans x4, r4, Fin.up (e1.g.trans x4) hk⟩
      | brk η2 =>
        rw [z] at hk
        exact fun G4 H4 σ4 x4 r4 => hk G4 H4 σ4 (e1.g.trans x4) r4
      | ret d =>
        rw [z] at hk
        exact fun G4 H4 v4 x4 r4 => hk G4 H4 v4 (e1.g.trans x4) r4
      | raise cl =>
        rw [z] at hk
        exact hk
      | bad =>
        rw [z] at hk
        exact hk
/-! ### the def's own lists -/
/-- x = [..] -/
theorem s_new (i : Nat) {x : Str} {px p2 : Pos} (hN : X.N.Nodup) (ha : PA X es (tA X.K B fs)) (hl : fs.length ≤ 1000 := by first | decide | simp) (hi : X.N[i]? = some x := by rfl) (hx : Loc X.env.scope x := by first | exact .inl rfl | exact .inr rfl) (hs : swapsWith (.List es p2) (some (.Name x px)) pos.line X.env = pure false := by rfl) (hf : X.fn x = true ∨ X.env.scope.names.lookup x = some .local := by first | exact .inl rfl | exact .inr rfl) :
    PS X (.Assign [.Name x px] (.List es p2) pos) (tS X.K B (sNew i fs)) := ps_weak (ps_set hN hi hx (pe_lst ha) hs hf) fun D σ H q => by
  obtain ⟨G, η, r, q⟩ := q
  refine tA.of r (evals_len (Fin.ofRes q)) fun ds hds G1 H1 vs e1 r1 => ?_
  have hd : Fin X.K B D G (.next (η.set i (some (.own ds)))) := hds.2
  refine ⟨by rw [r1.length, hds.1, line_eq]; show fs.length ≤ 16777216; omega, fun p hp => ?_⟩
  have r2 := r.extd e1
  refine hd G1 (upd H1 p (.lst vs)) _ e1.g (r2.setNew i hp ⟨p, vs, rfl, r2.ext.h.none hp, e1.gh.none hp, upd_same, r1⟩)
theorem s_newD (i : Nat) {x : Str} {px p2 : Pos} (hN : X.N.Nodup) (hi : X.N[i]? = some x := by rfl) (hx : Loc X.env.scope x := by first | exact .inl rfl | exact .inr rfl) (hs : swapsWith (.Dict [] [] p2) (some (.Name x px)) pos.line X.env = pure false := by rfl) (hf : X.fn x = true ∨ X.env.scope.names.lookup x = some .local := by first | exact .inl rfl | exact .inr rfl) :
    PS X (.Assign [.Name x px] (.Dict [] [] p2) pos) (tS X.K B (sNewD i)) := ps_weak (ps_set hN hi hx pe_dnewK hs hf) fun D σ H q => by
  obtain ⟨G, η, r, q⟩ := q
  intro p hp
  exact q G (upd H p (.dK [])) _ (Ex.refl G) (r.setNew i hp ⟨p, [], rfl, r.ext.h.none hp, r.exg.none hp, upd_same, .nil⟩)
theorem app_fin {K : PySem.W.Frag} {D : Ends} {G H : Hp} {σ : L2.St} {η : Env} {i : Nat} {d : Bk.D} {v : V} (r : RpE K B.G0 B.H0 G H σ η) (rd : Rp K G v d) (q : Fin K B D G (appTo i d η)) :
    ∃ aa vs, σ[i]? = some (some (.ref aa)) ∧ H aa = some (.lst vs) ∧ vs.length < sizeLine ∧ D.nx σ (upd H aa (.lst (vs ++ [v]))) := by
  unfold appTo at q
  split at q
  · rename_i ds e
    by_cases hl : ds.length < lim
    · rw [if_pos hl] at q
      obtain ⟨w, h1, aa, vs, rfl, h0, hg, hh, ra⟩ := r.slot _ _ e
      refine ⟨aa, vs, h1, hh, by rw [ra.length, line_eq]; exact hl, ?_⟩
      exact q G _ σ (Ex.refl G) (r.mut e rfl rfl h1 h0 hg ⟨aa, _, rfl, h0, hg, upd_same, ra.snoc rd⟩)
    · rw [if_neg hl] at q
      exact q.elim
  · exact q.elim
/-- x.append(e) -/
theorem s_app (i : Nat) {x : Str} {px apos cpos : Pos} (ha : PE X a (tX X.K B f)) (hN : X.N[i]? = some x := by rfl) (hv : Vis X.env.scope x := by first | exact Or.inl rfl | exact Or.inr (Or.inl rfl) | exact Or.inr (Or.inr rfl)) (hd : (x == ("__debug__" : Str)) = false := by decide)
    (hcd : (x == ("__classdict__" : Str)) = false := by decide) (h0 : starEach [a] X.env = (false, eval a X.env) :: starEach [] X.env := by rfl)
    (hpe : ∀ {to : TE} {t : TA}, PE X (.Name x px) to → PA X [a] t → PE X (.Call (.Attribute (.Name x px) "append" apos) [a] [] cpos) (tBM X.K "list" rAppend to t) := by intro _ _ h1 h2; exact pe_bm PySem.F.plainAttrs_list PySem.F.slot_list_append PySem.F.type_list_append mt_append h1 h2)
    (hs : swapsWith (.Call (.Attribute (.Name x px) "append" apos) [a] [] cpos) none pos.line X.env = pure false := by rfl) : PS X (.Expr (.Call (.Attribute (.Name x px) "append" apos) [a] [] cpos) pos) (tS X.K B (sApp i f)) :=
  ps_weak (ps_expr (hpe (pe_var hN hv hd hcd) (pa_cons ha pa_nil h0)) hs) fun D σ H q => by
    obtain ⟨G, η, r, q⟩ := q
    unfold sApp at q
    split at q
    · rename_i ds e
      obtain ⟨w, h1, aa, vs, rfl, hh0, hg, hh, ra⟩ := r.slot _ _ e
      refine ⟨_, h1, .inl ⟨rfl, vs, .inl (.inl hh)⟩, tX.of r (Fin.ofRes q) fun d hd G1 H1 v e1 r1 => ?_⟩
      obtain ⟨aa', vs', k1, k2, k3, k4⟩ := app_fin (r.extd e1) r1 (Fin.up e1.g hd)
      rw [h1] at k1
      cases k1
      exact ⟨aa, vs', v, rfl, rfl, k2, k3, k4⟩
    · exact q.elim
/-! x.extend(e) -/
theorem ext_listW (l : Addr) (items : Array Value) (n : Nat) (b : Addr) (items2 : Array Value) (n2 : Nat) (dd2 : Option Addr) (sl2 : Array (Option Value)) (hc0 : ¬(!items.isEmpty && Builtin.List.listTooLong (items.size + items2.size)) = true) (hc1 : items.size ≤ sizeLine) (hs2 : items.size + items2.size ≤ sizeLine + 1) :
    Meets (Builtin.«list.extend» ⟨[.ref l, .ref b], []⟩) (fun _ R s => s.heap.get? l = some { cls := .type "list", dict := none, data := .seq items n, slots := #[] } ∧ s.heap.get? b = some { cls := .type "list", dict := dd2, data := .seq items2 n2, slots := sl2 } ∧ R (.ok (.ret Value.none)) { s with heap := s.heap.update l (Obj.mapSeq fun x => x ++ items2), toks := s.toks }) :=
  .of_wp fun prog w A R s h => by
    obtain ⟨hp, g, d, tk, os⟩ := s; obtain ⟨hl, hb, h⟩ := h; have f1 := AutoSeq1.idx_int; have f2 := AutoSeq1.sub_tuple_tuple; have f3 := AutoSeq1.sub_list_list; have f4 := AutoSeq1.sub_tuple_list; have f5 := AutoSeq1.sub_list_tuple;
    have hz' : (items ++ items2).size ≤ sizeLine + 1 := by rw [Array.size_append]; exact hs2
    wp_walk using (wpAny_updateSeq hl rfl (hz := hc1) (_hz' := hz')), AutoSeq1.wpAny_loadPart' hl, AutoSeq1.wpAny_loadPart' hb; exact ⟨_, rfl, h⟩
theorem ext_tupW (l : Addr) (items : Array Value) (n : Nat) (b : Addr) (items2 : Array Value) (n2 : Nat) (dd2 : Option Addr) (sl2 : Array (Option Value)) (hc0 : ¬(!items.isEmpty && Builtin.List.listTooLong (items.size + items2.size)) = true) (hc1 : items.size ≤ sizeLine) (hs2 : items.size + items2.size ≤ sizeLine + 1) :
    Meets (Builtin.«list.extend» ⟨[.ref l, .ref b], []⟩) (fun _ R s => s.heap.get? l = some { cls := .type "list", dict := none, data := .seq items n, slots := #[] } ∧ s.heap.get? b = some { cls := .type "tuple", dict := dd2, data := .seq items2 n2, slots := sl2 } ∧ R (.ok (.ret Value.none)) { s with heap := s.heap.update l (Obj.mapSeq fun x => x ++ items2), toks := s.toks }) :=
  .of_wp fun prog w A R s h => by
    obtain ⟨hp, g, d, tk, os⟩ := s; obtain ⟨hl, hb, h⟩ := h; have f1 := AutoSeq1.idx_int; have f2 := AutoSeq1.sub_tuple_tuple; have f3 := AutoSeq1.sub_list_list; have f4 := AutoSeq1.sub_tuple_list; have f5 := AutoSeq1.sub_list_tuple;
    have hz' : (items ++ items2).size ≤ sizeLine + 1 := by rw [Array.size_append]; exact hs2
    wp_walk using (wpAny_updateSeq hl rfl (hz := hc1) (_hz' := hz')), AutoSeq1.wpAny_loadPart' hl, AutoSeq1.wpAny_loadPart' hb; exact ⟨_, rfl, h⟩
def rExtD (K : PySem.W.Frag) : V → List V → Hp → VK → Prop := fun x vs H Q => ∃ l b xs zs, x = .ref l ∧ vs = [.ref b] ∧ H l = some (.lst xs) ∧ (SqL K H b zs ∨ SqT K H b zs) ∧ xs.length + zs.length ≤ sizeLine ∧ Q .non (upd H l (.lst (xs ++ zs)))
theorem mt_extD : MtM X "list.extend" (rExtD X.K) := by
  intro pins s σ H x vs v us Q I rx rv h
  obtain ⟨l, b, xs, zs, rfl, rfl, hH, hB, hz, q⟩ := h
  cases rx
  obtain ⟨u, rfl, ru⟩ := rv.one
  cases ru
  obtain ⟨z, its, n, r, hl, e⟩ := I.lstM hH
  have fin : ∀ its2 : List Value, Vals zs its2 → EP X pins σ Q Value.none { s with heap := s.heap.update l (Obj.mapSeq fun x => x ++ its2.toArray), toks := s.toks } := fun its2 r2 =>
    ⟨.non, _, I.lset (its' := its ++ its2) hH e (by simp) (r.append r2) (by rw [List.length_append]; exact hz), rfl, q⟩
  rcases hB with hB | hB
  · obtain ⟨its2, r2, ⟨⟨cls2, dd2, data2, sl2⟩, n2, ho2, hc2, hdd2, hd2⟩, z2⟩ := I.list hB
    simp only at hc2 hd2
    subst hc2 hd2
    have l2 := r2.length
    have hsz : its.toArray.size + its2.toArray.size ≤ sizeLine := by rw [List.size_toArray, List.size_toArray]; omega
    have hlong : ¬ (!its.toArray.isEmpty && Builtin.List.listTooLong (its.toArray.size + its2.toArray.size)) = true := by
      rw [notLongL hsz, Bool.and_false]
      exact Bool.false_ne_true
    exact call_meets F.slot_list_extend ⟨_, e, rfl⟩ F.entry_list_extend (F.args_list_extend_2 _ _) (ext_listW l its.toArray n b its2.toArray n2 dd2 sl2 hlong (by rw [List.size_toArray]; omega) (by omega)) ⟨e, ho2, fin its2 r2⟩
  · obtain ⟨its2, r2, ⟨⟨cls2, dd2, data2, sl2⟩, ho2, hc2, n2, hd2⟩, z2⟩ := I.tuple hB
    simp only at hc2 hd2
    subst hc2 hd2
    have l2 := r2.length
    have hsz : its.toArray.size + its2.toArray.size ≤ sizeLine := by rw [List.size_toArray, List.size_toArray]; omega
    have hlong : ¬ (!its.toArray.isEmpty && Builtin.List.listTooLong (its.toArray.size + its2.toArray.size)) = true := by
      rw [notLongL hsz, Bool.and_false]
      exact Bool.false_ne_true
    exact call_meets F.slot_list_extend ⟨_, e, rfl⟩ F.entry_list_extend (F.args_list_extend_2 _ _) (ext_tupW l its.toArray n b its2.toArray n2 dd2 sl2 hlong (by rw [List.size_toArray]; omega) (by omega)) ⟨e, ho2, fin its2 r2⟩
theorem s_ext (i : Nat) {x : Str} {px apos cpos : Pos} (ha : PE X a (tX X.K B f)) (hN : X.N[i]? = some x := by rfl) (hv : Vis X.env.scope x := by first | exact Or.inl rfl | exact Or.inr (Or.inl rfl) | exact Or.inr (Or.inr rfl)) (hd : (x == ("__debug__" : Str)) = false := by decide)
    (hcd : (x == ("__classdict__" : Str)) = false := by decide) (h0 : starEach [a] X.env = (false, eval a X.env) :: starEach [] X.env := by rfl)
    (hpe : ∀ {to : TE} {t : TA}, PE X (.Name x px) to → PA X [a] t → PE X (.Call (.Attribute (.Name x px) "extend" apos) [a] [] cpos) (tBM X.K "list" (rExtD X.K) to t) := by intro _ _ h1 h2; exact pe_bm PySem.F.plainAttrs_list PySem.F.slot_list_extend PySem.F.type_list_extend mt_extD h1 h2)
    (hs : swapsWith (.Call (.Attribute (.Name x px) "extend" apos) [a] [] cpos) none pos.line X.env = pure false := by rfl) : PS X (.Expr (.Call (.Attribute (.Name x px) "extend" apos) [a] [] cpos) pos) (tS X.K B (sExt i f)) :=
  ps_weak (ps_expr (hpe (pe_var hN hv hd hcd) (pa_cons ha pa_nil h0)) hs) fun D σ H q => by
    obtain ⟨G, η, r, q⟩ := q
    unfold sExt at q
    split at q
    · rename_i ds e
      obtain ⟨w, h1, aa, vs, rfl, hh0, hg, hh, ra⟩ := r.slot _ _ e
      refine ⟨_, h1, .inl ⟨rfl, vs, .inl (.inl hh)⟩, tX.of r (Fin.ofRes q) fun d hd G1 H1 v e1 r1 => ?_⟩
      have r2 := r.extd e1
      obtain ⟨w', h1', aa', vs', ew, hh0', hg', hh', ra'⟩ := r2.slot _ _ e
      rw [h1] at h1'
      cases h1'
      cases ew
      unfold extTo at hd
      rw [e] at hd
      have hd : Fin X.K B D G (outOf (seqOf d) fun xs => if ds.length + xs.length ≤ lim then .next (η.set i (some (.own (ds ++ xs)))) else .bad) := hd
      have close : ∀ (zs : List V) (xs : List Bk.D), RpAll X.K G1 zs xs → Fin X.K B D G (if ds.length + xs.length ≤ lim then .next (η.set i (some (.own (ds ++ xs)))) else .bad) → vs'.length + zs.length ≤ sizeLine ∧ D.nx σ (upd H1 aa (.lst (vs' ++ zs))) := fun zs xs rz hq => by
        by_cases hl : ds.length + xs.length ≤ lim
        · rw [if_pos hl] at hq
          refine ⟨by rw [ra'.length, rz.length, line_eq]; exact hl, ?_⟩
          exact hq G1 _ σ e1.g (r2.mut e rfl rfl h1 hh0' hg' ⟨aa, _, rfl, hh0', hg', upd_same, ra'.append rz⟩)
        · rw [if_neg hl] at hq
          exact hq.elim
      cases r1 with
      | lst hs rz =>
        obtain ⟨c1, c2⟩ := close _ _ rz hd
        exact ⟨aa, _, vs', _, rfl, rfl, hh', .inl (e1.gh.l hs), c1, c2⟩
      | tup hs rz =>
        obtain ⟨c1, c2⟩ := close _ _ rz hd
        exact ⟨aa, _, vs', _, rfl, rfl, hh', .inr (e1.gh.t hs), c1, c2⟩
      | _ => exact hd.elim
    · exact q.elim
/-! x.append(y.pop()) -/
theorem pop_rp {K : PySem.W.Frag} {G H : Hp} {σ : L2.St} {η η' : Env} {j : Nat} {d : Bk.D} (r : RpE K B.G0 B.H0 G H σ η) (h : popOf j η = .ok (d, η')) :
    ∃ aa vs v, σ[j]? = some (some (.ref aa)) ∧ H aa = some (.lst vs) ∧ vs[vs.length - 1]? = some v ∧ Rp K G v d ∧ RpE K B.G0 B.H0 G (upd H aa (.lst vs.dropLast)) σ η' := by
  unfold popOf at h
  split at h
  · rename_i ds e
    split at h
    · rename_i d' e2
      cases h
      obtain ⟨w, h1, aa, vs, rfl, h0, hg, hh, ra⟩ := r.slot _ _ e
      rw [← ra.length] at e2
      obtain ⟨v, k1, k2⟩ := ra.get e2
      exact ⟨aa, vs, v, h1, hh, k1, k2, r.mut e rfl rfl h1 h0 hg ⟨aa, _, rfl, h0, hg, upd_same, ra.dropLast⟩⟩
    · cases h
  · cases h
theorem s_appPop (i j : Nat) {x y : Str} {px py apos cpos apos2 cpos2 : Pos} (hN : X.N[i]? = some x := by rfl) (hv : Vis X.env.scope x := by first | exact Or.inl rfl | exact Or.inr (Or.inl rfl) | exact Or.inr (Or.inr rfl)) (hd : (x == ("__debug__" : Str)) = false := by decide)
    (hcd : (x == ("__classdict__" : Str)) = false := by decide) (hN2 : X.N[j]? = some y := by rfl) (hv2 : Vis X.env.scope y := by first | exact Or.inl rfl | exact Or.inr (Or.inl rfl) | exact Or.inr (Or.inr rfl)) (hd2 : (y == ("__debug__" : Str)) = false := by decide)
    (hcd2 : (y == ("__classdict__" : Str)) = false := by decide) (h0 : starEach [.Call (.Attribute (.Name y py) "pop" apos2) [] [] cpos2] X.env = (false, eval (.Call (.Attribute (.Name y py) "pop" apos2) [] [] cpos2) X.env) :: starEach [] X.env := by rfl)
    (hpp : ∀ {to : TE}, PE X (.Name y py) to → PE X (.Call (.Attribute (.Name y py) "pop" apos2) [] [] cpos2) (tBM0 X.K "list" rPop to) := by intro _ h1; exact pe_bm0 PySem.F.plainAttrs_list PySem.F.slot_list_pop PySem.F.type_list_pop mt_pop h1)
    (hpe : ∀ {to : TE} {t : TA}, PE X (.Name x px) to → PA X [.Call (.Attribute (.Name y py) "pop" apos2) [] [] cpos2] t → PE X (.Call (.Attribute (.Name x px) "append" apos) [.Call (.Attribute (.Name y py) "pop" apos2) [] [] cpos2] [] cpos) (tBM X.K "list" rAppend to t) := by intro _ _ h1 h2; exact pe_bm PySem.F.plainAttrs_list PySem.F.slot_list_append PySem.F.type_list_append mt_append h1 h2)
    (hs : swapsWith (.Call (.Attribute (.Name x px) "append" apos) [.Call (.Attribute (.Name y py) "pop" apos2) [] [] cpos2] [] cpos) none pos.line X.env = pure false := by rfl) : PS X (.Expr (.Call (.Attribute (.Name x px) "append" apos) [.Call (.Attribute (.Name y py) "pop" apos2) [] [] cpos2] [] cpos) pos) (tS X.K B (sAppPop i j)) :=
  ps_weak (ps_expr (hpe (pe_var hN hv hd hcd) (pa_cons (hpp (pe_var hN2 hv2 hd2 hcd2)) pa_nil h0)) hs) fun D σ H q => by
    obtain ⟨G, η, r, q⟩ := q
    unfold sAppPop at q
    split at q
    · rename_i ds e
      obtain ⟨w, h1, aa, vs, rfl, hh0, hg, hh, ra⟩ := r.slot _ _ e
      cases z : popOf j η with
      | ok p =>
        obtain ⟨d, η'⟩ := p
        rw [z] at q
        obtain ⟨ab, vs2, v, k1, k2, k3, k4, r2⟩ := pop_rp r z
        obtain ⟨aa', vs', c1, c2, c3, c4⟩ := app_fin r2 k4 q
        rw [h1] at c1
        cases c1
        exact ⟨_, h1, .inl ⟨rfl, vs, .inl (.inl hh)⟩, _, k1, .inl ⟨rfl, vs2, .inl (.inl k2)⟩, ab, vs2, v, rfl, rfl, k2, k3, aa, vs', v, rfl, rfl, c2, c3, c4⟩
      | raise cl =>
        rw [z] at q
        exact q.elim
      | bad =>
        rw [z] at q
        exact q.elim
    · exact q.elim
/-! ### the def's own dicts -/
theorem keyV_kV {K : PySem.W.Frag} {G : Hp} {v : V} {d : Bk.D} (rd : Rp K G v d) (h : keyD d = true) : ∃ k, keyV d = some k ∧ v = kV k := by
  cases rd with
  | int i => exact ⟨.inl i, rfl, rfl⟩
  | str s => exact ⟨.inr (Sx s), rfl, rfl⟩
  | _ => simp [keyD] at h
theorem sameKey_eq {d e : Bk.D} {k l : Key} (hd : keyV d = some k) (he : keyV e = some l) : sameKey d e = decide (k = l) := by
  cases d <;> simp [keyV] at hd <;> cases e <;> simp [keyV] at he
  · subst hd he
    simp [sameKey]
    rw [Bool.beq_eq_decide_eq]
  · subst hd he
    simp [sameKey]
  · subst hd he
    simp [sameKey]
  · subst hd he
    simp [sameKey]
    rw [Bool.beq_eq_decide_eq]
theorem kv_get {K : PySem.W.Frag} {G : Hp} : ∀ {kvs : List (Key × V)} {ks : List (Bk.D × Bk.D)} {kd : Bk.D} {k : Key}, RpKV K G kvs ks → keyV kd = some k → (∀ d, dget ks kd = some d → ∃ v, valV kvs k = some v ∧ Rp K G v d) ∧ (dget ks kd = Option.none → valV kvs k = Option.none)
  | _, _, kd, k, .nil, _ => ⟨fun d h => by simp [dget] at h, fun _ => rfl⟩
  | _, _, kd, k, .cons (k := k1) (v := v1) (kd := kd1) (d := d1) e1 r1 rr, e => by
    rename_i kvs ks
    obtain ⟨ih1, ih2⟩ := kv_get rr e
    have hs := sameKey_eq e1 e
    by_cases h : k1 = k
    · rw [decide_eq_true h] at hs
      have z : dget ((kd1, d1) :: ks) kd = some d1 := by simp [dget, hs]
      have z2 : valV ((k1, v1) :: kvs) k = some v1 := valV_pos h
      exact ⟨fun d hd => by rw [z] at hd; cases hd; exact ⟨v1, z2, r1⟩, fun hn => by rw [z] at hn; cases hn⟩
    · rw [decide_eq_false h] at hs
      have z : dget ((kd1, d1) :: ks) kd = dget ks kd := by simp [dget, hs]
      have z2 : valV ((k1, v1) :: kvs) k = valV kvs k := valV_neg h
      rw [z, z2]
      exact ⟨ih1, ih2⟩
theorem kv_len {K : PySem.W.Frag} {G : Hp} : ∀ {kvs : List (Key × V)} {ks : List (Bk.D × Bk.D)}, RpKV K G kvs ks → kvs.length = ks.length
  | _, _, .nil => rfl
  | _, _, .cons _ _ r => congrArg (· + 1) (kv_len r)
theorem kv_any {K : PySem.W.Frag} {G : Hp} {kd : Bk.D} {k : Key} (e : keyV kd = some k) : ∀ {kvs : List (Key × V)} {ks : List (Bk.D × Bk.D)}, RpKV K G kvs ks → (kvs.any fun kv => decide (kv.1 = k)) = ks.any fun kv => sameKey kv.1 kd
  | _, _, .nil => rfl
  | _, _, .cons e1 _ r => by
    rw [List.any_cons, List.any_cons, kv_any e r, sameKey_eq e1 e]
theorem kv_map {K : PySem.W.Frag} {G : Hp} {kd d : Bk.D} {k : Key} {v : V} (e : keyV kd = some k) (rv : Rp K G v d) : ∀ {kvs : List (Key × V)} {ks : List (Bk.D × Bk.D)}, RpKV K G kvs ks → RpKV K G (kvs.map fun kv => if kv.1 = k then (kv.1, v) else kv) (ks.map fun kv => if sameKey kv.1 kd = true then (kv.1, d) else kv)
  | _, _, .nil => .nil
  | _, _, .cons (k := k1) (v := v1) (kd := kd1) (d := d1) e1 r1 r => by
    rw [List.map_cons, List.map_cons]
    have hs := sameKey_eq e1 e
    by_cases h : k1 = k
    · rw [decide_eq_true h] at hs
      rw [if_pos h, if_pos hs]
      exact .cons e1 rv (kv_map e rv r)
    · rw [decide_eq_false h] at hs
      rw [if_neg h, if_neg (by show ¬ sameKey kd1 kd = true; rw [hs]; exact Bool.false_ne_true)]
      exact .cons e1 r1 (kv_map e rv r)
theorem kv_app {K : PySem.W.Frag} {G : Hp} : ∀ {kvs kvs2 : List (Key × V)} {ks ks2 : List (Bk.D × Bk.D)}, RpKV K G kvs ks → RpKV K G kvs2 ks2 → RpKV K G (kvs ++ kvs2) (ks ++ ks2)
  | _, _, _, _, .nil, h => h
  | _, _, _, _, .cons a b r, h => .cons a b (kv_app r h)
theorem kv_put {K : PySem.W.Frag} {G : Hp} {kvs : List (Key × V)} {ks : List (Bk.D × Bk.D)} {kd d : Bk.D} {k : Key} {v : V} (r : RpKV K G kvs ks) (e : keyV kd = some k) (rv : Rp K G v d) : RpKV K G (putK kvs k v) (dput ks kd d) := by
  unfold putK dput
  rw [kv_any e r]
  by_cases h : (ks.any fun kv => sameKey kv.1 kd) = true
  · rw [if_pos h, if_pos h]
    exact kv_map e rv r
  · rw [if_neg h, if_neg h]
    exact kv_app r (.cons e rv .nil)
theorem put_fin {K : PySem.W.Frag} {D : Ends} {G H : Hp} {σ : L2.St} {η : Env} {i : Nat} {kd d : Bk.D} {kv v : V} (r : RpE K B.G0 B.H0 G H σ η) (rk : Rp K G kv kd) (rd : Rp K G v d) (q : Fin K B D G (putTo i kd d η)) :
    ∃ aa H', σ[i]? = some (some (.ref aa)) ∧ DPut H aa kv v H' ∧ D.nx σ H' := by
  unfold putTo at q
  split at q
  · rename_i ks e
    by_cases hl : ks.length < lim ∧ keyD kd = true
    · rw [if_pos hl] at q
      obtain ⟨w, h1, aa, kvs, rfl, h0, hg, hh, ra⟩ := r.slot _ _ e
      obtain ⟨k, ek, rfl⟩ := keyV_kV rk hl.2
      exact ⟨aa, _, h1, DPut.k hh (by rw [kv_len ra, line_eq]; exact hl.1), q G _ σ (Ex.refl G) (r.mut e rfl rfl h1 h0 hg ⟨aa, _, rfl, h0, hg, upd_same, kv_put ra ek rd⟩)⟩
    · rw [if_neg hl] at q
      exact q.elim
  · exact q.elim
/-- x[k] = v -/
theorem s_put (i : Nat) {x : Str} {px pt : Pos} (hu : X.A.units + 1 < cLine) (hk : PE X b (tX X.K B g)) (ha : PE X a (tX X.K B f)) (hN : X.N[i]? = some x := by rfl) (hv : Vis X.env.scope x := by first | exact Or.inl rfl | exact Or.inr (Or.inl rfl) | exact Or.inr (Or.inr rfl)) (hd : (x == ("__debug__" : Str)) = false := by decide)
    (hcd : (x == ("__classdict__" : Str)) = false := by decide) (hs : swapsWith a (some (.Subscript (.Name x px) b pt)) pos.line X.env = pure false := by rfl) : PS X (.Assign [.Subscript (.Name x px) b pt] a pos) (tS X.K B (sPut i g f)) :=
  ps_weak (ps_dput hu (pe_var hN hv hd hcd) hk ha hs) fun D σ H q => by
    obtain ⟨G, η, r, q⟩ := q
    refine tX.of r (Fin.ofRes q) fun d hd' G1 H1 v e1 r1 => ?_
    split at hd'
    · rename_i ks e
      have r2 := r.extd e1
      obtain ⟨w, h1, aa, kvs, rfl, h0, hg, hh, ra⟩ := r.slot _ _ e
      refine ⟨_, h1, tX.of r2 (Fin.ofRes hd') fun kd hk2 G2 H2 kv e2 rk => ?_⟩
      obtain ⟨aa', H', k1, k2, k3⟩ := put_fin (r2.extd e2) rk (r1.mono e2.g) (Fin.up (e1.g.trans e2.g) hk2)
      rw [h1] at k1
      cases k1
      exact ⟨aa, H', rfl, k2, k3⟩
    · exact hd'.elim
/-- x[k] = y.pop() -/
theorem s_putPop (i j : Nat) {x y : Str} {px pt py apos2 cpos2 : Pos} (hu : X.A.units + 1 < cLine) (hk : PE X b (tX X.K B g)) (hN : X.N[i]? = some x := by rfl) (hv : Vis X.env.scope x := by first | exact Or.inl rfl | exact Or.inr (Or.inl rfl) | exact Or.inr (Or.inr rfl)) (hd : (x == ("__debug__" : Str)) = false := by decide)
    (hcd : (x == ("__classdict__" : Str)) = false := by decide) (hN2 : X.N[j]? = some y := by rfl) (hv2 : Vis X.env.scope y := by first | exact Or.inl rfl | exact Or.inr (Or.inl rfl) | exact Or.inr (Or.inr rfl)) (hd2 : (y == ("__debug__" : Str)) = false := by decide)
    (hcd2 : (y == ("__classdict__" : Str)) = false := by decide)
    (hpp : ∀ {to : TE}, PE X (.Name y py) to → PE X (.Call (.Attribute (.Name y py) "pop" apos2) [] [] cpos2) (tBM0 X.K "list" rPop to) := by intro _ h1; exact pe_bm0 PySem.F.plainAttrs_list PySem.F.slot_list_pop PySem.F.type_list_pop mt_pop h1)
    (hs : swapsWith (.Call (.Attribute (.Name y py) "pop" apos2) [] [] cpos2) (some (.Subscript (.Name x px) b pt)) pos.line X.env = pure false := by rfl) : PS X (.Assign [.Subscript (.Name x px) b pt] (.Call (.Attribute (.Name y py) "pop" apos2) [] [] cpos2) pos) (tS X.K B (sPutPop i g j)) :=
  ps_weak (ps_dput hu (pe_var hN hv hd hcd) hk (hpp (pe_var hN2 hv2 hd2 hcd2)) hs) fun D σ H q => by
    obtain ⟨G, η, r, q⟩ := q
    unfold sPutPop at q
    cases z : popOf j η with
    | ok p =>
      obtain ⟨d, η'⟩ := p
      rw [z] at q
      obtain ⟨ab, vs2, v, k1, k2, k3, k4, r2⟩ := pop_rp r z
      have q : Fin X.K B D G (match η'[i]? with
        | some (some (.dic _)) => outOf (g η') fun k => putTo i k d η'
        | _ => .bad) := q
      split at q
      · rename_i ks e
        obtain ⟨w, h1, aa, kvs, rfl, h0, hg, hh, ra⟩ := r2.slot _ _ e
        refine ⟨_, k1, .inl ⟨rfl, vs2, .inl (.inl k2)⟩, ab, vs2, v, rfl, rfl, k2, k3, _, h1, tX.of r2 (Fin.ofRes q) fun kd hk2 G2 H2 kv e2 rk => ?_⟩
        obtain ⟨aa', H', c1, c2, c3⟩ := put_fin (r2.extd e2) rk (k4.mono e2.g) (Fin.up e2.g hk2)
        rw [h1] at c1
        cases c1
        exact ⟨aa, H', rfl, c2, c3⟩
      · exact q.elim
    | raise cl =>
      rw [z] at q
      exact q.elim
    | bad =>
      rw [z] at q
      exact q.elim
/-- x[k] -/
theorem pv_dget (i : Nat) {x : Str} {px : Pos} (hu : X.A.units + 1 < cLine) (hk : PE X b (tX X.K B g)) (hs : NoSl b := by exact fun _ _ => rfl) (hN : X.N[i]? = some x := by rfl) (hv : Vis X.env.scope x := by first | exact Or.inl rfl | exact Or.inr (Or.inl rfl) | exact Or.inr (Or.inr rfl)) (hd : (x == ("__debug__" : Str)) = false := by decide)
    (hcd : (x == ("__classdict__" : Str)) = false := by decide) : PE X (.Subscript (.Name x px) b pos) (tX X.K B (eDGet i g)) := pe_weak (pe_dget hu (pe_var hN hv hd hcd) hk hs) fun σ H Q q => by
  obtain ⟨G, η, r, q⟩ := q
  unfold eDGet at q
  split at q
  · rename_i ks e
    obtain ⟨w, h1, _⟩ := r.slot _ _ e
    refine ⟨_, h1, tX.of r (sat_bind q) fun kd hk2 G1 H1 kv e1 rk => ?_⟩
    obtain ⟨w', h1', aa, kvs, rfl, h0, hg, hh, ra⟩ := (r.extd e1).slot _ _ e
    rw [h1] at h1'
    cases h1'
    obtain ⟨hkd, hk2⟩ := sat_if hk2
    obtain ⟨k, ek, rfl⟩ := keyV_kV rk hkd
    cases z : dget ks kd with
    | none =>
      rw [z] at hk2
      exact hk2.elim
    | some d =>
      rw [z] at hk2
      obtain ⟨v, z1, z2⟩ := (kv_get ra ek).1 d z
      refine ⟨aa, v, rfl, ?_, hk2 G1 H1 v e1 z2⟩
      rw [← z1]
      exact DGet.k hh
  · exact q.elim
/-- x.get(k, d) -/
theorem pv_dget2 (i : Nat) {x : Str} {px apos cpos : Pos} (hu : X.A.units + 1 < cLine) (hk : PE X b (tX X.K B g)) (hz : PE X c (tX X.K B h)) (m : M2 X (.Name x px) "get" apos b c cpos := by exact ⟨rfl, rfl, rfl, rfl⟩) (hN : X.N[i]? = some x := by rfl) (hv : Vis X.env.scope x := by first | exact Or.inl rfl | exact Or.inr (Or.inl rfl) | exact Or.inr (Or.inr rfl)) (hd : (x == ("__debug__" : Str)) = false := by decide)
    (hcd : (x == ("__classdict__" : Str)) = false := by decide) : PE X (.Call (.Attribute (.Name x px) "get" apos) [b, c] [] cpos) (tX X.K B (eDGet2 i g h)) := pe_weak (L2.pe_dget2 hu (pe_var hN hv hd hcd) hk hz m) fun σ H Q q => by
  obtain ⟨G, η, r, q⟩ := q
  unfold eDGet2 at q
  split at q
  · rename_i ks e
    obtain ⟨w, h1, aa, kvs, rfl, h0, hg, hh, ra⟩ := r.slot _ _ e
    refine ⟨_, h1, aa, rfl, .inl ⟨kvs, .inl hh⟩, tX.of r (sat_bind q) fun kd hk2 G1 H1 kv e1 rk => ?_⟩
    refine tX.of (r.extd e1) (sat_bind hk2) fun zd hz2 G2 H2 zv e2 rz => ?_
    obtain ⟨w', h1', aa', kvs', ew, h0', hg', hh', ra'⟩ := ((r.extd e1).extd e2).slot _ _ e
    rw [h1] at h1'
    cases h1'
    cases ew
    obtain ⟨hkd, hz2⟩ := sat_if hz2
    obtain ⟨k, ek, rfl⟩ := keyV_kV rk hkd
    refine ⟨valV kvs' k, DGet.k hh', ?_⟩
    cases z : dget ks kd with
    | none =>
      rw [z] at hz2
      rw [(kv_get ra' ek).2 z]
      exact hz2 G2 H2 zv (e1.trans e2) rz
    | some d =>
      rw [z] at hz2
      obtain ⟨v, z1, z2⟩ := (kv_get ra' ek).1 d z
      rw [z1]
      exact hz2 G2 H2 v (e1.trans e2) z2
  · exact q.elim
end
end Bk
end
/-! BkDefs -/
section
set_option Elab.async false
set_option linter.all false
set_option autoImplicit false
set_option maxRecDepth 100000
set_option maxHeartbeats 4000000
/-! BkDefs: defs, what they promise, their calls, refusals -/
namespace Bk
open PySem PySem.Spec PyProof.Rows L2
/-- the promise of a def that gives what φ gives -/
def spD (K : PySem.W.Frag) (cl : Cls → Addr) (n : Nat) (φ : List D → Res D) : Sp := fun vs H Q E => vs.length = n ∧ ∃ G ds, Ex G H ∧ RpAll K G vs ds ∧ (φ ds).Sat (fun d => ∀ G' H' v, Ext G H G' H' → Rp K G' v d → Q v H') (fun c => ∀ H', Ex H H' → E (.ref (cl c)) none H')
/-- the def x, of n arguments, stands in the module and keeps its promise at level k -/
structure DefOk (P : Program) (w : World) (K : PySem.W.Frag) (mg : Str → Option Value) (base : Heap) (cl : Cls → Addr) (k : Nat) (x : Str) (n : Nat) (φ : List D → Res D) : Prop where
  ex : ∃ (f : Addr) (fd : FuncData) (ps : List Str), FnOk P w K mg base (L2.CX P w) k f fd ps (spD K cl n φ) ∧ mg x = some (.ref f) ∧ PySem.W.keepIn K (.ref f) = true ∧ Binds K fd ps []
theorem DefOk.mono {P : Program} {w : World} {K : PySem.W.Frag} {mg : Str → Option Value} {base : Heap} {cl : Cls → Addr} {j k : Nat} {x : Str} {n : Nat} {φ : List D → Res D} (F : DefOk P w K mg base cl j x n φ) (h : j ≤ k) : DefOk P w K mg base cl k x n φ := by
  obtain ⟨f, fd, ps, F, r⟩ := F.ex
  exact ⟨⟨f, fd, ps, F.mono h, r⟩⟩
section
variable {X : Cx} {B : Bs} {a b c e : Expr} {es : List Expr} {pos p : Pos} {f g h : E} {fs : List E}
/-- f(e, ..) -/
theorem pv_call {k n : Nat} {x : Str} {φ : List D → Res D} (F : DefOk X.prog X.w X.K X.mg X.base B.cl k x n φ) (hr : Room k X.A) (hx : Passes (L2.CX X.prog X.w) X B.ex) (ha : PA X (e :: es) (tA X.K B fs)) (hn : fs.length = n := by rfl) (hg : Gl X x := by rfl)
    (hdb : (x == ("__debug__" : Str)) = false := by decide) (he : starEach (e :: es) X.env = (false, eval e X.env) :: starEach es X.env := by rfl) (hpl : (backTo pos (starEach es X.env)).any (·.1) = false := by rfl) :
    PE X (.Call (.Name x p) (e :: es) [] pos) (tX X.K B (eCall φ fs)) := by
  obtain ⟨fa, fd, ps, F, hm, hk, hb⟩ := F.ex
  refine pe_weak (pe_call F hr hg hm hk hb .nil hx ha hdb he hpl) fun σ H Q q => ?_
  obtain ⟨G, η, r, q⟩ := q
  refine tA.of r (evals_len (sat_bind q)) fun ds hds G1 H1 vs e1 r1 => ?_
  have e0 : vs ++ ([] : List V) = vs := List.append_nil vs
  rw [e0]
  refine ⟨by rw [r1.length, hds.1, hn], G1, ds, e1.gh, r1, Sat.mono hds.2 (fun d q G' H' v e2 r2 => q G' H' v (e1.trans e2) r2) fun c z H' x => z H' ((r.extd e1).ext.h.trans x)⟩
/-- a def's body -/
theorem fn_ok {P : Program} {w : World} {K : PySem.W.Frag} {mg : Str → Option Value} {base : Heap} {cl : Cls → Addr} {k : Nat} {x : Str} {n : Nat} {st : Stmt} {fa : Addr} {fd : FuncData} {N ps : List Str} {g : Bk.St} {sp : Sp} (F : Fun K x x st fa fd) (S : FnScope N ps (defScope st)) (hn : ps.length = n)
    (hsp : ∀ vs H Q E, sp vs H Q E → spD K cl n (runDef N.length g) vs H Q E)
    (hbody : ∀ (cdv : Value) (A : Around) (outer : List PySem.Env) (s : Shared) (H : Hp) (E : XK) (G : Hp), Room k (A.deeper (envOfC x (defScope st) s.heap.objs.size fa cdv)) →
      PSs (cxOf (L2.CX P w) P w K mg base N x (defScope st) fa cdv A outer s H E) (defBody st) (tS K { G0 := G, H0 := H, cl := cl, ex := E } g)) :
    FnOk P w K mg base (L2.CX P w) (k + 1) fa fd ps sp := by
  refine F.okX S (fun vs H Q E h => (hsp _ _ _ _ h).1.trans hn.symm) (fun cdv A outer s H vs Q E hr h => ?_)
  obtain ⟨hl, G, ds, ex, ra, h⟩ := hsp _ _ _ _ h
  refine ⟨_, hbody cdv A outer s H E G hr, G, ds.map (fun d => some (Bk.S.dat d)) ++ List.replicate (N.length - ds.length) Option.none, ⟨Ext.refl ex, ?_, fun i t e => ?_, fun i j t u v v2 b hij e1 e2 w1 w2 o1 _ => ?_⟩, ?_⟩
  · unfold L2.start
    rw [List.length_append, List.length_append, List.length_map, List.length_map, List.length_replicate, List.length_replicate, ra.length]
  · rw [List.getElem?_append] at e
    rw [List.length_map] at e
    by_cases hi : i < ds.length
    · rw [if_pos hi, List.getElem?_map] at e
      obtain ⟨d, hd⟩ : ∃ d, ds[i]? = some d := ⟨ds[i], List.getElem?_eq_getElem hi⟩
      rw [hd] at e
      cases e
      obtain ⟨v, h1, h2⟩ := ra.get hd
      refine ⟨v, ?_, h2⟩
      unfold L2.start
      rw [List.getElem?_append_left (by rw [List.length_map, ra.length]; exact hi), List.getElem?_map, h1]
      rfl
    · rw [if_neg hi, List.getElem?_replicate] at e
      split at e <;> cases e
  · rw [List.getElem?_append] at e1
    split at e1
    · rw [List.getElem?_map] at e1
      cases z : ds[i]? with
      | none =>
        rw [z] at e1
        cases e1
      | some d =>
        rw [z] at e1
        cases e1
        cases o1
    · rw [List.getElem?_replicate] at e1
      split at e1 <;> cases e1
  · unfold runDef at h
    cases z : g (ds.map (fun d => some (Bk.S.dat d)) ++ List.replicate (N.length - ds.length) Option.none) with
    | next η =>
      rw [z] at h
      exact fun G' H' σ' x r => h G' H' .non r.ext (.none)
    | ret d =>
      rw [z] at h
      exact fun G' H' v x r q => h G' H' v r q
    | raise c =>
      rw [z] at h
      exact fun H' x => h H' x
    | brk η =>
      rw [z] at h
      exact h.elim
    | ct η =>
      rw [z] at h
      exact h.elim
    | bad =>
      rw [z] at h
      exact h.elim
theorem DefOk.mk' {P : Program} {w : World} {K : PySem.W.Frag} {mg : Str → Option Value} {base : Heap} {cl : Cls → Addr} {k : Nat} {x : Str} {n : Nat} {st : Stmt} {fa : Addr} {fd : FuncData} {N ps : List Str} {g : Bk.St} (F : Fun K x x st fa fd) (S : FnScope N ps (defScope st)) (hn : ps.length = n) (hm : mg x = some (.ref fa)) (hb : Binds K fd ps [])
    (hbody : ∀ (cdv : Value) (A : Around) (outer : List PySem.Env) (s : Shared) (H : Hp) (E : XK) (G : Hp), Room k (A.deeper (envOfC x (defScope st) s.heap.objs.size fa cdv)) →
      PSs (cxOf (L2.CX P w) P w K mg base N x (defScope st) fa cdv A outer s H E) (defBody st) (tS K { G0 := G, H0 := H, cl := cl, ex := E } g)) :
    DefOk P w K mg base cl (k + 1) x n (runDef N.length g) := ⟨⟨fa, fd, ps, fn_ok F S hn (fun _ _ _ _ h => h) hbody, hm, F.kp, hb⟩⟩
end
/-- what a def's own frame passes on -/
theorem pass1 {P : Program} {w : World} {K : PySem.W.Frag} {mg : Str → Option Value} {base : Heap} {N : List Str} {x : Str} {sc : Scope} {fa : Addr} {cdv : Value} {A : Around} {outer : List PySem.Env} {s : Shared} {H : Hp} {E : XK} :
    Passes (L2.CX P w) (cxOf (L2.CX P w) P w K mg base N x sc fa cdv A outer s H E) E := passes_call (takes_of rfl rfl rfl rfl) fun _ _ _ _ h => h
end Bk
end
/-! BkText -/
section
set_option Elab.async false
set_option linter.all false
set_option autoImplicit false
set_option maxRecDepth 100000
set_option maxHeartbeats 4000000
/-! BkText: walks over texts: enumerate, reversed -/
namespace Bk
open PySem PySem.Spec PyProof.Rows L2
/-! ### enumerate(text) -/
def Itse (x : Str) : It := ⟨fun i _ => i < x.cps.size, fun i H v H' => ∃ T c, x.cps[i]? = some c ∧ v = .ref T ∧ H T = none ∧ H' = upd H T (.tup [.int (i : Nat), .str ⟨#[c]⟩]), fun i _ => x.cps.size ≤ i⟩
theorem draws_str {prog : Program} {w : World} {A : Around} (hh : A.handled = none) (it : Addr) (x : Str) (t : Tok) {ty : String} (hty : ty = "str_ascii_iterator" ∨ ty = "str_iterator") :
    Draws prog w A it [it] x.cps.size (fun i v => ∃ c u, x.cps[i]? = some c ∧ v = .str ⟨#[c]⟩ u) (fun i h => h.IsStrIter it ty x t i) := by
  rcases hty with e | e
  · rw [e]
    exact Draws.strAscii hh it x t
  · rw [e]
    exact Draws.strWide hh it x t
theorem turn_enumS {P : Program} {w : World} {K : PySem.W.Frag} {elts : List Expr} {kk : Nat} {tpos : Pos} (x : Str) (t : Tok) (ty : String) (hty : ty = "str_ascii_iterator" ∨ ty = "str_iterator") (e it : Addr) :
    Turn P w K (.Tuple elts kk tpos) (Itse x) [e, it] e (fun i h => (∃ old, IsEnum h e it ((i : Nat) : Int) old) ∧ h.IsStrIter it ty x t i ∧ e ≠ it) where
  mem := by simp
  obj := fun i h st b hb => by
    obtain ⟨⟨old, he⟩, ⟨o, ho, hc, hd⟩, _⟩ := st
    have e' : b = e ∨ b = it := by simpa using hb
    rcases e' with z | z
    · rw [z]; exact ⟨_, he, fun v q => nomatch q⟩
    · rw [z]; exact ⟨o, ho, fun v q => by rw [hd] at q; cases q⟩
  keep := fun i h h' st k => let ⟨⟨old, he⟩, ⟨o, ho, r⟩, hne⟩ := st; ⟨⟨old, k e (by simp) _ he⟩, ⟨o, k it (by simp) o ho, r⟩, hne⟩
  item := by
    intro X hP hw hK hc i pins s σ H E I hf st hg
    subst hP hw hK
    obtain ⟨⟨old, he⟩, hit, hne⟩ := st
    have hel : e < s.heap.objs.size := Heap.lt_size he
    have hil : it < s.heap.objs.size := by obtain ⟨_, q, _⟩ := hit; exact Heap.lt_size q
    have hef : e ∉ [it] := fun z => hne (List.mem_singleton.mp z)
    have DD := draws_str (prog := X.prog) (w := X.w) (A := X.A.in1) (show X.A.in1.handled = none from I.ok.hd hc) it x t hty
    refine wpAny_pyNext_enum_itemD DD he hit hg hne hef fun v h' tk hv ho hit' hT hsz hk => ?_
    obtain ⟨c, uu, hcx, rfl⟩ := hv
    refine ⟨_, rfl, wpAny_letOwnedTupleGo_enum (s := { s with heap := h', toks := tk + 1 }) ho fun h'' he' sb => ?_⟩
    have hT2 : h''.get? s.heap.objs.size = some { cls := .type "tuple", data := .seq #[.int i tk, .str ⟨#[c]⟩ uu] } := (sb.2 _ (Nat.ne_of_gt hel)).trans hT
    have new : ObjOk X.prog X.w (upd H s.heap.objs.size (.tup [.int (i : Nat), .str ⟨#[c]⟩])) h'' s.heap.objs.size (.tup [.int (i : Nat), .str ⟨#[c]⟩]) :=
      ⟨by show 2 ≤ sizeLine; decide, [.int i tk, .str ⟨#[c]⟩ uu], .cons ⟨_, rfl⟩ (.cons ⟨_, rfl⟩ .nil), ⟨_, hT2, rfl, _, rfl⟩⟩
    have I1 : Inv X pins σ (upd H s.heap.objs.size (.tup [.int (i : Nat), .str ⟨#[c]⟩])) { s with heap := h'', toks := tk + 1 } :=
      I.turnedNew (ch := [e, it]) (fun b ob hb q => (sb.2 b (fun z => hb (by simp [z]))).trans (hk b ob (fun z => hb (by simp [z])) (fun z => hb (by simp [z])) q)) hf (Nat.le_refl _) new
    refine ⟨.ref s.heap.objs.size, _, I1, rfl, ⟨_, c, hcx, rfl, I.hok.fresh (Nat.le_refl _), rfl⟩, ⟨⟨.str ⟨#[c]⟩ uu, ?_⟩, ?_, hne⟩, fun b hb => ?_⟩
    · have e1 : ((i + 1 : Nat) : Int) = (i : Int) + 1 := by omega
      rw [e1]; exact he'
    · obtain ⟨o, q, r⟩ := hit'
      exact ⟨o, (sb.2 it (Ne.symm hne)).trans q, r⟩
    · have hb' : b < s.heap.objs.size := by
        have e' : b = e ∨ b = it := by simpa using hb
        rcases e' with z | z
        · rw [z]; exact hel
        · rw [z]; exact hil
      rw [upd_ne (Nat.ne_of_lt hb')]
      exact (hf b hb).1
  done := by
    intro X hP hw hK hc i pins s σ H E I hf st hg
    subst hP hw hK
    obtain ⟨⟨old, he⟩, hit, hne⟩ := st
    obtain ⟨f0, f1, f2, f3, f4, f5⟩ := hf it (by simp)
    have hit2 : s.heap.IsStrIter it ty x t i := hit
    have hx : x.cps[i]? = none := Array.getElem?_eq_none hg
    have hend : ∀ (A : Around) (hh : A.handled = none) (s : Shared) (Q : Value → Shared → Prop) (E : Value → Shared → Prop), s.heap.IsStrIter it ty x t i →
        (∀ h' e, Heap.ExtBut it s.heap h' → (∃ o, h'.get? e = some o ∧ o.cls = .type "StopIteration") → E (.ref e) { s with heap := h' }) → wpAny (model X.prog X.w) A (Builtin.SmallTypes.nextOf (.ref it)) Q E s := by
      intro A hh s Q E st hE
      rcases hty with z | z
      · rw [z] at st
        exact wpAny_nextOf_ascii_end hh st hx hE
      · rw [z] at st
        exact wpAny_nextOf_wide_end hh st hx hE
    have D : Draws X.prog X.w X.A.in1 it [it] i (fun _ _ => False) (fun j h => j = i ∧ h.IsStrIter it ty x t i) :=
      { live := fun _ _ st => let ⟨_, o, ho, _⟩ := st; ⟨o, ho⟩
        frame := fun _ _ _ st hk => let ⟨e, o, ho, r⟩ := st; ⟨e, o, hk it (by simp) o ho, r⟩
        item := fun j s Q E hi st hQ => absurd st.1 (Nat.ne_of_lt hi)
        done := fun s Q E st hE => hend _ (show X.A.in1.handled = none from I.ok.hd hc) s Q E st.2 hE }
    exact wpAny_pyNext_enum_endD D he ⟨rfl, hit⟩ fun h' eb => ⟨rfl, I.turned (t' := s.toks) (fun b o hb q => eb b o hb q) f0 f1 f3 f4 f5⟩
  self := fun A i s Q E st h => let ⟨⟨_, he⟩, _⟩ := st; wpAny_pyIter_enum he h
def itEnumS (ta : TA) : TI := fun σ H R => ta σ H fun vs H1 => ∃ x, vs = [.str x] ∧ R (Itse x) H1
theorem pi_enumStr {X : Cx} {e : Expr} {ta : TA} {p pos tpos : Pos} {elts : List Expr} {kk : Nat} (hg : Gl X "enumerate") (hm : X.mg "enumerate" = none) (ha : PA X [e] ta) (hs : starEach [e] X.env = [(false, eval e X.env)] := by rfl) :
    PI X (.Tuple elts kk tpos) (.Call (.Name "enumerate" p) [e] [] pos) (itEnumS ta) := by
  refine ⟨fun pins s σ H R I h => ?_⟩
  refine Call_ (ld_blt I hg hm boot_enumerate (PyProof.Rows.callWith_type1 (thn (ha.run pos pins s σ H _ I h) fun us s1 ⟨vs, H1, I1, r1, q1⟩ => ?_) hs rfl))
  obtain ⟨x, ex, q⟩ := q1
  subst ex
  cases r1 with
  | cons r rr =>
    cases rr
    obtain ⟨t, rfl⟩ := r
    refine call_enumerate_str fun h' he hit hsz hk => wpAny_pyIter_enum he ?_
    have I2 : Inv X pins σ H1 { s1 with heap := h' } := I1.kept (t' := s1.toks) hk
    have hty : strIterType x = "str_ascii_iterator" ∨ strIterType x = "str_iterator" := by
      unfold strIterType
      split
      · exact .inl rfl
      · exact .inr rfl
    refine ⟨s1.heap.objs.size + 1, [s1.heap.objs.size + 1, s1.heap.objs.size], _, _, H1, rfl, I2, turn_enumS x t _ hty (s1.heap.objs.size + 1) s1.heap.objs.size, ⟨⟨.none, he⟩, hit, Nat.succ_ne_self _⟩, fun b hb => ?_, q⟩
    have e' : b = s1.heap.objs.size + 1 ∨ b = s1.heap.objs.size := by simpa using hb
    have hle : s1.heap.objs.size ≤ b := by
      rcases e' with z | z
      · rw [z]; exact Nat.le_add_right _ _
      · rw [z]; exact Nat.le_refl _
    exact I1.fpOk hle (I1.hok.fresh hle)

/-! ### reversed(text) -/
theorem norev_str : typeLookup (.type "str") "__reversed__" = pure none := by rw [typeLookup_type, builtinLookup_eq_fast]; kernel_rfl
theorem get_str' : typeLookup (.type "str") "__getitem__" = pure (some (.builtin "str.__getitem__")) := by rw [typeLookup_type, builtinLookup_eq_fast]; kernel_rfl
def rsObj (x : Str) (t : Tok) (i : Int) : Obj := { cls := .type "reversed", data := .fields #[.str x t, rawInt i] }
def IsRs (h : Heap) (a : Addr) (x : Str) (t : Tok) (i : Int) : Prop := ∃ o, h.get? a = some o ∧ o.cls = .type "reversed" ∧ o.data = .fields #[.str x t, rawInt i]
theorem IsRs.at {h h' : Heap} {a : Addr} {x : Str} {t : Tok} {i : Int} (z : IsRs h a x t i) (e : ∀ o, h.get? a = some o → h'.get? a = some o) : IsRs h' a x t i := let ⟨o, ho, r⟩ := z; ⟨o, e _ ho, r⟩
section
variable {prog : Program} {w : World} {A : Around} {E : Value → Shared → Prop} {s : Shared}
theorem IsRs.typeIs {a : Addr} {x : Str} {t : Tok} {i : Int} (z : IsRs s.heap a x t i) : s.TypeIs (.ref a) "reversed" := let ⟨o, ho, hc, _⟩ := z; ⟨o, ho, hc⟩
theorem code_reversed_str {x : Str} {t : Tok} {Q₁ : Value → Shared → Prop} (hl : x.length ≤ sizeLine)
    (h : Q₁ (.ref s.heap.objs.size) { s with heap := s.heap.push (rsObj x t ((x.length : Int) - 1)), toks := s.toks + 1 + 1 }) :
    codeAny (model prog w) A (.call (.builtin "reversed.__new__") ⟨[.type "reversed", .str x t], []⟩) (wants Q₁ E) s := by
  have hT : s.TypeIs (.str x t) "str" := typeIs_str _ _ _
  have hlen : ∀ (A : Around) (E : Value → Shared → Prop) (Q : Value → Shared → Prop), Q (.int x.length (s.toks + 1)) { s with toks := s.toks + 1 + 1 } → wpAny (model prog w) A (call (.builtin "len") [.str x t]) Q E s := fun A E Q k => len_str (by
    rw [line_eq] at hl
    unfold Bk.lim at hl
    omega) k
  refine codeAny_of_tree ?_
  show wpAny _ A.in1 (do checkBuiltinCall "reversed.__new__" ⟨[.type "reversed", .str x t], []⟩; again (.builtin "reversed.__new__" ⟨[.type "reversed", .str x t], []⟩)) _ _ s
  refine wpAny_bind (wpAny_of_eq (F.newCall_reversed_1 _) (wpAny_pure ⟨plainId_quiet F.plain_reversed_new _, codeAny_builtin F.entry_reversed_new ?_⟩))
  rw [Around.under_plainId F.plain_reversed_new _]
  unfold Builtin.«reversed.__new__»
  refine wpAny_bind (wpAny_of_eq (newClass_reversed _) ?_)
  try dsimp only
  refine wpAny_bind (wpAny_of_eq (a := ()) (by first | rfl | kernel_rfl) ?_)
  try dsimp only
  refine wpAny_bind (wpAny_of_eq (a := ()) (by first | rfl | kernel_rfl) ?_)
  try dsimp only
  refine wpAny_bind (wpAny_specialOf hT norev_str ?_)
  try dsimp only
  refine wpAny_bind ?_
  wp_delta
  refine wpAny_bind (wpAny_isInstance (T := "str") (U := "dict") (b := false) hT PySem.F.sub_str_dict ?_)
  try dsimp only
  try rw [if_neg Bool.false_ne_true]
  try dsimp only
  refine wpAny_bind (wpAny_specialOf hT get_str' ?_)
  try dsimp only
  try rw [if_pos (by decide +kernel)]
  refine wpAny_pure ?_
  try dsimp only
  try rw [if_neg (by decide)]
  try dsimp only
  refine wpAny_bind (hlen _ _ _ ?_)
  refine wpAny_bind (wpAny_of_eq (a := some ((x.length : Nat) : Int)) rfl ?_)
  try dsimp only
  refine wpAny_bind ?_
  show wpAny _ _ (newObj (.type "reversed") (.fields #[.str x t, rawInt ((x.length : Int) - 1)])) _ _ _
  refine wpAny_newObj_type ?_
  exact wpAny_pure h
theorem call_reversed_str {x : Str} {t : Tok} {Q : Value → Shared → Prop} (hl : x.length ≤ sizeLine)
    (h : Q (.ref s.heap.objs.size) { s with heap := s.heap.push (rsObj x t ((x.length : Int) - 1)), toks := s.toks + 1 + 1 }) : wpAny (model prog w) A (call (.type "reversed") [.str x t]) Q E s := by
  refine callType_codes (Q₁ := fun obj s₁ => s₁.TypeIs obj "reversed" ∧ Q obj s₁) RT.called_rt (F.typeCall_reversed_1 _) F.entry_object_init
    (code_reversed_str (A := A.in1) hl ⟨⟨_, Heap.get?_push_size _ rfl, rfl⟩, h⟩) fun obj s₁ h₁ => ?_
  exact ⟨h₁.1, F.args_object_init_2 obj _, object_init_meets RT.called_rt.init.lookup RT.called_rt.made (by decide) prog w A.in1 _ s₁ ⟨h₁.1, rfl, h₁.2⟩⟩
theorem next_rs_item {it : Addr} {x : Str} {t : Tok} {i : Nat} {c : Nat} {Q : Option Value → Shared → Prop} (hit : IsRs s.heap it x t (i : Int)) (hx : x.cps[i]? = some c) (hsz : x.length ≤ sizeLine)
    (hQ : ∀ h' u k, IsRs h' it x t ((i : Int) - 1) → Heap.SameBut it s.heap h' → Q (some (.str ⟨#[c]⟩ u)) { s with heap := h', toks := k }) : wpAny (model prog w) A (pyNext (.ref it)) Q E s := by
  obtain ⟨o, ho, hc, hd⟩ := id hit
  have hi : i < x.length := (Array.getElem?_eq_some_iff.mp hx).1
  have hT : s.TypeIs (.str x t) "str" := typeIs_str _ _ _
  rw [sizeLine_eq] at hsz
  unfold pyNext
  refine wpAny_bind (wpAny_attempt (wpAny_callSpecial?_slot (name := Str.ofString "__next__") hit.typeIs RT.slot_rt_next
    (wpAny_call_entry RT.slot_rt_next hit.typeIs RT.entry_rt_next ?_ (RT.args_rt_next _))))
  unfold Builtin.«reversed.__next__»
  refine wpAny_bind (wpAny_of_eq (a := (Value.ref it, [])) rfl ?_)
  try dsimp only
  refine wpAny_bind (wpAny_field ho hd (x := .str x t) rfl ?_)
  try dsimp only
  refine wpAny_bind (wpAny_field ho hd (x := rawInt (i : Int)) rfl ?_)
  show wpAny _ _ (if (i : Int) < 0 then _ else _) _ _ s
  rw [if_neg (by omega)]
  try dsimp only
  refine wpAny_bind (wpAny_specialOf hT get_str' ?_)
  try dsimp only
  try rw [if_neg (by decide)]
  try dsimp only
  refine wpAny_bind (wpAny_mkInt ?_)
  refine wpAny_bind (wpAny_attempt ?_)
  have fin : seqIndex? (i : Int) x.length = some i := seqIndex_of (by omega) (by omega)
  refine PySem.P.getItem_str (s := { s with toks := s.toks + 1 }) (c := c) (by
    have e1 : decide ((i : Int) < -(2 ^ 63 : Int)) = false := decide_eq_false (by omega)
    have e2 : decide ((i : Int) ≥ 2 ^ 63) = false := decide_eq_false (by omega)
    rw [e1, e2, Bool.or_false]) (by rw [fin]; exact hx) ?_
  try dsimp only
  refine wpAny_bind (wpAny_field (s := { s with toks := s.toks + 1 + 1 }) ho hd (x := rawInt (i : Int)) rfl ?_)
  try dsimp only
  refine wpAny_bind (wpAny_setField (s := { s with toks := s.toks + 1 + 1 }) ho hd (by simp) ?_)
  first
  | refine wpAny_pure ⟨_, rfl, wpAny_pure (hQ _ _ _ ?_ (Heap.SameBut.update ..))⟩
  | refine wpAny_bind (wpAny_pure (wpAny_pure ⟨_, rfl, wpAny_pure (hQ _ _ _ ?_ (Heap.SameBut.update ..))⟩))
  exact ⟨_, Heap.get?_update_self _ ho (Obj.isFreed_of_fields (Obj.data_mapFields hd _)), (Obj.cls_mapFields ..).trans hc, by
    rw [Obj.data_mapFields hd]; simp⟩
theorem next_rs_end {it : Addr} {x : Str} {t : Tok} {Q : Option Value → Shared → Prop} (hh : A.handled = none) (hit : IsRs s.heap it x t (-1))
    (hQ : ∀ h', Heap.ExtBut it s.heap h' → Q none { s with heap := h' }) : wpAny (model prog w) A (pyNext (.ref it)) Q E s := by
  obtain ⟨o, ho, hc, hd⟩ := id hit
  unfold pyNext
  refine wpAny_bind (wpAny_attempt (wpAny_callSpecial?_slot (name := Str.ofString "__next__") hit.typeIs RT.slot_rt_next
    (wpAny_call_entry RT.slot_rt_next hit.typeIs RT.entry_rt_next ?_ (RT.args_rt_next _))))
  unfold Builtin.«reversed.__next__»
  refine wpAny_bind (wpAny_of_eq (a := (Value.ref it, [])) rfl ?_)
  try dsimp only
  refine wpAny_bind (wpAny_field ho hd (x := .str x t) rfl ?_)
  try dsimp only
  refine wpAny_bind (wpAny_field ho hd (x := rawInt (-1)) rfl ?_)
  show wpAny _ _ (if (-1 : Int) < 0 then _ else _) _ _ s
  rw [if_pos (by decide)]
  try dsimp only
  refine wpAny_bind (wpAny_rule ?_)
  refine wpAny_bind ?_
  wp_delta
  refine wpAny_bind (wpAny_setField ho hd (by simp) ?_)
  have ho2 := Heap.get?_update_self (Obj.mapFields (·.setIfInBounds 1 (rawInt (-1)))) ho (Obj.isFreed_of_fields (Obj.data_mapFields hd _))
  refine wpAny_setField (s := { s with heap := s.heap.update it (Obj.mapFields (·.setIfInBounds 1 (rawInt (-1)))) }) ho2 (Obj.data_mapFields hd _) (by simp) ?_
  try dsimp only
  first
  | show wpAny _ _ (newExc (.type "StopIteration") [] >>= _) _ _ _
  | (refine wpAny_bind ?_; show wpAny _ _ (newExc (.type "StopIteration") [] >>= _) _ _ _)
  | (refine wpAny_bind ?_; wp_delta; show wpAny _ _ (newExc (.type "StopIteration") [] >>= _) _ _ _)
  refine wpAny_bind ?_
  simp only [newExc, newTuple]
  refine wpAny_bind (wpAny_newObj_type ?_ (by size_fits))
  refine wpAny_bind (m := firstArgMember _ _) (wpAny_of_eq (a := Value.none) (by first | rfl | (simp only [firstArgMember]; rfl)) ?_)
  refine wpAny_newObj_type ?_ (by size_fits)
  simp only [raiseNew]
  refine wpAny_bind (wpAny_handled ?_)
  first | rw [show A.in1.handled = none from hh] | rw [hh]
  refine wpAny_bind (wpAny_pure (wpAny_throw ?_))
  refine wpAny_bind (wpAny_isInstance (T := "StopIteration") (b := true) ⟨_, Heap.get?_push_size _ rfl, rfl⟩ isSubtype_stop ?_)
  refine wpAny_pure (hQ _ ?_)
  refine ((?_ : Heap.ExtBut it s.heap _).push _).push _
  exact fun b ob hb e => (Heap.get?_update_other _ _ (Ne.symm hb)).trans ((Heap.get?_update_other _ _ (Ne.symm hb)).trans e)
theorem iter_rs {it : Addr} {x : Str} {t : Tok} {i : Int} {Q : Value → Shared → Prop} (hit : IsRs s.heap it x t i) (h : Q (.ref it) s) : wpAny (model prog w) A (pyIter (.ref it)) Q E s := by
  refine wpAny_pyIter_slot hit.typeIs RT.slot_rt_iter (wpAny_call_entry RT.slot_rt_iter hit.typeIs RT.entry_rt_iter ?_ (RT.args_rt_iter _))
  show wpAny _ _ (ret (.ref it)) _ _ s
  exact wpAny_pure ⟨_, rfl, "reversed", _, hit.typeIs, RT.slot_rt_next.lookup, h⟩
end
def Itrs (x : Str) : It := ⟨fun i _ => i < x.cps.size, fun i H v H' => H' = H ∧ ∃ c, x.cps[x.cps.size - 1 - i]? = some c ∧ v = .str ⟨#[c]⟩, fun i _ => x.cps.size ≤ i⟩
theorem turn_rs {P : Program} {w : World} {K : PySem.W.Frag} {tg : Expr} (it : Addr) (x : Str) (t : Tok) (hl : x.length ≤ sizeLine) : Turn P w K tg (Itrs x) [it] it (fun i h => i ≤ x.cps.size ∧ IsRs h it x t ((x.cps.size : Int) - 1 - (i : Nat))) where
  mem := by simp
  obj := fun i h st b hb => by
    have e : b = it := by simpa using hb
    subst e
    obtain ⟨_, o, e, c, d⟩ := st
    exact ⟨o, e, fun v z => by rw [d] at z; cases z⟩
  keep := fun i h h' st k => ⟨st.1, st.2.at fun o e => k it (by simp) o e⟩
  item := by
    intro X hP hw hK hc i pins s σ H E I hf st hg
    subst hP hw hK
    have hin : i < x.cps.size := hg
    obtain ⟨f0, f1, f2, f3, f4, f5⟩ := hf it (by simp)
    obtain ⟨_, hit⟩ := st
    have e1 : (x.cps.size : Int) - 1 - ((i : Nat) : Int) = ((x.cps.size - 1 - i : Nat) : Int) := by omega
    rw [e1] at hit
    have hx : x.cps[x.cps.size - 1 - i]? = some x.cps[x.cps.size - 1 - i] := Array.getElem?_eq_getElem (by omega)
    refine next_rs_item hit hx hl fun h' u k st' sb => ?_
    have e2 : ((x.cps.size - 1 - i : Nat) : Int) - 1 = (x.cps.size : Int) - 1 - ((i + 1 : Nat) : Int) := by omega
    rw [e2] at st'
    have I1 : Inv X pins σ H { s with heap := h', toks := k } := I.turned (t' := k) (fun b o hb e => (sb.2 b hb).trans e) f0 f1 f3 f4 f5
    obtain ⟨o, e, c, d⟩ := id st'
    exact ⟨_, rfl, go_of (s := { s with heap := h', toks := k }) e c d (by decide) ⟨.str ⟨#[x.cps[x.cps.size - 1 - i]]⟩, H, I1, ⟨u, rfl⟩, ⟨rfl, _, hx, rfl⟩, ⟨hin, st'⟩, fun b hb => (hf b hb).1⟩⟩
  done := by
    intro X hP hw hK hc i pins s σ H E I hf st hg
    subst hP hw hK
    obtain ⟨f0, f1, f2, f3, f4, f5⟩ := hf it (by simp)
    obtain ⟨hin, hit⟩ := st
    have hge : x.cps.size ≤ i := hg
    have e1 : (x.cps.size : Int) - 1 - ((i : Nat) : Int) = -1 := by omega
    rw [e1] at hit
    exact next_rs_end (I.ok.hd hc) hit fun h' eb => ⟨rfl, I.turned (t' := s.toks) (fun b o hb e => eb b o hb e) f0 f1 f3 f4 f5⟩
  self := fun A i s Q E st h => iter_rs st.2 h
def itRevStr (te : TE) : TI := fun σ H R => te σ H fun v H1 => ∃ x, v = .str x ∧ x.length ≤ sizeLine ∧ R (Itrs x) H1
theorem pi_revStr {X : Cx} {tg e : Expr} {te : TE} {p pos : Pos} (hg : Gl X "reversed") (hm : X.mg "reversed" = none) (he : PE X e te) (hs : starEach [e] X.env = (false, eval e X.env) :: starEach [] X.env := by rfl) : PI X tg (.Call (.Name "reversed" p) [e] [] pos) (itRevStr te) := by
  refine ⟨fun pins s σ H R I h => ?_⟩
  refine Call_ (ld_blt I hg hm PyProof.Rows.boot_reversed (PyProof.Rows.callWith_type1 (args_cons (thn (he.run pins s σ H _ I h) fun u s1 ⟨v, H1, I1, r1, q1⟩ => args_nil ?_) hs) hs rfl))
  obtain ⟨x, rfl, hl, q⟩ := q1
  obtain ⟨t, rfl⟩ := _root_.id r1
  have e1 : ((x.length : Nat) : Int) - 1 = (x.cps.size : Int) - 1 - ((0 : Nat) : Int) := by
    show (x.cps.size : Int) - 1 = _
    omega
  refine call_reversed_str hl (iter_rs (x := x) (t := t) (i := ((x.length : Nat) : Int) - 1) ⟨_, Heap.get?_push_size _ rfl, rfl, rfl⟩ ?_)
  refine pi_one (tk := s1.toks + 1 + 1) I1 _ (turn_rs _ x t hl) ⟨Nat.zero_le _, ?_⟩ q
  rw [← e1]
  exact ⟨_, Heap.get?_push_size _ rfl, rfl, rfl⟩
end Bk
end
/-! BkMore -/
section
set_option Elab.async false
set_option linter.all false
set_option autoImplicit false
set_option maxRecDepth 100000
set_option maxHeartbeats 4000000
/-! BkMore: walks with numbers, from behind; methods of texts; refusals; the defs' heads -/
namespace Bk
open PySem PySem.Spec PyProof.Rows L2
section
variable {X : Cx} {B : Bs} {a b c e tg iter : Expr} {es : List Expr} {pos p : Pos} {f g h : E} {fs : List E}
theorem enumL_len (k : Nat) : ∀ ds : List D, (enumL k ds).length = ds.length
  | [] => rfl
  | _ :: r => congrArg (· + 1) (enumL_len (k + 1) r)
theorem enumL_get : ∀ (k : Nat) (ds : List D) (i : Nat), (enumL k ds)[i]? = (ds[i]?).map fun d => .tup [.int ((k + i : Nat) : Int), d]
  | k, [], i => by simp [enumL]
  | k, d :: r, 0 => by simp [enumL]
  | k, d :: r, i + 1 => by
    have e := enumL_get (k + 1) r i
    have e2 : k + 1 + i = k + (i + 1) := by omega
    rw [e2] at e
    simpa [enumL] using e
theorem newTup {K : PySem.W.Frag} {G H : Hp} {T : Addr} {vs : List V} {ds : List D} (e : Ex G H) (h : H T = none) (ra : RpAll K G vs ds) : Ext G H (upd G T (.tup vs)) (upd H T (.tup vs)) ∧ Rp K (upd G T (.tup vs)) (.ref T) (.tup ds) := by
  have x : Ext G H (upd G T (.tup vs)) (upd H T (.tup vs)) := Ext.new e h
  exact ⟨x, .tup (.inl (.inl upd_same)) (ra.mono x.g)⟩
theorem walkd_enumS {K : PySem.W.Frag} {G : Hp} (s : List Nat) : WalkD K (Itse (Sx s)) G (enumL 0 (signs s)) := by
  refine ⟨fun i H hi _ => ?_, fun H _ => ?_, fun i H x H' d hd _ y G1 e1 e2 => ?_⟩
  · rw [enumL_len, signs_len] at hi
    show i < s.toArray.size
    simpa using hi
  · show s.toArray.size ≤ (enumL 0 (signs s)).length
    rw [enumL_len, signs_len]
    simp
  · obtain ⟨T, c, h1, rfl, hT, rfl⟩ := y
    have h1 : s.toArray[i]? = some c := h1
    rw [List.getElem?_toArray] at h1
    rw [enumL_get] at hd
    unfold signs at hd
    rw [List.getElem?_map, h1] at hd
    cases hd
    rw [Nat.zero_add]
    exact ⟨_, newTup e2 hT (.cons (.int _) (.cons (.str [c]) .nil))⟩
theorem walkd_enumL {K : PySem.W.Frag} {G : Hp} {aa : Addr} {vs : List V} {ds : List D} (hs : SqL K G aa vs) (ra : RpAll K G vs ds) : WalkD K (Ite K aa) G (enumL 0 ds) := by
  refine ⟨fun i H hi ex => ?_, fun H ex => ⟨vs, ex.l hs, by rw [enumL_len]; exact Nat.le_of_eq ra.length⟩, fun i H x H' d hd ex y G1 e1 e2 => ?_⟩
  · rw [enumL_len] at hi
    have hi' : i < vs.length := by rw [ra.length]; exact hi
    exact ⟨vs, vs[i], ex.l hs, List.getElem?_eq_getElem hi'⟩
  · obtain ⟨T, x1, rfl, hT, rfl, y⟩ := y
    rw [enumL_get, Nat.zero_add] at hd
    cases z : ds[i]? with
    | none =>
      rw [z] at hd
      cases hd
    | some d1 =>
      rw [z] at hd
      cases hd
      obtain ⟨v, h1, h2⟩ := ra.get z
      have := y vs (ex.l hs)
      rw [h1] at this
      cases this
      exact ⟨_, newTup e2 hT (.cons (.int _) (.cons (h2.mono e1) .nil))⟩
/-- enumerate of a text, a list -/
theorem pi_enumS {elts : List Expr} {kk : Nat} {tpos : Pos} (hm : X.mg "enumerate" = none) (ha : PE X a (tX X.K B f)) (hg : Gl X "enumerate" := by rfl) (h0 : starEach [a] X.env = (false, eval a X.env) :: starEach [] X.env := by rfl) (hs : starEach [a] X.env = [(false, eval a X.env)] := by rfl) :
    PI X (.Tuple elts kk tpos) (.Call (.Name "enumerate" p) [a] [] pos) (tI X.K B (iEnum f)) := by
  have hl := L2.pi_enum (tpos := tpos) (elts := elts) (kk := kk) (p := p) (pos := pos) hg hm (pa_cons ha pa_nil h0) hs
  have ht := pi_enumStr (tpos := tpos) (elts := elts) (kk := kk) (p := p) (pos := pos) hg hm (pa_cons ha pa_nil h0) hs
  refine ⟨fun pins s σ H R I q => ?_⟩
  obtain ⟨G, η, r, q⟩ := q
  have q := sat_bind q
  cases z : f η with
  | ok d =>
    rw [z] at q
    have fin : ∀ Q : VK, (∀ G' H' v, Ext G H G' H' → Rp X.K G' v d → Q v H') → tX X.K B f σ H Q := fun Q k => ⟨G, η, r, by rw [z]; exact k⟩
    cases d with
    | lst ds => exact hl.run pins s σ H R I (fin _ fun G1 H1 v e1 r1 => by
        cases r1 with
        | lst hs ra => exact ⟨_, _, rfl, e1.gh.l hs, q G1 H1 _ e1 (walkd_enumL hs ra)⟩)
    | str ds => exact ht.run pins s σ H R I (fin _ fun G1 H1 v e1 r1 => by
        cases r1
        exact ⟨_, rfl, q G1 H1 _ e1 (walkd_enumS ds)⟩)
    | _ => exact q.elim
  | raise cl =>
    rw [z] at q
    exact hl.run pins s σ H R I ⟨G, η, r, by rw [z]; exact q⟩
  | bad =>
    rw [z] at q
    exact q.elim
theorem walkd_revS {K : PySem.W.Frag} {G : Hp} (s : List Nat) : WalkD K (Itrs (Sx s)) G (signs s.reverse) := by
  refine ⟨fun i H hi _ => ?_, fun H _ => ?_, fun i H x H' d hd _ y G1 e1 e2 => ?_⟩
  · rw [signs_len, List.length_reverse] at hi
    show i < s.toArray.size
    simpa using hi
  · show s.toArray.size ≤ (signs s.reverse).length
    rw [signs_len, List.length_reverse]
    simp
  · obtain ⟨rfl, c, h1, rfl⟩ := y
    have h1 : s.toArray[s.toArray.size - 1 - i]? = some c := h1
    rw [List.getElem?_toArray, List.size_toArray] at h1
    have hi := lt_of_get hd
    rw [signs_len, List.length_reverse] at hi
    unfold signs at hd
    rw [List.getElem?_map, List.getElem?_reverse hi, h1] at hd
    cases hd
    exact ⟨G1, Ext.refl e2, .str [c]⟩
theorem pi_revS (hm : X.mg "reversed" = none) (ha : PE X a (tX X.K B f)) (hg : Gl X "reversed" := by rfl) (h0 : starEach [a] X.env = (false, eval a X.env) :: starEach [] X.env := by rfl) : PI X tg (.Call (.Name "reversed" p) [a] [] pos) (tI X.K B (iRevS f)) :=
  pi_weak (pi_revStr hg hm ha h0) fun σ H R q => by
    obtain ⟨G, η, r, q⟩ := q
    refine tX.of r (sat_bind q) fun x hx G1 H1 v e1 r1 => ?_
    cases r1 with
    | str s =>
      obtain ⟨hl, hx⟩ := sat_if hx
      exact ⟨_, rfl, by rw [sx_len, line_eq]; exact hl, hx G1 H1 _ e1 (walkd_revS s)⟩
    | _ => exact hx.elim
/-! ### methods of texts -/
theorem joinS_eq (sep : List Nat) : ∀ l : List (List Nat), Txt.join (Sx sep) (l.map Sx) = Sx (joinS sep l) := by
  have key : ∀ (l : List (List Nat)) (acc : List Nat), ((l.map Sx).foldl (fun (acc : Array Nat) (p : Str) => acc ++ (Sx sep).cps ++ p.cps) acc.toArray) = (acc ++ (l.map fun x => sep ++ x).flatten).toArray := by
    intro l
    induction l with
    | nil => intro acc; simp
    | cons x r ih =>
      intro acc
      rw [List.map_cons, List.foldl_cons]
      have e : acc.toArray ++ (Sx sep).cps ++ (Sx x).cps = (acc ++ sep ++ x).toArray := by simp [Sx]
      rw [e, ih]
      simp
  have key2 : ∀ (x : List Nat) (r : List (List Nat)), joinS sep (x :: r) = x ++ (r.map fun x => sep ++ x).flatten := by
    intro x r
    induction r generalizing x with
    | nil => simp [joinS]
    | cons y r ih =>
      show x ++ sep ++ joinS sep (y :: r) = _
      rw [ih]
      simp
  intro l
  cases l with
  | nil => rfl
  | cons x r =>
    rw [key2]
    show Str.mk (((x :: r).map Sx).drop 1 |>.foldl (fun acc p => acc ++ (Sx sep).cps ++ p.cps) _) = _
    rw [List.map_cons, List.drop_succ_cons, List.drop_zero]
    show Str.mk ((r.map Sx).foldl (fun acc p => acc ++ (Sx sep).cps ++ p.cps) x.toArray) = _
    rw [key]
theorem lenSum_eq : ∀ l : List (List Nat), ((l.map Sx).map (·.length)).sum = lenSum l
  | [] => rfl
  | x :: r => by
    rw [List.map_cons, List.map_cons, List.sum_cons, lenSum_eq r, sx_len]
    rfl
theorem pv_join {sep : List Nat} {apos : Pos} (ha : PE X a (tX X.K B (eC (.str sep)))) (hb : PE X b (tX X.K B g)) (hs : starEach [b] X.env = [(false, eval b X.env)] := by rfl) (hbase : attributeBase a "join" X.env (eval a X.env) = eval a X.env := by rfl) (hline : (apos.endLine == pos.line) = true := by rfl) :
    PE X (.Call (.Attribute a "join" apos) [b] [] pos) (tX X.K B (eBin dJoin (eC (.str sep)) g)) := pe_weak (pe_join ha hb hs hbase hline) fun σ H Q q => by
  obtain ⟨G, η, r, q⟩ := q
  refine tX.of r (P := fun x => x = .str sep) rfl fun x hx G1 H1 v e1 r1 => ?_
  subst hx
  cases r1
  refine ⟨⟨_, rfl⟩, tX.of (r.extd e1) (sat_bind q) fun y hy G2 H2 w e2 r2 => ?_⟩
  have hy2 := sat_calm (R' := fun _ => False) hy
  clear hy
  cases r2 with
  | lst hs ra =>
    rename_i aa vs ds
    have hy := hy2
    cases z : strsL ds with
    | none =>
      simp [dJoin, z, Res.Sat] at hy
    | some ss =>
      simp only [dJoin, z] at hy
      obtain ⟨hl, hy⟩ := sat_if hy
      have ev := ra.txts z
      subst ev
      refine ⟨_, _, ss.map Sx, rfl, rfl, .inl (e2.gh.l hs), ?_, ?_⟩
      · rw [lenSum_eq, sx_len, List.length_map]
        exact hl
      · rw [joinS_eq]
        exact hy G2 H2 _ (e1.trans e2) (.str _)
  | _ => exact hy2.elim
theorem cnt_eq (c : Nat) : ∀ l : List Nat, cnt c l = (l.count c : Nat)
  | [] => rfl
  | n :: r => by
    rw [cnt_cons, cnt_eq c r, List.count_cons]
    by_cases h : n = c
    · subst h
      simp
      omega
    · rw [if_neg h]
      simp [h]
/-- s.count(one sign) -/
theorem pv_count {d : D} {apos : Pos} (ha : PE X a (tX X.K B f)) (hb : PE X b (tX X.K B (eC d))) (hs : starEach [b] X.env = [(false, eval b X.env)] := by rfl) (hbase : attributeBase a "count" X.env (eval a X.env) = eval a X.env := by rfl) (hline : (apos.endLine == pos.line) = true := by rfl) :
    PE X (.Call (.Attribute a "count" apos) [b] [] pos) (tX X.K B (eBin dCount f (eC d))) := pe_weak (pe_m1 F.slot_str_count F.type_str_count mt_count ha hb hs hbase hline) fun σ H Q q => by
  obtain ⟨G, η, r, q⟩ := q
  refine tX.of r (sat_bind q) fun x hx G1 H1 v e1 r1 => ?_
  have hx : (dCount x d).calm.Sat _ _ := hx
  have hx := sat_calm (R' := fun _ => False) hx
  cases r1 with
  | str s =>
    cases d with
    | str t =>
      rcases t with _ | ⟨c, _ | ⟨c2, t⟩⟩
      · exact hx.elim
      · obtain ⟨hl, hx⟩ := sat_if hx
        refine ⟨⟨_, rfl⟩, tX.of (r.extd e1) (P := fun x => x = .str [c]) rfl fun y hy G2 H2 w e2 r2 => ?_⟩
        subst hy
        cases r2
        refine ⟨_, _, rfl, rfl, ?_⟩
        have e : Txt.count (Sx s) (Sx [c]) = (s.count c : Nat) := (count_is (Sx s) c).trans (cnt_eq c s)
        rw [e]
        exact hx G2 H2 _ (e1.trans e2) (.int _)
      · exact hx.elim
    | _ => exact hx.elim
  | _ => cases d <;> exact hx.elim
/-- {'(': 1, ')': -1}.get(e, d) -/
theorem pv_sign {p1 p2 p3 p4 p5 apos cpos : Pos} {j1 j2 j3 j4 : Nat} (hu : X.A.units + 1 < cLine) (ha : PE X a (tX X.K B f)) (hb : PE X b (tX X.K B g))
    (m : M2 X (.Dict [some (.Constant (.str "(") j1 p1), some (.Constant (.str ")") j2 p2)] [.Constant (.int 1) j3 p3, .UnaryOp .USub (.Constant (.int 1) j4 p4) p5] p) "get" apos a b cpos := by exact ⟨rfl, rfl, rfl, rfl⟩) :
    PE X (.Call (.Attribute (.Dict [some (.Constant (.str "(") j1 p1), some (.Constant (.str ")") j2 p2)] [.Constant (.int 1) j3 p3, .UnaryOp .USub (.Constant (.int 1) j4 p4) p5] p) "get" apos) [a, b] [] cpos) (tX X.K B (eSign f g)) := by
  have hd := pe_disp (X := X) (pos := p) (pps_cons (pe_str (x := "(") (j := j1) (pos := p1)) (pe_int (i := 1) (j := j3) (pos := p3)) (pps_cons (pe_str (x := ")") (j := j2) (pos := p2)) (pe_un un_neg (pe_int (i := 1) (j := j4) (pos := p4)) (pos := p5)) pps_nil)) rfl rfl (by simp) (by show 2 ≤ 15; decide)
  refine pe_weak (L2.pe_dget2 hu hd ha hb m) fun σ H Q q => ?_
  obtain ⟨G, η, r, q⟩ := q
  intro p0 hp
  refine ⟨1, rfl, ?_⟩
  have hH : upd (upd H p0 (.dK [])) p0 (.dK (mergeK [] [(.inr "(", V.int 1), (.inr ")", V.int (-1))])) = upd H p0 (.dK [(.inr "(", V.int 1), (.inr ")", V.int (-1))]) := by
    funext z
    by_cases hz : z = p0
    · subst hz
      rw [upd_same, upd_same]
      rfl
    · rw [upd_ne hz, upd_ne hz, upd_ne hz]
  refine ⟨upd_same, [(.inr "(", V.int 1), (.inr ")", V.int (-1))], rfl, by decide, ?_⟩
  rw [hH]
  have x0 : Ext G H G (upd H p0 (.dK [(.inr "(", V.int 1), (.inr ")", V.int (-1))])) := Ext.drop r.exg hp
  refine ⟨p0, rfl, .inl ⟨_, .inl upd_same⟩, ?_⟩
  refine tX.of (r.extd x0) (sat_bind q) fun x hx G1 H1 v e1 r1 => ?_
  refine tX.of ((r.extd x0).extd e1) (sat_bind hx) fun y hy G2 H2 w e2 r2 => ?_
  have hy := sat_calm (R' := fun _ => False) hy
  cases r1 with
  | str s =>
    have hh : H2 p0 = some (.dK [(.inr "(", V.int 1), (.inr ")", V.int (-1))]) := e2.h _ _ (e1.h _ _ upd_same)
    refine ⟨_, DGet.k (k := .inr (Sx s)) hh, ?_⟩
    have e40 : ("(" : Str) = Sx [40] := by decide +kernel
    have e41 : (")" : Str) = Sx [41] := by decide +kernel
    by_cases h1 : s = [40]
    · subst h1
      exact hy G2 H2 _ ((x0.trans e1).trans e2) (.int 1)
    · by_cases h2 : s = [41]
      · subst h2
        exact hy G2 H2 _ ((x0.trans e1).trans e2) (.int (-1))
      · have ev : valV (κ := Key) [(.inr "(", V.int 1), (.inr ")", V.int (-1))] (.inr (Sx s)) = none := by
          have k1 : decide ((.inr "(" : Key) = .inr (Sx s)) = false := decide_eq_false fun z => h1 (sx_inj (by rw [← Sum.inr.inj z, e40]))
          have k2 : decide ((.inr ")" : Key) = .inr (Sx s)) = false := decide_eq_false fun z => h2 (sx_inj (by rw [← Sum.inr.inj z, e41]))
          unfold valV
          rw [List.find?_cons, List.find?_cons]
          simp only [k1, k2]
          rfl
        rw [ev]
        have hy : (Res.ok (if s = [40] then D.int 1 else if s = [41] then D.int (-1) else y)).Sat _ _ := hy
        rw [if_neg h1, if_neg h2] at hy
        exact hy G2 H2 _ ((x0.trans e1).trans e2) r2
  | _ => exact hy.elim
end
/-! ### refusals -/
structure ErrC (K : PySem.W.Frag) (mg : Str → Option Value) (C : Addr) (x : Str) : Prop where
  g : mg x = some (.ref C)
  x : PySem.W.excIn K C [.type "ValueError", .type "Exception", .type "BaseException", .type "object"] "ValueError.__new__" = true
  k : PySem.W.keepIn K (.ref C) = true
  b : PySem.W.subIn K (.ref C) (.type "BaseException") = some true
  t : PySem.W.typeIn K (.ref C) = some (.type "type")
structure Errs (K : PySem.W.Frag) (mg : Str → Option Value) (cl : Cls → Addr) : Prop where
  r : ErrC K mg (cl .noRow) "NoRow"
  p : ErrC K mg (cl .noPlace) "NoPlace"
theorem s_raise {X : Cx} {B : Bs} {c : Cls} {x m : Str} {j : Nat} {p p2 pos pos2 : Pos} (E : ErrC X.K X.mg (B.cl c) x) (tk : Takes X (fun cls d _ H => B.ex cls d H)) (hc : X.calm = true := by rfl) (hg : Gl X x := by rfl) (hdb : (x == ("__debug__" : Str)) = false := by decide) :
    PS X (.Raise (some (.Call (.Name x p) [.Constant (.str m) j p2] [] pos2)) none pos) (tS X.K B (sRaise c)) :=
  ps_weak (ps_raise hc tk (pmk_own PySem.F.excBase_ValueError E.x E.g E.k (raises_own E.b E.t) hg hdb)) fun D σ H q => by
    obtain ⟨G, η, r, q⟩ := q
    exact q H r.ext.h
/-! ### heads -/
structure Has (K : PySem.W.Frag) (mg : Str → Option Value) (x : Str) (st : Stmt) (ps : List Str) : Prop where
  ex : ∃ (fa : Addr) (fd : FuncData), Fun K x x st fa fd ∧ mg x = some (.ref fa) ∧ Binds K fd ps []
section
variable {P : Program} {w : World} {K : PySem.W.Frag} {mg : Str → Option Value} {base : Heap} {cl : Cls → Addr} {k : Nat} {x : Str} {st : Stmt} {ps N : List Str} {n : Nat}
theorem Has.ok {g : Bk.St} (F : Has K mg x st ps) (S : FnScope N ps (defScope st)) (hn : ps.length = n)
    (hbody : ∀ (cdv : Value) (A : Around) (outer : List PySem.Env) (s : Shared) (H : Hp) (E : XK) (G : Hp) (fa : Addr), Room k (A.deeper (envOfC x (defScope st) s.heap.objs.size fa cdv)) →
      (A.deeper (envOfC x (defScope st) s.heap.objs.size fa cdv)).units + 64 < cLine → (A.deeper (envOfC x (defScope st) s.heap.objs.size fa cdv)).units + 1 < cLine → (A.deeper (envOfC x (defScope st) s.heap.objs.size fa cdv)).units + 12 < cLine →
      PSs (cxOf (L2.CX P w) P w K mg base N x (defScope st) fa cdv A outer s H E) (defBody st) (tS K { G0 := G, H0 := H, cl := cl, ex := E } g)) :
    DefOk P w K mg base cl (k + 1) x n (runDef N.length g) := by
  obtain ⟨fa, fd, F, hm, hb⟩ := F.ex
  exact DefOk.mk' F S hn hm hb fun cdv A outer s H E G hr => hbody cdv A outer s H E G fa hr hr.units (Nat.lt_of_le_of_lt (Nat.add_le_add_left (by decide) _) hr.units) (Nat.lt_of_le_of_lt (Nat.add_le_add_left (by decide) _) hr.units)
/-- the law's promise: what it gives for data, where it is not refused -/
def spL (K : PySem.W.Frag) (φ : List D → Res D) : Sp := fun vs H Q _ => vs.length = 1 ∧ ∃ G ds, Ex G H ∧ RpAll K G vs ds ∧ (φ ds).Sat (fun d => ∀ G' H' v, Ext G H G' H' → Rp K G' v d → Q v H') (fun _ => False)
theorem fn_okL {g : Bk.St} {fa : Addr} {fd : FuncData} (cl : Cls → Addr) (F : Fun K x x st fa fd) (S : FnScope N ps (defScope st)) (hn : ps.length = 1)
    (hbody : ∀ (cdv : Value) (A : Around) (outer : List PySem.Env) (s : Shared) (H : Hp) (E : XK) (G : Hp), Room k (A.deeper (envOfC x (defScope st) s.heap.objs.size fa cdv)) →
      (A.deeper (envOfC x (defScope st) s.heap.objs.size fa cdv)).units + 64 < cLine → (A.deeper (envOfC x (defScope st) s.heap.objs.size fa cdv)).units + 1 < cLine → (A.deeper (envOfC x (defScope st) s.heap.objs.size fa cdv)).units + 12 < cLine →
      PSs (cxOf (L2.CX P w) P w K mg base N x (defScope st) fa cdv A outer s H E) (defBody st) (tS K { G0 := G, H0 := H, cl := cl, ex := E } g)) :
    FnOk P w K mg base (L2.CX P w) (k + 1) fa fd ps (spL K (runDef N.length g)) :=
  fn_ok F S hn (fun vs H Q E h => let ⟨h1, G, ds, h2, h3, h4⟩ := h; ⟨h1, G, ds, h2, h3, Sat.mono h4 (fun _ z => z) fun _ z => z.elim⟩) fun cdv A outer s H E G hr => hbody cdv A outer s H E G hr hr.units (Nat.lt_of_le_of_lt (Nat.add_le_add_left (by decide) _) hr.units) (Nat.lt_of_le_of_lt (Nat.add_le_add_left (by decide) _) hr.units)
theorem spL_start {φ : List D → Res D} {H : Hp} {a : Addr} {ns : List Int} (hS : SqL K H a (ns.map V.int)) (h : φ [.lst (ns.map D.int)] = .ok (.bool true)) : spL K φ [.ref a] H (fun v _ => v = .bl true) fun _ _ _ => False := by
  refine ⟨rfl, H, [.lst (ns.map D.int)], Ex.refl H, .cons (.lst hS (RpAll.ofInts ns)) .nil, ?_⟩
  rw [h]
  intro G' H' v _ r
  cases r
  rfl
theorem bits_log {z : Int} {n : Nat} (h : Builtin.Int.intBits z ≤ n) : z.natAbs.log2 ≤ n := by
  unfold Builtin.Int.intBits at h
  by_cases e : (z == 0) = true
  · have : z = 0 := by simpa using e
    subst this
    exact Nat.zero_le _
  · rw [if_neg e] at h
    omega
theorem cx_end {P : Program} {w : World} {H : Hp} {s s' : Shared} {e : Value} (h : L2.CX P w [] H s (fun _ _ _ => False) e s') : False := by
  obtain ⟨_, _, _, _, _, _, _, _, _, _, _, _, z⟩ := h
  exact z
theorem Has.zero (F : Has K mg x st ps) (S : FnScope N ps (defScope st)) (hn : ps.length = n) : DefOk P w K mg base cl (k + 1) x n (fun _ => .bad) := by
  obtain ⟨fa, fd, F, hm, hb⟩ := F.ex
  refine ⟨⟨fa, fd, ps, F.okX S (fun vs H Q E h => ?_) (fun cdv A outer s H vs Q E hr h => ?_), hm, F.kp, hb⟩⟩
  · obtain ⟨_, G, ds, _, _, h⟩ := h
    exact h.elim
  · obtain ⟨_, G, ds, _, _, h⟩ := h
    exact h.elim
theorem Has.mk' {f : Addr} {oc : Value} {od an : Option Addr} {osl : Array (Option Value)} {kV doc pm cdv ct : Value} (a : mg x = some (.ref f)) (l : K.lookup f = some ⟨oc, od, .func (PySem.W.fnOf x x (defArgs st) (defBody st) (defScope st) .none kV doc pm an cdv ct), osl⟩)
    (c : PySem.W.codeIn K cdv x = true) (kp : PySem.W.keepIn K (.ref f) = true)
    (b : ∀ (kV doc pm : Value) (an : Option Addr) (cdv ct : Value) (us : List Value), us.length = ps.length → bindArgs (PySem.W.fnOf x x (defArgs st) (defBody st) (defScope st) .none kV doc pm an cdv ct) ⟨us, []⟩ = pure (ps.zip us)) : Has K mg x st ps :=
  ⟨⟨f, _, fun_mk l c kp, a, (fun_mk l c kp).binds b⟩⟩
end
/-- no built-in's name is covered -/
structure Bi (mg : Str → Option Value) : Prop where
  m_len : mg "len" = none
  m_int : mg "int" = none
  m_min : mg "min" = none
  m_max : mg "max" = none
  m_sum : mg "sum" = none
  m_all : mg "all" = none
  m_list : mg "list" = none
  m_tuple : mg "tuple" = none
  m_sorted : mg "sorted" = none
  m_isinstance : mg "isinstance" = none
  m_str : mg "str" = none
  m_bool : mg "bool" = none
  m_range : mg "range" = none
  m_enumerate : mg "enumerate" = none
  m_reversed : mg "reversed" = none
  m_zip : mg "zip" = none
  m_ValueError : mg "ValueError" = none
end Bk
end
/-! BkTry -/
section
set_option Elab.async false
set_option linter.all false
set_option autoImplicit false
set_option maxRecDepth 100000
set_option maxHeartbeats 4000000
/-! BkTry: try: a call that may be refused; except .. as e: what e is -/
namespace Bk
open PySem PySem.Spec PyProof.Rows L2
/-! ### in the body -/
def tXW (K : PySem.W.Frag) (B : Bs) (W : WX) (f : E) : TE := fun σ H Q => ∃ G η, RpE K B.G0 B.H0 G H σ η ∧ (f η).Sat (fun d => ∀ G' H' v, Ext G H G' H' → Rp K G' v d → Q v H') (fun c => ∀ G' H', Ext G H G' H' → W (.ref (B.cl c)) Option.none σ H')
def FinW (K : PySem.W.Frag) (B : Bs) (D : Ends) (G H : Hp) (W : WX) (σ : L2.St) : Out → Prop
  | .next η' => ∀ G' H' σ', Ex G G' → RpE K B.G0 B.H0 G' H' σ' η' → D.nx σ' H'
  | .raise c => ∀ G' H', Ext G H G' H' → W (.ref (B.cl c)) Option.none σ H'
  | _ => False
def tSW (K : PySem.W.Frag) (B : Bs) (W : WX) (g : St) : TS := fun D σ H => ∃ G η, RpE K B.G0 B.H0 G H σ η ∧ FinW K B D G H W σ (g η)
section
variable {X : Cx} {B : Bs} {a b c e : Expr} {es : List Expr} {pos p : Pos} {f g h : E} {fs : List E} {t : T} {W : WX}
theorem pv_callW {k n : Nat} {x : Str} {φ : List D → Res D} (F : DefOk X.prog X.w X.K X.mg X.base B.cl k x n φ) (hr : Room k X.A) (tk : Takes X W) (ha : PA X (e :: es) (tA X.K B.calm fs)) (hn : fs.length = n := by rfl) (hg : Gl X x := by rfl)
    (hdb : (x == ("__debug__" : Str)) = false := by decide) (he : starEach (e :: es) X.env = (false, eval e X.env) :: starEach es X.env := by rfl) (hpl : (backTo pos (starEach es X.env)).any (·.1) = false := by rfl) :
    PE X (.Call (.Name x p) (e :: es) [] pos) (tXW X.K B W (eCallT φ fs)) := by
  obtain ⟨fa, fd, ps, F, hm, hk, hb⟩ := F.ex
  refine pe_weak (pe_callS (E := WE W) F hr hg hm hk hb (fun σ => passAt tk σ) ha hdb he hpl) fun σ H Q q => ?_
  obtain ⟨G, η, r, q⟩ := q
  cases z : evals fs η with
  | ok ds0 =>
    unfold eCallT at q
    rw [z] at q
    have hE : (evals fs η).Sat (fun ds => ds = ds0) (Rz B.calm) := by
      rw [z]
      exact rfl
    refine tA.of (B := B.calm) r (evals_len hE) fun ds hds G1 H1 vs e1 r1 => ?_
    obtain ⟨hl, rfl⟩ := hds
    refine ⟨by rw [r1.length, hl, hn], G1, ds, e1.gh, r1, Sat.mono (m := φ ds) q (fun d q G' H' v e2 r2 => q G' H' v (e1.trans e2) r2) fun c z2 H' x => z2 G1 H' (e1.trans ⟨Ex.refl G1, e1.gh.trans x, x, fun _ h _ => h⟩)⟩
  | raise c =>
    unfold eCallT at q
    rw [z] at q
    exact q.elim
  | bad =>
    unfold eCallT at q
    rw [z] at q
    exact q.elim
variable {s1 s2 : St} {body orelse : List Stmt}
theorem s_setW (i : Nat) {x : Str} {px : Pos} (hN : X.N.Nodup) (ha : PE X a (tXW X.K B W f)) (hi : X.N[i]? = some x := by rfl) (hx : Loc X.env.scope x := by first | exact .inl rfl | exact .inr rfl) (hs : swapsWith a (some (.Name x px)) pos.line X.env = pure false := by rfl) (hf : X.fn x = true ∨ X.env.scope.names.lookup x = some .local := by first | exact .inl rfl | exact .inr rfl) :
    PS X (.Assign [.Name x px] a pos) (tSW X.K B W (sSet i f)) := ps_weak (ps_set hN hi hx ha hs hf) fun D σ H q => by
  obtain ⟨G, η, r, q⟩ := q
  refine ⟨G, η, r, ?_⟩
  cases z : f η with
  | ok d =>
    unfold sSet sAsg at q
    rw [z] at q
    exact fun G' H' v e1 r1 => q G' H' _ e1.g ((r.extd e1).set i r1)
  | raise c =>
    unfold sSet sAsg at q
    rw [z] at q
    exact q
  | bad =>
    unfold sSet sAsg at q
    rw [z] at q
    exact q.elim
theorem s_dropW (ha : PE X a (tXW X.K B W f)) (hs : swapsWith a none pos.line X.env = pure false := by rfl) : PS X (.Expr a pos) (tSW X.K B W (sDrop f)) := ps_weak (ps_expr ha hs) fun D σ H q => by
  obtain ⟨G, η, r, q⟩ := q
  refine ⟨G, η, r, ?_⟩
  cases z : f η with
  | ok d =>
    unfold sDrop at q
    rw [z] at q
    exact fun G' H' v e1 r1 => q G' H' _ e1.g (r.extd e1)
  | raise c =>
    unfold sDrop at q
    rw [z] at q
    exact q
  | bad =>
    unfold sDrop at q
    rw [z] at q
    exact q.elim
theorem ss_oneW {st : Stmt} (h1 : PS X st (tSW X.K B W s1)) : PSs X [st] (tSW X.K B W s1) := pss_one h1
theorem FinW.up {D : Ends} {G H G1 H1 : Hp} {σ : L2.St} (x : Ext G H G1 H1) : ∀ {o : Out}, FinW X.K B D G H W σ o → FinW X.K B D G1 H1 W σ o
  | .next _, h => fun G' H' σ' e r => h G' H' σ' (x.g.trans e) r
  | .raise _, h => fun G' H' e => h G' H' (x.trans e)
  | .brk _, h => h
  | .ct _, h => h
  | .ret _, h => h
  | .bad, h => h
theorem s_ifW (hc : PT X a (tT X.K B.calm t)) (h1 : PSs X body (tSW X.K B W s1)) (h2 : PSs X orelse (tSW X.K B W s2)) : PS X (.If a body orelse pos) (tSW X.K B W (sIfC t s1 s2)) := ps_weak (ps_if hc h1 h2) fun D σ H q => by
  obtain ⟨G, η, r, q⟩ := q
  refine ⟨G, η, r, ?_⟩
  cases z : t η with
  | ok k =>
    unfold sIfC at q
    rw [z] at q
    intro G' H' e1
    cases k with
    | true =>
      rw [if_pos rfl]
      exact ⟨G', η, r.extd e1, FinW.up e1 q⟩
    | false =>
      rw [if_neg Bool.false_ne_true]
      exact ⟨G', η, r.extd e1, FinW.up e1 q⟩
  | raise c =>
    unfold sIfC at q
    rw [z] at q
    exact q.elim
  | bad =>
    unfold sIfC at q
    rw [z] at q
    exact q.elim
end
/-! ### what e is -/
structure ErrI (K : PySem.W.Frag) (mg : Str → Option Value) (cl : Cls → Addr) (BE : Addr) : Prop where
  be : mg "BracketError" = some (.ref BE)
  r : mg "NoRow" = some (.ref (cl .noRow))
  p : mg "NoPlace" = some (.ref (cl .noPlace))
  ve : mg "ValueError" = none
  c : ∀ c, ExcC K (cl c)
  x : ∀ c, PySem.W.exmOne K (.ref (cl c)) (.ref BE) = some true
  rr : PySem.W.kitOne K (.ref (cl .noRow)) (.ref (cl .noRow)) = some true
  rp : PySem.W.kitOne K (.ref (cl .noRow)) (.ref (cl .noPlace)) = some false
  pr : PySem.W.kitOne K (.ref (cl .noPlace)) (.ref (cl .noRow)) = some false
  pp : PySem.W.kitOne K (.ref (cl .noPlace)) (.ref (cl .noPlace)) = some true
  v : ∀ c, PySem.W.kitOne K (.ref (cl c)) (.type "ValueError") = some true
theorem kit_ref {K : PySem.W.Frag} {C D : Addr} {b : Bool} (hd : PySem.W.hasDictIn K D = true) (ht : PySem.W.typeIn K (.ref D) = some (.type "type")) (h : PySem.W.subIn K (.ref C) (.ref D) = some b) (hn : C ≠ D) : PySem.W.kitOne K (.ref C) (.ref D) = some b := by
  obtain ⟨cd, hc, _⟩ := PySem.W.any_some hd
  have e0 : ¬ ((Value.ref C == Value.ref D) = true) := by simpa using hn
  have e2 : ((PySem.W.clsIn K D).isSome && PySem.W.typeIn K (.ref D) == some (.type "type")) = true := by rw [hc, ht] <;> rfl
  show (if (Value.ref C == Value.ref D) = true then some true else (if ((PySem.W.clsIn K D).isSome && PySem.W.typeIn K (.ref D) == some (.type "type")) = true then PySem.W.subIn K (.ref C) (.ref D) else none)) = some b
  rw [if_neg e0, if_pos e2]
  exact h
theorem kit_self {K : PySem.W.Frag} {C : Addr} : PySem.W.kitOne K (.ref C) (.ref C) = some true := by
  show (if (Value.ref C == Value.ref C) = true then some true else _) = _
  rw [if_pos (by simp)]
theorem kit_ve {K : PySem.W.Frag} {C : Addr} (h : PySem.W.subIn K (.ref C) (.type "ValueError") = some true) : PySem.W.kitOne K (.ref C) (.type "ValueError") = some true := by
  have e0 : ¬ ((Value.ref C == Value.type "ValueError") = true) := by simp
  have e2 : PySem.W.kitMeta "ValueError" = true := by decide +kernel
  show (if (Value.ref C == Value.type "ValueError") = true then some true else (if PySem.W.kitMeta "ValueError" = true then PySem.W.subIn K (.ref C) (.type "ValueError") else none)) = some true
  rw [if_neg e0, if_pos e2]
  exact h
def rE (i : Nat) (a : Addr) (k : Bool) : TE := fun σ H Q => σ[i]? = some (some (.ref a)) ∧ Q (.bl k) H
def rT (i : Nat) (a : Addr) (k : Bool) : TT := fun σ H Q => σ[i]? = some (some (.ref a)) ∧ Q k H
section
variable {X : Cx} {aa : Addr} {oe : Obj} {pn : List (Addr × Obj)} {i : Nat} {C : Addr} {k : Bool} {pos p p2 p3 : Pos} {y n : Str}
theorem pe_isX {tc : TE} {ce : Expr} {v : V} {cv : Value} (hcC : ExcC X.K C) (hz : Zc (.ref C) none oe) (hf : ∃ vs, oe.data = .fields vs) (hm : X.mg "isinstance" = none) (hc : PE (X.suite aa ((aa, oe) :: pn)) ce (tC v)) (hv : ∀ u, RelV v u → u = cv) (hk : PySem.W.kitOne X.K (.ref C) cv = some k)
    (hN : X.N[i]? = some n := by rfl) (hvis : Vis X.env.scope n := by first | exact Or.inl rfl | exact Or.inr (Or.inl rfl) | exact Or.inr (Or.inr rfl)) (hg : Gl X "isinstance" := by rfl) (hd : (n == ("__debug__" : Str)) = false := by decide)
    (hcd : (n == ("__classdict__" : Str)) = false := by decide) (h0 : starEach [.Name n p2, ce] (X.suite aa ((aa, oe) :: pn)).env = (false, eval (.Name n p2) (X.suite aa ((aa, oe) :: pn)).env) :: starEach [ce] (X.suite aa ((aa, oe) :: pn)).env := by rfl)
    (h1 : starEach [ce] (X.suite aa ((aa, oe) :: pn)).env = (false, eval ce (X.suite aa ((aa, oe) :: pn)).env) :: starEach [] (X.suite aa ((aa, oe) :: pn)).env := by rfl) (hpl : (backTo pos (starEach [ce] (X.suite aa ((aa, oe) :: pn)).env)).any (·.1) = false := by rfl) :
    PE (X.suite aa ((aa, oe) :: pn)) (.Call (.Name "isinstance" p) [.Name n p2, ce] [] pos) (rE i aa k) := by
  refine pe_weak (pe_callB (call_isE hcC hz hf) hg hm (by decide +kernel) (pa_cons (pe_var (X := X.suite aa ((aa, oe) :: pn)) (i := i) hN hvis hd hcd) (pa_cons hc pa_nil h1) h0) (by decide) (by decide) h0 hpl) fun σ H Q q => ?_
  exact ⟨.ref aa, q.1, v, cv, k, rfl, hv, hk, q.2⟩
/-- isinstance(e, an own class) -/
theorem pe_isO {D : Addr} (hcC : ExcC X.K C) (hz : Zc (.ref C) none oe) (hf : ∃ vs, oe.data = .fields vs) (hm : X.mg "isinstance" = none) (hy : X.mg y = some (.ref D)) (hk : PySem.W.kitOne X.K (.ref C) (.ref D) = some k)
    (hN : X.N[i]? = some n := by rfl) (hvis : Vis X.env.scope n := by first | exact Or.inl rfl | exact Or.inr (Or.inl rfl) | exact Or.inr (Or.inr rfl)) (hg : Gl X "isinstance" := by rfl) (hgy : Gl X y := by rfl) (hd : (n == ("__debug__" : Str)) = false := by decide)
    (hcd : (n == ("__classdict__" : Str)) = false := by decide) (hdy : (y == ("__debug__" : Str)) = false := by decide) :
    PE (X.suite aa ((aa, oe) :: pn)) (.Call (.Name "isinstance" p) [.Name n p2, .Name y p3] [] pos) (rE i aa k) :=
  pe_isX (tc := tC (.ref D)) hcC hz hf hm (pe_glob (X := X.suite aa ((aa, oe) :: pn)) (v := .ref D) hgy hy rfl hdy) (fun u h => h) hk hN hvis hg hd hcd
/-- isinstance(e, ValueError) -/
theorem pe_isV (hcC : ExcC X.K C) (hz : Zc (.ref C) none oe) (hf : ∃ vs, oe.data = .fields vs) (hm : X.mg "isinstance" = none) (hy : X.mg "ValueError" = none) (hk : PySem.W.kitOne X.K (.ref C) (.type "ValueError") = some k)
    (hN : X.N[i]? = some n := by rfl) (hvis : Vis X.env.scope n := by first | exact Or.inl rfl | exact Or.inr (Or.inl rfl) | exact Or.inr (Or.inr rfl)) (hg : Gl X "isinstance" := by rfl) (hgy : Gl X "ValueError" := by rfl) (hd : (n == ("__debug__" : Str)) = false := by decide)
    (hcd : (n == ("__classdict__" : Str)) = false := by decide) :
    PE (X.suite aa ((aa, oe) :: pn)) (.Call (.Name "isinstance" p) [.Name n p2, .Name "ValueError" p3] [] pos) (rE i aa k) :=
  pe_isX (tc := tC (.ty "ValueError")) hcC hz hf hm (pe_bltn (X := X.suite aa ((aa, oe) :: pn)) (v := .ty "ValueError") hgy hy (by decide +kernel) rfl (by decide) (by decide)) (fun u h => h) hk hN hvis hg hd hcd
end
section
variable {X : Cx} {i : Nat} {a : Addr} {k l m : Bool} {e e1 e2 e3 : Expr} {p1 p2 p3 pos : Pos}
theorem rE_and (h1 : PE X e1 (rE i a k)) (h2 : PE X e2 (rE i a l)) (h3 : PE X e3 (rE i a m)) : PE X (.BoolOp .And [e1, .UnaryOp .Not e2 p2, e3] pos) (rE i a (k && !l && m)) :=
  pe_weak (pe_and h1 (pe_and (pe_not h2) (pe_one h3))) fun σ H Q q => by
    refine ⟨q.1, k, rfl, ?_⟩
    cases k with
    | false => exact q.2
    | true =>
      rw [if_pos rfl]
      refine ⟨q.1, l, rfl, !l, rfl, ?_⟩
      cases l with
      | true => exact q.2
      | false => exact q
theorem rT_of (h : PE X e (rE i a k)) (he : ∀ whole, isTrue e X.env whole = (do let v ← whole; standAt e.pos; holding [v] (truthy v)) := by intro _; rfl) : PT X e (rT i a k) :=
  pt_weak (pt_val h he) fun σ H Q q => ⟨q.1, k, rfl, q.2⟩
theorem rT_and (h1 : PT X e1 (rT i a k)) (h2 : PT X e2 (rT i a l)) (h3 : PT X e3 (rT i a m)) : PT X (.BoolOp .And [e1, .UnaryOp .Not e2 p2, e3] pos) (rT i a (k && !l && m)) :=
  pt_weak (pw_and h1 (pw_and (pt_not h2) (pw_and1 h3))).pt fun σ H Q q => by
    refine ⟨q.1, ?_⟩
    cases k with
    | false => exact q.2
    | true =>
      rw [if_pos rfl]
      refine ⟨q.1, ?_⟩
      cases l with
      | true => exact q.2
      | false => exact q
end
/-! ### the suite -/
def tSE (K : PySem.W.Frag) (B : Bs) (i : Nat) (a : Addr) (g : St) : TS := fun D σ H => ∃ G η, RpE K B.G0 B.H0 G H σ η ∧ σ[i]? = some (some (.ref a)) ∧ η[i]? = some Option.none ∧ Fin K B D G (g η)
section
variable {X : Cx} {B : Bs} {i j : Nat} {aa : Addr} {k : Bool} {e : Expr} {pos p p2 px : Pos} {x : Str} {z : Nat}
/-- x = the verdict -/
theorem su_set (j : Nat) (hN : X.N.Nodup) (h : PE X e (rE i aa k)) (hi : X.N[j]? = some x := by rfl) (hx : Loc X.env.scope x := by first | exact .inl rfl | exact .inr rfl) (hs : swapsWith e (some (.Name x px)) pos.line X.env = pure false := by rfl) (hf : X.fn x = true ∨ X.env.scope.names.lookup x = some .local := by first | exact .inl rfl | exact .inr rfl) :
    PSs X [.Assign [.Name x px] e pos] (tSE X.K B i aa (sSet j (eC (.bool k)))) := pss_weak (pss_one (ps_set hN hi hx h hs hf)) fun D σ H q => by
  obtain ⟨G, η, r, q1, q2, q⟩ := q
  have q : Fin X.K B D G (.next (η.set j (some (.dat (.bool k))))) := q
  exact ⟨q1, q G H _ (Ex.refl G) (r.set j (.bool k))⟩
/-- if the verdict: x = None -/
theorem su_if (j : Nat) (hN : X.N.Nodup) (h : PT X e (rT i aa k)) (hi : X.N[j]? = some x := by rfl) (hx : Loc X.env.scope x := by first | exact .inl rfl | exact .inr rfl) (hs : swapsWith (.Constant .none z p2) (some (.Name x px)) p.line X.env = pure false := by rfl) (hf : X.fn x = true ∨ X.env.scope.names.lookup x = some .local := by first | exact .inl rfl | exact .inr rfl) :
    PSs X [.If e [.Assign [.Name x px] (.Constant .none z p2) p] [] pos] (tSE X.K B i aa (if k then sSet j (eC .none) else sSkip)) := pss_weak (pss_one (ps_if h (pss_one (ps_set hN hi hx pe_non hs hf)) pss_nil)) fun D σ H q => by
  obtain ⟨G, η, r, q1, q2, q⟩ := q
  refine ⟨q1, ?_⟩
  cases k with
  | true =>
    rw [if_pos rfl]
    have q : Fin X.K B D G (.next (η.set j (some (.dat .none)))) := q
    exact q G H _ (Ex.refl G) (r.set j .none)
  | false =>
    rw [if_neg Bool.false_ne_true]
    have q : Fin X.K B D G (.next η) := q
    exact q G H _ (Ex.refl G) r
end
theorem s_tryAs {X : Cx} {B : Bs} {BE : Addr} {i : Nat} {body suite : List Stmt} {b₀ : Stmt} {n : Str} {np pos pos' : Pos} {b : St} {h : Cls → St} (E : ErrI X.K X.mg B.cl BE) (hN : X.N.Nodup) (tk : Takes X (fun _ _ _ _ => False))
    (hb : ∀ (W : WX) (pn : List (Addr × Obj)) (xe : Value → Shared → Prop), Takes (X.tr pn xe) W → PSs (X.tr pn xe) body (tSW X.K B W b))
    (hsu : ∀ (c : Cls) (a : Addr) (oe : Obj) (pn : List (Addr × Obj)), Zc (.ref (B.cl c)) Option.none oe → (∃ vs, oe.data = .fields vs) → PSs (X.suite a ((a, oe) :: pn)) (b₀ :: suite) (tSE X.K B i a (h c)))
    (hs : X.stack = X.env :: X.outer := by rfl) (hf : X.env.frame = some X.env.locals := by rfl) (hi : X.N[i]? = some n := by rfl) (hln : X.env.kindOf n = some .local := by rfl) (hg : Gl X "BracketError" := by rfl) :
    PS X (.Try body [.ExceptHandler (some (.Name "BracketError" np)) (some n) (b₀ :: suite) pos'] [] [] pos) (tS X.K B (sTryAs i b h)) := by
  refine ps_weak (ps_try_as (i := i) (Wout := fun _ _ _ _ => False) (c := .ref BE) (tb := fun W => tSW X.K B W b) (ts := fun a cls d D σ H => ∃ c, cls = .ref (B.cl c) ∧ d = Option.none ∧ tSE X.K B i a (h c) D σ H) hs hf hN hi hln ⟨hg, by decide, .inl E.be⟩ tk (fun W pn xe tk _ => hb W pn xe tk)
    (fun a oe cls d pn hz hfs => ⟨fun pins s σ H D I q => ?_⟩)) fun D σ H q => ?_
  · obtain ⟨c, rfl, rfl, q⟩ := q
    exact (hsu c a oe pn hz hfs).run pins s σ H D I q
  · obtain ⟨G, η, r, q⟩ := q
    refine ⟨G, η, r, ?_⟩
    unfold sTryAs at q
    cases z : b η with
    | next η' =>
      rw [z] at q
      exact q
    | raise c =>
      rw [z] at q
      dsimp only at q
      by_cases hlen : i < η.length
      · rw [if_pos hlen] at q
        intro G' H' e1
        refine ⟨true, E.x c, fun _ a ha => ?_, fun z => nomatch z⟩
        have hl : i < X.N.length := lt_of_get hi
        have r1 := r.extd e1
        have r2 := r1.forget i (some (.ref a))
        refine ⟨c, rfl, rfl, G', _, r2, List.getElem?_set_self (by rw [r.len]; exact hlen), List.getElem?_set_self hlen, ?_⟩
        cases z2 : h c (η.set i Option.none) with
        | next η' =>
          simp only [z2] at q
          exact fun G2 H2 σ2 e2 r3 => q G2 H2 _ (e1.g.trans e2) (r3.forget i Option.none)
        | _ =>
          simp only [z2] at q
          exact q.elim
      · rw [if_neg hlen] at q
        exact q.elim
    | _ =>
      rw [z] at q
      exact q.elim
end Bk
end
/-! BkPure2 -/
section
set_option linter.all false
set_option autoImplicit false
/-! BkPure2: further combinators -/
namespace Bk
/-- list.count of a pair of numbers; the receiver is known to be a list ahead of the argument -/
def eCountL (f g : E) : E := fun η => (f η).bind fun x => match x with
  | .lst _ => (g η).bind fun y => (dCountL x y).calm
  | _ => .bad
/-! list(range(n)) -/
def eListRange (f : E) : E := fun η => (f η).bind fun x => match x with
  | .int n => if 0 ≤ n ∧ n ≤ lim then .ok (.lst (numbers 0 n.toNat)) else .bad
  | _ => .bad
/-! dicts whose keys are tuples -/
mutual
def keyN : Nat → D → Bool
  | _, .none => true
  | _, .bool _ => true
  | _, .int _ => true
  | n + 1, .tup xs => keyNAll n xs
  | _, _ => false
def keyNAll : Nat → List D → Bool
  | _, [] => true
  | n, x :: xs => keyN n x && keyNAll n xs
end
def isTup : D → Bool
  | .tup _ => true
  | _ => false
def isNon : D → Bool
  | .none => true
  | _ => false
def kPut (ks : List D) (k : D) : List D := if ks.any (fun x => D.eqv x k) then ks else ks ++ [k]
def kdPut (ks : List D) (k : D) : Option (List D) := match ks with
  | [] => if isNon k then some [k] else if isTup k && keyN 8 k then some [k] else Option.none
  | _ => if decide (ks.length < lim) && isTup k && keyN 8 k && ks.all isTup then some (kPut ks k) else Option.none
/-- x[k] = True -/
def putKTo (i : Nat) (k : D) : St := fun η => match η[i]? with
  | some (some (.dic [])) => match kdPut [] k with
    | some ks => .next (η.set i (some (.kd ks)))
    | Option.none => .bad
  | some (some (.kd (k0 :: r))) => match kdPut (k0 :: r) k with
    | some ks => .next (η.set i (some (.kd ks)))
    | Option.none => .bad
  | _ => .bad
def kdSlot : Option (Option S) → Bool
  | some (some (.dic _)) => true
  | some (some (.kd _)) => true
  | _ => false
def sPutK (i : Nat) (fk fv : E) : St := fun η => outOf (fv η) fun _ => if kdSlot η[i]? then outOf (fk η) fun k => putKTo i k η else .bad
def eKLen (i : Nat) : E := fun η => match η[i]? with
  | some (some (.kd ks)) => .ok (.int ks.length)
  | _ => .bad
/-- [f, g, ..][i](x) -/
def ePick (φs : List (List D → Res D)) (f g : E) : E := fun η => (f η).bind fun x => match x with
  | .int j => match at? φs j with
    | some φ => (g η).bind fun d => φ [d]
    | Option.none => .bad
  | _ => .bad
/-! a dict that is handed over; enumerate of a tuple; tuples joined, turned -/
def dDIdx : D → D → Res D
  | .dic kvs, k => if keyD k then (match dget kvs k with
    | some v => .ok v
    | Option.none => .bad) else .bad
  | _, _ => .bad
def iEnumT (f : E) : I := fun η => (f η).bind fun x => match x with
  | .tup xs => .ok (enumL 0 xs)
  | _ => .bad
def dAddA : D → D → Res D
  | .tup a, .tup b => if a.length + b.length ≤ lim then .ok (.tup (a ++ b)) else .bad
  | _, _ => .bad
def dTupRev : D → Res D
  | .tup xs => .ok (.tup xs.reverse)
  | _ => .bad
/-! lists of lists, all of the def's own -/
def ooOf : S → Option (List (List D))
  | .own [] => some []
  | .oo dss => some dss
  | _ => Option.none
def ooAt (i : Nat) (η : Env) : Option (List (List D)) := match η[i]? with
  | some (some s) => ooOf s
  | _ => Option.none
def intAt (i : Nat) (η : Env) : Option Int := match η[i]? with
  | some (some (.dat (.int z))) => some z
  | _ => Option.none
/-- x.append([y.pop()]) -/
def sOoNew (i j : Nat) : St := fun η => match ooAt i η with
  | some dss => if i = j ∨ lim ≤ dss.length then .bad else outOf (popOf j η).calm fun p => .next (p.2.set i (some (.oo (dss ++ [[p.1]]))))
  | Option.none => .bad
/-- x[-1].append(y.pop()) -/
def sOoApp (i j : Nat) : St := fun η => match ooAt i η with
  | some dss => match dss[dss.length - 1]? with
    | some ds => if i = j ∨ lim ≤ ds.length then .bad else outOf (popOf j η).calm fun p => .next (p.2.set i (some (.oo (dss.set (dss.length - 1) (ds ++ [p.1])))))
    | Option.none => .bad
  | Option.none => .bad
/-- x[k].append(x[l].pop()) -/
def sOoMove (i k l : Nat) : St := fun η => match ooAt i η, intAt k η, intAt l η with
  | some dss, some x, some y => match ix dss.length x, ix dss.length y with
    | some n, some m => match dss[m]? with
      | some src => match src[src.length - 1]?, (dss.set m src.dropLast)[n]? with
        | some d, some dst => if lim ≤ dst.length then .bad else .next (η.set i (some (.oo ((dss.set m src.dropLast).set n (dst ++ [d])))))
        | _, _ => .bad
      | Option.none => .bad
    | _, _ => .bad
  | _, _, _ => .bad
/-- x[k][-1], x[l][0] = x[l][0], x[k][-1] -/
def sOoSwap (i k l : Nat) : St := fun η => match ooAt i η, intAt k η, intAt l η with
  | some dss, some x, some y => match ix dss.length x, ix dss.length y with
    | some n, some m => match dss[n]?, dss[m]? with
      | some dn, some dm => match dm[0]?, dn[dn.length - 1]?, (dss.set n (dn.set (dn.length - 1) (dm.headD .none)))[m]? with
        | some _, some v, some dm' => .next (η.set i (some (.oo ((dss.set n (dn.set (dn.length - 1) (dm.headD .none))).set m (dm'.set 0 v)))))
        | _, _, _ => .bad
      | _, _ => .bad
    | _, _ => .bad
  | _, _, _ => .bad
/-- x[k] = x[k][::-1] -/
def sOoRev (i k : Nat) : St := fun η => match ooAt i η, intAt k η with
  | some dss, some x => match ix dss.length x with
    | some n => match dss[n]? with
      | some dn => .next (η.set i (some (.oo (dss.set n dn.reverse))))
      | Option.none => .bad
    | Option.none => .bad
  | _, _ => .bad
/-- len(x) -/
def eOoLen (i : Nat) : E := fun η => match ooAt i η with
  | some dss => .ok (.int dss.length)
  | Option.none => .bad
/-- x = [list(b) for b in ..] -/
def seqsOf : List D → Option (List (List D))
  | [] => some []
  | .tup xs :: r => (seqsOf r).map (xs :: ·)
  | .lst xs :: r => (seqsOf r).map (xs :: ·)
  | _ => Option.none
def sOoLists (i k : Nat) (fi : I) : St := fun η => outOf (fi η) fun ds => if ds.length ≤ lim ∧ k < η.length then (match seqsOf ds with
  | some dss => .next (η.set i (some (.oo dss)))
  | Option.none => .bad) else .bad
/-- what a slot owns, known for good from here on -/
def frzS : S → Option D
  | .dat d => some d
  | .own ds => some (.lst ds)
  | .dic kvs => some (.dic kvs)
  | .kd _ => Option.none
  | .oo dss => some (.lst (dss.map D.lst))
def sFrz (i : Nat) : St := fun η => match η[i]? with
  | some (some s) => match frzS s with
    | some d => .next (η.set i (some (.dat d)))
    | Option.none => .bad
  | _ => .bad
end Bk
end
/-! BkIter -/
section
set_option Elab.async false
set_option linter.all false
set_option autoImplicit false
set_option maxRecDepth 100000
set_option maxHeartbeats 4000000
/-! BkIter: zip of two lists, reversed(range(n)) -/
namespace Bk
open PySem PySem.Spec PyProof.Rows L2
section
variable {X : Cx} {B : Bs} {a b c e tg iter : Expr} {es : List Expr} {pos p : Pos} {f g h : E} {fs : List E}
theorem zipL_get : ∀ (xs ys : List D) (i : Nat) (d : D), (zipL xs ys)[i]? = some d → ∃ x y, xs[i]? = some x ∧ ys[i]? = some y ∧ d = .tup [x, y]
  | [], ys, i, d, h => by simp [zipL] at h
  | x :: xs, [], i, d, h => by simp [zipL] at h
  | x :: xs, y :: ys, 0, d, h => by
    simp [zipL] at h
    exact ⟨x, y, rfl, rfl, h.symm⟩
  | x :: xs, y :: ys, i + 1, d, h => by
    simp [zipL] at h
    obtain ⟨x', y', h1, h2, h3⟩ := zipL_get xs ys i d h
    exact ⟨x', y', by simpa using h1, by simpa using h2, h3⟩
theorem zipL_len : ∀ (xs ys : List D), (zipL xs ys).length = min xs.length ys.length
  | [], ys => by simp [zipL]
  | x :: xs, [] => by simp [zipL]
  | x :: xs, y :: ys => by
    simp only [zipL, List.length_cons, zipL_len xs ys]
    omega
theorem walkd_zip {K : PySem.W.Frag} {G : Hp} {a1 a2 : Addr} {xs ys : List V} {ds es : List D} (h1 : SqL K G a1 xs) (r1 : RpAll K G xs ds) (h2 : SqL K G a2 ys) (r2 : RpAll K G ys es) : WalkD K (Itz K a1 a2) G (zipL ds es) := by
  refine ⟨fun i H hi ex => ?_, fun H ex => ⟨xs, ys, ex.l h1, ex.l h2, ?_⟩, fun i H x H' d hd ex y G1 e1 e2 => ?_⟩
  · rw [zipL_len] at hi
    have hx : i < xs.length := by rw [r1.length]; omega
    have hy : i < ys.length := by rw [r2.length]; omega
    exact ⟨xs, ys, xs[i], ys[i], ex.l h1, ex.l h2, List.getElem?_eq_getElem hx, List.getElem?_eq_getElem hy⟩
  · rw [zipL_len, r1.length, r2.length]
    omega
  · obtain ⟨T, x1, y1, rfl, hT, rfl, f1, f2⟩ := y
    obtain ⟨d1, d2, k1, k2, rfl⟩ := zipL_get _ _ _ _ hd
    obtain ⟨v1, j1, j2⟩ := r1.get k1
    obtain ⟨v2, j3, j4⟩ := r2.get k2
    have q1 := f1 xs (ex.l h1)
    have q2 := f2 ys (ex.l h2)
    rw [j1] at q1
    rw [j3] at q2
    cases q1
    cases q2
    exact ⟨_, newTup e2 hT (.cons (j2.mono e1) (.cons (j4.mono e1) .nil))⟩
theorem pi_zipD {elts : List Expr} {kk : Nat} {tpos : Pos} (hm : X.mg "zip" = none) (ha : PE X a (tX X.K B f)) (hb : PE X b (tX X.K B g)) (hg : Gl X "zip" := by rfl) (h0 : starEach [a, b] X.env = (false, eval a X.env) :: starEach [b] X.env := by rfl) (h1 : starEach [b] X.env = (false, eval b X.env) :: starEach [] X.env := by rfl)
    (hpl : (backTo pos (starEach [b] X.env)).any (·.1) = false := by rfl) : PI X (.Tuple elts kk tpos) (.Call (.Name "zip" p) [a, b] [] pos) (tI X.K B (Bk.iZip f g)) :=
  pi_weak (L2.pi_zip hg hm (pa_cons ha (pa_cons hb pa_nil h1) h0) h0 hpl) fun σ H R q => by
    obtain ⟨G, η, r, q⟩ := q
    refine tX.of r (sat_bind q) fun x hx G1 H1 v e1 r1 => ?_
    refine tX.of (r.extd e1) (sat_bind hx) fun y hy G2 H2 w e2 r2 => ?_
    cases r1 with
    | lst hs1 ra1 =>
      cases r2 with
      | lst hs2 ra2 => exact ⟨_, _, _, _, rfl, (e1.gh.l hs1 |> e2.h.l), e2.gh.l hs2, hy G2 H2 _ (e1.trans e2) (walkd_zip (e2.g.l hs1) (ra1.mono e2.g) hs2 ra2)⟩
      | _ => exact hy.elim
    | _ => exact hy.elim
theorem walkd_revR {K : PySem.W.Frag} {G : Hp} (n : Nat) : WalkD K (Itc ((n : Int) - 1) (-1) n) G (numbers 0 n).reverse := by
  refine ⟨fun i H hi _ => ?_, fun H _ => ?_, fun i H x H' d hd _ y G1 e1 e2 => ?_⟩
  · rw [List.length_reverse, numbers_len] at hi
    exact hi
  · rw [List.length_reverse, numbers_len]
    exact Nat.le_refl _
  · obtain ⟨rfl, rfl⟩ := y
    have hi : i < n := by
      have := lt_of_get hd
      rw [List.length_reverse, numbers_len] at this
      exact this
    rw [List.getElem?_reverse (by rw [numbers_len]; exact hi), numbers_len] at hd
    unfold numbers at hd
    rw [List.getElem?_map, List.getElem?_range (by omega)] at hd
    cases hd
    have e : (n : Int) - 1 + (i : Nat) * (-1) = 0 + ((n - 1 - i : Nat) : Int) := by omega
    rw [e]
    exact ⟨G1, Ext.refl e2, .int _⟩
theorem pi_revR1 {p2 pos2 : Pos} (hm : X.mg "reversed" = none) (hm2 : X.mg "range" = none) (ha : PE X a (tX X.K B f)) (hg : Gl X "reversed" := by rfl) (hg2 : Gl X "range" := by rfl) (h0 : starEach [a] X.env = (false, eval a X.env) :: starEach [] X.env := by rfl)
    (hs : starEach [.Call (.Name "range" p2) [a] [] pos2] X.env = (false, eval (.Call (.Name "range" p2) [a] [] pos2) X.env) :: starEach [] X.env := by rfl) :
    PI X tg (.Call (.Name "reversed" p) [.Call (.Name "range" p2) [a] [] pos2] [] pos) (tI X.K B (iRevRange1 f)) :=
  pi_weak (pi_revR hg hm (prg_1 hg2 hm2 ha h0) hs) fun σ H R q => by
    obtain ⟨G, η, r, q⟩ := q
    refine tX.of r (sat_bind q) fun x hx G1 H1 v e1 r1 => ?_
    cases r1 with
    | int n =>
      have hx := sat_bind hx
      obtain ⟨hr, hx⟩ := sat_if hx
      obtain ⟨h1, h2⟩ := rng_ok hr
      refine ⟨n, rfl, by omega, by omega, h1, h2, ?_⟩
      have e1' : (0 : Int) + (((n - 0).toNat : Nat) : Int) - 1 = ((n.toNat : Nat) : Int) - 1 := by
        rw [Int.sub_zero, Int.zero_add]
      have e2' : (n - 0).toNat = n.toNat := by rw [Int.sub_zero]
      rw [e1', e2']
      exact hx G1 H1 _ e1 (walkd_revR n.toNat)
    | _ => exact hx.elim
end
end Bk
end
/-! BkRich -/
section
set_option Elab.async false
set_option linter.all false
set_option autoImplicit false
set_option maxRecDepth 100000
set_option maxHeartbeats 4000000
/-! BkRich: texts in texts, items in lists, own dicts sorted, longer chains -/
namespace Bk
open PySem PySem.Spec PyProof.Rows L2
theorem sx_get (s : List Nat) (i : Nat) : (Sx s).cps.toList[i]? = s[i]? := rfl
theorem at_two (s : List Nat) (a b i : Nat) : StrLaws.At (Sx s) (Sx [a, b]) (Sx s).length i ↔ (s[i]? == some a && s[i + 1]? == some b) = true := by
  unfold StrLaws.At
  rw [StrLaws.subAt_eq, sx_len, sx_len]
  show (i + 2 ≤ s.length ∧ ((s.drop i).take 2 == [a, b]) = true) ↔ _
  rw [Bool.and_eq_true, beq_iff_eq, beq_iff_eq, beq_iff_eq]
  have e0 : s[i]? = (s.drop i)[0]? := by
    rw [List.getElem?_drop]
    rfl
  have e1 : s[i + 1]? = (s.drop i)[1]? := by rw [List.getElem?_drop]
  have el : (s.drop i).length = s.length - i := List.length_drop
  rw [e0, e1]
  rcases q : s.drop i with _ | ⟨x, _ | ⟨y, r⟩⟩
  · simp
  · simp
  · rw [q] at el
    simp at el ⊢
    intro _ _
    omega
theorem find_some {s : List Nat} {a b : Nat} {i : Nat} {r : List Nat} (h : Builtin.Str.occurrences (Sx s) (Sx [a, b]) 0 (Sx s).length 1 = i :: r) : findTwo a b s = some i := by
  rcases StrLaws.occ_head (Sx s) (Sx [a, b]) 1 (Nat.le_refl 1) with ⟨h0, _⟩ | ⟨i', r', h1, h2, h3⟩
  · rw [h0] at h
    cases h
  · rw [h1] at h
    cases h
    unfold findTwo
    rw [List.find?_range_eq_some]
    refine ⟨(at_two s a b i).mp h2, ?_, fun j hj => ?_⟩
    · have := h2.1
      rw [sx_len, sx_len] at this
      simp at this ⊢
      omega
    · have := h3 j hj
      rw [at_two] at this
      rw [Bool.not_eq_true']
      exact Bool.eq_false_iff.mpr this
theorem find_none {s : List Nat} {a b : Nat} (h : Builtin.Str.occurrences (Sx s) (Sx [a, b]) 0 (Sx s).length 1 = []) : findTwo a b s = none := by
  rcases StrLaws.occ_head (Sx s) (Sx [a, b]) 1 (Nat.le_refl 1) with ⟨_, h0⟩ | ⟨i', r', h1, _⟩
  · unfold findTwo
    rw [List.find?_eq_none]
    intro i _
    have := h0 i
    rw [at_two] at this
    exact this
  · rw [h1] at h
    cases h
section
variable {X : Cx} {B : Bs} {a b c e tg iter : Expr} {es : List Expr} {pos p : Pos} {f g h k : E} {fs : List E}
theorem od_inT : OpD X (compareOp .In) dInT := by
  intro pins s σ H x y v u Q I rx ry h
  obtain ⟨G, d, e, ex, rd, re, h⟩ := h
  cases rd with
  | str i =>
    cases re with
    | str j =>
      rcases i with _ | ⟨a, _ | ⟨b, _ | ⟨c, r⟩⟩⟩
      · exact h.elim
      · exact h.elim
      · have h : ∀ G' H' v, Ext G H G' H' → Rp X.K G' v (.bool (findTwo a b j).isSome) → Q v H' := h
        refine op_in_str pins s σ H _ _ v u Q I rx ry ⟨_, _, rfl, rfl, ?_⟩
        cases q : Builtin.Str.occurrences (Sx j) (Sx [a, b]) 0 (Sx j).length 1 with
        | nil =>
          rw [find_none q] at h
          exact h G H _ (Ext.refl ex) (.bool _)
        | cons i r =>
          rw [find_some q] at h
          exact h G H _ (Ext.refl ex) (.bool _)
      · exact h.elim
    | _ => rcases i with _ | ⟨a, _ | ⟨b, _ | ⟨c, r⟩⟩⟩ <;> exact h.elim
  | _ => cases re <;> exact h.elim
/-- s.index(two signs) -/
theorem pv_index {d : D} {apos : Pos} (ha : PE X a (tX X.K B f)) (hb : PE X b (tX X.K B (eC d))) (hs : starEach [b] X.env = [(false, eval b X.env)] := by rfl) (hbase : attributeBase a "index" X.env (eval a X.env) = eval a X.env := by rfl) (hline : (apos.endLine == pos.line) = true := by rfl) :
    PE X (.Call (.Attribute a "index" apos) [b] [] pos) (tX X.K B (eBin dFind f (eC d))) := pe_weak (pe_m1 F.slot_str_index F.type_str_index mt_sindex ha hb hs hbase hline) fun σ H Q q => by
  obtain ⟨G, η, r, q⟩ := q
  refine tX.of r (sat_bind q) fun x hx G1 H1 v e1 r1 => ?_
  have hx : (dFind x d).calm.Sat _ _ := hx
  have hx := sat_calm (R' := fun _ => False) hx
  cases r1 with
  | str s =>
    cases d with
    | str t =>
      rcases t with _ | ⟨a, _ | ⟨b, _ | ⟨c, r⟩⟩⟩
      · exact hx.elim
      · exact hx.elim
      · refine ⟨⟨_, rfl⟩, tX.of (r.extd e1) (P := fun x => x = .str [a, b]) rfl fun y hy G2 H2 w e2 r2 => ?_⟩
        subst hy
        cases r2
        cases q : Builtin.Str.occurrences (Sx s) (Sx [a, b]) 0 (Sx s).length 1 with
        | nil =>
          have hx : (match findTwo a b s with
            | some i => Res.ok (D.int (i : Nat))
            | Option.none => .bad).Sat _ _ := hx
          rw [find_none q] at hx
          exact hx.elim
        | cons i rest =>
          have hx : (match findTwo a b s with
            | some i => Res.ok (D.int (i : Nat))
            | Option.none => .bad).Sat _ _ := hx
          rw [find_some q] at hx
          exact ⟨_, _, i, rest, rfl, rfl, q, hx G2 H2 _ (e1.trans e2) (.int _)⟩
      · exact hx.elim
    | _ => exact hx.elim
  | _ => cases d <;> exact hx.elim
/-! ### in -/
theorem flat_rp {K : PySem.W.Frag} {G : Hp} {v : V} {d : D} (r : Rp K G v d) (h : flatD d = true) : flatV v = true := by
  cases r <;> first | rfl | cases h
theorem flat_all {K : PySem.W.Frag} {G : Hp} : ∀ {vs : List V} {ds : List D}, RpAll K G vs ds → ds.all flatD = true → vs.all flatV = true
  | _, _, .nil, _ => rfl
  | _, _, .cons r t, h => by
    rw [List.all_cons, Bool.and_eq_true] at h ⊢
    exact ⟨flat_rp r h.1, flat_all t h.2⟩
theorem str_beq (x y : List Nat) : (Sx x == Sx y) = (x == y) := by
  by_cases h : x = y
  · subst h
    simp
  · have : ¬ Sx x = Sx y := fun z => h (sx_inj z)
    rw [beq_eq_false_iff_ne.mpr this, beq_eq_false_iff_ne.mpr h]
theorem eqv_flat {K : PySem.W.Frag} {G G2 : Hp} {v w : V} {d e : D} (r : Rp K G v d) (q : Rp K G2 w e) (h1 : flatD d = true) (h2 : flatD e = true) : eqV v w = D.eqv d e := by
  cases r <;> first | cases h1 | skip
  all_goals (cases q <;> first | cases h2 | skip)
  all_goals (unfold D.eqv; first | rfl | exact str_beq _ _)
theorem in_rp {K : PySem.W.Frag} {G G2 : Hp} {v : V} {d : D} (r : Rp K G v d) (h1 : flatD d = true) : ∀ {vs : List V} {ds : List D}, RpAll K G2 vs ds → ds.all flatD = true → inV v vs = inL d ds
  | _, _, .nil, _ => rfl
  | _, _, .cons q t, h => by
    rw [List.all_cons, Bool.and_eq_true] at h
    unfold inV inL
    rw [List.any_cons, List.any_cons, eqv_flat q r h.1 h1]
    have := in_rp r h1 t h.2
    unfold inV inL at this
    rw [this]
theorem od_inL : OpD X (compareOp .In) dInL := by
  intro pins s σ H x y v u Q I rx ry h
  obtain ⟨G, d, e, ex, rd, re, h⟩ := h
  cases re with
  | lst hs ra =>
    obtain ⟨hf, h⟩ := sat_if (by exact h)
    rw [Bool.and_eq_true] at hf
    refine op_in_seq pins s σ H _ _ v u Q I rx ry ⟨_, _, rfl, .inl (ex.l hs), flat_rp rd hf.1, flat_all ra hf.2, ?_⟩
    rw [if_neg Bool.false_ne_true, in_rp rd hf.1 ra hf.2]
    exact h G H _ (Ext.refl ex) (.bool _)
  | tup hs ra =>
    obtain ⟨hf, h⟩ := sat_if (by exact h)
    rw [Bool.and_eq_true] at hf
    refine op_in_seq pins s σ H _ _ v u Q I rx ry ⟨_, _, rfl, .inr (ex.t hs), flat_rp rd hf.1, flat_all ra hf.2, ?_⟩
    rw [if_neg Bool.false_ne_true, in_rp rd hf.1 ra hf.2]
    exact h G H _ (Ext.refl ex) (.bool _)
  | _ => exact h.elim
theorem od_ninL : OpD X (compareOp .NotIn) dNInL := by
  intro pins s σ H x y v u Q I rx ry h
  obtain ⟨G, d, e, ex, rd, re, h⟩ := h
  cases re with
  | lst hs ra =>
    obtain ⟨hf, h⟩ := sat_if (by exact h)
    rw [Bool.and_eq_true] at hf
    refine op_notIn_seq pins s σ H _ _ v u Q I rx ry ⟨_, _, rfl, .inl (ex.l hs), flat_rp rd hf.1, flat_all ra hf.2, ?_⟩
    rw [if_pos rfl, in_rp rd hf.1 ra hf.2]
    exact h G H _ (Ext.refl ex) (.bool _)
  | tup hs ra =>
    obtain ⟨hf, h⟩ := sat_if (by exact h)
    rw [Bool.and_eq_true] at hf
    refine op_notIn_seq pins s σ H _ _ v u Q I rx ry ⟨_, _, rfl, .inr (ex.t hs), flat_rp rd hf.1, flat_all ra hf.2, ?_⟩
    rw [if_pos rfl, in_rp rd hf.1 ra hf.2]
    exact h G H _ (Ext.refl ex) (.bool _)
  | _ => exact h.elim
/-- x in, not in the def's own list -/
theorem ninO : OpR X (compareOp .NotIn) (fun x y H Q => ∃ G aa vs d ds, y = .ref aa ∧ H aa = some (.lst vs) ∧ Ex G H ∧ RpAll X.K G vs ds ∧ Rp X.K G x d ∧ (dNInL d (.lst ds)).Sat (fun r => ∀ G' H' v, Ext G H G' H' → Rp X.K G' v r → Q v H') (fun _ => False)) := by
  intro pins s σ H x y v u Q I rx ry h
  obtain ⟨G, aa, vs, d, ds, rfl, hh, ex, ra, rd, h⟩ := h
  obtain ⟨hf, h⟩ := sat_if (by exact h)
  rw [Bool.and_eq_true] at hf
  refine op_notIn_seq pins s σ H _ _ v u Q I rx ry ⟨_, _, rfl, .inl (.inl (.inl hh)), flat_rp rd hf.1, flat_all ra hf.2, ?_⟩
  rw [if_pos rfl, in_rp rd hf.1 ra hf.2]
  exact h G H _ (Ext.refl ex) (.bool _)
theorem tv_ninO (i : Nat) {x : Str} {px : Pos} (ha : PE X a (tX X.K B f)) (hN : X.N[i]? = some x := by rfl) (hv : Vis X.env.scope x := by first | exact Or.inl rfl | exact Or.inr (Or.inl rfl) | exact Or.inr (Or.inr rfl)) (hd : (x == ("__debug__" : Str)) = false := by decide)
    (hcd : (x == ("__classdict__" : Str)) = false := by decide) (hm : behindInMarks .NotIn (.Name x px) = false := by rfl) : PT X (.Compare a [.NotIn] [.Name x px] pos) (tT X.K B (tE (eBinO dNInL f i))) :=
  pt_weak (pt_cmpR ninO ha (pe_var hN hv hd hcd) hm) fun σ H Q q => by
    obtain ⟨G, η, r, q⟩ := q
    have q := bool_sat q
    refine tX.of r (sat_bind q) fun x hx G1 H1 v e1 r1 => ?_
    split at hx
    · rename_i ds e
      obtain ⟨w, h1, aa, vs, rfl, h0, hg, hh, ra⟩ := (r.extd e1).slot _ _ e
      refine ⟨_, h1, G1, aa, vs, x, ds, rfl, hh, e1.gh, ra, r1, Sat.mono (sat_calm hx) (fun z hz G2 H2 v2 e2 r2 => ?_) fun _ z => z⟩
      obtain ⟨kk, rfl, hz⟩ := hz
      cases r2
      exact ⟨kk, rfl, hz G2 H2 (e1.trans e2)⟩
    · exact hx.elim
/-! ### own dicts -/
theorem keys_str {K : PySem.W.Frag} {G : Hp} : ∀ {kvs : List (Key × V)} {ks : List (D × D)} {ss : List (List Nat)}, RpKV K G kvs ks → strsL (ks.map (·.1)) = some ss → kvs.map (·.1) = (ss.map Sx).map Sum.inr
  | _, _, ss, .nil, h => by
    cases h
    rfl
  | _, _, ss, .cons (k := k) (kd := kd) (rs := rs) e rv t, h => by
    cases kd with
    | str z =>
      rw [List.map_cons] at h
      cases q : strsL (rs.map (·.1)) with
      | none =>
        simp [strsL, q] at h
      | some ts =>
        simp [strsL, q] at h
        subst h
        have e : k = .inr (Sx z) := (Option.some.inj e).symm
        rw [List.map_cons, List.map_cons, List.map_cons, keys_str t q, e]
    | _ => simp [strsL] at h
theorem rising_pair : ∀ {ys : List Str} {x : Str}, risingS x ys = true → (x :: ys).Pairwise fun a b => ¬ b.cps.toList < a.cps.toList
  | [], x, _ => List.pairwise_singleton _ _
  | y :: r, x, h => by
    unfold risingS at h
    rw [Bool.and_eq_true, Bool.not_eq_true', ltCps_eq] at h
    have h1 : ¬ y.cps.toList < x.cps.toList := of_decide_eq_false h.1
    have ih := rising_pair h.2
    refine List.pairwise_cons.mpr ⟨fun z hz => ?_, ih⟩
    rcases List.mem_cons.mp hz with rfl | hz
    · exact h1
    · have h2 := List.rel_of_pairwise_cons ih hz
      rw [List.not_lt] at h1 h2 ⊢
      exact List.le_trans h1 h2
theorem sorted_uniq {ys : List Str} {ss : List (List Nat)} (hp : ys.Perm (ss.map Sx)) (hs : sortedS ys = true) : ys = (ss.mergeSort fun a b => !decide (b < a)).map Sx := by
  have hpw : ys.Pairwise fun a b => ¬ b.cps.toList < a.cps.toList := by
    cases ys with
    | nil => exact .nil
    | cons x r => exact rising_pair hs
  have tr : ∀ a b c : List Nat, (!decide (b < a)) = true → (!decide (c < b)) = true → (!decide (c < a)) = true := fun a b c h1 h2 => by
    rw [Bool.not_eq_true', decide_eq_false_iff_not, List.not_lt] at h1 h2 ⊢
    exact List.le_trans h1 h2
  have to : ∀ a b : List Nat, ((!decide (b < a)) || (!decide (a < b))) = true := fun a b => by
    rw [Bool.or_eq_true, Bool.not_eq_true', Bool.not_eq_true', decide_eq_false_iff_not, decide_eq_false_iff_not, List.not_lt, List.not_lt]
    exact List.le_total a b
  have hm := List.pairwise_mergeSort tr to ss
  have hm2 : ((ss.mergeSort fun a b => !decide (b < a)).map Sx).Pairwise fun a b : Str => ¬ b.cps.toList < a.cps.toList := by
    rw [List.pairwise_map]
    refine hm.imp fun h => ?_
    rw [Bool.not_eq_true', decide_eq_false_iff_not] at h
    exact h
  refine List.Perm.eq_of_pairwise (fun a b _ _ h1 h2 => ?_) hpw hm2 (hp.trans ((List.mergeSort_perm ss _).map Sx).symm)
  rw [List.not_lt] at h1 h2
  have e := List.le_antisymm h1 h2
  rw [← sx_tl a, ← sx_tl b, e]
theorem pv_dsorted (i : Nat) {y : Str} {py : Pos} (hm : X.mg "sorted" = none) (hc : X.calm = true := by rfl) (hg : Gl X "sorted" := by rfl) (hN : X.N[i]? = some y := by rfl) (hy : Vis X.env.scope y := by first | exact Or.inl rfl | exact Or.inr (Or.inl rfl) | exact Or.inr (Or.inr rfl)) (hd : (y == ("__debug__" : Str)) = false := by decide)
    (hcd : (y == ("__classdict__" : Str)) = false := by decide)
    (h0 : starEach [.Name y py] X.env = (false, eval (.Name y py) X.env) :: starEach [] X.env := by rfl) (hpl : (backTo pos (starEach [] X.env)).any (·.1) = false := by rfl) : PE X (.Call (.Name "sorted" p) [.Name y py] [] pos) (tX X.K B (eDSorted i)) :=
  pe_weak (pe_callB (call_sortedD hc) hg hm (by decide +kernel) (pa_cons (pe_var hN hy hd hcd) pa_nil h0) (by decide) (by decide) h0 hpl) fun σ H Q q => by
    obtain ⟨G, η, r, q⟩ := q
    unfold eDSorted at q
    split at q
    · rename_i ks e
      obtain ⟨w, h1, aa, kvs, rfl, _, hg2, hh, ra⟩ := r.slot _ _ e
      split at q
      · rename_i ss hss
        obtain ⟨hl, q⟩ := sat_if q
        refine ⟨_, h1, aa, kvs, ss.map Sx, rfl, .inl hh, keys_str ra hss, by rw [List.length_map]; exact hl, fun ys p0 hp hs hp0 => ?_⟩
        have ey := sorted_uniq hp hs
        subst ey
        have x0 : Ext G H (upd G p0 (.lst (((ss.mergeSort fun a b => !decide (b < a)).map Sx).map V.str))) (upd H p0 (.lst (((ss.mergeSort fun a b => !decide (b < a)).map Sx).map V.str))) := Ext.new r.exg hp0
        exact q _ _ _ x0 (.lst (.inl (.inl upd_same)) (RpAll.ofStrs _))
      · exact q.elim
    · exact q.elim
theorem pv_dlen (i : Nat) {y : Str} {py : Pos} (hm : X.mg "len" = none) (hg : Gl X "len" := by rfl) (hN : X.N[i]? = some y := by rfl) (hy : Vis X.env.scope y := by first | exact Or.inl rfl | exact Or.inr (Or.inl rfl) | exact Or.inr (Or.inr rfl)) (hd : (y == ("__debug__" : Str)) = false := by decide)
    (hcd : (y == ("__classdict__" : Str)) = false := by decide)
    (h0 : starEach [.Name y py] X.env = (false, eval (.Name y py) X.env) :: starEach [] X.env := by rfl) (hpl : (backTo pos (starEach [] X.env)).any (·.1) = false := by rfl) : PE X (.Call (.Name "len" p) [.Name y py] [] pos) (tX X.K B (eDLen i)) :=
  pe_weak (pe_callB call_lenD hg hm (by decide +kernel) (pa_cons (pe_var hN hy hd hcd) pa_nil h0) (by decide) (by decide) h0 hpl) fun σ H Q q => by
    obtain ⟨G, η, r, q⟩ := q
    unfold eDLen at q
    split at q
    · rename_i ks e
      obtain ⟨w, h1, aa, kvs, rfl, _, hg2, hh, ra⟩ := r.slot _ _ e
      refine ⟨_, h1, aa, kvs, rfl, hh, ?_⟩
      rw [kv_len ra]
      exact q G H _ (Ext.refl r.exg) (.int _)
    · exact q.elim
end
end Bk
end
/-! BkRich2 -/
section
set_option Elab.async false
set_option linter.all false
set_option autoImplicit false
set_option maxRecDepth 100000
set_option maxHeartbeats 4000000
/-! BkRich2: list.count of pairs of numbers; a < b < c < d -/
namespace Bk
open PySem PySem.Spec PyProof.Rows L2
theorem pair_form {d : D} (h : pairNum d = true) : ∃ a b, d = .tup [.int a, .int b] := by
  unfold pairNum at h
  split at h
  · exact ⟨_, _, rfl⟩
  · cases h
theorem pair_lay {d : D} (h : pairNum d = true) : (toPy d).canLay0 = true ∧ (toPy d).depth ≤ 2 ∧ ∀ n, D.cmp (n + 1) d = true := by
  obtain ⟨a, b, rfl⟩ := pair_form h
  refine ⟨?_, ?_, fun n => ?_⟩
  · simp [toPy, toPys, PyData.canLay0, PyData.canLayAll0]
  · simp [toPy, toPys, PyData.depth, PyData.depthAll]
  · unfold D.cmp D.cmpAll D.cmpAll D.cmpAll
    cases n <;> simp [D.cmp]
theorem pairs_lay : ∀ {xs : List D}, xs.all pairNum = true → PyData.canLayAll0 (toPys xs) = true ∧ ∀ n, D.cmpAll (n + 1) xs = true
  | [], _ => ⟨by simp [toPys, PyData.canLayAll0], fun n => by unfold D.cmpAll; rfl⟩
  | x :: xs, h => by
    rw [List.all_cons, Bool.and_eq_true] at h
    obtain ⟨h1, h2⟩ := pairs_lay h.2
    obtain ⟨k1, _, k3⟩ := pair_lay h.1
    refine ⟨by simp [toPys, PyData.canLayAll0, k1, h1], fun n => ?_⟩
    unfold D.cmpAll
    rw [k3 n, h2 n]
    rfl
section
variable {X : Cx} {B : Bs} {a b c e tg iter : Expr} {es : List Expr} {pos p : Pos} {f g h k : E} {fs : List E}
theorem countP_py (y : D) : ∀ xs : List D, (toPys xs).countP (fun z => PyData.eqv z (toPy y)) = xs.countP fun x => D.eqv x y
  | [] => by simp [toPys]
  | x :: xs => by
    rw [toPys, List.countP_cons, List.countP_cons, countP_py y xs, eqv_py x y]
theorem mt_countP (hu : X.A.units + 64 < cLine) : MtR X "list.count" (fun x xs H Q => ∃ q G ds y, xs = [q] ∧ Ex G H ∧ Rp X.K G x (.lst ds) ∧ Rp X.K G q y ∧ pairNum y = true ∧ ds.all pairNum = true ∧ Q (.int (ds.countP fun x => D.eqv x y : Nat)) H) := by
  intro pins s σ H x xs v us Q I rx rxs hh
  obtain ⟨q, G, ds, y, rfl, ex, rd, ry, hy, hds, hq⟩ := hh
  obtain ⟨u, rfl, ru⟩ := rxs.one
  have hcl : D.cmp 64 (.lst ds) = true := by
    unfold D.cmp
    exact (pairs_lay hds).2 62
  obtain ⟨as, r1⟩ := Dp.reads I _ x v (dp_of hcl (rd.mono ex)) rx
  obtain ⟨bs, r2⟩ := Dp.reads I _ q u (dp_of ((pair_lay hy).2.2 63) (ry.mono ex)) ru
  have e0 : toPy (.lst ds) = .list (toPys ds) := by rw [toPy]
  rw [e0] at r1
  cases r1 with
  | list h1 h2 h3 h4 =>
    rename_i l o vs n as'
    obtain ⟨cls, dd, data, sl⟩ := o
    simp only at h2 h3
    subst h2 h3
    have hE := SeqAt.items_eqAt (A := X.A) h4 r2 (pairs_lay hds).1 (pair_lay hy).1 (by
      have := (pair_lay hy).2.1
      have h2 : min (PyData.depthAll (toPys ds)) (toPy y).depth ≤ 2 := Nat.le_trans (Nat.min_le_right _ _) this
      omega)
    refine call_meets PySem.F.slot_list_count ⟨_, h1, rfl⟩ PySem.F.entry_list_count (PySem.F.args_list_count_2 _ _)
      (SeqAt.list_countAt l vs n dd sl u (fun z => PyData.eqv (SeqAt.readOf s.heap z) (toPy y))) ⟨h1, fun z hz => hE z hz, ?_⟩
    refine ⟨.int (ds.countP fun x => D.eqv x y : Nat), H, I.tok _, ⟨s.toks, ?_⟩, hq⟩
    have ec : vs.toList.countP (fun z => PyData.eqv (SeqAt.readOf s.heap z) (toPy y)) = ds.countP fun x => D.eqv x y := by
      rw [← countP_py, ← SeqAt.readsAll_map _ _ _ (pairs_lay hds).1 h4, List.countP_map]
      rfl
    show Value.int ((vs.toList.countP _ : Nat) : Int) s.toks = Value.int ((ds.countP _ : Nat) : Int) s.toks
    rw [ec]
theorem pv_countL {apos : Pos} (hu : X.A.units + 64 < cLine) (ha : PE X a (tX X.K B f)) (hb : PE X b (tX X.K B g)) (h0 : starEach [b] X.env = (false, eval b X.env) :: starEach [] X.env := by rfl)
    (hpe : ∀ {to : TE} {t : TA}, PE X a to → PA X [b] t → PE X (.Call (.Attribute a "count" apos) [b] [] pos) (tBM X.K "list" (fun x xs H Q => ∃ q G ds y, xs = [q] ∧ Ex G H ∧ Rp X.K G x (.lst ds) ∧ Rp X.K G q y ∧ pairNum y = true ∧ ds.all pairNum = true ∧ Q (.int (ds.countP fun x => D.eqv x y : Nat)) H) to t) := by
      intro _ _ h1 h2; exact pe_bm PySem.F.plainAttrs_list PySem.F.slot_list_count PySem.F.type_list_count (mt_countP (by assumption)) h1 h2) :
    PE X (.Call (.Attribute a "count" apos) [b] [] pos) (tX X.K B (eCountL f g)) := pe_weak (hpe ha (pa_cons hb pa_nil h0)) fun σ H Q q => by
  obtain ⟨G, η, r, q⟩ := q
  refine tX.of r (sat_bind q) fun x hx G1 H1 v e1 r1 => ?_
  cases r1 with
  | lst hs ra =>
    rename_i ad xs ds
    refine ⟨.inl ⟨rfl, _, e1.gh.l hs⟩, ?_⟩
    refine tX.of (r.extd e1) (sat_bind hx) fun y hy G2 H2 w e2 r2 => ?_
    have hy : (dCountL (.lst ds) y).Sat _ (fun _ => False) := sat_calm hy
    obtain ⟨hc, hy⟩ := sat_if hy
    rw [Bool.and_eq_true] at hc
    exact ⟨w, G2, ds, y, rfl, e2.gh, (Rp.lst hs ra).mono e2.g, r2, hc.1, hc.2, hy G2 H2 _ (e1.trans e2) (.int _)⟩
  | _ => exact hx.elim
theorem tv_chain3 {op op' op2 : CmpOp} {d : Expr} {r r' r2 : D → D → Res D} (ho : OpD X (compareOp op) r) (ho' : OpD X (compareOp op') r') (ho2 : OpD X (compareOp op2) r2) (ha : PE X a (tX X.K B f)) (hb : PE X b (tX X.K B g)) (hc : PE X c (tX X.K B h)) (hd : PE X d (tX X.K B k))
    (hm : lastMarks [op, op', op2] [b, c, d] = false := by with_unfolding_all rfl) : PT X (.Compare a [op, op', op2] [b, c, d] pos) (tT X.K B (tE (eChain3 r r' r2 f g h k))) := by
  refine ⟨fun pins s σ H Q I q => ?_⟩
  obtain ⟨G, η, rp, q⟩ := q
  have q := bool_sat q
  refine isTrue_chain (thn (ha.run pins s σ H (fun v H1 => ∃ G1 x, Ext G H G1 H1 ∧ Rp X.K G1 v x ∧ ((g η).bind fun y => (r x y).calm.bind fun z => match z with
    | D.bool true => (h η).bind fun w => (r' y w).calm.bind fun z2 => match z2 with
      | D.bool true => (k η).bind fun v => (r2 w v).calm
      | D.bool false => .ok (D.bool false)
      | _ => .bad
    | D.bool false => .ok (D.bool false)
    | _ => .bad).Sat (fun z => ∃ k, z = D.bool k ∧ ∀ G' H', Ext G H G' H' → Q k H') (Rz B)) I (tX.of rp (sat_bind q) fun x hx G1 H1 v e1 r1 => ⟨G1, x, e1, r1, hx⟩)) fun v s1 hh => ?_) hm
  obtain ⟨xv, H1, I1, rx, G1, x, e1, r1, hx⟩ := hh
  refine test_link (thn (hb.run pins s1 σ H1 (fun u H2 => ∃ G2 y, Ext G1 H1 G2 H2 ∧ Rp X.K G2 u y ∧ ((r x y).calm.bind fun z => match z with
    | D.bool true => (h η).bind fun w => (r' y w).calm.bind fun z2 => match z2 with
      | D.bool true => (k η).bind fun v => (r2 w v).calm
      | D.bool false => .ok (D.bool false)
      | _ => .bad
    | D.bool false => .ok (D.bool false)
    | _ => .bad).Sat (fun z => ∃ k, z = D.bool k ∧ ∀ G' H', Ext G H G' H' → Q k H') (Rz B)) I1 (tX.of (rp.extd e1) (sat_bind hx) fun y hy G2 H2 w e2 r2 => ⟨G2, y, e2, r2, hy⟩)) fun u s2 hh => ?_)
  obtain ⟨yv, H2, I2, ry, G2, y, e2, r2', hy⟩ := hh
  have hy := sat_calm (R' := fun _ => False) (sat_bind hy)
  refine thn (ho pins s2 σ H2 xv yv v u (fun z H3 => ∃ G3 zd, Ext G2 H2 G3 H3 ∧ Rp X.K G3 z zd ∧ (match zd with
    | D.bool true => (h η).bind fun w => (r' y w).calm.bind fun z2 => match z2 with
      | D.bool true => (k η).bind fun v => (r2 w v).calm
      | D.bool false => .ok (D.bool false)
      | _ => .bad
    | D.bool false => .ok (D.bool false)
    | _ => .bad).Sat (fun z => ∃ k, z = D.bool k ∧ ∀ G' H', Ext G H G' H' → Q k H') (Rz B)) I2 rx ry ⟨G2, x, y, e2.gh, r1.mono e2.g, r2', Sat.mono hy (fun zd hz G3 H3 z e3 r3 => ⟨G3, zd, e3, r3, hz⟩) fun _ z => z⟩) fun dd s3 hh => ?_
  obtain ⟨z, H3, I3, rz, G3, zd, e3, r3, hz⟩ := hh
  cases r3 with
  | bool kb =>
    cases rz
    refine wpAny_truthy_bool ?_
    cases kb with
    | false =>
      obtain ⟨k', e', q'⟩ := hz
      cases e'
      exact ite_ff ⟨H3, I3, q' G3 H3 ((e1.trans e2).trans e3)⟩
    | true =>
      have hz : ((h η).bind fun w => (r' y w).calm.bind fun z2 => match z2 with
        | D.bool true => (k η).bind fun v => (r2 w v).calm
        | D.bool false => .ok (D.bool false)
        | _ => .bad).Sat (fun z => ∃ k, z = D.bool k ∧ ∀ G' H', Ext G H G' H' → Q k H') (Rz B) := hz
      refine ite_tt (test_link (thn (hc.run pins s3 σ H3 (fun w H4 => ∃ G4 wd, Ext G3 H3 G4 H4 ∧ Rp X.K G4 w wd ∧ ((r' y wd).calm.bind fun z2 => match z2 with
        | D.bool true => (k η).bind fun v => (r2 wd v).calm
        | D.bool false => .ok (D.bool false)
        | _ => .bad).Sat (fun z => ∃ k, z = D.bool k ∧ ∀ G' H', Ext G H G' H' → Q k H') (Rz B)) I3 (tX.of (((rp.extd e1).extd e2).extd e3) (sat_bind hz) fun y hy G2 H2 w e2 r2 => ⟨G2, y, e2, r2, hy⟩)) fun w' s4 hh => ?_))
      obtain ⟨wv, H4, I4, rw', G4, wd, e4, r4, hw⟩ := hh
      have hw := sat_calm (R' := fun _ => False) (sat_bind hw)
      refine thn (ho' pins s4 σ H4 yv wv u w' (fun z H5 => ∃ G5 zd, Ext G4 H4 G5 H5 ∧ Rp X.K G5 z zd ∧ (match zd with
        | D.bool true => (k η).bind fun v => (r2 wd v).calm
        | D.bool false => .ok (D.bool false)
        | _ => .bad).Sat (fun z => ∃ k, z = D.bool k ∧ ∀ G' H', Ext G H G' H' → Q k H') (Rz B)) I4 ry rw' ⟨G4, y, wd, e4.gh, (r2'.mono e3.g).mono e4.g, r4, Sat.mono hw (fun zd hz G3 H3 z e3 r3 => ⟨G3, zd, e3, r3, hz⟩) fun _ z => z⟩) fun dd s5 hh => ?_
      obtain ⟨z5, H5, I5, rz5, G5, zd5, e5, r5, hz5⟩ := hh
      cases r5 with
      | bool kb =>
        cases rz5
        refine wpAny_truthy_bool ?_
        have ee := ((((e1.trans e2).trans e3).trans e4).trans e5)
        cases kb with
        | false =>
          obtain ⟨k', e', q'⟩ := hz5
          cases e'
          exact ite_ff ⟨H5, I5, q' G5 H5 ee⟩
        | true =>
          have hz5 : ((k η).bind fun v => (r2 wd v).calm).Sat (fun z => ∃ k, z = D.bool k ∧ ∀ G' H', Ext G H G' H' → Q k H') (Rz B) := hz5
          refine ite_tt (test_last (thn (hd.run pins s5 σ H5 (fun w H6 => ∃ G6 vd, Ext G5 H5 G6 H6 ∧ Rp X.K G6 w vd ∧ ((r2 wd vd).calm).Sat (fun z => ∃ k, z = D.bool k ∧ ∀ G' H', Ext G H G' H' → Q k H') (Rz B)) I5 (tX.of (rp.extd ee) (sat_bind hz5) fun y hy G2 H2 w e2 r2 => ⟨G2, y, e2, r2, hy⟩)) fun v6 s6 hh => ?_))
          obtain ⟨vv, H6, I6, rv6, G6, vd, e6, r6, hv⟩ := hh
          refine thn (ho2 pins s6 σ H6 wv vv w' v6 (fun z H7 => ∃ kk, z = .bl kk ∧ Q kk H7) I6 rw' rv6 ⟨G6, wd, vd, e6.gh, (r4.mono e5.g).mono e6.g, r6, Sat.mono (sat_calm hv) (fun zd hz G7 H7 z e7 r7 => ?_) fun _ z => z⟩) fun dd s7 hh => ?_
          · obtain ⟨kk, rfl, hz⟩ := hz
            cases r7
            exact ⟨kk, rfl, hz G7 H7 ((ee.trans e6).trans e7)⟩
          · obtain ⟨z7, H7, I7, rz7, kk, rfl, q7⟩ := hh
            cases rz7
            exact wpAny_truthy_bool ⟨H7, I7, q7⟩
      | _ => exact hz5.elim
  | _ => exact hz.elim
end
end Bk
end
/-! BkRevT -/
section
set_option Elab.async false
set_option linter.all false
set_option maxRecDepth 1000000
set_option maxHeartbeats 4000000
/-! BkRevT: tuple(reversed(a tuple)) -/
namespace RT
open PySem PySem.Spec PyProof.Rows L2
theorem nolen_rt : typeLookup (.type "reversed") "__len__" = pure none := by rw [typeLookup_type, builtinLookup_eq_fast]; kernel_rfl
theorem hint_rt : typeLookup (.type "reversed") "__length_hint__" = pure (some (.builtin "reversed.__length_hint__")) := by rw [typeLookup_type, builtinLookup_eq_fast]; kernel_rfl
theorem tup_at {h h' : Heap} {t : Addr} {items : Array Value} (x : IsTup h t items) (e : ∀ o, h.get? t = some o → h'.get? t = some o) : IsTup h' t items := let ⟨o, h1, h2⟩ := x; ⟨o, e o h1, h2⟩
theorem slot_rt_hint : Slot "reversed" "__length_hint__" "reversed.__length_hint__" :=
  .of (owner := "reversed") (n := "__length_hint__") hint_rt (by decide +kernel) (by decide +kernel) (by decide +kernel)
    (by first | exact .inl (by decide +kernel) | exact .inr (by decide +kernel)) (by rw [isSubtype_type]; kernel_rfl)
theorem entry_rt_hint : entryFor table "reversed.__length_hint__" = some Builtin.«reversed.__length_hint__» := entryFor_of_tree (by kernel_rfl)
theorem args_rt_hint (a : Value) : argsOk "reversed.__length_hint__" ⟨[a], []⟩ := by
  unfold argsOk; rw [signature?_of (id := "reversed.__length_hint__") (n := ['_', '_', 't', 'n', 'i', 'h', '_', 'h', 't', 'g', 'n', 'e', 'l', '_', '_']) (o := ['d', 'e', 's', 'r', 'e', 'v', 'e', 'r']) (by kernel_rfl) owner_rt]; kernel_rfl
section
variable {prog : Program} {w : World} {A : Around} {E : Value → Shared → Prop} {s : Shared}
theorem hint_call {it t : Addr} {items : Array Value} {Q : Value → Shared → Prop} (hit : IsRt s.heap it t ((items.size : Int) - 1)) (ht : IsTup s.heap t items) (hn : items.size ≤ sizeLine)
    (hQ : ∀ tk tk', Q (.int items.size tk) { s with toks := tk' }) : wpAny (model prog w) A (call (.builtin "reversed.__length_hint__") [.ref it]) Q E s := by
  obtain ⟨o, ho, hc, hd⟩ := id hit
  have hn63 := line63
  refine wpAny_call_entry slot_rt_hint hit.typeIs entry_rt_hint ?_ (args_rt_hint _)
  unfold Builtin.«reversed.__length_hint__»
  refine wpAny_bind (wpAny_of_eq (a := Value.ref it) rfl ?_)
  refine wpAny_bind (wpAny_field ho hd (x := .ref t) rfl ?_)
  show wpAny _ _ (if (Value.ref t == Value.none) = true then _ else _) _ _ s
  rw [if_neg (show ¬ ((Value.ref t == Value.none) = true) from Bool.false_ne_true)]
  refine wpAny_bind (len_tuple ht (by omega) ?_)
  refine wpAny_bind (wpAny_of_eq (a := some (items.size : Int)) rfl ?_)
  refine wpAny_bind (wpAny_field (s := { s with toks := s.toks + 1 + 1 }) ho hd (x := rawInt ((items.size : Int) - 1)) rfl ?_)
  show wpAny _ _ (if (items.size : Int) < ((items.size : Int) - 1) + 1 then _ else _) _ _ _
  rw [if_neg (by omega)]
  have e : ((items.size : Int) - 1) + 1 = items.size := by omega
  rw [e]
  show wpAny _ _ (do ret (← mkInt (items.size : Int))) _ _ _
  exact wpAny_bind (wpAny_mkInt (wpAny_pure ⟨_, rfl, hQ _ _⟩))
theorem walks_rt (hh : A.handled = none) (I t : Addr) (hne : t ≠ I) (items : Array Value) (hsz : items.size ≤ sizeLine) :
    Walks prog w A I [I, t] [I] items.size (fun i v => items[items.size - 1 - i]? = some v) (fun i h => i ≤ items.size ∧ IsRt h I t ((items.size : Int) - 1 - (i : Nat)) ∧ IsTup h t items) where
  sub := by simp
  frame := fun i h h' st k => ⟨st.1, st.2.1.at fun o e => k I (by simp) o e, tup_at st.2.2 fun o e => k t (by simp) o e⟩
  item := fun i s Q E hi st hQ => by
    obtain ⟨h1, h2, h3⟩ := st
    have e1 : (items.size : Int) - 1 - ((i : Nat) : Int) = ((items.size - 1 - i : Nat) : Int) := by omega
    rw [e1] at h2
    have hx : items[items.size - 1 - i]? = some items[items.size - 1 - i] := Array.getElem?_eq_getElem (by omega)
    refine next_rt_item h2 h3 hx hsz fun h' st' sb => hQ _ h' _ hx ⟨hi, ?_, ?_⟩ fun b o hb e => ?_
    · have e2 : ((items.size - 1 - i : Nat) : Int) - 1 = (items.size : Int) - 1 - ((i + 1 : Nat) : Int) := by omega
      rw [← e2]
      exact st'
    · exact tup_at h3 fun o e => (sb.2 t hne).trans e
    · exact (sb.2 b fun z => hb (by rw [z]; simp)).trans e
  done := fun s Q E st hQ => by
    obtain ⟨h1, h2, h3⟩ := st
    have e1 : (items.size : Int) - 1 - ((items.size : Nat) : Int) = -1 := by omega
    rw [e1] at h2
    exact next_rt_end hh h2 fun h' eb => hQ h' s.toks fun b o hb e => eb b o (fun z => hb (by rw [z]; simp)) e
  self := fun i s Q E st hQ => iter_rt st.2.1 hQ
theorem collect_rt {it t : Addr} {items : Array Value} {Q : List Value → Shared → Prop} (hh : A.handled = none) (hit : IsRt s.heap it t ((items.size : Int) - 1)) (hl : IsTup s.heap t items) (hne : t ≠ it) (hn : items.size ≤ sizeLine)
    (hQ : ∀ (h' : Heap) (tk : Nat) (acc : Array Value), (∀ b o, b ≠ it → s.heap.get? b = some o → h'.get? b = some o) → ItemsOf (fun i v => items[items.size - 1 - i]? = some v) acc items.size → Q acc.toList { s with heap := h', toks := tk }) :
    wpAny (model prog w) A (collect (.ref it)) Q E s := by
  have W := (walks_rt (prog := prog) (w := w) (A := A.in1) hh it t hne items hn).toS
  obtain ⟨oi, hoi, _⟩ := id hit
  obtain ⟨ol, hol, _⟩ := id hl
  have hSi : s.heap.objs.size ≠ it := Nat.ne_of_gt (Heap.lt_size hoi)
  have hSl : s.heap.objs.size ≠ t := Nat.ne_of_gt (Heap.lt_size hol)
  have hSf : s.heap.objs.size ∉ [it, t] := by simp only [List.mem_cons, List.not_mem_nil, or_false, not_or]; exact ⟨hSi, hSl⟩
  unfold collect
  refine wpAny_bind (wpAny_runValue (codeAny_builtin F.entry_proto_collect ?_))
  rw [Around.under_plainId F.plain_proto_collect _]
  show wpAny _ A.in1 (newList [] >>= fun l' => again (.builtin "list.__iadd__" ⟨[l', .ref it], []⟩)) _ _ s
  refine wpAny_bind (wpAny_newObj_type ?_)
  refine wpAny_pure ⟨plainId_quiet F.plain_list_iadd _, codeAny_builtin F.entry_list_iadd ?_⟩
  rw [Around.under_plainId F.plain_list_iadd _]
  have hS₁ : (s.heap.push { cls := .type "list", data := .seq ([] : List Value).toArray }).get? s.heap.objs.size = some { cls := .type "list", data := .seq ([] : List Value).toArray } := Heap.get?_push_size _ rfl
  have hit1 : IsRt (s.heap.push { cls := .type "list", data := .seq ([] : List Value).toArray }) it t ((items.size : Int) - 1) := hit.at fun o e => Heap.get?_push_of_some _ e
  have hl1 : IsTup (s.heap.push { cls := .type "list", data := .seq ([] : List Value).toArray }) t items := tup_at hl fun o e => Heap.get?_push_of_some _ e
  have hT : ({ s with heap := s.heap.push { cls := .type "list", data := .seq ([] : List Value).toArray } } : Shared).TypeIs (.ref it) "reversed" := IsRt.typeIs (s := { s with heap := s.heap.push { cls := .type "list", data := .seq ([] : List Value).toArray } }) hit1
  have h1 : Builtin.List.listSameRef (.ref s.heap.objs.size) (.ref it) = false := by simp [Builtin.List.listSameRef, hSi]
  show wpAny _ A.in1 (Builtin.List.listExtendWith (.ref s.heap.objs.size) (.ref it) (.ref s.heap.objs.size)) _ _ _
  unfold Builtin.List.listExtendWith
  refine wpAny_bind (wpAny_typeOf hT ?_)
  rw [if_neg (by rw [h1]; decide)]
  refine wpAny_bind (iter_rt (s := { s with heap := s.heap.push { cls := .type "list", data := .seq ([] : List Value).toArray } }) hit1 ?_)
  refine wpAny_bind (wpAny_holding ?_)
  unfold Builtin.List.listLengthHint
  refine wpAny_bind (wpAny_specialOf hT nolen_rt ?_)
  show wpAny _ A.in1 (specialOf (Value.ref it) (Str.ofString "__length_hint__") >>= _) _ _ _
  refine wpAny_bind (wpAny_specialOf hT hint_rt ?_)
  generalize hid : ("reversed.__length_hint__" : String) = id0
  wp_delta
  rw [show splitId id0 = some ("reversed", "__length_hint__") from by subst hid; decide +kernel]
  subst hid
  refine wpAny_bind (wpAny_isInstance (b := true) hT (by rw [isSubtype_type]; kernel_rfl) ?_)
  show wpAny _ A.in1 (rule "list.length-hint.hint" >>= fun _ => bindSpecial (.builtin "reversed.__length_hint__") (.ref it) >>= _) _ _ _
  refine wpAny_bind (wpAny_rule ?_)
  rw [slot_rt_hint.bind]
  refine wpAny_bind (wpAny_pure ?_)
  refine wpAny_bind (wpAny_attempt (hint_call (s := { s with heap := s.heap.push { cls := .type "list", data := .seq ([] : List Value).toArray } }) hit1 hl1 hn fun tk tk' => ?_))
  dsimp only
  have ea : ∀ (n : Int) (t : Tok), asInt? (.int n t) = pure (some n) := fun _ _ => rfl
  rw [ea]
  refine wpAny_bind (m := pure (some (items.size : Int))) ?_
  refine wpAny_pure ?_
  dsimp only
  have hn63 := line63
  have hf : (!Builtin.List.listFitsIndex (items.size : Int)) = false := by
    unfold Builtin.List.listFitsIndex
    rw [sizeLine_eq] at hn
    have e1 : decide (-(2 ^ 63 : Int) ≤ (items.size : Int)) = true := decide_eq_true (by omega)
    have e2 : decide ((items.size : Int) < 2 ^ 63) = true := decide_eq_true (by omega)
    rw [e1, e2]
    rfl
  have hlo : Builtin.List.listTooLong (items.size : Int).toNat = false := by
    rw [Int.toNat_natCast]
    exact decide_eq_false (Nat.not_lt.mpr hn)
  rw [hf, hlo]
  rw [if_neg Bool.false_ne_true, if_neg (by omega), if_neg Bool.false_ne_true]
  refine wpAny_pure ?_
  have fin : ∀ (h3 : Heap) (c3 : Nat) (tk3 : Nat), h3.get? s.heap.objs.size = some { cls := .type "list", data := .seq ([] : List Value).toArray c3 } → (∀ b o, b ≠ s.heap.objs.size → (s.heap.push { cls := .type "list", data := .seq ([] : List Value).toArray }).get? b = some o → h3.get? b = some o) →
      codeAny (model prog w) A (.builtin "list.extend.loop" ⟨[.ref s.heap.objs.size, .ref it, .ref s.heap.objs.size], []⟩) (fun r s' => match r with
        | .ok (.ret v) => wpAny (model prog w) A (match v with
          | .ref a => do
            let o ← load a
            match o.data with
            | .seq xs epoch => pure xs.toList
            | x => unsupported "internal:collect"
          | x => unsupported "internal:collect") Q E s'
        | .ok a => False
        | .error e => E e s') { s with heap := h3, toks := tk3 } := by
    intro h3 c3 tk3 hS3 oth
    have e0 : ((items.size : Nat) : Int) - 1 - ((0 : Nat) : Int) = (items.size : Int) - 1 := by omega
    refine codeAny_extend_loopS W hn _ hSf _ items.size 0 _ #[] c3 rfl (Nat.zero_le _) ⟨Nat.zero_le _, by rw [e0]; exact hit1.at fun o e => oth it o (Ne.symm hSi) e, tup_at hl1 fun o e => oth t o (Ne.symm hSl) e⟩ hS3 (ItemsOf.nil _) fun s' acc' c' hm hS' hacc => ?_
    show wpAny _ A (load s.heap.objs.size >>= _) _ _ s'
    refine wpAny_bind (wpAny_load hS' ?_)
    refine wpAny_pure ?_
    rw [Moved.eq_with hm]
    refine hQ s'.heap s'.toks acc' (fun b o hb e => hm.heap b o (fun hmem => ?_) (oth b o (fun z => absurd (Heap.lt_size e) (by rw [z]; exact Nat.lt_irrefl _)) (Heap.get?_push_of_some _ e))) hacc
    rcases List.mem_cons.mp hmem with e' | hmem
    · exact absurd (Heap.lt_size e) (by rw [e']; exact Nat.lt_irrefl _)
    · exact hb (List.mem_singleton.mp hmem)
  cases h0 : ((items.size : Int) != 0) with
  | true =>
    show wpAny _ A.in1 (rule "list.extend.makes-room" >>= fun _ => Builtin.List.listTouch (.ref s.heap.objs.size) >>= fun _ =>
      again (.builtin "list.extend.loop" ⟨[.ref s.heap.objs.size, .ref it, .ref s.heap.objs.size], []⟩)) _ _ _
    refine wpAny_bind (wpAny_rule ?_)
    refine wpAny_bind ?_
    show wpAny _ A.in1 (updateSeq s.heap.objs.size (·.push .none) >>= fun _ => updateSeq s.heap.objs.size (·.pop)) _ _ _
    refine wpAny_bind (wpAny_updateSeq (s := { s with heap := s.heap.push { cls := .type "list", data := .seq ([] : List Value).toArray }, toks := tk' }) hS₁ rfl (hz := Nat.zero_le _) (_hz' := Nat.succ_le_succ (Nat.zero_le _)) ?_)
    have hS₂ := Heap.get?_update_self (Obj.mapSeq (·.push Value.none)) hS₁ rfl
    refine wpAny_updateSeq (s := { s with heap := (s.heap.push { cls := .type "list", data := .seq ([] : List Value).toArray }).update s.heap.objs.size (Obj.mapSeq (·.push Value.none)), toks := tk' }) hS₂ rfl (hz := by show 1 ≤ sizeLine; rw [sizeLine_eq]; omega) (_hz' := Nat.zero_le _) ?_
    have hS₃ := Heap.get?_update_self (Obj.mapSeq (·.pop)) hS₂ rfl
    exact wpAny_pure ⟨plainId_quiet F.plain_extend_loop _, fin _ _ _ hS₃ fun b o hb e => (Heap.get?_update_other _ _ (Ne.symm hb)).trans ((Heap.get?_update_other _ _ (Ne.symm hb)).trans e)⟩
  | false =>
    show wpAny _ A.in1 (again (.builtin "list.extend.loop" ⟨[.ref s.heap.objs.size, .ref it, .ref s.heap.objs.size], []⟩)) _ _ _
    exact wpAny_pure ⟨plainId_quiet F.plain_extend_loop _, fin _ _ _ hS₁ fun b o hb e => e⟩
theorem code_tuple_new_rt {it t : Addr} {items : Array Value} {Q₁ : Value → Shared → Prop} (hh : A.handled = none) (hit : IsRt s.heap it t ((items.size : Int) - 1)) (hl : IsTup s.heap t items) (hne : t ≠ it) (hn : items.size ≤ sizeLine)
    (h : ∀ (h' : Heap) (tk : Nat) (acc : Array Value), (∀ b o, b ≠ it → s.heap.get? b = some o → h'.get? b = some o) → ItemsOf (fun i v => items[items.size - 1 - i]? = some v) acc items.size →
      Q₁ (.ref h'.objs.size) { s with heap := h'.push { cls := .type "tuple", data := .seq acc }, toks := tk }) :
    codeAny (model prog w) A (.call (.builtin "tuple.__new__") ⟨[.type "tuple", .ref it], []⟩) (wants Q₁ E) s := by
  refine codeAny_of_tree ?_
  show wpAny _ A.in1 (do checkBuiltinCall "tuple.__new__" ⟨[.type "tuple", .ref it], []⟩; again (.builtin "tuple.__new__" ⟨[.type "tuple", .ref it], []⟩)) _ _ s
  refine wpAny_bind (wpAny_of_eq (F.newCall_tuple_1 _) (wpAny_pure ⟨plainId_quiet F.plain_tuple_new _, codeAny_builtin F.entry_tuple_new ?_⟩))
  rw [Around.under_plainId F.plain_tuple_new _]
  have hsub := sub_tuple_self
  have hinit := init_tuple_lookup
  have hmh := madeHere_tuple
  have hTI : s.TypeIs (.ref it) "reversed" := hit.typeIs
  have hh1 : A.in1.handled = none := hh
  wp_walk using wpAny_typeOf hTI, collect_rt (A := A.in1) hh1 hit hl hne hn
  intro h' tk acc hk hacc
  show wpAny _ _ (Builtin.Tuple.tupleExact acc.toList.toArray >>= fun v => ret v) _ _ _
  unfold Builtin.Tuple.tupleExact
  refine wpAny_bind (wpAny_newObj_type ?_ (by show acc.toList.toArray.size ≤ sizeLine; simp only [Array.toArray_toList]; rw [hacc.1]; exact hn))
  refine wpAny_pure ?_
  have e : acc.toList.toArray = acc := by simp
  rw [e]
  exact h h' tk acc hk hacc
theorem call_tuple_rt {it t : Addr} {items : Array Value} {Q : Value → Shared → Prop} (hh : A.handled = none) (hit : IsRt s.heap it t ((items.size : Int) - 1)) (hl : IsTup s.heap t items) (hne : t ≠ it) (hn : items.size ≤ sizeLine)
    (hQ : ∀ (h' : Heap) (tk : Nat) (acc : Array Value), (∀ b o, b ≠ it → s.heap.get? b = some o → h'.get? b = some o) → ItemsOf (fun i v => items[items.size - 1 - i]? = some v) acc items.size →
      Q (.ref h'.objs.size) { s with heap := h'.push { cls := .type "tuple", data := .seq acc }, toks := tk }) :
    wpAny (model prog w) A (call (.type "tuple") [.ref it]) Q E s := by
  refine callType_codes (Q₁ := fun obj s₁ => s₁.TypeIs obj "tuple" ∧ Q obj s₁) F.called_tuple (F.typeCall_tuple_1 _) F.entry_object_init
    (code_tuple_new_rt (A := A.in1) hh hit hl hne hn fun h' tk acc hk hacc => ⟨⟨_, Heap.get?_push_size _ rfl, rfl⟩, hQ h' tk acc hk hacc⟩) fun obj s₁ h₁ => ?_
  exact ⟨h₁.1, F.args_object_init_2 obj _, object_init_meets F.called_tuple.init.lookup F.called_tuple.made (by decide) prog w A.in1 _ s₁ ⟨h₁.1, rfl, h₁.2⟩⟩
end
/-- tuple(reversed(x)), x a tuple: a new tuple -/
def tTupRevT (K : PySem.W.Frag) (te : TE) : TE := fun σ H Q => te σ H fun v H1 => ∃ (a : Addr) (xs : List V), v = .ref a ∧ SqT K H1 a xs ∧ ∀ q, H1 q = none → Q (.ref q) (upd H1 q (.tup xs.reverse))
section
variable {X : Cx}
theorem pe_tupRevT {e : Expr} {te : TE} {p p2 pos pos2 : Pos} (hc : X.calm = true) (hg : Gl X "tuple") (hm : X.mg "tuple" = none) (hg2 : Gl X "reversed") (hm2 : X.mg "reversed" = none) (he : PE X e te)
    (hs : starEach [e] X.env = (false, eval e X.env) :: starEach [] X.env := by rfl)
    (hs2 : starEach [.Call (.Name "reversed" p2) [e] [] pos2] X.env = (false, eval (.Call (.Name "reversed" p2) [e] [] pos2) X.env) :: starEach [] X.env := by rfl) :
    PE X (.Call (.Name "tuple" p) [.Call (.Name "reversed" p2) [e] [] pos2] [] pos) (tTupRevT X.K te) := by
  refine ⟨fun pins s σ H Q I h => ?_⟩
  refine Call_ (ld_blt I hg hm boot_tuple (PyProof.Rows.callWith_type1 (args_cons (Call_ (ld_blt I hg2 hm2 PyProof.Rows.boot_reversed (PyProof.Rows.callWith_type1 (args_cons (thn (he.run pins s σ H _ I h) fun u s1 ⟨v, H1, I1, r1, q1⟩ => args_nil ?_) hs) hs rfl))) hs2) hs2 rfl))
  obtain ⟨a, xs, ev, hq, q⟩ := q1
  subst ev
  obtain rfl : u = Value.ref a := r1
  obtain ⟨its, rv, p', hz⟩ := I1.tuple hq
  have hl := rv.length
  have hn63 := line63
  refine call_reversed_tup p' (fun A E Q k => len_tuple p' (by simp only [List.size_toArray] <;> omega) k) (args_nil ?_)
  have k0 : ∀ b o, s1.heap.get? b = some o → (s1.heap.push (rtObj a ((its.toArray.size : Int) - 1))).get? b = some o := fun b o e => Heap.get?_push_of_some _ e
  have I2 : Inv X pins σ H1 { s1 with heap := s1.heap.push (rtObj a ((its.toArray.size : Int) - 1)), toks := s1.toks + 1 + 1 } := I1.kept (t' := s1.toks + 1 + 1) k0
  obtain ⟨f0, f1, f2, f3, f4, f5⟩ := I1.fpOk (H' := H1) (b := s1.heap.objs.size) (Nat.le_refl _) (I1.hok.fresh (Nat.le_refl _))
  obtain ⟨ol, hol, _⟩ := id p'
  have hne : a ≠ s1.heap.objs.size := Nat.ne_of_lt (Heap.lt_size hol)
  have hn : its.toArray.size ≤ sizeLine := by rw [List.size_toArray, ← rv.length]; exact hz
  refine call_tuple_rt (s := { s1 with heap := s1.heap.push (rtObj a ((its.toArray.size : Int) - 1)), toks := s1.toks + 1 + 1 }) (I1.ok.hd hc) ⟨_, Heap.get?_push_size _ rfl, rfl, rfl⟩ (tup_at p' fun o e => k0 _ _ e) hne hn fun h' tk acc hk hi => ?_
  have I3 : Inv X pins σ H1 { s1 with heap := h', toks := tk } := I2.turned (t' := tk) (fun b o hb e => hk b o hb e) f0 f1 f3 f4 f5
  refine ⟨.ref h'.objs.size, upd H1 h'.objs.size (.tup xs.reverse), I3.laid (t' := tk) (fun c o e => Heap.get?_push_of_some _ e) (Nat.le_refl _) (show ObjOk X.prog X.w _ _ _ (.tup xs.reverse) from ⟨by rw [List.length_reverse]; exact hz, acc.toList, vals_rev rv hi, ?_⟩), rfl, q _ (I3.hok.fresh (Nat.le_refl _))⟩
  rw [Array.toArray_toList]
  exact IsTup.new _ _
end
end RT
end
/-! BkOo -/
section
set_option Elab.async false
set_option linter.all false
set_option autoImplicit false
set_option maxRecDepth 100000
set_option maxHeartbeats 4000000
/-! BkOo: lists of lists, all of the def's own; things frozen -/
namespace Bk
open PySem PySem.Spec PyProof.Rows L2
/-! ### what stands -/
section
variable {K : PySem.W.Frag} {H0 G H G0 : Hp} {σ : L2.St} {η : Env}
theorem Oo.get {as : List Addr} {dss : List (List D)} (h : Oo K H0 G H as dss) : ∀ {n : Nat} {ds : List D}, dss[n]? = some ds → ∃ b vs, as[n]? = some b ∧ H b = some (.lst vs) ∧ RpAll K G vs ds ∧ H0 b = none ∧ G b = none := by
  induction h with
  | nil => intro n ds e; simp at e
  | cons h1 h2 h3 h4 h5 ih =>
    intro n ds e
    cases n with
    | zero =>
      simp at e
      subst e
      exact ⟨_, _, rfl, h3, h4, h1, h2⟩
    | succ n =>
      obtain ⟨b, vs, k1, k2⟩ := ih (n := n) (ds := ds) (by simpa using e)
      exact ⟨b, vs, by simpa using k1, k2⟩
theorem Oo.snoc {as : List Addr} {dss : List (List D)} (h : Oo K H0 G H as dss) {p : Addr} {vs : List V} {ds : List D} (h1 : H0 p = none) (h2 : G p = none) (h3 : H p = some (.lst vs)) (h4 : RpAll K G vs ds) : Oo K H0 G H (as ++ [p]) (dss ++ [ds]) := by
  induction h with
  | nil => exact .cons h1 h2 h3 h4 .nil
  | cons k1 k2 k3 k4 k5 ih => exact .cons k1 k2 k3 k4 ih
/-- the n-th is now at p -/
theorem Oo.set {as : List Addr} {dss : List (List D)} (h : Oo K H0 G H as dss) : ∀ {n : Nat} {p : Addr} {vs : List V} {ds : List D} {H' : Hp}, H0 p = none → G p = none → H' p = some (.lst vs) → RpAll K G vs ds → (∀ m b, m ≠ n → as[m]? = some b → H' b = H b) → Oo K H0 G H' (as.set n p) (dss.set n ds) := by
  induction h with
  | nil => intro n p vs ds H' _ _ _ _ _; exact .nil
  | cons k1 k2 k3 k4 k5 ih =>
    intro n p vs ds H' h1 h2 h3 h4 k
    cases n with
    | zero =>
      refine .cons h1 h2 h3 h4 (k5.cong fun b hb => ?_)
      obtain ⟨m, hm⟩ := List.getElem?_of_mem hb
      exact k (m + 1) b (by omega) (by simpa using hm)
    | succ n =>
      refine .cons k1 k2 ((k 0 _ (by omega) rfl).trans k3) k4 (ih h1 h2 h3 h4 fun m b hm hb => k (m + 1) b (by omega) (by simpa using hb))
theorem oo_slot (r : RpE K G0 H0 G H σ η) {i : Nat} {dss : List (List D)} (e : ooAt i η = some dss) : ∃ so a as, η[i]? = some (some so) ∧ σ[i]? = some (some (.ref a)) ∧ H0 a = none ∧ G a = none ∧ H a = some (.lst (as.map V.ref)) ∧ (a :: as).Nodup ∧ Oo K H0 G H as dss ∧ ∀ b, b ∈ a :: as → fpS H (.ref a) so b := by
  unfold ooAt at e
  split at e
  · rename_i so es
    cases so with
    | own ds =>
      cases ds with
      | nil =>
        cases e
        obtain ⟨w, h1, a, vs, rfl, h0, hg, hh, ra⟩ := r.slot _ _ es
        cases ra
        exact ⟨_, a, [], es, h1, h0, hg, hh, by simp, .nil, fun b hb => by
          have : b = a := by simpa using hb
          rw [this]
          rfl⟩
      | cons x y => cases e
    | oo ds =>
      cases e
      obtain ⟨w, h1, a, as, rfl, h0, hg, hh, hn, ra⟩ := r.slot _ _ es
      refine ⟨_, a, as, es, h1, h0, hg, hh, hn, ra, fun b hb => ?_⟩
      rcases List.mem_cons.mp hb with rfl | hb
      · exact .inl rfl
      · exact .inr ⟨a, as, rfl, hh, hb⟩
    | dat d => cases e
    | dic d => cases e
    | kd d => cases e
  · cases e
/-- a state with the list of lists at hand -/
structure OoAt (K : PySem.W.Frag) (G0 H0 G H : Hp) (σ : L2.St) (η : Env) (i : Nat) (a : Addr) (as : List Addr) (dss : List (List D)) : Prop where
  r : RpE K G0 H0 G H σ η
  e : ∃ so, η[i]? = some (some so) ∧ ∀ b, b ∈ a :: as → fpS H (.ref a) so b
  w : σ[i]? = some (some (.ref a))
  h0 : H0 a = none
  g : G a = none
  h : H a = some (.lst (as.map V.ref))
  n : (a :: as).Nodup
  o : Oo K H0 G H as dss
theorem OoAt.of (r : RpE K G0 H0 G H σ η) {i : Nat} {dss : List (List D)} (e : ooAt i η = some dss) : ∃ a as, OoAt K G0 H0 G H σ η i a as dss :=
  let ⟨so, a, as, h1, h2, h3, h4, h5, h6, h7, h8⟩ := oo_slot r e
  ⟨a, as, r, ⟨so, h1, h8⟩, h2, h3, h4, h5, h6, h7⟩
variable {i : Nat} {a : Addr} {as : List Addr} {dss : List (List D)}
theorem OoAt.own (x : OoAt K G0 H0 G H σ η i a as dss) {b : Addr} (hb : b ∈ a :: as) : (∃ s v0, η[i]? = some (some s) ∧ σ[i]? = some (some v0) ∧ fpS H v0 s b) ∨ FreeA H0 G H σ η b := let ⟨so, e, f⟩ := x.e; .inl ⟨so, _, e, x.w, f b hb⟩
/-- whatever is done to what it owns and to nobody's things -/
theorem OoAt.go (x : OoAt K G0 H0 G H σ η i a as dss) {H' : Hp} {as' : List Addr} {dss' : List (List D)} (h' : H' a = some (.lst (as'.map V.ref))) (n' : (a :: as').Nodup) (o' : Oo K H0 G H' as' dss') (new : ∀ b, b ∈ as' → b ∈ as ∨ H b = none)
    (ch : ∀ b, H' b ≠ H b → b ∈ a :: as ∨ H b = none) : OoAt K G0 H0 G H' σ (η.set i (some (.oo dss'))) i a as' dss' := by
  have r := x.r.chg i (t := .oo dss') (v := .ref a) (H' := H') (fun b z => (ch b z).elim x.own fun k => .inr (x.r.free_of k)) ⟨a, as', rfl, x.h0, x.g, h', n', o'⟩ fun b z => by
    have z : V.ref a = .ref b ∨ ∃ (a2 : Addr) (as2 : List Addr), V.ref a = .ref a2 ∧ H' a2 = some (.lst (as2.map V.ref)) ∧ b ∈ as2 := z
    rcases z with z | ⟨a2, as2, z1, z2, z3⟩
    · cases z
      exact x.own List.mem_cons_self
    · cases z1
      rw [h'] at z2
      have := ref_inj (HO.lst.inj (Option.some.inj z2))
      subst this
      rcases new b z3 with k | k
      · exact x.own (List.mem_cons_of_mem _ k)
      · exact .inr (x.r.free_of k)
  rw [set_get x.w] at r
  obtain ⟨so, e, _⟩ := x.e
  refine ⟨r, ⟨_, List.getElem?_set_self (lt_of_get e), fun b hb => ?_⟩, x.w, x.h0, x.g, h', n', o'⟩
  rcases List.mem_cons.mp hb with rfl | hb
  · exact .inl rfl
  · exact .inr ⟨a, as', rfl, h', hb⟩
/-- the n-th list changed -/
theorem OoAt.put (x : OoAt K G0 H0 G H σ η i a as dss) {n : Nat} {b : Addr} {vs : List V} {ds : List D} (hb : as[n]? = some b) (ra : RpAll K G vs ds) : OoAt K G0 H0 G (upd H b (.lst vs)) σ (η.set i (some (.oo (dss.set n ds)))) i a as (dss.set n ds) := by
  have hm := List.mem_of_getElem? hb
  obtain ⟨n1, n2⟩ := List.nodup_cons.mp x.n
  have hne : a ≠ b := fun z => n1 (by rw [z]; exact hm)
  obtain ⟨k1, k2, _⟩ := x.o.mem hm
  refine x.go ((upd_ne hne).trans x.h) x.n ?_ (fun c hc => .inl hc) fun c hc => ?_
  · have := x.o.set (n := n) (p := b) (vs := vs) (ds := ds) (H' := upd H b (.lst vs)) k1 k2 upd_same ra fun m c hmn hc => upd_ne fun z => by
      subst z
      obtain ⟨l1, l2⟩ := List.getElem?_eq_some_iff.mp hb
      exact hmn ((List.getElem?_inj (List.getElem?_eq_some_iff.mp hc).1 n2).mp (hc.trans hb.symm))
    rw [set_get hb] at this
    exact this
  · by_cases z : c = b
    · rw [z]
      exact .inl (List.mem_cons_of_mem _ hm)
    · exact absurd (upd_ne z) hc
/-- one more list, at p -/
theorem OoAt.push (x : OoAt K G0 H0 G H σ η i a as dss) {p : Addr} {vs : List V} {ds : List D} (hp : H p = none) (ra : RpAll K G vs ds) : OoAt K G0 H0 G (upd (upd H p (.lst vs)) a (.lst (as.map V.ref ++ [V.ref p]))) σ (η.set i (some (.oo (dss ++ [ds])))) i a (as ++ [p]) (dss ++ [ds]) := by
  have hap : a ≠ p := ne_of_none x.h hp
  obtain ⟨n1, n2⟩ := List.nodup_cons.mp x.n
  have hpas : ∀ b, b ∈ as → b ≠ p := fun b hb => by
    obtain ⟨_, _, vs, k⟩ := x.o.mem hb
    exact ne_of_none k hp
  refine x.go (by rw [upd_same, List.map_append]; rfl) ?_ ?_ (fun b hb => ?_) fun b hb => ?_
  · refine List.nodup_cons.mpr ⟨fun z => ?_, List.nodup_append.mpr ⟨n2, by simp, fun b hb c hc z => ?_⟩⟩
    · rcases List.mem_append.mp z with z | z
      · exact n1 z
      · exact hap (by simpa using z)
    · have : c = p := by simpa using hc
      exact hpas b hb (z.trans this)
  · refine Oo.snoc (x.o.cong fun b hb => ?_) (x.r.ext.h.none hp) (x.r.exg.none hp) ((upd_ne (Ne.symm hap)).trans upd_same) ra
    rw [upd_ne (fun z => n1 (by rw [← z]; exact hb)), upd_ne (hpas b hb)]
  · rcases List.mem_append.mp hb with hb | hb
    · exact .inl hb
    · have : b = p := by simpa using hb
      exact .inr (by rw [this]; exact hp)
  · by_cases z : b = a
    · rw [z]
      exact .inl List.mem_cons_self
    · rw [upd_ne z] at hb
      by_cases z2 : b = p
      · exact .inr (by rw [z2]; exact hp)
      · exact absurd (upd_ne z2) hb
theorem nodup_set {p : Addr} : ∀ {as : List Addr} (n : Nat), as.Nodup → p ∉ as → (as.set n p).Nodup
  | [], _, _, _ => List.nodup_nil
  | a :: as, 0, h, hp => by
    obtain ⟨h1, h2⟩ := List.nodup_cons.mp h
    exact List.nodup_cons.mpr ⟨fun z => hp (List.mem_cons_of_mem _ z), h2⟩
  | a :: as, n + 1, h, hp => by
    obtain ⟨h1, h2⟩ := List.nodup_cons.mp h
    refine List.nodup_cons.mpr ⟨fun z => ?_, nodup_set n h2 fun z => hp (List.mem_cons_of_mem _ z)⟩
    rcases List.mem_or_eq_of_mem_set z with k | k
    · exact h1 k
    · exact hp (by rw [← k]; exact List.mem_cons_self)
/-- another list in the n-th place, at p -/
theorem OoAt.repl (x : OoAt K G0 H0 G H σ η i a as dss) {n : Nat} {p : Addr} {vs : List V} {ds : List D} (hp : H p = none) (ra : RpAll K G vs ds) : OoAt K G0 H0 G (upd (upd H p (.lst vs)) a (.lst ((as.map V.ref).set n (V.ref p)))) σ (η.set i (some (.oo (dss.set n ds)))) i a (as.set n p) (dss.set n ds) := by
  have hap : a ≠ p := ne_of_none x.h hp
  obtain ⟨n1, n2⟩ := List.nodup_cons.mp x.n
  have hpas : ∀ b, b ∈ as → b ≠ p := fun b hb => by
    obtain ⟨_, _, vs, k⟩ := x.o.mem hb
    exact ne_of_none k hp
  have memset : ∀ b, b ∈ as.set n p → b ∈ as ∨ b = p := fun b hb => by
    rcases List.mem_or_eq_of_mem_set hb with k | k
    · exact .inl k
    · exact .inr k
  refine x.go (by rw [upd_same, List.map_set]) ?_ ?_ (fun b hb => ?_) fun b hb => ?_
  · refine List.nodup_cons.mpr ⟨fun z => ?_, ?_⟩
    · rcases memset a z with z | z
      · exact n1 z
      · exact hap z
    · exact nodup_set n n2 fun z => hpas p z rfl
  · refine x.o.set (x.r.ext.h.none hp) (x.r.exg.none hp) ((upd_ne (Ne.symm hap)).trans upd_same) ra fun m c _ hc => ?_
    have hc := List.mem_of_getElem? hc
    rw [upd_ne (fun z => n1 (by rw [← z]; exact hc)), upd_ne (hpas c hc)]
  · rcases memset b hb with k | k
    · exact .inl k
    · exact .inr (by rw [k]; exact hp)
  · by_cases z : b = a
    · rw [z]
      exact .inl List.mem_cons_self
    · rw [upd_ne z] at hb
      by_cases z2 : b = p
      · exact .inr (by rw [z2]; exact hp)
      · exact absurd (upd_ne z2) hb
/-- the same, later -/
theorem OoAt.later (x : OoAt K G0 H0 G H σ η i a as dss) {G' H' : Hp} {η' : Env} (r : RpE K G0 H0 G' H' σ η') (e : ooAt i η' = some dss) (h : H' a = H a) : OoAt K G0 H0 G' H' σ η' i a as dss := by
  obtain ⟨a', as', y⟩ := OoAt.of r e
  have := y.w
  rw [x.w] at this
  cases this
  have h2 := y.h
  rw [h, x.h] at h2
  have := ref_inj (HO.lst.inj (Option.some.inj h2))
  subst this
  exact y
theorem OoAt.ext (x : OoAt K G0 H0 G H σ η i a as dss) {G' H' : Hp} (e : ooAt i η = some dss) (ex : Ext G H G' H') : OoAt K G0 H0 G' H' σ η i a as dss :=
  x.later (x.r.extd ex) e (by rw [x.h, ex.h _ _ x.h])
theorem pop_other {j : Nat} {d : D} {η' : Env} (h : popOf j η = .ok (d, η')) (hij : i ≠ j) : η'[i]? = η[i]? ∧ ∃ ds, η[j]? = some (some (.own ds)) := by
  unfold popOf at h
  split at h
  · rename_i ds e
    split at h
    · cases h
      exact ⟨List.getElem?_set_ne (Ne.symm hij), ds, e⟩
    · cases h
  · cases h
theorem ooAt_pop {j : Nat} {d : D} {η' : Env} (h : popOf j η = .ok (d, η')) (hij : i ≠ j) : ooAt i η' = ooAt i η := by
  unfold ooAt
  rw [(pop_other h hij).1]
end
section
variable {K : PySem.W.Frag} {B : Bs} {H G : Hp} {σ : L2.St} {η : Env} {i : Nat} {a : Addr} {as : List Addr} {dss : List (List D)}
theorem OoAt.pop (x : OoAt K B.G0 B.H0 G H σ η i a as dss) {j : Nat} {d : D} {η' : Env} (e : ooAt i η = some dss) (h : popOf j η = .ok (d, η')) (hij : i ≠ j) :
    ∃ ab vs v, σ[j]? = some (some (.ref ab)) ∧ H ab = some (.lst vs) ∧ vs[vs.length - 1]? = some v ∧ Rp K G v d ∧ OoAt K B.G0 B.H0 G (upd H ab (.lst vs.dropLast)) σ η' i a as dss := by
  obtain ⟨ab, vs, v, k1, k2, k3, k4, r2⟩ := pop_rp x.r h
  obtain ⟨_, ds, ej⟩ := pop_other (i := i) h hij
  obtain ⟨so, ei, f⟩ := x.e
  have hne : a ≠ ab := fun z => x.r.apart i j so (.own ds) (.ref a) (.ref ab) ab hij ei ej x.w k1 (by rw [← z]; exact f a List.mem_cons_self) rfl
  exact ⟨ab, vs, v, k1, k2, k3, k4, x.later r2 ((ooAt_pop h hij).trans e) (upd_ne hne)⟩
end
theorem RpAll.set {K : PySem.W.Frag} {G : Hp} {v : V} {d : D} (r : Rp K G v d) : ∀ {vs : List V} {ds : List D} (n : Nat), RpAll K G vs ds → RpAll K G (vs.set n v) (ds.set n d)
  | _, _, _, .nil => .nil
  | _, _, 0, .cons _ t => .cons r t
  | _, _, n + 1, .cons h t => .cons h (RpAll.set r n t)
end Bk
end
/-! BkOo2 -/
section
set_option Elab.async false
set_option linter.all false
set_option autoImplicit false
set_option maxRecDepth 100000
set_option maxHeartbeats 4000000
/-! BkOo2: statements about lists of lists -/
namespace Bk
open PySem PySem.Spec PyProof.Rows L2
structure NmAt (X : Cx) (i : Nat) (x : Str) : Prop where
  n : X.N[i]? = some x
  v : Vis X.env.scope x
  d : (x == ("__debug__" : Str)) = false
  c : (x == ("__classdict__" : Str)) = false
theorem NmAt.pe {X : Cx} {i : Nat} {x : Str} {p : Pos} (h : NmAt X i x) : PE X (.Name x p) (tVar i) := pe_var h.n h.v h.d h.c
theorem at_ref {as : List Addr} {k : Int} {n : Nat} {b : Addr} (h : ix as.length k = some n) (hb : as[n]? = some b) : atI (as.map V.ref) k = some (.ref b) := by
  show (ix (as.map V.ref).length k).bind (fun j => (as.map V.ref)[j]?) = _
  rw [List.length_map, h]
  show (as.map V.ref)[n]? = _
  rw [List.getElem?_map, hb]
  rfl
theorem ix_last {n : Nat} (h : 0 < n) : ix n (-1) = some (n - 1) := by
  unfold ix
  rw [if_neg (by omega), if_pos (by omega)]
  congr 1
  omega
section
variable {X : Cx} {B : Bs} {e : Expr} {pos p lp px py pz pw apos cpos apos2 cpos2 : Pos} {x y z w : Str} {i j k l : Nat}
theorem int_slot {G H : Hp} {σ : L2.St} {η : Env} (r : RpE X.K B.G0 B.H0 G H σ η) {z : Int} (h : intAt k η = some z) : σ[k]? = some (some (.int z)) := by
  unfold intAt at h
  split at h
  · rename_i d e
    cases h
    obtain ⟨v, h1, h2⟩ := r.dat e
    cases h2
    exact h1
  · cases h
theorem intAt_set {η : Env} {s : Option S} (h : i ≠ k) : intAt k (η.set i s) = intAt k η := by
  unfold intAt
  rw [List.getElem?_set_ne h]
theorem int_oo {η : Env} {dss : List (List D)} {z : Int} (h1 : ooAt i η = some dss) (h2 : intAt k η = some z) : i ≠ k := fun e => by
  subst e
  unfold ooAt at h1
  unfold intAt at h2
  split at h2
  · rename_i d e
    rw [e] at h1
    cases h1
  · cases h2
/-- x.append([y.pop()]) -/
theorem s_ooNew (i j : Nat) (nx : NmAt X i x := by exact ⟨rfl, by first | exact Or.inl rfl | exact Or.inr (Or.inl rfl) | exact Or.inr (Or.inr rfl), by decide, by decide⟩) (ny : NmAt X j y := by exact ⟨rfl, by first | exact Or.inl rfl | exact Or.inr (Or.inl rfl) | exact Or.inr (Or.inr rfl), by decide, by decide⟩)
    (h1 : starEach [.Call (.Attribute (.Name y py) "pop" apos2) [] [] cpos2] X.env = (false, eval (.Call (.Attribute (.Name y py) "pop" apos2) [] [] cpos2) X.env) :: starEach [] X.env := by rfl)
    (h0 : starEach [.List [.Call (.Attribute (.Name y py) "pop" apos2) [] [] cpos2] lp] X.env = (false, eval (.List [.Call (.Attribute (.Name y py) "pop" apos2) [] [] cpos2] lp) X.env) :: starEach [] X.env := by rfl)
    (hpp : ∀ {to : TE}, PE X (.Name y py) to → PE X (.Call (.Attribute (.Name y py) "pop" apos2) [] [] cpos2) (tBM0 X.K "list" rPop to) := by intro _ h1; exact pe_bm0 PySem.F.plainAttrs_list PySem.F.slot_list_pop PySem.F.type_list_pop mt_pop h1)
    (hpe : ∀ {to : TE} {t : TA}, PE X (.Name x px) to → PA X [.List [.Call (.Attribute (.Name y py) "pop" apos2) [] [] cpos2] lp] t → PE X (.Call (.Attribute (.Name x px) "append" apos) [.List [.Call (.Attribute (.Name y py) "pop" apos2) [] [] cpos2] lp] [] cpos) (tBM X.K "list" rAppend to t) := by intro _ _ h1 h2; exact pe_bm PySem.F.plainAttrs_list PySem.F.slot_list_append PySem.F.type_list_append mt_append h1 h2)
    (hs : swapsWith (.Call (.Attribute (.Name x px) "append" apos) [.List [.Call (.Attribute (.Name y py) "pop" apos2) [] [] cpos2] lp] [] cpos) none pos.line X.env = pure false := by rfl) : PS X (.Expr (.Call (.Attribute (.Name x px) "append" apos) [.List [.Call (.Attribute (.Name y py) "pop" apos2) [] [] cpos2] lp] [] cpos) pos) (tS X.K B (sOoNew i j)) :=
  ps_weak (ps_expr (hpe nx.pe (pa_cons (pe_lst (pa_cons (hpp ny.pe) pa_nil h1)) pa_nil h0)) hs) fun D σ H q => by
    obtain ⟨G, η, r, q⟩ := q
    unfold sOoNew at q
    split at q
    · rename_i dss e
      by_cases hc : i = j ∨ lim ≤ dss.length
      · rw [if_pos hc] at q
        exact q.elim
      · rw [if_neg hc] at q
        obtain ⟨a, as, o⟩ := OoAt.of r e
        cases zp : popOf j η with
        | ok pr =>
          obtain ⟨d, η'⟩ := pr
          rw [zp] at q
          obtain ⟨ab, vs2, v, k1, k2, k3, k4, o2⟩ := o.pop e zp fun z => hc (.inl z)
          refine ⟨_, o.w, .inl ⟨rfl, _, .inl (.inl o.h)⟩, _, k1, .inl ⟨rfl, vs2, .inl (.inl k2)⟩, ab, vs2, v, rfl, rfl, k2, k3, by rw [sizeLine_eq]; show 1 ≤ 16777216; omega, fun p hp => ?_⟩
          have hc2 : ¬ 16777216 ≤ dss.length := fun z => hc (.inr z)
          have hl : as.length < 16777216 := by
            rw [o.o.length]
            omega
          refine ⟨a, as.map V.ref, .ref p, rfl, rfl, ?_, by rw [List.length_map, sizeLine_eq]; exact hl, ?_⟩
          · rw [upd_ne (ne_of_none o2.h hp)]
            exact o2.h
          · exact q G _ σ (Ex.refl G) (o2.push hp (.cons k4 .nil)).r
        | raise cl =>
          rw [zp] at q
          exact q.elim
        | bad =>
          rw [zp] at q
          exact q.elim
    · exact q.elim
/-- x[-1].append(y.pop()) -/
theorem s_ooApp (i j : Nat) {ex1 : Expr} (nx : NmAt X i x := by exact ⟨rfl, by first | exact Or.inl rfl | exact Or.inr (Or.inl rfl) | exact Or.inr (Or.inr rfl), by decide, by decide⟩) (ny : NmAt X j y := by exact ⟨rfl, by first | exact Or.inl rfl | exact Or.inr (Or.inl rfl) | exact Or.inr (Or.inr rfl), by decide, by decide⟩)
    (hi : PE X ex1 (tX X.K B (eUn dNeg (eC (.int 1))))) (hsx : PlainIx ex1 := by exact fun _ _ => rfl)
    (h0 : starEach [.Call (.Attribute (.Name y py) "pop" apos2) [] [] cpos2] X.env = (false, eval (.Call (.Attribute (.Name y py) "pop" apos2) [] [] cpos2) X.env) :: starEach [] X.env := by rfl)
    (hpp : ∀ {to : TE}, PE X (.Name y py) to → PE X (.Call (.Attribute (.Name y py) "pop" apos2) [] [] cpos2) (tBM0 X.K "list" rPop to) := by intro _ h1; exact pe_bm0 PySem.F.plainAttrs_list PySem.F.slot_list_pop PySem.F.type_list_pop mt_pop h1)
    (hpe : ∀ {to : TE} {t : TA}, PE X (.Subscript (.Name x px) ex1 p) to → PA X [.Call (.Attribute (.Name y py) "pop" apos2) [] [] cpos2] t → PE X (.Call (.Attribute (.Subscript (.Name x px) ex1 p) "append" apos) [.Call (.Attribute (.Name y py) "pop" apos2) [] [] cpos2] [] cpos) (tBM X.K "list" rAppend to t) := by intro _ _ h1 h2; exact pe_bm PySem.F.plainAttrs_list PySem.F.slot_list_append PySem.F.type_list_append mt_append h1 h2)
    (hs : swapsWith (.Call (.Attribute (.Subscript (.Name x px) ex1 p) "append" apos) [.Call (.Attribute (.Name y py) "pop" apos2) [] [] cpos2] [] cpos) none pos.line X.env = pure false := by rfl) : PS X (.Expr (.Call (.Attribute (.Subscript (.Name x px) ex1 p) "append" apos) [.Call (.Attribute (.Name y py) "pop" apos2) [] [] cpos2] [] cpos) pos) (tS X.K B (sOoApp i j)) :=
  ps_weak (ps_expr (hpe (pe_ix ix_list nx.pe hi hsx) (pa_cons (hpp ny.pe) pa_nil h0)) hs) fun D σ H q => by
    obtain ⟨G, η, r, q⟩ := q
    unfold sOoApp at q
    split at q
    · rename_i dss e
      split at q
      · rename_i ds el
        by_cases hc : i = j ∨ lim ≤ ds.length
        · rw [if_pos hc] at q
          exact q.elim
        · rw [if_neg hc] at q
          obtain ⟨a, as, o⟩ := OoAt.of r e
          refine ⟨_, o.w, tX.of r (f := eUn dNeg (eC (.int 1))) (P := fun d => d = .int (-1)) rfl fun d hd G1 H1 v1 x1 rv1 => ?_⟩
          subst hd
          cases rv1
          have o1 := o.ext e x1
          obtain ⟨b, vs0, hb, hh0, _⟩ := o1.o.get el
          have hla : as.length - 1 = dss.length - 1 := by rw [o1.o.length]
          have hpos : 0 < as.length := by
            have := lt_of_get hb
            omega
          refine ⟨a, as.map V.ref, -1, .ref b, rfl, rfl, .of o1.h, at_ref (ix_last hpos) (by rw [hla]; exact hb), .inl ⟨rfl, vs0, .of hh0⟩, ?_⟩
          cases zp : popOf j η with
          | ok pr =>
            obtain ⟨d, η'⟩ := pr
            rw [zp] at q
            obtain ⟨ab, vs2, v, k1, k2, k3, k4, o2⟩ := o1.pop e zp fun z => hc (.inl z)
            obtain ⟨b', vs, hb', hh, ra, _⟩ := o2.o.get el
            rw [hb] at hb'
            cases hb'
            have hc2 : ¬ 16777216 ≤ ds.length := fun z => hc (.inr z)
            refine ⟨_, k1, .inl ⟨rfl, vs2, .inl (.inl k2)⟩, ab, vs2, v, rfl, rfl, k2, k3, b, vs, v, rfl, rfl, hh, by rw [ra.length, sizeLine_eq]; omega, ?_⟩
            exact q G1 _ σ x1.g (o2.put hb (ra.snoc k4)).r
          | raise cl =>
            rw [zp] at q
            exact q.elim
          | bad =>
            rw [zp] at q
            exact q.elim
      · exact q.elim
    · exact q.elim
/-- x[k].append(x[l].pop()) -/
theorem s_ooMove (i k l : Nat) (nx : NmAt X i x := by exact ⟨rfl, by first | exact Or.inl rfl | exact Or.inr (Or.inl rfl) | exact Or.inr (Or.inr rfl), by decide, by decide⟩) (nz : NmAt X k z := by exact ⟨rfl, by first | exact Or.inl rfl | exact Or.inr (Or.inl rfl) | exact Or.inr (Or.inr rfl), by decide, by decide⟩) (nw : NmAt X l w := by exact ⟨rfl, by first | exact Or.inl rfl | exact Or.inr (Or.inl rfl) | exact Or.inr (Or.inr rfl), by decide, by decide⟩)
    (hs1 : PlainIx (.Name z pz) := by exact fun _ _ => rfl) (hs2 : PlainIx (.Name w pw) := by exact fun _ _ => rfl)
    (h0 : starEach [.Call (.Attribute (.Subscript (.Name x py) (.Name w pw) lp) "pop" apos2) [] [] cpos2] X.env = (false, eval (.Call (.Attribute (.Subscript (.Name x py) (.Name w pw) lp) "pop" apos2) [] [] cpos2) X.env) :: starEach [] X.env := by rfl)
    (hpp : ∀ {to : TE}, PE X (.Subscript (.Name x py) (.Name w pw) lp) to → PE X (.Call (.Attribute (.Subscript (.Name x py) (.Name w pw) lp) "pop" apos2) [] [] cpos2) (tBM0 X.K "list" rPop to) := by intro _ h1; exact pe_bm0 PySem.F.plainAttrs_list PySem.F.slot_list_pop PySem.F.type_list_pop mt_pop h1)
    (hpe : ∀ {to : TE} {t : TA}, PE X (.Subscript (.Name x px) (.Name z pz) p) to → PA X [.Call (.Attribute (.Subscript (.Name x py) (.Name w pw) lp) "pop" apos2) [] [] cpos2] t → PE X (.Call (.Attribute (.Subscript (.Name x px) (.Name z pz) p) "append" apos) [.Call (.Attribute (.Subscript (.Name x py) (.Name w pw) lp) "pop" apos2) [] [] cpos2] [] cpos) (tBM X.K "list" rAppend to t) := by intro _ _ h1 h2; exact pe_bm PySem.F.plainAttrs_list PySem.F.slot_list_append PySem.F.type_list_append mt_append h1 h2)
    (hs : swapsWith (.Call (.Attribute (.Subscript (.Name x px) (.Name z pz) p) "append" apos) [.Call (.Attribute (.Subscript (.Name x py) (.Name w pw) lp) "pop" apos2) [] [] cpos2] [] cpos) none pos.line X.env = pure false := by rfl) :
    PS X (.Expr (.Call (.Attribute (.Subscript (.Name x px) (.Name z pz) p) "append" apos) [.Call (.Attribute (.Subscript (.Name x py) (.Name w pw) lp) "pop" apos2) [] [] cpos2] [] cpos) pos) (tS X.K B (sOoMove i k l)) :=
  ps_weak (ps_expr (hpe (pe_ix ix_list nx.pe nz.pe hs1) (pa_cons (hpp (pe_ix ix_list nx.pe nw.pe hs2)) pa_nil h0)) hs) fun D σ H q => by
    obtain ⟨G, η, r, q⟩ := q
    unfold sOoMove at q
    split at q
    · rename_i dss kz lz e ek el
      split at q
      · rename_i n m en em
        split at q
        · rename_i src es
          split at q
          · rename_i d dst ed et
            by_cases hc : lim ≤ dst.length
            · rw [if_pos hc] at q
              exact q.elim
            · rw [if_neg hc] at q
              obtain ⟨a, as, o⟩ := OoAt.of r e
              have hlen := o.o.length
              obtain ⟨bm, vsm, hbm, hhm, ram, _⟩ := o.o.get es
              have o1 := o.put hbm ram.dropLast
              obtain ⟨bn, vsn, hbn, hhn, ran, _⟩ := o1.o.get et
              obtain ⟨dn, hdn⟩ : ∃ dn, dss[n]? = some dn := ⟨dss[n]'(by
                have := lt_of_get hbn
                omega), List.getElem?_eq_getElem _⟩
              obtain ⟨bn0, vn0, hbn0, hhn0, _⟩ := o.o.get hdn
              rw [hbn] at hbn0
              cases hbn0
              rw [← ram.length] at ed
              obtain ⟨v, hv, rv⟩ := ram.get ed
              have hc2 : ¬ 16777216 ≤ dst.length := hc
              refine ⟨_, o.w, _, int_slot r ek, a, as.map V.ref, kz, .ref bn, rfl, rfl, .of o.h, at_ref (by rw [hlen]; exact en) hbn, .inl ⟨rfl, vn0, .of hhn0⟩,
                _, o.w, _, int_slot r el, a, as.map V.ref, lz, .ref bm, rfl, rfl, .of o.h, at_ref (by rw [hlen]; exact em) hbm, .inl ⟨rfl, vsm, .of hhm⟩, bm, vsm, v, rfl, rfl, hhm, hv, bn, vsn, v, rfl, rfl, hhn, by rw [ran.length, sizeLine_eq]; omega, ?_⟩
              have o2 := o1.put hbn (ran.snoc rv)
              rw [List.set_set] at o2
              exact q G _ σ (Ex.refl G) o2.r
          · exact q.elim
        · exact q.elim
      · exact q.elim
    · exact q.elim
/-- len of it -/
theorem pv_ooLen (i : Nat) {p2 : Pos} (hm : X.mg "len" = none) (hg : Gl X "len" := by rfl) (nx : NmAt X i x := by exact ⟨rfl, by first | exact Or.inl rfl | exact Or.inr (Or.inl rfl) | exact Or.inr (Or.inr rfl), by decide, by decide⟩)
    (h0 : starEach [.Name x px] X.env = (false, eval (.Name x px) X.env) :: starEach [] X.env := by rfl) (hpl : (backTo pos (starEach [] X.env)).any (·.1) = false := by rfl) : PE X (.Call (.Name "len" p2) [.Name x px] [] pos) (tX X.K B (eOoLen i)) :=
  pe_weak (pe_callB call_len_seq hg hm (by decide +kernel) (pa_cons nx.pe pa_nil h0) (by decide) (by decide) h0 hpl) fun σ H Q q => by
    obtain ⟨G, η, r, q⟩ := q
    unfold eOoLen at q
    split at q
    · rename_i dss e
      obtain ⟨a, as, o⟩ := OoAt.of r e
      refine ⟨_, o.w, a, as.map V.ref, rfl, .inl (.of o.h), ?_⟩
      rw [List.length_map, o.o.length]
      exact q G H _ (Ext.refl r.exg) (.int _)
    · exact q.elim
/-- x[k] = x[k][::-1] -/
theorem s_ooRev (i k : Nat) {k1 : Nat} {p1 p2 p3 p4 pq : Pos} (nx : NmAt X i x := by exact ⟨rfl, by first | exact Or.inl rfl | exact Or.inr (Or.inl rfl) | exact Or.inr (Or.inr rfl), by decide, by decide⟩) (nz : NmAt X k z := by exact ⟨rfl, by first | exact Or.inl rfl | exact Or.inr (Or.inl rfl) | exact Or.inr (Or.inr rfl), by decide, by decide⟩)
    (hs1 : PlainIx (.Name z pz) := by exact fun _ _ => rfl)
    (ha : ∀ v, assign (.Subscript (.Name x px) (.Name z pw) pq) X.env v = (do
      let ov ← holding [v] (eval (.Name x px) X.env)
      let iv ← holding [v, ov] (eval (.Name z pw) X.env)
      standAt pq
      holding [v, ov, iv] (setItem ov iv v)
      release [v, ov, iv] []) := by intro _; rfl)
    (hs : swapsWithSole [.Subscript (.Name x px) (.Name z pw) pq] (.Subscript (.Subscript (.Name x py) (.Name z pz) p) (.Slice none none (some (.UnaryOp .USub (.Constant (.int 1) k1 p1) p2)) p3) p4) pos.line X.env = pure false := by rfl)
    (hw : swappedStores [.Subscript (.Name x px) (.Name z pw) pq] (.Subscript (.Subscript (.Name x py) (.Name z pz) p) (.Slice none none (some (.UnaryOp .USub (.Constant (.int 1) k1 p1) p2)) p3) p4) X.env = pure none := by rfl)
    (h1 : (assignEach [.Subscript (.Name x px) (.Name z pw) pq] X.env).map (·.2) = [assign (.Subscript (.Name x px) (.Name z pw) pq) X.env] := by rfl) :
    PS X (.Assign [.Subscript (.Name x px) (.Name z pw) pq] (.Subscript (.Subscript (.Name x py) (.Name z pz) p) (.Slice none none (some (.UnaryOp .USub (.Constant (.int 1) k1 p1) p2)) p3) p4) pos) (tS X.K B (sOoRev i k)) :=
  ps_weak (ps_asg (pe_revL (pe_ix ix_list nx.pe nz.pe hs1)) (pg_sub nx.pe nz.pe set_list ha) hs hw h1) fun D σ H q => by
    obtain ⟨G, η, r, q⟩ := q
    unfold sOoRev at q
    split at q
    · rename_i dss kz e ek
      split at q
      · rename_i n en
        split at q
        · rename_i dn ed
          obtain ⟨a, as, o⟩ := OoAt.of r e
          have hlen := o.o.length
          obtain ⟨b, vs, hb, hh, ra, _⟩ := o.o.get ed
          refine ⟨_, o.w, _, int_slot r ek, a, as.map V.ref, kz, .ref b, rfl, rfl, .of o.h, at_ref (by rw [hlen]; exact en) hb, b, vs, rfl, .of hh, fun p0 hp => ?_⟩
          have hap : a ≠ p0 := ne_of_none o.h hp
          refine ⟨_, o.w, _, int_slot r ek, a, as.map V.ref, kz, n, rfl, rfl, (upd_ne hap).trans o.h, ?_, ?_⟩
          · show ix (as.map V.ref).length kz = some n
            rw [List.length_map, hlen]
            exact en
          · exact q G _ σ (Ex.refl G) (o.repl hp ra.reverse).r
        · exact q.elim
      · exact q.elim
    · exact q.elim
/-- x[k][-1], x[l][0] = x[l][0], x[k][-1] -/
theorem s_ooSwap (i k l : Nat) {em1 em2 e01 e02 : Expr} {kt k2 : Nat} {pt pt2 q1 q2 q3 q4 s1 s2 s3 s4 px1 px2 px3 px4 pz1 pz2 pw1 pw2 : Pos} (nx : NmAt X i x := by exact ⟨rfl, by first | exact Or.inl rfl | exact Or.inr (Or.inl rfl) | exact Or.inr (Or.inr rfl), by decide, by decide⟩) (nz : NmAt X k z := by exact ⟨rfl, by first | exact Or.inl rfl | exact Or.inr (Or.inl rfl) | exact Or.inr (Or.inr rfl), by decide, by decide⟩) (nw : NmAt X l w := by exact ⟨rfl, by first | exact Or.inl rfl | exact Or.inr (Or.inl rfl) | exact Or.inr (Or.inr rfl), by decide, by decide⟩)
    (hm1 : PE X em1 (tX X.K B (eUn dNeg (eC (.int 1))))) (hm2 : PE X em2 (tX X.K B (eUn dNeg (eC (.int 1))))) (h01 : PE X e01 (tX X.K B (eC (.int 0)))) (h02 : PE X e02 (tX X.K B (eC (.int 0)))) (hc : X.calm = true := by rfl)
    (i1 : PlainIx (.Name z pz1) := by exact fun _ _ => rfl) (i2 : PlainIx (.Name w pw1) := by exact fun _ _ => rfl) (i3 : PlainIx (.Name z pz2) := by exact fun _ _ => rfl) (i4 : PlainIx (.Name w pw2) := by exact fun _ _ => rfl) (i5 : PlainIx em2 := by exact fun _ _ => rfl) (i6 : PlainIx e01 := by exact fun _ _ => rfl)
    (ha1 : ∀ v, assign (.Subscript (.Subscript (.Name x px1) (.Name z pz1) q1) em1 s1) X.env v = (do
      let ov ← holding [v] (eval (.Subscript (.Name x px1) (.Name z pz1) q1) X.env)
      let iv ← holding [v, ov] (eval em1 X.env)
      standAt s1
      holding [v, ov, iv] (setItem ov iv v)
      release [v, ov, iv] []) := by intro _; rfl)
    (ha2 : ∀ v, assign (.Subscript (.Subscript (.Name x px2) (.Name w pw1) q2) e02 s2) X.env v = (do
      let ov ← holding [v] (eval (.Subscript (.Name x px2) (.Name w pw1) q2) X.env)
      let iv ← holding [v, ov] (eval e02 X.env)
      standAt s2
      holding [v, ov, iv] (setItem ov iv v)
      release [v, ov, iv] []) := by intro _; rfl)
    (hA1 : (assignEach [.Subscript (.Subscript (.Name x px1) (.Name z pz1) q1) em1 s1, .Subscript (.Subscript (.Name x px2) (.Name w pw1) q2) e02 s2] X.env).map (·.2) = assign (.Subscript (.Subscript (.Name x px1) (.Name z pz1) q1) em1 s1) X.env :: (assignEach [.Subscript (.Subscript (.Name x px2) (.Name w pw1) q2) e02 s2] X.env).map (·.2) := by rfl)
    (hA2 : (assignEach [.Subscript (.Subscript (.Name x px2) (.Name w pw1) q2) e02 s2] X.env).map (·.2) = assign (.Subscript (.Subscript (.Name x px2) (.Name w pw1) q2) e02 s2) X.env :: (assignEach [] X.env).map (·.2) := by rfl)
    (hA3 : (assignEach [.Subscript (.Subscript (.Name x px1) (.Name z pz1) q1) em1 s1, .Subscript (.Subscript (.Name x px2) (.Name w pw1) q2) e02 s2] X.env).length = 2 := by rfl)
    (hA4 : (assignEach [.Subscript (.Subscript (.Name x px1) (.Name z pz1) q1) em1 s1, .Subscript (.Subscript (.Name x px2) (.Name w pw1) q2) e02 s2] X.env).findIdx? (·.1) = none := by rfl)
    (hv1 : starEach [.Subscript (.Subscript (.Name x px3) (.Name w pw2) q3) e01 s3, .Subscript (.Subscript (.Name x px4) (.Name z pz2) q4) em2 s4] X.env = (false, eval (.Subscript (.Subscript (.Name x px3) (.Name w pw2) q3) e01 s3) X.env) :: starEach [.Subscript (.Subscript (.Name x px4) (.Name z pz2) q4) em2 s4] X.env := by rfl)
    (hv2 : starEach [.Subscript (.Subscript (.Name x px4) (.Name z pz2) q4) em2 s4] X.env = (false, eval (.Subscript (.Subscript (.Name x px4) (.Name z pz2) q4) em2 s4) X.env) :: starEach [] X.env := by rfl)
    (hs : swapsWithSole [.Tuple [.Subscript (.Subscript (.Name x px1) (.Name z pz1) q1) em1 s1, .Subscript (.Subscript (.Name x px2) (.Name w pw1) q2) e02 s2] kt pt] (.Tuple [.Subscript (.Subscript (.Name x px3) (.Name w pw2) q3) e01 s3, .Subscript (.Subscript (.Name x px4) (.Name z pz2) q4) em2 s4] k2 pt2) pos.line X.env = pure false := by rfl)
    (hw : swappedStores [.Tuple [.Subscript (.Subscript (.Name x px1) (.Name z pz1) q1) em1 s1, .Subscript (.Subscript (.Name x px2) (.Name w pw1) q2) e02 s2] kt pt] (.Tuple [.Subscript (.Subscript (.Name x px3) (.Name w pw2) q3) e01 s3, .Subscript (.Subscript (.Name x px4) (.Name z pz2) q4) em2 s4] k2 pt2) X.env = pure none := by rfl)
    (h1 : (assignEach [.Tuple [.Subscript (.Subscript (.Name x px1) (.Name z pz1) q1) em1 s1, .Subscript (.Subscript (.Name x px2) (.Name w pw1) q2) e02 s2] kt pt] X.env).map (·.2) = [assign (.Tuple [.Subscript (.Subscript (.Name x px1) (.Name z pz1) q1) em1 s1, .Subscript (.Subscript (.Name x px2) (.Name w pw1) q2) e02 s2] kt pt) X.env] := by rfl) :
    PS X (.Assign [.Tuple [.Subscript (.Subscript (.Name x px1) (.Name z pz1) q1) em1 s1, .Subscript (.Subscript (.Name x px2) (.Name w pw1) q2) e02 s2] kt pt] (.Tuple [.Subscript (.Subscript (.Name x px3) (.Name w pw2) q3) e01 s3, .Subscript (.Subscript (.Name x px4) (.Name z pz2) q4) em2 s4] k2 pt2) pos) (tS X.K B (sOoSwap i k l)) :=
  ps_weak (ps_asg (pe_tup (pa_cons (pe_ix ix_list (pe_ix ix_list nx.pe nw.pe i4) h01 i6) (pa_cons (pe_ix ix_list (pe_ix ix_list nx.pe nz.pe i3) hm2 i5) pa_nil hv2) hv1))
    (pg_tup hc (pgs_cons (pg_sub (pe_ix ix_list nx.pe nz.pe i1) hm1 set_list ha1) (pgs_cons (pg_sub (pe_ix ix_list nx.pe nw.pe i2) h02 set_list ha2) pgs_nil hA2) hA1) hA3 hA4) hs hw h1) fun D σ H q => by
    obtain ⟨G, η, r, q⟩ := q
    unfold sOoSwap at q
    split at q
    · rename_i dss kz lz e ek el
      split at q
      · rename_i n m en em
        split at q
        · rename_i dn dm edn edm
          split at q
          · rename_i u v dm' eu ev edm'
            obtain ⟨a, as, o⟩ := OoAt.of r e
            have hlen := o.o.length
            obtain ⟨bm, vsm, hbm, hhm, ram, _⟩ := o.o.get edm
            obtain ⟨bn, vsn, hbn, hhn, ran, _⟩ := o.o.get edn
            have enn : ix as.length kz = some n := by rw [hlen]; exact en
            have emm : ix as.length lz = some m := by rw [hlen]; exact em
            obtain ⟨vu, hvu, rvu⟩ := ram.get eu
            have ev0 := ev
            rw [← ran.length] at ev
            obtain ⟨vv, hvv, rvv⟩ := ran.get ev
            have hposn : 0 < vsn.length := by
              have := lt_of_get hvv
              omega
            have hposm : 0 < vsm.length := lt_of_get hvu
            have i0 : ∀ {n : Nat}, 0 < n → ix n 0 = some 0 := fun {n} h => by
              unfold ix
              rw [if_pos (Int.le_refl _), if_pos (by omega)]
              rfl
            have a0 : atI vsm 0 = some vu := by
              show (ix vsm.length 0).bind (fun j => vsm[j]?) = _
              rw [i0 hposm]
              exact hvu
            have a1 : atI vsn (-1) = some vv := by
              show (ix vsn.length (-1)).bind (fun j => vsn[j]?) = _
              rw [ix_last hposn]
              exact hvv
            have hu : dm.headD .none = u := by
              cases dm with
              | nil => cases eu
              | cons c d => exact Option.some.inj eu
            rw [hu] at q edm'
            -- the value
            refine ⟨_, o.w, _, int_slot r el, a, as.map V.ref, lz, .ref bm, rfl, rfl, .of o.h, at_ref emm hbm, tX.of r (f := eC (.int 0)) (P := fun d => d = .int 0) rfl fun d hd G1 H1 v1 x1 rv1 => ?_⟩
            subst hd
            cases rv1
            have o1 := o.ext e x1
            refine ⟨bm, vsm, 0, vu, rfl, rfl, .of (x1.h _ _ hhm), a0, _, o1.w, _, int_slot o1.r ek, a, as.map V.ref, kz, .ref bn, rfl, rfl, .of o1.h, at_ref enn hbn, tX.of o1.r (f := eUn dNeg (eC (.int 1))) (P := fun d => d = .int (-1)) rfl fun d hd G2 H2 v2 x2 rv2 => ?_⟩
            subst hd
            cases rv2
            have o2 := o1.ext e x2
            refine ⟨bn, vsn, -1, vv, rfl, rfl, .of (x2.h _ _ (x1.h _ _ hhn)), a1, by rw [sizeLine_eq]; show 2 ≤ 16777216; omega, fun p0 hp => ?_⟩
            have x3 : Ext G2 H2 G2 (upd H2 p0 (.tup [vu, vv])) := Ext.drop o2.r.exg hp
            have o3 := o2.ext e x3
            refine ⟨p0, [vu, vv], rfl, .of upd_same, rfl, vu, [vv], rfl, _, o3.w, _, int_slot o3.r ek, a, as.map V.ref, kz, .ref bn, rfl, rfl, .of o3.h, at_ref enn hbn, tX.of o3.r (f := eUn dNeg (eC (.int 1))) (P := fun d => d = .int (-1)) rfl fun d hd G4 H4 v4 x4 rv4 => ?_⟩
            subst hd
            cases rv4
            have o4 := o3.ext e x4
            have xx : Ext G H G4 H4 := ((x1.trans x2).trans x3).trans x4
            refine ⟨bn, vsn, -1, vsn.length - 1, rfl, rfl, xx.h _ _ hhn, ix_last hposn, ?_⟩
            have ran4 := ran.mono xx.g
            have o5 := o4.put hbn ((ran4.set (rvu.mono xx.g) (vsn.length - 1)))
            have e5 : ooAt i (η.set i (some (.oo (dss.set n (dn.set (vsn.length - 1) u))))) = some (dss.set n (dn.set (vsn.length - 1) u)) := by
              unfold ooAt
              obtain ⟨so, eso, _⟩ := o.e
              rw [List.getElem?_set_self (lt_of_get eso)]
              rfl
            have ik : i ≠ k := int_oo e ek
            have il : i ≠ l := int_oo e el
            rw [← ran.length] at edm' q
            refine ⟨vv, [], rfl, _, o5.w, _, int_slot o5.r (by rw [intAt_set il]; exact el), a, as.map V.ref, lz, .ref bm, rfl, rfl, .of o5.h, at_ref emm hbm, tX.of o5.r (f := eC (.int 0)) (P := fun d => d = .int 0) rfl fun d hd G6 H6 v6 x6 rv6 => ?_⟩
            subst hd
            cases rv6
            have o6 := o5.ext e5 x6
            obtain ⟨bm', vm6, hbm', hh6, ra6, _⟩ := o6.o.get edm'
            rw [hbm] at hbm'
            cases hbm'
            have hl6 : 0 < vm6.length := by
              rw [ra6.length]
              by_cases hnm : n = m
              · subst hnm
                rw [List.getElem?_set_self (lt_of_get edn)] at edm'
                cases edm'
                rw [List.length_set]
                have := ran.length
                omega
              · rw [List.getElem?_set_ne hnm, edm] at edm'
                cases edm'
                have := ram.length
                omega
            refine ⟨bm, vm6, 0, 0, rfl, rfl, hh6, i0 hl6, rfl, ?_⟩
            have o7 := o6.put hbm (ra6.set ((rvv.mono xx.g).mono x6.g) 0)
            rw [List.set_set] at o7
            exact q G6 _ σ (xx.g.trans x6.g) o7.r
          · exact q.elim
        · exact q.elim
      · exact q.elim
    · exact q.elim
end
end Bk
end
/-! BkEnumT -/
section
set_option Elab.async false
set_option linter.all false
set_option autoImplicit false
set_option maxRecDepth 100000
set_option maxHeartbeats 4000000
/-! BkEnumT: enumerate of a tuple -/
namespace PySem
open Sem (wp)
open AutoSeq1 (wpAny_loadPart')
theorem meets_enumerate_newT (l : Addr) (items : Array Value) (n : Nat) (dct : Option Addr) (sl : Array (Option Value)) :
    Meets (Builtin.«enumerate.__new__» ⟨[.type "enumerate", .ref l], []⟩) (fun _ R s => s.heap.get? l = some { cls := .type "tuple", dict := dct, data := .seq items n, slots := sl } ∧
      R (.ok (.ret (.ref (s.heap.push { cls := .type "tuple_iterator", data := .fields #[.ref l, .int 0 0] }).objs.size)))
        { s with heap := (s.heap.push { cls := .type "tuple_iterator", data := .fields #[.ref l, .int 0 0] }).push { cls := .type "enumerate", data := .fields #[.none, .bool false, .ref s.heap.objs.size, rawInt 0, .none, .none] } }) :=
  .of_wp fun prog w A R s h => by
    obtain ⟨hp, g, d, tk, os⟩ := s; obtain ⟨hl, h⟩ := h
    have hsub := sub_enumerate
    have hL : Heap.IsTuple (Shared.heap ⟨hp, g, d, tk, os⟩) l items := ⟨_, hl, rfl, n, rfl⟩
    wp_walk using wpAny_loadPart' hl
    refine wpAny_stack_any fun st => wpAny_pure ?_
    split
    · rename_i c _ _ _ _ _
      cases (c == Value.type "enumerate")
      · wp_walk using wpAny_loadPart' hl, wpAny_pyIter_tuple hL
        exact ⟨_, rfl, h⟩
      · wp_walk using wpAny_loadPart' hl, wpAny_pyIter_tuple hL
        exact ⟨_, rfl, h⟩
    · wp_walk using wpAny_loadPart' hl, wpAny_pyIter_tuple hL
      exact ⟨_, rfl, h⟩
section
variable {prog : Program} {w : World} {A : Around} {E : Value → Shared → Prop} {s : Shared}
theorem call_enumerate_tup {l : Addr} {items : Array Value} {Q : Value → Shared → Prop} (hL : s.heap.IsTuple l items)
    (h : ∀ h', IsEnum h' (s.heap.objs.size + 1) s.heap.objs.size 0 .none → h'.IsTupleIter s.heap.objs.size l 0 → h'.objs.size = s.heap.objs.size + 2 →
      (∀ b o, s.heap.get? b = some o → h'.get? b = some o) → Q (.ref (s.heap.objs.size + 1)) { s with heap := h' }) :
    wpAny (model prog w) A (call (.type "enumerate") [.ref l]) Q E s := by
  obtain ⟨⟨c, dct, dt, sl⟩, hl, hc, n, hd⟩ := hL
  replace hc : c = .type "tuple" := hc
  replace hd : dt = .seq items n := hd
  subst hc hd
  refine callType_new F.called_enumerate (by decide) (F.typeCall_enumerate_1 _) (F.newCall_enumerate_1 _) (fun obj => F.args_object_init_2 obj _) F.entry_enumerate_new
    (meets_enumerate_newT l items n dct sl) ⟨hl, ?_⟩
  have hz : (s.heap.push { cls := .type "tuple_iterator", data := .fields #[.ref l, .int 0 0] }).objs.size = s.heap.objs.size + 1 := Heap.size_push ..
  show _ ∧ _
  rw [hz]
  have he : IsEnum ((s.heap.push { cls := .type "tuple_iterator", data := .fields #[.ref l, .int 0 0] }).push
      { cls := .type "enumerate", data := .fields #[.none, .bool false, .ref s.heap.objs.size, rawInt 0, .none, .none] }) (s.heap.objs.size + 1) s.heap.objs.size 0 .none := by
    have := Heap.get?_push_size (s.heap.push { cls := .type "tuple_iterator", data := .fields #[.ref l, .int 0 0] })
      (o := { cls := .type "enumerate", data := .fields #[.none, .bool false, .ref s.heap.objs.size, rawInt 0, .none, .none] }) rfl
    rw [hz] at this; exact this
  refine ⟨⟨_, he, rfl⟩, h _ he ⟨_, Heap.get?_push_of_some _ (Heap.get?_push_size _ rfl), rfl, rfl⟩ (by rw [Heap.size_push, hz]) fun b o x => Heap.get?_push_of_some _ (Heap.get?_push_of_some _ x)⟩
end
end PySem
namespace Bk
open PySem PySem.Spec PyProof.Rows L2
def Itet (K : PySem.W.Frag) (a : Addr) (n : Nat) : It := ⟨fun i H => i < n ∧ ∃ xs, SqT K H a xs ∧ xs.length = n, fun i H v H' => ∃ T x, v = .ref T ∧ H T = none ∧ H' = upd H T (.tup [.int (i : Nat), x]) ∧ ∀ xs, SqT K H a xs → xs[i]? = some x, fun i H => n ≤ i ∧ ∃ xs, SqT K H a xs ∧ xs.length = n⟩
theorem turn_enumT {P : Program} {w : World} {K : PySem.W.Frag} {elts : List Expr} {kk : Nat} {tpos : Pos} (a : Addr) (n : Nat) (e it : Addr) :
    Turn P w K (.Tuple elts kk tpos) (Itet K a n) [e, it] e (fun i h => (∃ old, IsEnum h e it ((i : Nat) : Int) old) ∧ h.IsTupleIter it a i ∧ e ≠ it ∧ e ≠ a ∧ a ≠ it) where
  mem := by simp
  obj := fun i h st b hb => by
    obtain ⟨⟨old, he⟩, ⟨o, ho, hc, hd⟩, _⟩ := st
    have e' : b = e ∨ b = it := by simpa using hb
    rcases e' with z | z
    · rw [z]; exact ⟨_, he, fun v q => nomatch q⟩
    · rw [z]; exact ⟨o, ho, fun v q => by rw [hd] at q; cases q⟩
  keep := fun i h h' st k => let ⟨⟨old, he⟩, hi, hne⟩ := st; ⟨⟨old, k e (by simp) _ he⟩, hi.at fun o q => k it (by simp) o q, hne⟩
  item := by
    intro X hP hw hK hc i pins s σ H E I hf st hg
    subst hP hw hK
    obtain ⟨⟨old, he⟩, hit, hne, hea, hai⟩ := st
    obtain ⟨hlt, xs, hq, hxn⟩ := hg
    obtain ⟨its', rv, p, hz⟩ := I.tuple hq
    have ht : s.heap.IsTuple a its'.toArray := p
    have hlt : i < its'.toArray.size := by
      rw [List.size_toArray, ← rv.length, hxn]
      exact hlt
    have hel : e < s.heap.objs.size := Heap.lt_size he
    have hil : it < s.heap.objs.size := by obtain ⟨_, q, _⟩ := hit; exact Heap.lt_size q
    have hef : e ∉ [it, a] := by simp [hne, hea]
    have DD := Draws.tuple (prog := X.prog) (w := X.w) (A := X.A.in1) (show X.A.in1.handled = none from I.ok.hd hc) it a hai its'.toArray
    refine wpAny_pyNext_enum_itemD DD he ⟨hit, ht⟩ hlt hne hef fun v h' tk hv ho hit' hT hsz hk => ?_
    obtain ⟨x, hx, rx⟩ : ∃ x, xs[i]? = some x ∧ RelV x v := by
      have hi : i < xs.length := by
        rw [rv.length]
        simpa using hlt
      obtain ⟨u, hu, ru⟩ := rv.get (List.getElem?_eq_getElem hi)
      have : its'[i]? = some v := by simpa using hv
      rw [hu] at this
      cases this
      exact ⟨_, List.getElem?_eq_getElem hi, ru⟩
    refine ⟨_, rfl, wpAny_letOwnedTupleGo_enum (s := { s with heap := h', toks := tk + 1 }) ho fun h'' he' sb => ?_⟩
    have hT2 : h''.get? s.heap.objs.size = some { cls := .type "tuple", data := .seq #[.int i tk, v] } := (sb.2 _ (Nat.ne_of_gt hel)).trans hT
    have new : ObjOk X.prog X.w (upd H s.heap.objs.size (.tup [.int (i : Nat), x])) h'' s.heap.objs.size (.tup [.int (i : Nat), x]) :=
      ⟨by show 2 ≤ sizeLine; decide, [.int i tk, v], .cons ⟨_, rfl⟩ (.cons rx .nil), ⟨_, hT2, rfl, _, rfl⟩⟩
    have I1 : Inv X pins σ (upd H s.heap.objs.size (.tup [.int (i : Nat), x])) { s with heap := h'', toks := tk + 1 } :=
      I.turnedNew (ch := [e, it]) (fun b ob hb q => (sb.2 b (fun z => hb (by simp [z]))).trans (hk b ob (fun z => hb (by simp [z])) (fun z => hb (by simp [z])) q)) hf (Nat.le_refl _) new
    refine ⟨.ref s.heap.objs.size, _, I1, rfl, ⟨_, x, rfl, I.hok.fresh (Nat.le_refl _), rfl, fun ys hy => by rw [I.tuple_inj hy hq]; exact hx⟩, ⟨⟨v, ?_⟩, ?_, hne, hea, hai⟩, fun b hb => ?_⟩
    · have e1 : ((i + 1 : Nat) : Int) = (i : Int) + 1 := by omega
      rw [e1]; exact he'
    · exact hit'.1.at fun o q => (sb.2 it (Ne.symm hne)).trans q
    · have hb' : b < s.heap.objs.size := by
        have e' : b = e ∨ b = it := by simpa using hb
        rcases e' with z | z
        · rw [z]; exact hel
        · rw [z]; exact hil
      rw [upd_ne (Nat.ne_of_lt hb')]
      exact (hf b hb).1
  done := by
    intro X hP hw hK hc i pins s σ H E I hf st hg
    subst hP hw hK
    obtain ⟨⟨old, he⟩, hit, hne, hea, hai⟩ := st
    obtain ⟨hge, xs, hq, hxn⟩ := hg
    obtain ⟨its', rv, p, hz⟩ := I.tuple hq
    have ht : s.heap.IsTuple a its'.toArray := p
    have hge : its'.toArray.size ≤ i := by
      rw [List.size_toArray, ← rv.length, hxn]
      exact hge
    obtain ⟨f0, f1, f2, f3, f4, f5⟩ := hf it (by simp)
    have hend := fun (A : Around) (hh : A.handled = none) (s : Shared) (Q : Value → Shared → Prop) (E : Value → Shared → Prop) (h1 : s.heap.IsTupleIter it a i) (h2 : s.heap.IsTuple a its'.toArray) => wpAny_nextOf_tuple_end (prog := X.prog) (w := X.w) (A := A) (E := E) (s := s) (Q := Q) hh h1 h2 (Array.getElem?_eq_none hge)
    have D : Draws X.prog X.w X.A.in1 it [it, a] i (fun _ _ => False) (fun j h => j = i ∧ h.IsTupleIter it a i ∧ h.IsTuple a its'.toArray) :=
      { live := fun _ _ st => let ⟨_, ⟨o, ho, _⟩, _⟩ := st; ⟨o, ho⟩
        frame := fun _ _ _ st hk => ⟨st.1, st.2.1.at fun o q => hk it (by simp) o q, st.2.2.at fun o q => hk a (by simp) o q⟩
        item := fun j s Q E hi st hQ => absurd st.1 (Nat.ne_of_lt hi)
        done := fun s Q E st hE => hend _ (show X.A.in1.handled = none from I.ok.hd hc) s Q E st.2.1 st.2.2 hE }
    exact wpAny_pyNext_enum_endD D he ⟨rfl, hit, ht⟩ fun h' eb => ⟨rfl, I.turned (t' := s.toks) (fun b o hb q => eb b o hb q) f0 f1 f3 f4 f5⟩
  self := fun A i s Q E st h => let ⟨⟨_, he⟩, _⟩ := st; wpAny_pyIter_enum he h
def itEnumT (K : PySem.W.Frag) (ta : TA) : TI := fun σ H R => ta σ H fun vs H1 => ∃ a xs, vs = [.ref a] ∧ SqT K H1 a xs ∧ R (Itet K a xs.length) H1
theorem pi_enumTup {X : Cx} {e : Expr} {ta : TA} {p pos tpos : Pos} {elts : List Expr} {kk : Nat} (hg : Gl X "enumerate") (hm : X.mg "enumerate" = none) (ha : PA X [e] ta) (hs : starEach [e] X.env = [(false, eval e X.env)] := by rfl) :
    PI X (.Tuple elts kk tpos) (.Call (.Name "enumerate" p) [e] [] pos) (itEnumT X.K ta) := by
  refine ⟨fun pins s σ H R I h => ?_⟩
  refine Call_ (ld_blt I hg hm boot_enumerate (PyProof.Rows.callWith_type1 (thn (ha.run pos pins s σ H _ I h) fun us s1 ⟨vs, H1, I1, r1, q1⟩ => ?_) hs rfl))
  obtain ⟨a, xs, ex, hq, q⟩ := q1
  subst ex
  cases r1 with
  | cons r rr =>
    cases rr
    cases r
    obtain ⟨its, rv, p', hz⟩ := I1.tuple hq
    have ht : s1.heap.IsTuple a its.toArray := p'
    have hal : a < s1.heap.objs.size := by obtain ⟨o, e, _⟩ := p'; exact Heap.lt_size e
    refine call_enumerate_tup ht fun h' he hit hsz hk => wpAny_pyIter_enum he ?_
    have I2 : Inv X pins σ H1 { s1 with heap := h' } := I1.kept (t' := s1.toks) hk
    refine ⟨s1.heap.objs.size + 1, [s1.heap.objs.size + 1, s1.heap.objs.size], _, _, H1, rfl, I2, turn_enumT a xs.length (s1.heap.objs.size + 1) s1.heap.objs.size, ⟨⟨.none, he⟩, hit, Nat.succ_ne_self _, fun z => absurd hal (by rw [← z]; exact Nat.not_lt_of_le (Nat.le_succ _)), Nat.ne_of_lt hal⟩, fun b hb => ?_, q⟩
    have e' : b = s1.heap.objs.size + 1 ∨ b = s1.heap.objs.size := by simpa using hb
    have hle : s1.heap.objs.size ≤ b := by
      rcases e' with z | z
      · rw [z]; exact Nat.le_add_right _ _
      · rw [z]; exact Nat.le_refl _
    exact I1.fpOk hle (I1.hok.fresh hle)
theorem walkd_enumT {K : PySem.W.Frag} {G : Hp} {aa : Addr} {vs : List V} {ds : List D} (hs : SqT K G aa vs) (ra : RpAll K G vs ds) : WalkD K (Itet K aa vs.length) G (enumL 0 ds) := by
  refine ⟨fun i H hi ex => ?_, fun H ex => ⟨by rw [enumL_len]; exact Nat.le_of_eq ra.length, vs, ex.t hs, rfl⟩, fun i H x H' d hd ex y G1 e1 e2 => ?_⟩
  · rw [enumL_len] at hi
    exact ⟨by rw [ra.length]; exact hi, vs, ex.t hs, rfl⟩
  · obtain ⟨T, x1, rfl, hT, rfl, y⟩ := y
    rw [enumL_get, Nat.zero_add] at hd
    cases z : ds[i]? with
    | none =>
      rw [z] at hd
      cases hd
    | some d1 =>
      rw [z] at hd
      cases hd
      obtain ⟨v, h1, h2⟩ := ra.get z
      have := y vs (ex.t hs)
      rw [h1] at this
      cases this
      exact ⟨_, newTup e2 hT (.cons (.int _) (.cons (h2.mono e1) .nil))⟩
section
variable {X : Cx} {B : Bs} {a : Expr} {f : E} {p pos : Pos}
theorem pi_enumT {elts : List Expr} {kk : Nat} {tpos : Pos} (hm : X.mg "enumerate" = none) (ha : PE X a (tX X.K B f)) (hg : Gl X "enumerate" := by rfl) (h0 : starEach [a] X.env = (false, eval a X.env) :: starEach [] X.env := by rfl) (hs : starEach [a] X.env = [(false, eval a X.env)] := by rfl) :
    PI X (.Tuple elts kk tpos) (.Call (.Name "enumerate" p) [a] [] pos) (tI X.K B (iEnumT f)) := by
  have ht := pi_enumTup (tpos := tpos) (elts := elts) (kk := kk) (p := p) (pos := pos) hg hm (pa_cons ha pa_nil h0) hs
  refine ⟨fun pins s σ H R I q => ?_⟩
  obtain ⟨G, η, r, q⟩ := q
  refine ht.run pins s σ H R I (tX.of r (sat_bind q) fun d hd G1 H1 v e1 r1 => ?_)
  cases r1 with
  | tup hs ra => exact ⟨_, _, rfl, e1.gh.t hs, hd G1 H1 _ e1 (walkd_enumT hs ra)⟩
  | _ => exact hd.elim
end
end Bk
end
/-! BkOo3 -/
section
set_option Elab.async false
set_option linter.all false
set_option autoImplicit false
set_option maxRecDepth 100000
set_option maxHeartbeats 4000000
/-! BkOo3: things frozen; dicts handed over; tuples joined and turned; list(range(n)); x = [list(b) for b in ..] -/
namespace Bk
open PySem PySem.Spec PyProof.Rows L2
theorem Oo.rpall {K : PySem.W.Frag} {H0 G H : Hp} {A : List Addr} {as : List Addr} {dss : List (List D)} (ex : Ex G H) (h : Oo K H0 G H as dss) (hA : ∀ b, b ∈ as → b ∈ A) : RpAll K (frzG A G H) (as.map V.ref) (dss.map D.lst) := by
  induction h with
  | nil => exact .nil
  | cons h1 h2 h3 h4 h5 ih =>
    refine .cons (.lst (.of ?_) (h4.mono (frz_ex ex))) (ih fun b hb => hA b (List.mem_cons_of_mem _ hb))
    show (if _ then _ else _) = _
    rw [if_pos (hA _ List.mem_cons_self)]
    exact h3
section
variable {X : Cx} {B : Bs} {a b e : Expr} {pos p px : Pos} {x : Str} {f g : E} {i : Nat}
/-- what slot i owns is known for good from here on -/
theorem s_frz (i : Nat) {st : Stmt} {s1 : Bk.St} (h : PS X st (tS X.K B s1)) : PS X st (tS X.K B (sSeq (sFrz i) s1)) := ps_weak h fun D σ H q => by
  obtain ⟨G, η, r, q⟩ := q
  have q : Fin X.K B D G ((sFrz i η).andThen s1) := q
  unfold sFrz at q
  split at q
  · rename_i s es
    split at q
    · rename_i d ed
      have q : Fin X.K B D G (s1 (η.set i (some (.dat d)))) := q
      cases s with
      | dat d' =>
        cases ed
        rw [set_get es] at q
        exact ⟨G, η, r, q⟩
      | own ds =>
        cases ed
        obtain ⟨w, h1, aa, vs, rfl, h0, hg, hh, ra⟩ := r.slot _ _ es
        have hf : frzG [aa] G H aa = some (.lst vs) := by
          show (if _ then _ else _) = _
          rw [if_pos List.mem_cons_self]
          exact hh
        exact ⟨_, _, r.frz (d := .lst ds) [aa] es h1 (fun b hb => by rw [List.mem_singleton.mp hb]; rfl) (.lst (.of hf) (ra.mono (frz_ex r.exg))), Fin.up (frz_ex r.exg) q⟩
      | dic ds =>
        cases ed
        obtain ⟨w, h1, aa, vs, rfl, h0, hg, hh, ra⟩ := r.slot _ _ es
        have hf : frzG [aa] G H aa = some (.dK vs) := by
          show (if _ then _ else _) = _
          rw [if_pos List.mem_cons_self]
          exact hh
        exact ⟨_, _, r.frz (d := .dic ds) [aa] es h1 (fun b hb => by rw [List.mem_singleton.mp hb]; rfl) (.dic hf (ra.mono (frz_ex r.exg))), Fin.up (frz_ex r.exg) q⟩
      | kd ds => cases ed
      | oo dss =>
        cases ed
        obtain ⟨w, h1, aa, as, rfl, h0, hg, hh, hn, ra⟩ := r.slot _ _ es
        have hf : frzG (aa :: as) G H aa = some (.lst (as.map V.ref)) := by
          show (if _ then _ else _) = _
          rw [if_pos List.mem_cons_self]
          exact hh
        exact ⟨_, _, r.frz (d := .lst (dss.map Bk.D.lst)) (aa :: as) es h1 (fun b hb => by
          rcases List.mem_cons.mp hb with rfl | hb
          · exact .inl rfl
          · exact .inr ⟨aa, as, rfl, hh, hb⟩) (.lst (.of hf) (ra.rpall r.exg fun b hb => List.mem_cons_of_mem _ hb)), Fin.up (frz_ex r.exg) q⟩
    · exact q.elim
  · exact q.elim
/-- d[k] of a dict that was handed over -/
theorem pv_didx (hu : X.A.units + 1 < cLine) (ha : PE X a (tX X.K B f)) (hb : PE X b (tX X.K B g)) (hs : NoSl b := by exact fun _ _ => rfl) : PE X (.Subscript a b pos) (tX X.K B (eBin dDIdx f g)) := pe_weak (pe_dget hu ha hb hs) fun σ H Q q => by
  obtain ⟨G, η, r, q⟩ := q
  refine tX.of r (sat_bind q) fun x hx G1 H1 v e1 r1 => tX.of (r.extd e1) (sat_bind hx) fun y hy G2 H2 w e2 r2 => ?_
  have hy := sat_calm (R' := fun _ => False) hy
  cases r1 with
  | dic h kv =>
    obtain ⟨hk, hy⟩ := sat_if (by exact hy)
    obtain ⟨k, ek, rfl⟩ := keyV_kV r2 hk
    split at hy
    · rename_i d hd
      obtain ⟨v', h1, h2⟩ := (kv_get (kv.mono e2.g) ek).1 d hd
      refine ⟨_, v', rfl, ?_, hy G2 H2 v' (e1.trans e2) h2⟩
      rw [← h1]
      exact DGet.k (e2.gh _ _ (e2.g _ _ h))
    · exact hy.elim
  | _ => exact hy.elim
/-- t + u -/
theorem od_addA : OpD X (binaryOp .Add) dAddA := by
  intro pins s σ H x y v u Q I rx ry h
  obtain ⟨G, d, e, ex, rd, re, h⟩ := h
  cases rd with
  | tup hs r =>
    cases re with
    | tup hs2 r2 =>
      obtain ⟨hl, h⟩ := sat_if h
      rename_i a1 xs1 ds1 a2 xs2 ds2 h0
      refine op_catA pins s σ H _ _ v u Q I rx ry ⟨_, _, _, _, rfl, rfl, ex.t hs, ex.t hs2, by rw [r.length, r2.length, line_eq]; exact hl, fun z => ?_, fun z1 z2 => ?_, fun z1 z2 p hp => ?_⟩
      · subst z
        cases r
        exact h G H _ (Ext.refl ex) (.tup hs2 r2)
      · subst z2
        cases r2
        refine h G H _ (Ext.refl ex) ?_
        rw [List.append_nil]
        exact .tup hs r
      · have hn : Ext G H (upd G p (.tup (xs1 ++ xs2))) (upd H p (.tup (xs1 ++ xs2))) := Ext.new ex hp
        exact h _ _ _ hn (.tup (.of upd_same) ((r.append r2).mono hn.g))
    | _ => exact h.elim
  | _ => exact h.elim
theorem pv_addA (ha : PE X a (tX X.K B f)) (hb : PE X b (tX X.K B g)) : PE X (.BinOp a .Add b pos) (tX X.K B (eBin dAddA f g)) := pv_bin od_addA ha hb
/-- tuple(reversed(t)) -/
theorem pv_tupRev {p2 pos2 : Pos} (hm : X.mg "tuple" = none) (hm2 : X.mg "reversed" = none) (ha : PE X a (tX X.K B f)) (hc : X.calm = true := by rfl) (hg : Gl X "tuple" := by rfl) (hg2 : Gl X "reversed" := by rfl)
    (hs : starEach [a] X.env = (false, eval a X.env) :: starEach [] X.env := by rfl)
    (hs2 : starEach [.Call (.Name "reversed" p2) [a] [] pos2] X.env = (false, eval (.Call (.Name "reversed" p2) [a] [] pos2) X.env) :: starEach [] X.env := by rfl) :
    PE X (.Call (.Name "tuple" p) [.Call (.Name "reversed" p2) [a] [] pos2] [] pos) (tX X.K B (eUn dTupRev f)) := pe_weak (RT.pe_tupRevT hc hg hm hg2 hm2 ha hs hs2) fun σ H Q q => by
  obtain ⟨G, η, r, q⟩ := q
  refine tX.of r (un_sat q) fun x hx G1 H1 v e1 r1 => ?_
  have hx := hx fun _ => False
  cases r1 with
  | tup hs ra =>
    rename_i aa xs ds hx0
    refine ⟨_, _, rfl, e1.gh.t hs, fun p hp => ?_⟩
    have hn := Ext.new (o := .tup xs.reverse) e1.gh hp
    exact hx _ _ _ (e1.trans hn) (.tup (.of upd_same) (ra.reverse.mono hn.g))
  | _ => exact hx.elim
/-- list(range(n)) -/
theorem pv_listRange {p2 pos2 : Pos} (hm : X.mg "list" = none) (hm2 : X.mg "range" = none) (ha : PE X a (tX X.K B f)) (hc : X.calm = true := by rfl) (hg : Gl X "list" := by rfl) (hg2 : Gl X "range" := by rfl)
    (hs : starEach [a] X.env = (false, eval a X.env) :: starEach [] X.env := by rfl)
    (hs2 : starEach [.Call (.Name "range" p2) [a] [] pos2] X.env = (false, eval (.Call (.Name "range" p2) [a] [] pos2) X.env) :: starEach [] X.env := by rfl) :
    PE X (.Call (.Name "list" p) [.Call (.Name "range" p2) [a] [] pos2] [] pos) (tX X.K B (eListRange f)) := pe_weak (pe_listRg hc hg hm (prg_1 hg2 hm2 ha hs) hs2) fun σ H Q q => by
  obtain ⟨G, η, r, q⟩ := q
  refine tX.of r (sat_bind q) fun x hx G1 H1 v e1 r1 => ?_
  cases r1 with
  | int n =>
    obtain ⟨hr, hx⟩ := sat_if (by exact hx)
    have hr2 : n ≤ 16777216 := hr.2
    refine ⟨n, rfl, RgOk.of_le (Int.le_refl _) hr2 (by omega) hr.1, fun p hp => ?_⟩
    have hn := Ext.new (o := .lst (rgV 0 n)) e1.gh hp
    refine hx _ _ _ (e1.trans hn) (.lst (.of upd_same) ?_)
    have e1 : rgV 0 n = ((List.range n.toNat).map fun k : Nat => (0 : Int) + (k : Int)).map V.int := by
      unfold rgV
      rw [List.map_map, Int.sub_zero]
      rfl
    have e2 : numbers 0 n.toNat = ((List.range n.toNat).map fun k : Nat => (0 : Int) + (k : Int)).map D.int := by
      unfold numbers
      rw [List.map_map]
      rfl
    rw [e1, e2]
    exact RpAll.ofInts _
  | _ => exact hx.elim
end
end Bk
end
/-! BkOo4 -/
section
set_option Elab.async false
set_option linter.all false
set_option autoImplicit false
set_option maxRecDepth 100000
set_option maxHeartbeats 4000000
/-! BkOo4: x = [list(b) for b in ..], lists all of the def's own -/
namespace Bk
open PySem PySem.Spec PyProof.Rows L2
theorem free_later {K : PySem.W.Frag} {G0 H0 G H G' H' : Hp} {σ : L2.St} {η : Env} (r : RpE K G0 H0 G H σ η) (x : Ext G H G' H') {b : Addr} (h : H b = none) (g : G' b = none) : FreeA H0 G' H' σ η b :=
  ⟨r.ext.h.none h, g, fun j s v e w f => by
    obtain ⟨v', h1, h2⟩ := r.slot j s e
    rw [w] at h1
    cases h1
    have f' := fp_cong h2 (fun c hc => by
      obtain ⟨_, _, o, ho⟩ := fp_own h2 hc
      rw [ho, x.h _ _ ho]) f
    obtain ⟨_, _, o, ho⟩ := fp_own h2 f'
    rw [h] at ho
    cases ho⟩
theorem Oo.weak {K : PySem.W.Frag} {H0 H1 G H : Hp} (k : ∀ b, H1 b = none → H0 b = none) {as : List Addr} {dss : List (List D)} (h : Oo K H1 G H as dss) : Oo K H0 G H as dss := by
  induction h with
  | nil => exact .nil
  | cons h1 h2 h3 h4 h5 ih => exact .cons (k _ h1) h2 h3 h4 ih
theorem seqsOf_len : ∀ {ds : List D} {dss : List (List D)}, seqsOf ds = some dss → dss.length = ds.length
  | [], _, h => by
    cases h
    rfl
  | d :: ds, dss, h => by
    cases d <;> simp [seqsOf] at h
    all_goals
      obtain ⟨r, h1, rfl⟩ := h
      rw [List.length_cons, List.length_cons, seqsOf_len h1]
theorem seqsOf_get : ∀ {ds : List D} {dss : List (List D)} {m : Nat} {d : D}, seqsOf ds = some dss → ds[m]? = some d → ∃ xs, dss[m]? = some xs ∧ (d = .tup xs ∨ d = .lst xs)
  | [], _, _, _, _, h => by simp at h
  | d :: ds, dss, m, e, h, hm => by
    cases d <;> simp [seqsOf] at h
    all_goals
      obtain ⟨r, h1, rfl⟩ := h
      cases m with
      | zero =>
        simp at hm
        subst hm
        first
          | exact ⟨_, rfl, .inl rfl⟩
          | exact ⟨_, rfl, .inr rfl⟩
      | succ m =>
        obtain ⟨xs, k1, k2⟩ := seqsOf_get (m := m) h1 (by simpa using hm)
        exact ⟨xs, by simpa using k1, k2⟩
section
variable {X : Cx} {B : Bs} {iter : Expr} {fi : I}
/-- list(b), b in the k-th slot -/
theorem pe_listVar {X : Cx} {b : Str} {pl pb pc : Pos} (k : Nat) (hm : X.mg "list" = none) (hg : Gl X "list" := by rfl) (nx : NmAt X k b := by exact ⟨rfl, by first | exact Or.inl rfl | exact Or.inr (Or.inl rfl) | exact Or.inr (Or.inr rfl), by decide, by decide⟩)
    (h0 : starEach [.Name b pb] X.env = (false, eval (.Name b pb) X.env) :: starEach [] X.env := by rfl) (hpl : (backTo pc (starEach [] X.env)).any (·.1) = false := by rfl) :
    PE X (.Call (.Name "list" pl) [.Name b pb] [] pc) (tCB (fun xs H Q => ∃ p ys, xs = [.ref p] ∧ (SqL X.K H p ys ∨ SqT X.K H p ys) ∧ ∀ l, H l = none → Q (.ref l) (upd H l (.lst ys))) (tCons (tVar k) tNil)) :=
  pe_callTy call_list_of hg hm (by decide +kernel) (pa_cons nx.pe pa_nil h0) (by decide) (by decide) h0 hpl
theorem s_ooLists (i k : Nat) {y b : Str} {py pl pb pc pt pos spos : Pos} {scope : Scope} (hc : X.calm = true) (hN : X.N.Nodup) (hi : PI X (.Name b pt) iter (tI X.K B fi)) (ok : BlkOk X.N X.env.scope scope [(b, k)])
    (hg : ∀ (s : Shared) (H : Hp) (C : Addr) (cl : List (Str × Addr)) (fp : List Addr), PG (X.blk s H scope (compEnvC scope cl C X.env) fp) (.Name b pt) (tGo X.K B [k] (gName k)))
    (he : ∀ (s : Shared) (H : Hp) (C : Addr) (cl : List (Str × Addr)) (fp : List Addr), PE (X.blk s H scope (compEnvC scope cl C X.env) fp) (.Call (.Name "list" pl) [.Name b pb] [] pc) (tCB (fun xs H Q => ∃ p ys, xs = [.ref p] ∧ (SqL X.K H p ys ∨ SqT X.K H p ys) ∧ ∀ l, H l = none → Q (.ref l) (upd H l (.lst ys))) (tCons (tVar k) tNil)))
    (hy : X.N[i]? = some y := by rfl) (hyl : X.env.scope.names.lookup y = some .local := by rfl)
    (hsw : swapsWith (.ListComp (.Call (.Name "list" pl) [.Name b pb] [] pc) [⟨.Name b pt, iter, [], 0⟩] scope pos) (some (.Name y py)) spos.line X.env = pure true := by exact sw_true rfl rfl rfl (by decide +kernel)) (hs : ∀ x, foldedSetIterable iter X.env x = pure x := by intro _; rfl) :
    PS X (.Assign [.Name y py] (.ListComp (.Call (.Name "list" pl) [.Name b pb] [] pc) [⟨.Name b pt, iter, [], 0⟩] scope pos) spos) (tS X.K B (sOoLists i k fi)) := by
  refine ps_weak (ps_setLc (own := [(b, k)]) (tt := tT X.K B tYes) hc hN hy hyl hsw hi ok hg (fun s H C cl fp => (pts_y (B := B) : PTs (X.blk s H scope (compEnvC scope cl C X.env) fp) [] (tT X.K B tYes))) he hs) fun D σ H q => ?_
  obtain ⟨G, η, r, q⟩ := q
  refine ⟨G, η, r, Sat.mono (Fin.ofRes q) (fun ds hds G1 H1 J e1 wk L hL => ?_) fun _ z => z⟩
  by_cases hcond : ds.length ≤ lim ∧ k < η.length
  rotate_left
  · rw [if_neg hcond] at hds
    exact hds.elim
  rw [if_pos hcond] at hds
  obtain ⟨hl, hk⟩ := hcond
  cases hsq : seqsOf ds with
  | none =>
    rw [hsq] at hds
    exact hds.elim
  | some dss =>
    rw [hsq] at hds
    have hdl := seqsOf_len hsq
    have gL : G1 L = Option.none := e1.gh.none hL
    have nD : H L = Option.none := e1.h.none hL
    refine ⟨fun m m' H' => m' = ds.length - m ∧ m ≤ ds.length ∧ ∃ G' as, Ext G H G' H' ∧ Ex G1 G' ∧ G' L = Option.none ∧ H' L = some (.lst (as.map V.ref)) ∧ (L :: as).Nodup ∧ Oo X.K H G' H' as (dss.take m),
      ⟨ds.length, by simp, Nat.zero_le _, G1, [], e1.trans (Ext.drop e1.gh hL), Ex.refl _, gL, upd_same, by simp, .nil⟩, ?_⟩
    rintro m m' H' ⟨rfl, hm, G', as, x, xg, dn, hacc, hnd, oo⟩
    have exH : Ex G1 H' := xg.trans x.gh
    by_cases hlt : m < ds.length
    · right
      refine ⟨wk.goes m H' hlt exH, fun H2 => m + 1 ≤ ds.length ∧ ∃ G' as, Ext G H G' H2 ∧ Ex G1 G' ∧ G' L = Option.none ∧ H2 L = some (.lst (as.map V.ref)) ∧ (L :: as).Nodup ∧ Oo X.K H G' H2 as (dss.take (m + 1)),
        fun H2 hN2 => ⟨ds.length - (m + 1), by omega, rfl, hN2⟩, fun v H2 yl => ?_⟩
      have hd : ds[m]? = some ds[m] := List.getElem?_eq_getElem hlt
      obtain ⟨G2, x2, rv⟩ := wk.yields m H' v H2 _ hd exH yl G' xg x.gh
      have rw2 := wipe_rel (r.extd (x.trans x2)) [k]
      refine ⟨G2, wipes η [k], ds[m], rw2, rv, ?_⟩
      show ∀ σ2, RpE X.K B.G0 B.H0 G2 H2 σ2 ((wipes η [k]).set k (some (.dat ds[m]))) → _ → _
      intro σ2 r2 hw
      refine ⟨?_, ?_⟩
      · have hw : wipe σ2 [k] = wipe (wipe σ [k]) [k] := hw
        show wipe σ2 [k] = wipe σ [k]
        rw [hw]
        have idem : ∀ (vs : List Nat) (τ : L2.St), wipe (wipe τ vs) vs = wipe τ vs := by
          intro vs
          have aux : ∀ (ws : List Nat) (τ : L2.St), (∀ w ∈ ws, w < τ.length → τ[w]? = some none) → wipe τ ws = τ := by
            intro ws
            induction ws with
            | nil => intro τ _; rfl
            | cons w ws ih =>
              intro τ hτ
              show (wipe τ ws).set w none = τ
              rw [ih τ fun w' hw' => hτ w' (List.mem_cons_of_mem _ hw')]
              by_cases hl : w < τ.length
              · exact set_none_of (hτ w List.mem_cons_self hl)
              · exact List.set_eq_of_length_le (by omega)
          intro τ
          exact aux vs _ fun w hw hl => wipe_get hw (by rw [wipe_length] at hl; exact hl)
        exact idem [k] σ
      · refine tT.of (B := B) (G := G2) r2 (f := tYes) (P := fun bb => bb = true) rfl fun bb hb G3 H3 x3 => ?_
        subst hb
        rw [if_pos rfl]
        have hη : ((wipes η [k]).set k (some (.dat ds[m])))[k]? = some (some (.dat ds[m])) := List.getElem?_set_self (by
          show k < (η.set k Option.none).length
          rw [List.length_set]
          exact hk)
        have r3 := r2.extd x3
        obtain ⟨v3, s1, rp3⟩ := r3.dat hη
        obtain ⟨xs, dm, hx⟩ := seqsOf_get hsq hd
        obtain ⟨pa, vs, ev, hsq3, ra3⟩ : ∃ pa vs, v3 = .ref pa ∧ (SqL X.K G3 pa vs ∨ SqT X.K G3 pa vs) ∧ RpAll X.K G3 vs xs := by
          rcases hx with hx | hx
          · rw [hx] at rp3
            cases rp3 with
            | tup h ra => exact ⟨_, _, rfl, .inr h, ra⟩
          · rw [hx] at rp3
            cases rp3 with
            | lst h ra => exact ⟨_, _, rfl, .inl h, ra⟩
        subst ev
        refine ⟨_, s1, pa, vs, rfl, hsq3.imp x3.gh.l x3.gh.t, fun l hl0 => ?_⟩
        have xx : Ext G H G3 H3 := (x.trans x2).trans x3
        have hL3 : H3 L = some (.lst (as.map V.ref)) := x3.h _ _ (x2.h _ _ hacc)
        have dn2 : G2 L = Option.none := x2.fr L dn (by rw [hacc]; exact fun z => nomatch z)
        have dn3 : G3 L = Option.none := x3.fr L dn2 (by rw [x2.h _ _ hacc]; exact fun z => nomatch z)
        have hLl : L ≠ l := ne_of_none hL3 hl0
        obtain ⟨n1, n2⟩ := List.nodup_cons.mp hnd
        have oo3 := (oo.ext x2).ext x3
        have hasl : ∀ c, c ∈ as → c ≠ l := fun c hc => by
          obtain ⟨_, _, vs, k⟩ := oo3.mem hc
          exact ne_of_none k hl0
        have al := oo3.length
        rw [List.length_take] at al
        have hl' : ds.length ≤ 16777216 := hl
        refine ⟨as.map V.ref, (upd_ne hLl).trans hL3, by rw [List.length_map, line_eq]; show as.length < 16777216; omega, hlt, G3, as ++ [l], ⟨xx.g, fun c o z => ?_, fun c o z => ?_, xx.fr⟩, (xg.trans x2.g).trans x3.g, dn3, ?_, ?_, ?_⟩
        · rw [upd_ne (ne_of_none z dn3), upd_ne (ne_of_none (xx.gh c o z) hl0)]
          exact xx.gh c o z
        · rw [upd_ne (ne_of_none z nD), upd_ne (ne_of_none (xx.h c o z) hl0)]
          exact xx.h c o z
        · rw [upd_same, List.map_append]
          rfl
        · refine List.nodup_cons.mpr ⟨fun z => ?_, List.nodup_append.mpr ⟨n2, by simp, fun c hc d hd z => ?_⟩⟩
          · rcases List.mem_append.mp z with z | z
            · exact n1 z
            · exact hLl (by simpa using z)
          · have : d = l := by simpa using hd
            exact hasl c hc (z.trans this)
        · rw [List.take_add_one, dm]
          refine Oo.snoc (oo3.cong fun c hc => ?_) (xx.h.none hl0) (xx.gh.none hl0) ((upd_ne (Ne.symm hLl)).trans upd_same) ra3
          rw [upd_ne (fun z => n1 (by rw [← z]; exact hc)), upd_ne (hasl c hc)]
    · left
      have ei : m = ds.length := by omega
      subst ei
      refine ⟨wk.stops H' exH, ?_⟩
      have hfull : dss.take ds.length = dss := by rw [← hdl, List.take_length]
      rw [hfull] at oo
      have r' := r.extd x
      refine hds G' H' _ x.g (r'.chg i (t := .oo dss) (v := .ref L) (H' := H') (fun c z => absurd rfl z) ⟨L, as, rfl, r.ext.h.none nD, dn, hacc, hnd, oo.weak fun c hc => r.ext.h.none hc⟩ fun c z => .inr ?_)
      have z : V.ref L = .ref c ∨ ∃ (a2 : Addr) (as2 : List Addr), V.ref L = .ref a2 ∧ H' a2 = some (.lst (as2.map V.ref)) ∧ c ∈ as2 := z
      rcases z with z | ⟨a2, as2, z1, z2, z3⟩
      · cases z
        exact free_later r x nD dn
      · cases z1
        rw [hacc] at z2
        have := ref_inj (HO.lst.inj (Option.some.inj z2))
        subst this
        obtain ⟨k1, k2, _⟩ := oo.mem z3
        exact free_later r x k1 k2
end
end Bk
end
/-! BkSim -/
section
set_option linter.all false
set_option autoImplicit false
set_option maxRecDepth 100000
/-! BkSim: what the terms give, for simp; loops and comprehensions by invariants -/
namespace Bk
section
variable {i j k n : Nat} {f g h : E} {fs : List E} {t u : T} {η : Env} {d x y : D} {a b : St} {u1 : D → Res D} {b1 b2 : D → D → Res D}
@[simp] theorem x_eVar : eVar i η = (match η[i]? with | some (some (.dat d)) => .ok d | _ => .bad) := id rfl
@[simp] theorem x_eC : eC d η = .ok d := id rfl
@[simp] theorem x_eUn : eUn u1 f η = (f η).bind fun x => (u1 x).calm := id rfl
@[simp] theorem x_eBin : eBin b1 f g η = (f η).bind fun x => (g η).bind fun y => (b1 x y).calm := id rfl
@[simp] theorem x_eAnd : eAnd f g η = (f η).bind fun x => match x with
  | .bool true => g η
  | .bool false => .ok (.bool false)
  | _ => .bad := id rfl
@[simp] theorem x_eOr : eOr f g η = (f η).bind fun x => match x with
  | .bool true => .ok (.bool true)
  | .bool false => g η
  | _ => .bad := id rfl
@[simp] theorem x_eNot : eNot f η = (f η).bind fun x => match x with
  | .bool b => .ok (.bool (!b))
  | _ => .bad := id rfl
@[simp] theorem x_eChain : eChain b1 b2 f g h η = (f η).bind fun x => (g η).bind fun y => (b1 x y).calm.bind fun z => match z with
  | .bool true => (h η).bind fun w => (b2 y w).calm
  | .bool false => .ok (.bool false)
  | _ => .bad := id rfl
@[simp] theorem x_evals0 : evals [] η = .ok [] := id rfl
@[simp] theorem x_evals1 : evals (f :: fs) η = (f η).bind fun x => (evals fs η).bind fun xs => .ok (x :: xs) := id rfl
@[simp] theorem x_eTup : eTup fs η = (evals fs η).bind fun ds => .ok (.tup ds) := id rfl
@[simp] theorem x_eLst : eLst fs η = (evals fs η).bind fun ds => .ok (.lst ds) := id rfl
@[simp] theorem x_eCall {φ : List D → Res D} : eCall φ fs η = (evals fs η).bind φ := id rfl
@[simp] theorem x_eCallT {φ : List D → Res D} : eCallT φ fs η = (evals fs η).calm.bind φ := id rfl
@[simp] theorem x_ePart0 : ePart Option.none η = .ok Option.none := id rfl
@[simp] theorem x_ePart1 : ePart (some f) η = (f η).bind fun x => match x with
  | .int i => .ok (some i)
  | _ => .bad := id rfl
@[simp] theorem x_eSlice {lo hi : Option E} : eSlice f lo hi η = (f η).bind fun x => (ePart lo η).bind fun a => (ePart hi η).bind fun b => (dCut x a b).calm := id rfl
@[simp] theorem x_eOwn : eOwn u1 i η = (match η[i]? with
  | some (some (.own ds)) => (u1 (.lst ds)).calm
  | _ => .bad) := id rfl
@[simp] theorem x_eOwnB : eOwnB b1 i g η = (match η[i]? with
  | some (some (.own ds)) => (g η).bind fun y => (b1 (.lst ds) y).calm
  | _ => .bad) := id rfl
@[simp] theorem x_tE : tE f η = (f η).bind asBool := id rfl
@[simp] theorem x_tV : tV f η = (f η).bind dTruth := id rfl
@[simp] theorem x_tAnd : tAnd t u η = (t η).bind fun b => if b then u η else .ok false := id rfl
@[simp] theorem x_tOr : tOr t u η = (t η).bind fun b => if b then .ok true else u η := id rfl
@[simp] theorem x_tNot : tNot t η = (t η).bind fun b => .ok (!b) := id rfl
@[simp] theorem x_tYes : tYes η = .ok true := id rfl
@[simp] theorem x_tOwn : tOwn i η = (match η[i]? with
  | some (some (.own ds)) => .ok (!ds.isEmpty)
  | _ => .bad) := id rfl
@[simp] theorem x_iAny : iAny f η = (f η).bind items := id rfl
@[simp] theorem x_iRange1 : iRange1 f η = (f η).bind rng1 := id rfl
@[simp] theorem x_iRange2 : iRange2 f g η = (f η).bind fun a => (g η).bind fun b => rng2 a b := id rfl
@[simp] theorem x_iRevRange1 : iRevRange1 f η = (f η).bind fun a => (rng1 a).bind fun xs => .ok xs.reverse := id rfl
@[simp] theorem x_iEnum : iEnum f η = (f η).bind fun x => match x with
  | .lst xs => .ok (enumL 0 xs)
  | .str s => .ok (enumL 0 (signs s))
  | _ => .bad := id rfl
@[simp] theorem x_iRevS : iRevS f η = (f η).bind fun x => match x with
  | .str s => if s.length ≤ lim then .ok (signs s.reverse) else .bad
  | _ => .bad := id rfl
@[simp] theorem x_gName : gName i d η = .ok (η.set i (some (.dat d))) := id rfl
@[simp] theorem x_gPair : gPair i j (.tup [x, y]) η = .ok ((η.set i (some (.dat x))).set j (some (.dat y))) := id rfl
@[simp] theorem x_gPairL : gPairL i j (.lst [x, y]) η = .ok ((η.set i (some (.dat x))).set j (some (.dat y))) := id rfl
@[simp] theorem x_gTri {z : D} : gTri i j k (.tup [x, y, z]) η = .ok (((η.set i (some (.dat x))).set j (some (.dat y))).set k (some (.dat z))) := id rfl
@[simp] theorem x_wipes0 : wipes η [] = η := id rfl
@[simp] theorem x_wipes1 {v : Nat} {vs : List Nat} : wipes η (v :: vs) = (wipes η vs).set v Option.none := id rfl
@[simp] theorem x_sSkip : sSkip η = .next η := id rfl
@[simp] theorem x_sSeq : sSeq a b η = (a η).andThen b := id rfl
@[simp] theorem x_sAsg {gg : G} : sAsg f gg η = outOf (f η) fun d => outOf (gg d η).calm fun η' => .next η' := id rfl
@[simp] theorem x_sSet : sSet i f η = outOf (f η) fun d => .next (η.set i (some (.dat d))) := id rfl
@[simp] theorem x_sDrop : sDrop f η = outOf (f η) fun _ => .next η := id rfl
@[simp] theorem x_sRet : sRet f η = outOf (f η) fun d => .ret d := id rfl
@[simp] theorem x_sIf : sIf t a b η = outOf (t η) fun c => if c then a η else b η := id rfl
@[simp] theorem x_sIfC : sIfC t a b η = outOf (t η).calm fun c => if c then a η else b η := id rfl
@[simp] theorem x_sRaise {c : Cls} : sRaise c η = .raise c := id rfl
@[simp] theorem x_sBrk : sBrk η = .brk η := id rfl
@[simp] theorem x_sCont : sCont η = .ct η := id rfl
@[simp] theorem x_sFor {fi : I} {gg : G} : sFor fi gg b η = outOf (fi η) fun ds => loop gg b ds η := id rfl
@[simp] theorem x_sNew : sNew i fs η = outOf (evals fs η) fun ds => .next (η.set i (some (.own ds))) := id rfl
@[simp] theorem x_sNewD : sNewD i η = .next (η.set i (some (.dic []))) := id rfl
@[simp] theorem x_appTo : appTo i d η = (match η[i]? with
  | some (some (.own ds)) => if ds.length < lim then .next (η.set i (some (.own (ds ++ [d])))) else .bad
  | _ => .bad) := id rfl
@[simp] theorem x_sApp : sApp i f η = (match η[i]? with
  | some (some (.own _)) => outOf (f η) fun d => appTo i d η
  | _ => .bad) := id rfl
@[simp] theorem x_extTo : extTo i d η = (match η[i]? with
  | some (some (.own ds)) => outOf (seqOf d) fun xs => if ds.length + xs.length ≤ lim then .next (η.set i (some (.own (ds ++ xs)))) else .bad
  | _ => .bad) := id rfl
@[simp] theorem x_sExt : sExt i f η = (match η[i]? with
  | some (some (.own _)) => outOf (f η) fun d => extTo i d η
  | _ => .bad) := id rfl
@[simp] theorem x_popOf : popOf j η = (match η[j]? with
  | some (some (.own ds)) => match ds[ds.length - 1]? with
    | some d => .ok (d, η.set j (some (.own ds.dropLast)))
    | Option.none => .bad
  | _ => .bad) := id rfl
@[simp] theorem x_sAppPop : sAppPop i j η = (match η[i]? with
  | some (some (.own _)) => outOf (popOf j η).calm fun p => appTo i p.1 p.2
  | _ => .bad) := id rfl
@[simp] theorem x_putTo {v : D} : putTo i d v η = (match η[i]? with
  | some (some (.dic kvs)) => if kvs.length < lim ∧ keyD d then .next (η.set i (some (.dic (dput kvs d v)))) else .bad
  | _ => .bad) := id rfl
@[simp] theorem x_sPut : sPut i f g η = outOf (g η) fun v => match η[i]? with
  | some (some (.dic _)) => outOf (f η) fun k => putTo i k v η
  | _ => .bad := id rfl
@[simp] theorem x_sPutPop : sPutPop i f j η = outOf (popOf j η).calm fun p => match p.2[i]? with
  | some (some (.dic _)) => outOf (f p.2) fun k => putTo i k p.1 p.2
  | _ => .bad := id rfl
@[simp] theorem x_eDGet : eDGet i f η = (match η[i]? with
  | some (some (.dic kvs)) => (f η).bind fun k => if keyD k then (match dget kvs k with
    | some v => .ok v
    | Option.none => .bad) else .bad
  | _ => .bad) := id rfl
@[simp] theorem x_eDGet2 : eDGet2 i f g η = (match η[i]? with
  | some (some (.dic kvs)) => (f η).bind fun k => (g η).bind fun d => if keyD k then .ok ((dget kvs k).getD d) else .bad
  | _ => .bad) := id rfl
@[simp] theorem x_eSign : eSign f g η = (f η).bind fun x => (g η).bind fun y => (dSign x y).calm := id rfl
@[simp] theorem x_sRetOwn : sRetOwn i η = (match η[i]? with
  | some (some (.own ds)) => .ret (.lst ds)
  | _ => .bad) := id rfl
end
/-! ### operators -/
section
variable {a b : Int} {s r : List Nat} {x y : List D} {p q : Bool}
@[simp] theorem y_add : dAdd (.int a) (.int b) = .ok (.int (a + b)) := id rfl
@[simp] theorem y_addS : dAdd (.str s) (.str r) = if s.length + r.length ≤ lim then .ok (.str (s ++ r)) else .bad := id rfl
@[simp] theorem y_addL : dAdd (.lst x) (.lst y) = if x.length + y.length ≤ lim then .ok (.lst (x ++ y)) else .bad := id rfl
@[simp] theorem y_addT : dAdd (.tup x) (.tup y) = if x.length + y.length ≤ lim ∧ x ≠ [] then .ok (.tup (x ++ y)) else .bad := id rfl
@[simp] theorem y_sub : dSub (.int a) (.int b) = .ok (.int (a - b)) := id rfl
@[simp] theorem y_neg : dNeg (.int a) = .ok (.int (-a)) := id rfl
@[simp] theorem y_lt : dLt (.int a) (.int b) = .ok (.bool (decide (a < b))) := id rfl
@[simp] theorem y_ltS : dLt (.str s) (.str r) = .ok (.bool (decide (s < r))) := id rfl
@[simp] theorem y_le : dLe (.int a) (.int b) = .ok (.bool (decide (a ≤ b))) := id rfl
@[simp] theorem y_gt : dGt (.int a) (.int b) = .ok (.bool (decide (b < a))) := id rfl
@[simp] theorem y_ge : dGe (.int a) (.int b) = .ok (.bool (decide (b ≤ a))) := id rfl
@[simp] theorem y_lenS : bLen (.str s) = if s.length ≤ lim then .ok (.int s.length) else .bad := id rfl
@[simp] theorem y_lenL : bLen (.lst x) = .ok (.int x.length) := id rfl
@[simp] theorem y_lenT : bLen (.tup x) = .ok (.int x.length) := id rfl
@[simp] theorem y_intB : bInt (.bool p) = .ok (.int (if p then 1 else 0)) := id rfl
@[simp] theorem y_int : bInt (.int a) = .ok (.int a) := id rfl
@[simp] theorem y_isB : dIsB (.bool p) (.bool q) = .ok (.bool (p == q)) := id rfl
@[simp] theorem y_notB : dNotB (.bool p) (.bool q) = .ok (.bool (!(p == q))) := id rfl
@[simp] theorem y_asBool : asBool (.bool p) = .ok p := id rfl
@[simp] theorem y_truB : dTruth (.bool p) = .ok p := id rfl
@[simp] theorem y_truL : dTruth (.lst x) = .ok (!x.isEmpty) := id rfl
@[simp] theorem y_truT : dTruth (.tup x) = .ok (!x.isEmpty) := id rfl
@[simp] theorem y_truS : dTruth (.str s) = if s.length ≤ lim then .ok (!s.isEmpty) else .bad := id rfl
@[simp] theorem y_cutL {lo hi : Option Int} : dCut (.lst x) lo hi = .ok (.lst (cut x lo hi)) := id rfl
@[simp] theorem y_cutS {lo hi : Option Int} : dCut (.str s) lo hi = if s.length ≤ lim then .ok (.str (cut s lo hi)) else .bad := id rfl
@[simp] theorem y_itL : items (.lst x) = .ok x := id rfl
@[simp] theorem y_itT : items (.tup x) = .ok x := id rfl
@[simp] theorem y_itS : items (.str s) = .ok (signs s) := id rfl
@[simp] theorem y_tuple : bTuple (.lst x) = .ok (.tup x) := id rfl
@[simp] theorem y_list : bList (.lst x) = .ok (.lst x) := id rfl
@[simp] theorem y_listT : bList (.tup x) = .ok (.lst x) := id rfl
@[simp] theorem y_idxL : dIdx (.lst x) (.int a) = (match at? x a with | some d => .ok d | Option.none => .bad) := id rfl
@[simp] theorem y_idxT : dIdx (.tup x) (.int a) = (match at? x a with | some d => .ok d | Option.none => .bad) := id rfl
@[simp] theorem y_idxS : dIdx (.str s) (.int a) = if s.length ≤ lim then (match at? s a with | some c => .ok (.str [c]) | Option.none => .bad) else .bad := id rfl
@[simp] theorem y_eqI : dEq (.int a) (.int b) = .ok (.bool (decide (a = b))) := by
  show (if (true && true) = true then Res.ok (D.bool (D.eqv (.int a) (.int b))) else .bad) = _
  unfold D.eqv
  by_cases h : a = b <;> simp [h]
@[simp] theorem y_neI : dNe (.int a) (.int b) = .ok (.bool (!decide (a = b))) := by
  show (if (true && true) = true then Res.ok (D.bool (!D.eqv (.int a) (.int b))) else .bad) = _
  unfold D.eqv
  by_cases h : a = b <;> simp [h]
@[simp] theorem y_neB : dNe (.bool p) (.bool q) = .ok (.bool (!(p == q))) := id rfl
theorem y_eqS (h1 : plainS s = true) (h2 : plainS r = true) (h3 : s.length ≤ lim) (h4 : r.length ≤ lim) : dEq (.str s) (.str r) = .ok (.bool (decide (s = r))) := by
  have e : (D.cmp 64 (.str s) && D.cmp 64 (.str r)) = true := by
    show ((plainS s && decide (s.length ≤ lim)) && (plainS r && decide (r.length ≤ lim))) = true
    rw [h1, h2, decide_eq_true h3, decide_eq_true h4]
    rfl
  unfold dEq
  rw [if_pos e]
  unfold D.eqv
  by_cases h : s = r <;> simp [h]
theorem y_neS (h1 : plainS s = true) (h2 : plainS r = true) (h3 : s.length ≤ lim) (h4 : r.length ≤ lim) : dNe (.str s) (.str r) = .ok (.bool (!decide (s = r))) := by
  have e : (D.cmp 64 (.str s) && D.cmp 64 (.str r)) = true := by
    show ((plainS s && decide (s.length ≤ lim)) && (plainS r && decide (r.length ≤ lim))) = true
    rw [h1, h2, decide_eq_true h3, decide_eq_true h4]
    rfl
  unfold dNe
  rw [if_pos e]
  unfold D.eqv
  by_cases h : s = r <;> simp [h]
end
theorem run_of {n : Nat} {g : St} {ds : List D} {d : D} (h : g (ds.map (fun d => some (S.dat d)) ++ List.replicate (n - ds.length) Option.none) = .ret d) : runDef n g ds = .ok d := by
  unfold runDef
  rw [h]
theorem run_raise {n : Nat} {g : St} {ds : List D} {c : Cls} (h : g (ds.map (fun d => some (S.dat d)) ++ List.replicate (n - ds.length) Option.none) = .raise c) : runDef n g ds = .raise c := by
  unfold runDef
  rw [h]
theorem y_mulL {a b : Int} (h : small a) : dMul (.int a) (.int b) = .ok (.int (a * b)) := if_pos (.inl h)
theorem y_mulR {a b : Int} (h : small b) : dMul (.int a) (.int b) = .ok (.int (a * b)) := if_pos (.inr (.inl h))
theorem y_mod {a b : Int} (h : 0 < b) : dMod (.int a) (.int b) = .ok (.int (a % b)) := if_pos h
theorem y_div {a b : Int} (h : 0 < b) (h2 : b < 1073741824) : dDiv (.int a) (.int b) = .ok (.int (a / b)) := if_pos ⟨h, h2⟩
theorem small2 : small 2 := by decide
theorem small17 : small 17 := by decide
/-! ### places -/
theorem at_nat {α : Type} {xs : List α} {i : Nat} : at? xs (i : Int) = xs[i]? := by
  unfold at? ix
  rw [if_pos (Int.natCast_nonneg i)]
  by_cases h : i < xs.length
  · rw [if_pos (by omega)]
    rfl
  · rw [if_neg (by omega), List.getElem?_eq_none (by omega)]
    rfl
theorem at_zero {α : Type} {xs : List α} {x : α} : at? (x :: xs) (0 : Int) = some x := at_nat (xs := x :: xs) (i := 0)
theorem at_last {α : Type} {xs : List α} {x : α} : at? (xs ++ [x]) (-1) = some x := by
  unfold at? ix
  rw [if_neg (by omega), if_pos (by rw [List.length_append, List.length_singleton]; omega), List.length_append, List.length_singleton]
  have e : (-1 + ((xs.length + 1 : Nat) : Int)).toNat = xs.length := by omega
  show (some (-1 + ((xs.length + 1 : Nat) : Int)).toNat).bind _ = _
  rw [e]
  simp
theorem sl_nat (n d i : Nat) : sl n d (some (i : Int)) = min i n := by
  show (if (i : Int) < 0 then ((i : Int) + (n : Int)).toNat else min (i : Int).toNat n) = _
  rw [if_neg (by omega), Int.toNat_natCast]
theorem sl_none (n d : Nat) : sl n d Option.none = d := rfl
theorem cut_to {α : Type} (xs : List α) (i : Nat) : cut xs Option.none (some (i : Int)) = xs.take i := by
  unfold cut
  rw [sl_nat, sl_none, List.drop_zero, Nat.sub_zero]
  by_cases h : i ≤ xs.length
  · rw [Nat.min_eq_left h]
  · rw [Nat.min_eq_right (by omega), List.take_of_length_le (by omega), List.take_of_length_le (by omega)]
theorem cut_from {α : Type} (xs : List α) (i : Nat) : cut xs (some (i : Int)) Option.none = xs.drop i := by
  unfold cut
  rw [sl_nat, sl_none]
  by_cases h : i ≤ xs.length
  · rw [Nat.min_eq_left h, List.take_of_length_le (by rw [List.length_drop]; omega)]
  · rw [Nat.min_eq_right (by omega), List.drop_of_length_le (Nat.le_refl _), List.drop_of_length_le (by omega)]
    simp
theorem cut_mid {α : Type} (xs : List α) (i j : Nat) : cut xs (some (i : Int)) (some (j : Int)) = (xs.take j).drop i := by
  unfold cut
  rw [sl_nat, sl_nat]
  by_cases h : i ≤ xs.length
  · rw [Nat.min_eq_left h]
    by_cases h2 : j ≤ xs.length
    · rw [Nat.min_eq_left h2, List.drop_take]
    · rw [Nat.min_eq_right (by omega), List.take_of_length_le (by rw [List.length_drop]; omega), List.take_of_length_le (by omega)]
  · have e : min i xs.length = xs.length := Nat.min_eq_right (by omega)
    rw [e, List.drop_of_length_le (Nat.le_refl xs.length)]
    rw [List.drop_of_length_le (by rw [List.length_take]; omega)]
    simp
abbrev nd (n : Nat) : D := .int (n : Int)
theorem nd_mul (a b : Nat) : D.int ((a : Int) * (b : Int)) = nd (a * b) := by
  show _ = D.int ((a * b : Nat) : Int)
  rw [Int.natCast_mul]
theorem nd_add (a b : Nat) : D.int ((a : Int) + (b : Int)) = nd (a + b) := by
  show _ = D.int ((a + b : Nat) : Int)
  rw [Int.natCast_add]
theorem nd_of {i : Int} (h : 0 ≤ i) : D.int i = nd i.toNat := by
  show _ = D.int ((i.toNat : Nat) : Int)
  rw [Int.toNat_of_nonneg h]
/-! ### loops -/
theorem loop_nil {g : G} {b : St} {η : Env} : loop g b [] η = .next η := rfl
theorem loop_cons {g : G} {b : St} {d : D} {ds : List D} {η η1 : Env} (h : g d η = .ok η1) : loop g b (d :: ds) η = (match b η1 with
    | .next η' => loop g b ds η'
    | .ct η' => loop g b ds η'
    | .brk η' => .next η'
    | o => o) := by
  show outOf (g d η).calm _ = _
  rw [h]
  rfl
theorem loop_next {g : G} {b : St} {d : D} {ds : List D} {η η1 η2 : Env} (h : g d η = .ok η1) (h2 : b η1 = .next η2) : loop g b (d :: ds) η = loop g b ds η2 := by
  rw [loop_cons h, h2]
theorem loop_ret {g : G} {b : St} {d v : D} {ds : List D} {η η1 : Env} (h : g d η = .ok η1) (h2 : b η1 = .ret v) : loop g b (d :: ds) η = .ret v := by
  rw [loop_cons h, h2]
/-- every turn keeps P -/
theorem loop_inv {g : G} {b : St} (P : Nat → Env → Prop) : ∀ (ds : List D) (k : Nat) (η : Env), P k η → (∀ i d η, ds[i]? = some d → P (k + i) η → ∃ η1 η2, g d η = .ok η1 ∧ (b η1 = .next η2 ∨ b η1 = .ct η2) ∧ P (k + i + 1) η2) → ∃ η', loop g b ds η = .next η' ∧ P (k + ds.length) η'
  | [], k, η, h, _ => ⟨η, rfl, h⟩
  | d :: ds, k, η, h, step => by
    obtain ⟨η1, η2, h1, h2, h3⟩ := step 0 d η rfl h
    obtain ⟨η', e1, e2⟩ := loop_inv (g := g) (b := b) P ds (k + 1) η2 h3 (fun i d' η hi hp => by
      have e : k + 1 + i = k + (i + 1) := by omega
      rw [e] at hp ⊢
      exact step (i + 1) d' η (by simpa using hi) hp)
    refine ⟨η', ?_, ?_⟩
    · rw [loop_cons h1]
      rcases h2 with h2 | h2 <;> rw [h2] <;> exact e1
    · have e : k + 1 + ds.length = k + (d :: ds).length := by
        rw [List.length_cons]
        omega
      rw [e] at e2
      exact e2
/-- .. and nothing is asked of the turn's number -/
theorem loop_all {g : G} {b : St} (P : Env → Prop) (ds : List D) {η : Env} (h : P η) (step : ∀ d, d ∈ ds → ∀ η, P η → ∃ η1 η2, g d η = .ok η1 ∧ (b η1 = .next η2 ∨ b η1 = .ct η2) ∧ P η2) : ∃ η', loop g b ds η = .next η' ∧ P η' := by
  obtain ⟨η', e1, e2⟩ := loop_inv (g := g) (b := b) (fun _ => P) ds 0 η h (fun i d η hi hp => step d (List.mem_of_getElem? hi) η hp)
  exact ⟨η', e1, e2⟩
/-- a while that turns m times -/
theorem whil_up {t : T} {b : St} (st : Nat → Env) : ∀ (m k n : Nat), m < n → (∀ i, k ≤ i → i < k + m → t (st i) = .ok true ∧ b (st i) = .next (st (i + 1))) → t (st (k + m)) = .ok false → whil t b n (st k) = .next (st (k + m))
  | 0, k, n + 1, _, _, h => by
    show outOf (t (st k)) _ = _
    rw [Nat.add_zero] at h ⊢
    rw [h]
    rfl
  | m + 1, k, n + 1, hn, hs, h => by
    obtain ⟨h1, h2⟩ := hs k (Nat.le_refl _) (by omega)
    have e : k + (m + 1) = k + 1 + m := by omega
    rw [e] at h ⊢
    have ih := whil_up st m (k + 1) n (by omega) (fun i h3 h4 => hs i (by omega) (by omega)) h
    show outOf (t (st k)) _ = _
    rw [h1, outOf_ok, if_pos rfl, h2]
    exact ih
/-! ### comprehensions -/
theorem comp_nil {g : G} {t : T} {e : E} {η : Env} : comp g t e η [] = .ok [] := rfl
theorem comp_map {g : G} {t : T} {e : E} {η : Env} (p : D → Bool) (v : D → D) : ∀ (ds : List D), (∀ d, d ∈ ds → ∃ η1, g d η = .ok η1 ∧ t η1 = .ok (p d) ∧ (p d = true → e η1 = .ok (v d))) → comp g t e η ds = .ok ((ds.filter p).map v)
  | [], _ => rfl
  | d :: ds, h => by
    obtain ⟨η1, h1, h2, h3⟩ := h d List.mem_cons_self
    have ih := comp_map p v ds fun d hd => h d (List.mem_cons_of_mem _ hd)
    show (g d η).calm.bind _ = _
    rw [h1, calm_ok, bind_ok, h2, bind_ok]
    cases hp : p d with
    | true => rw [if_pos rfl, h3 hp, bind_ok, ih, bind_ok, List.filter_cons_of_pos hp, List.map_cons]
    | false => rw [if_neg Bool.false_ne_true, ih, List.filter_cons_of_neg (by rw [hp]; exact Bool.false_ne_true)]
theorem comp_all {g : G} {t : T} {e : E} {η : Env} (v : D → D) (ds : List D) (h : ∀ d, d ∈ ds → ∃ η1, g d η = .ok η1 ∧ t η1 = .ok true ∧ e η1 = .ok (v d)) : comp g t e η ds = .ok (ds.map v) := by
  have e1 := comp_map (g := g) (t := t) (e := e) (η := η) (fun _ => true) v ds fun d hd => by
    obtain ⟨η1, h1, h2, h3⟩ := h d hd
    exact ⟨η1, h1, h2, fun _ => h3⟩
  rw [List.filter_eq_self.mpr fun _ _ => rfl] at e1
  exact e1
theorem comp_list {α : Type} {g : G} {t : T} {e : E} {η : Env} (f v : α → D) : ∀ (xs : List α), (∀ a, a ∈ xs → ∃ η1, g (f a) η = .ok η1 ∧ t η1 = .ok true ∧ e η1 = .ok (v a)) → comp g t e η (xs.map f) = .ok (xs.map v)
  | [], _ => rfl
  | a :: xs, h => by
    obtain ⟨η1, h1, h2, h3⟩ := h a List.mem_cons_self
    have ih := comp_list f v xs fun d hd => h d (List.mem_cons_of_mem _ hd)
    show (g (f a) η).calm.bind _ = _
    rw [h1, calm_ok, bind_ok, h2, bind_ok, if_pos rfl, h3, bind_ok, ih, bind_ok, List.map_cons]
theorem eComp_of {own : List Nat} {fi : I} {g : G} {t : T} {e : E} {η : Env} {ds ys : List D} (h1 : fi η = .ok ds) (h2 : ds.length ≤ lim) (h3 : comp g t e (wipes η own) ds = .ok ys) : eComp own fi g t e η = .ok (.lst ys) := by
  unfold eComp
  rw [h1, bind_ok, if_pos h2, h3]
  rfl
/-! ### lists of data -/
@[simp] theorem nums_map (l : List Int) : numsL (l.map D.int) = some l := by
  induction l with
  | nil => rfl
  | cons x r ih =>
    show (numsL (r.map D.int)).map (x :: ·) = _
    rw [ih]
    rfl
@[simp] theorem strs_map (l : List (List Nat)) : strsL (l.map D.str) = some l := by
  induction l with
  | nil => rfl
  | cons x r ih =>
    show (strsL (r.map D.str)).map (x :: ·) = _
    rw [ih]
    rfl
@[simp] theorem bools_map (l : List Bool) : boolsL (l.map D.bool) = some l := by
  induction l with
  | nil => rfl
  | cons x r ih =>
    show (boolsL (r.map D.bool)).map (x :: ·) = _
    rw [ih]
    rfl
theorem bMin_map (x : Int) (l : List Int) : bMin (.lst ((x :: l).map D.int)) = .ok (.int (least x l)) := by
  show (match numsL ((x :: l).map D.int) with
    | some (x :: r) => Res.ok (D.int (least x r))
    | _ => .bad) = _
  rw [nums_map]
theorem bMax_map (x : Int) (l : List Int) : bMax (.lst ((x :: l).map D.int)) = .ok (.int (most x l)) := by
  show (match numsL ((x :: l).map D.int) with
    | some (x :: r) => Res.ok (D.int (most x r))
    | _ => .bad) = _
  rw [nums_map]
theorem bAll_map (l : List Bool) : bAll (.lst (l.map D.bool)) = .ok (.bool (l.all id)) := by
  show (match boolsL (l.map D.bool) with
    | some bs => Res.ok (D.bool (bs.all id))
    | _ => .bad) = _
  rw [bools_map]
theorem bSum_map (l : List Int) : bSum (.lst (l.map D.int)) = .ok (.int l.sum) := by
  show (match numsL (l.map D.int) with
    | some ns => Res.ok (D.int ns.sum)
    | _ => .bad) = _
  rw [nums_map]
theorem dJoin_map (sep : List Nat) (l : List (List Nat)) (h : lenSum l + l.length * sep.length ≤ lim) : dJoin (.str sep) (.lst (l.map D.str)) = .ok (.str (joinS sep l)) := by
  show (match strsL (l.map D.str) with
    | some ss => if lenSum ss + ss.length * sep.length ≤ lim then Res.ok (D.str (joinS sep ss)) else .bad
    | _ => .bad) = _
  rw [strs_map]
  exact if_pos h
theorem joinS_nil (l : List (List Nat)) : joinS [] l = l.flatten := by
  induction l with
  | nil => rfl
  | cons x r ih =>
    cases r with
    | nil => simp [joinS]
    | cons y r =>
      show x ++ [] ++ joinS [] (y :: r) = _
      rw [ih]
      simp
theorem lenSum_ones (l : List Nat) : lenSum (l.map fun c => [c]) = l.length := by
  induction l with
  | nil => rfl
  | cons x r ih =>
    show 1 + lenSum (r.map fun c => [c]) = _
    rw [ih, List.length_cons]
    omega
@[simp] theorem numbers_len' (lo : Int) (n : Nat) : (numbers lo n).length = n := by simp [numbers]
theorem numbers_get {lo : Int} {n i : Nat} {d : D} (h : (numbers lo n)[i]? = some d) : i < n ∧ d = .int (lo + (i : Int)) := by
  unfold numbers at h
  rw [List.getElem?_map] at h
  by_cases hi : i < n
  · rw [List.getElem?_range hi] at h
    cases h
    exact ⟨hi, rfl⟩
  · rw [List.getElem?_eq_none (by simpa using hi)] at h
    cases h
theorem numbers_mem {lo : Int} {n : Nat} {d : D} (h : d ∈ numbers lo n) : ∃ i : Nat, i < n ∧ d = .int (lo + (i : Int)) := by
  obtain ⟨i, hi⟩ := List.getElem?_of_mem h
  exact ⟨i, numbers_get hi⟩
theorem rng1_nat (n : Nat) (h : n ≤ 2 ^ 40) : rng1 (.int (n : Int)) = .ok (numbers 0 n) := by
  have e : rngOk (n : Int) = true := by
    unfold rngOk
    rw [decide_eq_true (by omega), decide_eq_true (by omega)]
    rfl
  show (if rngOk (n : Int) then Res.ok (numbers 0 (n : Int).toNat) else .bad) = _
  rw [if_pos e, Int.toNat_natCast]
end Bk
end
/-! BkT1 -/
section
set_option linter.all false
set_option autoImplicit false
set_option maxRecDepth 100000
/-! terms printed by gen.py -/
namespace Bk
def b_heights_1 : St := (sApp 1 (eBin dSub (eBin dAdd (eOwnB dIdx 1 (eUn dNeg (eC (.int 1)))) (eC (.int 1))) (eBin dMul (eC (.int 2)) (eUn bInt (eBin dEq (eVar 2) (eC (.str [41])))))))
def g_heights : St := (sSeq (sNew 1 [(eC (.int 0))])
  (sSeq (sFor (iAny (eVar 0)) (gName 2) b_heights_1)
  (sRetOwn 1)))
def φ_heights : List D → Res D := runDef 3 g_heights
def c_is_whole_1 : E := (eComp [1] (iAny (eVar 0)) (gName 1) tYes (eBin dInS (eVar 1) (eC (.str [40, 41]))))
def g_is_whole : St := (sSeq (sIf (tOr (tNot (tV (eUn (bIs .str) (eVar 0)))) (tOr (tE (eBin dGt (eUn bLen (eVar 0)) (eC (.int 120)))) (tNot (tV (eUn bAll c_is_whole_1))))) (sRet (eC (.bool false))) sSkip)
  (sSeq (sSet 2 (eCall φ_heights [(eVar 0)]))
  (sRet (eAnd (eBin dEq (eUn bMin (eVar 2)) (eC (.int 0))) (eBin dEq (eBin dIdx (eVar 2) (eUn dNeg (eC (.int 1)))) (eC (.int 0)))))))
def φ_is_whole : List D → Res D := runDef 3 g_is_whole
def g_depth : St := (sRet (eUn bMax (eCall φ_heights [(eVar 0)])))
def φ_depth : List D → Res D := runDef 1 g_depth
def b_partner_1 : St := (sIf (tE (eBin dEq (eVar 5) (eC (.str [40])))) (sApp 2 (eVar 4)) (sSeq (sPutPop 3 (eVar 4) 2)
  (sPut 3 (eDGet 3 (eVar 4)) (eVar 4))))
def g_partner : St := (sSeq (sIf (tNot (tE (eChain dLe dLt (eC (.int 0)) (eVar 1) (eUn bLen (eVar 0))))) (sRaise .noPlace) sSkip)
  (sSeq (sNew 2 [])
  (sSeq (sNewD 3)
  (sSeq (sFor (iEnum (eVar 0)) (gPair 4 5) b_partner_1)
  (sRet (eDGet 3 (eVar 1)))))))
def φ_partner : List D → Res D := runDef 6 g_partner
def c_backward_1 : E := (eComp [1] (iRevS (eVar 0)) (gName 1) tYes (eBin dIdx (eC (.str [41, 40])) (eUn bInt (eBin dEq (eVar 1) (eC (.str [41]))))))
def g_backward : St := (sRet (eBin dJoin (eC (.str [])) c_backward_1))
def φ_backward : List D → Res D := runDef 2 g_backward
def g_l_cell : St := (sSeq (sIf (tE (eBin dLt (eVar 1) (eUn bLen (eVar 0)))) (sRet (eBin dIdx (eVar 0) (eVar 1))) sSkip)
  (sRet (eC (.int 0))))
def φ_l_cell : List D → Res D := runDef 2 g_l_cell
def g_l_mix : St := (sRet (eBin dMod (eBin dMod (eBin dMul (eVar 0) (eC (.int 48271))) (eVar 1)) (eVar 2)))
def φ_l_mix : List D → Res D := runDef 3 g_l_mix
def b_l_row_1 : St := (sSeq (sSet 5 (eBin dSub (eBin dMul (eC (.int 2)) (eVar 1)) (eVar 4)))
  (sIf (tOr (tE (eBin dEq (eVar 3) (eC (.int 0)))) (tAnd (tE (eBin dLt (eVar 3) (eVar 5))) (tE (eBin dLt (eCall φ_l_mix [(eBin dAdd (eVar 0) (eBin dMul (eC (.int 17)) (eVar 4))), (eC (.int 9973)), (eC (.int 5))]) (eC (.int 3)))))) (sSeq (sSet 2 (eBin dAdd (eVar 2) (eC (.str [40]))))
  (sSet 3 (eBin dAdd (eVar 3) (eC (.int 1))))) (sSeq (sSet 2 (eBin dAdd (eVar 2) (eC (.str [41]))))
  (sSet 3 (eBin dSub (eVar 3) (eC (.int 1)))))))
def g_l_row : St := (sSeq (sSet 2 (eC (.str [])))
  (sSeq (sSet 3 (eC (.int 0)))
  (sSeq (sFor (iRange1 (eBin dMul (eC (.int 2)) (eVar 1))) (gName 4) b_l_row_1)
  (sRet (eVar 2)))))
def φ_l_row : List D → Res D := runDef 6 g_l_row
def g_l_whole : St := (sRet (eAnd (eUn (bIs .int) (eVar 0)) (eNot (eUn (bIs .bool) (eVar 0)))))
def φ_l_whole : List D → Res D := runDef 1 g_l_whole
def b_l_is_whole_1 : St := (sSeq (sSet 1 (eBin dAdd (eVar 1) (eSign (eVar 2) (eUn dNeg (eC (.int 999))))))
  (sIf (tE (eBin dLt (eVar 1) (eC (.int 0)))) (sRet (eC (.bool false))) sSkip))
def g_l_is_whole : St := (sSeq (sSet 1 (eC (.int 0)))
  (sSeq (sFor (iAny (eVar 0)) (gName 2) b_l_is_whole_1)
  (sRet (eBin dEq (eVar 1) (eC (.int 0))))))
def φ_l_is_whole : List D → Res D := runDef 3 g_l_is_whole
def g_l_spoilt : St := (sSeq (sSet 2 (eBin dMod (eBin dDiv (eVar 1) (eC (.int 4))) (eBin dAdd (eUn bLen (eVar 0)) (eC (.int 1)))))
  (sSeq (sSet 3 (eBin dIdx (eC (.str [40, 41, 32, 91, 120, 41, 40])) (eBin dMod (eBin dDiv (eVar 1) (eC (.int 512))) (eC (.int 7)))))
  (sSeq (sIf (tE (eBin dEq (eBin dMod (eVar 1) (eC (.int 4))) (eC (.int 0)))) (sRet (eBin dAdd (eSlice (eVar 0) none (some (eVar 2))) (eSlice (eVar 0) (some (eBin dAdd (eVar 2) (eC (.int 1)))) none))) sSkip)
  (sSeq (sIf (tE (eBin dEq (eBin dMod (eVar 1) (eC (.int 4))) (eC (.int 1)))) (sRet (eBin dAdd (eBin dAdd (eSlice (eVar 0) none (some (eVar 2))) (eSlice (eVar 0) (some (eVar 2)) (some (eBin dAdd (eVar 2) (eC (.int 1)))))) (eSlice (eVar 0) (some (eVar 2)) none))) sSkip)
  (sRet (eBin dAdd (eBin dAdd (eSlice (eVar 0) none (some (eVar 2))) (eVar 3)) (eSlice (eVar 0) (some (eBin dSub (eBin dAdd (eVar 2) (eBin dMod (eVar 1) (eC (.int 4)))) (eC (.int 2)))) none)))))))
def φ_l_spoilt : List D → Res D := runDef 4 g_l_spoilt
def g_l_partner : St := (sSeq (sSet 2 (eC (.str [111, 116, 104, 101, 114])))
  (sSeq (sTryAs 3 (sSet 2 (eCallT φ_partner [(eVar 0), (eVar 1)])) (fun c => match c with | .noPlace => if (true && !false && true) then sSet 2 (eC .none) else sSkip | .noRow => if (false && !true && true) then sSet 2 (eC .none) else sSkip))
  (sRet (eVar 2))))
def φ_l_partner : List D → Res D := runDef 4 g_l_partner
end Bk
end
/-! BkT2 -/
section
set_option linter.all false
set_option autoImplicit false
set_option maxRecDepth 100000
/-! terms printed by gen.py -/
namespace Bk
def c_ways_row_1 : E := (eComp [3] (iRange1 (eBin dAdd (eVar 1) (eC (.int 1)))) (gName 3) tYes (eUn bInt (eBin dEq (eVar 3) (eC (.int 0)))))
def c_ways_row_2 : E := (eComp [7, 8] (iZip (eVar 5) (eVar 6)) (gPair 7 8) tYes (eBin dAdd (eVar 7) (eVar 8)))
def b_ways_row_1 : St := (sSeq (sSet 5 (eBin dAdd (eSlice (eVar 2) (some (eC (.int 1))) none) (eLst [(eC (.int 0))])))
  (sSeq (sSet 6 (eBin dAdd (eLst [(eC (.int 0))]) (eSlice (eVar 2) none (some (eUn dNeg (eC (.int 1)))))))
  (sSet 2 c_ways_row_2)))
def g_ways_row : St := (sSeq (sSet 2 c_ways_row_1)
  (sSeq (sFor (iRange1 (eVar 0)) (gName 4) b_ways_row_1)
  (sRet (eVar 2))))
def φ_ways_row : List D → Res D := runDef 9 g_ways_row
def g_count : St := (sRet (eBin dIdx (eCall φ_ways_row [(eBin dMul (eC (.int 2)) (eVar 0)), (eBin dMin2 (eVar 1) (eVar 0))]) (eC (.int 0))))
def φ_count : List D → Res D := runDef 2 g_count
def c_l_all_1 (self : List D → Res D) : E := (eComp [4] (iAny (eCall self [(eBin dSub (eBin dSub (eVar 0) (eC (.int 1))) (eVar 2))])) (gName 4) tYes (eBin dAdd (eBin dAdd (eBin dAdd (eC (.str [40])) (eVar 3)) (eC (.str [41]))) (eVar 4)))
def b_l_all_1 (self : List D → Res D) : St := (sExt 1 (c_l_all_1 self))
def b_l_all_2 (self : List D → Res D) : St := (sFor (iAny (eCall self [(eVar 2)])) (gName 3) (b_l_all_1 self))
def g_l_all (self : List D → Res D) : St := (sSeq (sIf (tE (eBin dEq (eVar 0) (eC (.int 0)))) (sRet (eLst [(eC (.str []))])) sSkip)
  (sSeq (sNew 1 [])
  (sSeq (sFor (iRange1 (eVar 0)) (gName 2) (b_l_all_2 self))
  (sRet (eOwn bSorted 1)))))
def φ_l_all : Nat → List D → Res D
  | 0 => fun _ => .bad
  | n + 1 => runDef 5 (g_l_all (φ_l_all n))
def c_l_depth_1 : E := (eComp [1] (iRange1 (eBin dAdd (eUn bLen (eVar 0)) (eC (.int 1)))) (gName 1) tYes (eBin dSub (eBin dCount (eSlice (eVar 0) none (some (eVar 1))) (eC (.str [40]))) (eBin dCount (eSlice (eVar 0) none (some (eVar 1))) (eC (.str [41])))))
def g_l_depth : St := (sRet (eUn bMax c_l_depth_1))
def φ_l_depth : List D → Res D := runDef 2 g_l_depth
def b_l_choices_1 : St := (sSet 2 (eBin dDiv (eBin dMul (eVar 2) (eBin dSub (eVar 0) (eVar 3))) (eBin dAdd (eVar 3) (eC (.int 1)))))
def g_l_choices : St := (sSeq (sSet 2 (eC (.int 1)))
  (sSeq (sFor (iRange1 (eVar 1)) (gName 3) b_l_choices_1)
  (sRet (eVar 2))))
def φ_l_choices : List D → Res D := runDef 4 g_l_choices
def b_choices_1 : St := (sSet 2 (eBin dDiv (eBin dMul (eVar 2) (eBin dSub (eVar 0) (eVar 3))) (eBin dAdd (eVar 3) (eC (.int 1)))))
def g_choices : St := (sSeq (sIf (tE (eBin dLt (eVar 1) (eC (.int 0)))) (sRet (eC (.int 0))) sSkip)
  (sSeq (sSet 2 (eC (.int 1)))
  (sSeq (sFor (iRange1 (eVar 1)) (gName 3) b_choices_1)
  (sRet (eVar 2)))))
def φ_choices : List D → Res D := runDef 4 g_choices
def g_ways : St := (sSeq (sIf (tOr (tE (eBin dLt (eVar 1) (eC (.int 0)))) (tOr (tE (eBin dGt (eVar 1) (eVar 0))) (tE (eBin dEq (eBin dMod (eBin dSub (eVar 0) (eVar 1)) (eC (.int 2))) (eC (.int 1)))))) (sRet (eC (.int 0))) sSkip)
  (sSeq (sSet 2 (eBin dDiv (eBin dSub (eVar 0) (eVar 1)) (eC (.int 2))))
  (sRet (eBin dSub (eCall φ_choices [(eVar 0), (eVar 2)]) (eCall φ_choices [(eVar 0), (eBin dSub (eVar 2) (eC (.int 1)))])))))
def φ_ways : List D → Res D := runDef 3 g_ways
def b_number_1 : St := (sIf (tE (eBin dEq (eVar 4) (eC (.str [41])))) (sSeq (sSet 1 (eBin dAdd (eVar 1) (eCall φ_ways [(eBin dSub (eBin dSub (eUn bLen (eVar 0)) (eVar 3)) (eC (.int 1))), (eBin dAdd (eVar 2) (eC (.int 1)))])))
  (sSet 2 (eBin dSub (eVar 2) (eC (.int 1))))) (sSet 2 (eBin dAdd (eVar 2) (eC (.int 1)))))
def g_number : St := (sSeq (sIf (tNot (tV (eCall φ_is_whole [(eVar 0)]))) (sRaise .noRow) sSkip)
  (sSeq (sSet 1 (eC (.int 0)))
  (sSeq (sSet 2 (eC (.int 0)))
  (sSeq (sFor (iEnum (eVar 0)) (gPair 3 4) b_number_1)
  (sRet (eVar 1))))))
def φ_number : List D → Res D := runDef 5 g_number
def b_row_of_1 : St := (sSeq (sSet 5 (eCall φ_ways [(eVar 4), (eBin dAdd (eVar 3) (eC (.int 1)))]))
  (sIf (tE (eBin dLt (eVar 1) (eVar 5))) (sSeq (sSet 2 (eBin dAdd (eVar 2) (eC (.str [40]))))
  (sSet 3 (eBin dAdd (eVar 3) (eC (.int 1))))) (sSeq (sSet 1 (eBin dSub (eVar 1) (eVar 5)))
  (sSeq (sSet 2 (eBin dAdd (eVar 2) (eC (.str [41]))))
  (sSet 3 (eBin dSub (eVar 3) (eC (.int 1))))))))
def g_row_of : St := (sSeq (sIf (tNot (tE (eChain dLe dLt (eC (.int 0)) (eVar 1) (eCall φ_count [(eVar 0), (eVar 0)])))) (sRaise .noRow) sSkip)
  (sSeq (sSet 2 (eC (.str [])))
  (sSeq (sSet 3 (eC (.int 0)))
  (sSeq (sFor (iRevRange1 (eBin dMul (eC (.int 2)) (eVar 0))) (gName 4) b_row_of_1)
  (sRet (eVar 2))))))
def φ_row_of : List D → Res D := runDef 6 g_row_of
def g_next_row : St := (sSeq (sSet 1 (eBin dAdd (eCall φ_number [(eVar 0)]) (eC (.int 1))))
  (sSeq (sSet 2 (eBin dDiv (eUn bLen (eVar 0)) (eC (.int 2))))
  (sSeq (sIf (tE (eBin dEq (eVar 1) (eCall φ_count [(eVar 2), (eVar 2)]))) (sRet (eC .none)) sSkip)
  (sRet (eCall φ_row_of [(eVar 2), (eVar 1)])))))
def φ_next_row : List D → Res D := runDef 3 g_next_row
def g_l_refused : St := (sSeq (sSet 3 (eC (.bool false)))
  (sSeq (sTryAs 4 (sIfC (tE (eBin dEq (eVar 0) (eC (.int 0)))) (sDrop (eCallT φ_number [(eVar 2)])) (sIfC (tE (eBin dEq (eVar 0) (eC (.int 1)))) (sDrop (eCallT φ_next_row [(eVar 2)])) (sDrop (eCallT φ_row_of [(eVar 1), (eVar 2)])))) (fun c => match c with | .noPlace => sSet 3 (eC (.bool (false && !true && true))) | .noRow => sSet 3 (eC (.bool (true && !false && true)))))
  (sRet (eVar 3))))
def φ_l_refused : List D → Res D := runDef 5 g_l_refused
def g_l_right : St := (sSeq (sIf (tOr (tNot (tV (eCall φ_l_whole [(eVar 2)]))) (tOr (tNot (tE (eChain dLe dLt (eC (.int 0)) (eVar 2) (eCall φ_count [(eVar 1), (eVar 1)])))) (tE (eBin dNe (eCall φ_row_of [(eVar 1), (eVar 2)]) (eVar 0))))) (sRet (eC (.bool false))) sSkip)
  (sSeq (sSet 3 (eCall φ_next_row [(eVar 0)]))
  (sSeq (sIf (tE (eBin dEq (eBin dAdd (eVar 2) (eC (.int 1))) (eCall φ_count [(eVar 1), (eVar 1)]))) (sRet (eAnd (eBin dIsN (eVar 3) (eC .none)) (eBin dEq (eVar 0) (eBin dMul (eC (.str [40, 41])) (eVar 1))))) sSkip)
  (sRet (eAnd (eBin dNotN (eVar 3) (eC .none)) (eAnd (eBin dLt (eVar 0) (eVar 3)) (eAnd (eCall φ_l_is_whole [(eVar 3)]) (eBin dEq (eCall φ_number [(eVar 3)]) (eBin dAdd (eVar 2) (eC (.int 1)))))))))))
def φ_l_right : List D → Res D := runDef 4 g_l_right
end Bk
end
/-! BkNums -/
section
set_option linter.all false
set_option autoImplicit false
set_option maxRecDepth 100000
/-! BkNums: ways_row, count, choices -/
namespace Bk
def stepN (l : List Nat) : List Nat := List.zipWith (· + ·) (l.drop 1 ++ [0]) (0 :: l.dropLast)
def wrN : Nat → List Nat → List Nat
  | 0, l => l
  | n + 1, l => wrN n (stepN l)
def firstN (b : Nat) : List Nat := (List.range (b + 1)).map fun k => if k = 0 then 1 else 0
def cntN (size bound : Nat) : Nat := (wrN (2 * size) (firstN (min bound size))).headD 0
theorem stepN_len (l : List Nat) (h : l ≠ []) : (stepN l).length = l.length := by
  cases l with
  | nil => exact absurd rfl h
  | cons x r => simp [stepN]
theorem wrN_len (n : Nat) : ∀ l : List Nat, l ≠ [] → (wrN n l).length = l.length := by
  induction n with
  | zero => exact fun l _ => rfl
  | succ n ih =>
    intro l h
    have h2 : stepN l ≠ [] := by
      intro z
      have := stepN_len l h
      rw [z] at this
      cases l with
      | nil => exact h rfl
      | cons x r => simp at this
    show (wrN n (stepN l)).length = _
    rw [ih _ h2, stepN_len l h]
theorem cut_init {α : Type} (xs : List α) : cut xs none (some (-1)) = xs.dropLast := by
  unfold cut
  rw [sl_none]
  have : sl xs.length xs.length (some (-1)) = xs.length - 1 := by
    show (if (-1 : Int) < 0 then ((-1 : Int) + (xs.length : Int)).toNat else min (-1 : Int).toNat xs.length) = _
    rw [if_pos (by omega)]
    omega
  rw [this, List.drop_zero, Nat.sub_zero, List.dropLast_eq_take]
theorem cut_tail {α : Type} (xs : List α) : cut xs (some 1) none = xs.drop 1 := cut_from xs 1
theorem zipWith_zip (a b : List Nat) : List.zipWith (fun x y => x + y) a b = (List.zip a b).map fun p => p.1 + p.2 := by
  induction a generalizing b with
  | nil => simp
  | cons x r ih =>
    cases b with
    | nil => simp
    | cons y t => simp [ih]
theorem zipL_map (a b : List Nat) : zipL (a.map nd) (b.map nd) = (List.zip a b).map fun p => D.tup [nd p.1, nd p.2] := by
  induction a generalizing b with
  | nil => simp [zipL]
  | cons x r ih =>
    cases b with
    | nil => simp [zipL]
    | cons y t => simp [zipL, ih]
section
variable {z0 z1 z2 z3 z4 z5 z6 z7 z8 : Option S}
theorem ways_turn {l : List Nat} (hl : l.length ≤ 1000) (h0 : l ≠ []) : b_ways_row_1 [z0, z1, some (.dat (.lst (l.map nd))), z3, z4, z5, z6, z7, z8] =
    .next [z0, z1, some (.dat (.lst ((stepN l).map nd))), z3, z4, some (.dat (.lst ((l.drop 1 ++ [0]).map nd))), some (.dat (.lst ((0 :: l.dropLast).map nd))), z7, z8] := by
  have h1 : l.length - 1 + 1 ≤ lim := by
    show _ ≤ 16777216
    omega
  have h2 : 1 + (l.length - 1) ≤ lim := by
    show _ ≤ 16777216
    omega
  have hA : ∃ L, dAdd (.lst (cut (l.map nd) (some 1) none)) (.lst [.int 0]) = .ok (.lst L) ∧ L = (l.drop 1 ++ [0]).map nd := by
    refine ⟨_, ?_, rfl⟩
    rw [cut_tail]
    simp [h1]
  have hB : ∃ L, dAdd (.lst [.int 0]) (.lst (cut (l.map nd) none (some (-1)))) = .ok (.lst L) ∧ L = (0 :: l.dropLast).map nd := by
    refine ⟨_, ?_, rfl⟩
    rw [cut_init]
    simp [h2, List.map_dropLast]
  obtain ⟨A, hA, eA⟩ := hA
  obtain ⟨B, hB, eB⟩ := hB
  have hC : ∃ L, c_ways_row_2 [z0, z1, some (.dat (.lst (l.map nd))), z3, z4, some (.dat (.lst A)), some (.dat (.lst B)), z7, z8] = .ok (.lst L) ∧ L = (stepN l).map nd := by
    refine ⟨_, ?_, rfl⟩
    have hz : zipL A B = (List.zip (l.drop 1 ++ [0]) (0 :: l.dropLast)).map fun p => D.tup [nd p.1, nd p.2] := by
      rw [eA, eB]
      exact zipL_map _ _
    refine eComp_of (ds := zipL A B) rfl ?_ ?_
    · rw [hz, List.length_map, List.length_zip]
      simp
      show _ ≤ 16777216
      omega
    · rw [hz]
      rw [comp_all (fun d => match d with | .tup [.int a, .int b] => .int (a + b) | _ => .none) _ (fun d hd => ?_)]
      · refine congrArg Res.ok ?_
        rw [List.map_map]
        unfold stepN
        rw [zipWith_zip, List.map_map]
        apply List.map_congr_left
        intro p _
        show D.int ((p.1 : Int) + (p.2 : Int)) = D.int ((p.1 + p.2 : Nat) : Int)
        rw [Int.natCast_add]
      · rw [List.mem_map] at hd
        obtain ⟨⟨a, b⟩, _, rfl⟩ := hd
        exact ⟨_, rfl, rfl, by simp⟩
  obtain ⟨C, hC, eC'⟩ := hC
  rw [← eA, ← eB, ← eC']
  simp [b_ways_row_1, hA, hB, hC]
theorem ways_row_of {steps bound : Nat} (h1 : steps ≤ 1000) (h2 : bound ≤ 900) : φ_ways_row [nd steps, nd bound] = .ok (.lst ((wrN steps (firstN bound)).map nd)) := by
  have hr1 : rng1 (.int ((bound : Int) + 1)) = .ok (numbers 0 (bound + 1)) := rng1_nat (bound + 1) (by omega)
  have hr2 : rng1 (.int (steps : Int)) = .ok (numbers 0 steps) := rng1_nat steps (by omega)
  have hC : c_ways_row_1 [some (.dat (nd steps)), some (.dat (nd bound)), none, none, none, none, none, none, none] = .ok (.lst ((firstN bound).map nd)) := by
    refine eComp_of (ds := numbers 0 (bound + 1)) (by simp [hr1]) (by rw [numbers_len']; show _ ≤ 16777216; omega) ?_
    rw [comp_all (fun d => match d with | .int k => .int (if k = 0 then 1 else 0) | _ => .none) _ (fun d hd => ?_)]
    · refine congrArg Res.ok ?_
      unfold numbers firstN
      rw [List.map_map, List.map_map]
      apply List.map_congr_left
      intro k _
      by_cases h : k = 0
      · simp [h]
      · simp [h]
    · obtain ⟨k, hk, rfl⟩ := numbers_mem hd
      refine ⟨_, rfl, rfl, ?_⟩
      simp
  have hne : firstN bound ≠ [] := by
    intro z
    have := congrArg List.length z
    simp [firstN] at this
  have hlen : (firstN bound).length ≤ 1000 := by
    simp [firstN]
    omega
  have hloop : ∀ (ds : List D) (l : List Nat) (y4 y5 y6 : Option S), l ≠ [] → l.length ≤ 1000 → ∃ x4 x5 x6, loop (gName 4) b_ways_row_1 ds [some (.dat (nd steps)), some (.dat (nd bound)), some (.dat (.lst (l.map nd))), none, y4, y5, y6, none, none] =
      .next [some (.dat (nd steps)), some (.dat (nd bound)), some (.dat (.lst ((wrN ds.length l).map nd))), none, x4, x5, x6, none, none] := by
    intro ds
    induction ds with
    | nil => exact fun l y4 y5 y6 _ _ => ⟨y4, y5, y6, rfl⟩
    | cons d ds ih =>
      intro l y4 y5 y6 h0 hl
      have e := stepN_len l h0
      obtain ⟨x4, x5, x6, k⟩ := ih (stepN l) (some (.dat d)) (some (.dat (.lst ((l.drop 1 ++ [0]).map nd)))) (some (.dat (.lst ((0 :: l.dropLast).map nd)))) (by
        intro z
        rw [z] at e
        cases l with
        | nil => exact h0 rfl
        | cons x r => simp at e) (by omega)
      refine ⟨x4, x5, x6, ?_⟩
      rw [loop_next rfl (ways_turn hl h0)]
      exact k
  obtain ⟨y4, y5, y6, e⟩ := hloop (numbers 0 steps) (firstN bound) none none none hne hlen
  rw [numbers_len'] at e
  generalize (firstN bound).map nd = L1 at hC e
  generalize (wrN steps (firstN bound)).map nd = L2 at e
  refine run_of (g := g_ways_row) ?_
  simp [g_ways_row, hC, hr2, e]
end
theorem count_of {size bound : Nat} (h1 : size ≤ 300) (h2 : bound ≤ 900) : φ_count [nd size, nd bound] = .ok (nd (cntN size bound)) := by
  have hm : dMin2 (nd bound) (nd size) = .ok (nd (min bound size)) := by
    show Res.ok (D.int (if (size : Int) < bound then (size : Int) else bound)) = _
    by_cases h : size < bound
    · rw [if_pos (by omega), Nat.min_eq_right (by omega)]
    · rw [if_neg (by omega), Nat.min_eq_left (by omega)]
  have h2s : dMul (.int 2) (.int (size : Int)) = .ok (nd (2 * size)) := by
    rw [y_mulL small2]
    congr 2
  have hw := ways_row_of (steps := 2 * size) (bound := min bound size) (by omega) (by omega)
  have hi : at? ((wrN (2 * size) (firstN (min bound size))).map nd) (0 : Int) = some (nd (cntN size bound)) := by
    have e := at_nat (xs := (wrN (2 * size) (firstN (min bound size))).map nd) (i := 0)
    rw [show ((0 : Nat) : Int) = 0 from rfl] at e
    rw [e, List.getElem?_map]
    have hl := wrN_len (2 * size) (firstN (min bound size)) (by
      intro z
      have := congrArg List.length z
      simp [firstN] at this)
    unfold cntN
    cases q : wrN (2 * size) (firstN (min bound size)) with
    | nil =>
      rw [q] at hl
      simp [firstN] at hl
    | cons x r => rfl
  generalize (wrN (2 * size) (firstN (min bound size))).map nd = L at hw hi
  refine run_of (g := g_count) ?_
  simp [g_count, h2s, hm, hw, hi]
/-! ### choices -/
def chN (many : Nat) : Nat → Nat
  | 0 => 1
  | k + 1 => chN many k * (many - k) / (k + 1)
theorem ch_turn (f many k : Nat) (hk : k < many) (hm : many ≤ 1000) : ((nd f, nd many, nd k) = (nd f, nd many, nd k)) → (dMul (nd f) (.int ((many : Int) - k))).bind (fun x => dDiv x (.int ((k : Int) + 1))) = .ok (nd (f * (many - k) / (k + 1))) := by
  intro _
  have hs : small ((many : Int) - k) := ⟨by omega, by omega⟩
  rw [y_mulR hs, bind_ok, y_div (by omega) (by omega)]
  have e1 : (many : Int) - k = ((many - k : Nat) : Int) := by omega
  have e2 : (k : Int) + 1 = ((k + 1 : Nat) : Int) := by omega
  rw [e1, e2, ← Int.natCast_mul, ← Int.natCast_ediv]
theorem ch_loop (b : St) (hb : b = b_choices_1 ∨ b = b_l_choices_1) {many some' : Nat} (h : some' ≤ many) (hm : many ≤ 1000) (z : Option S) : ∃ z', loop (gName 3) b (numbers 0 some') [some (.dat (nd many)), some (.dat (nd some')), some (.dat (.int 1)), z] =
    .next [some (.dat (nd many)), some (.dat (nd some')), some (.dat (nd (chN many some'))), z'] := by
  obtain ⟨η', e1, z', rfl⟩ := loop_inv (g := gName 3) (b := b) (fun k η => ∃ z, η = [some (.dat (nd many)), some (.dat (nd some')), some (.dat (nd (chN many k))), z]) (numbers 0 some') 0 [some (.dat (nd many)), some (.dat (nd some')), some (.dat (.int 1)), z] ⟨z, rfl⟩ (fun i d η hi hP => by
    obtain ⟨hin, rfl⟩ := numbers_get hi
    obtain ⟨z, rfl⟩ := hP
    rw [Nat.zero_add, Int.zero_add]
    have e := ch_turn (chN many i) many i (by omega) hm rfl
    have hs : small ((many : Int) - i) := ⟨by omega, by omega⟩
    rw [y_mulR hs, bind_ok] at e
    refine ⟨_, [some (.dat (nd many)), some (.dat (nd some')), some (.dat (nd (chN many (i + 1)))), some (.dat (nd i))], rfl, .inl ?_, _, rfl⟩
    show _ = Out.next [some (.dat (nd many)), some (.dat (nd some')), some (.dat (nd (chN many i * (many - i) / (i + 1)))), some (.dat (nd i))]
    generalize nd (chN many i * (many - i) / (i + 1)) = v at e ⊢
    rcases hb with rfl | rfl
    · simp [b_choices_1, y_mulR hs, e]
    · simp [b_l_choices_1, y_mulR hs, e])
  rw [numbers_len', Nat.zero_add] at e1
  exact ⟨z', e1⟩
theorem choices_of {many some' : Nat} (h : some' ≤ many) (hm : many ≤ 1000) : φ_choices [nd many, nd some'] = .ok (nd (chN many some')) := by
  obtain ⟨z', e⟩ := ch_loop b_choices_1 (.inl rfl) h hm none
  have hr : rng1 (.int (some' : Int)) = .ok (numbers 0 some') := rng1_nat some' (by omega)
  have h0 : ¬ (some' : Int) < 0 := by omega
  refine run_of (g := g_choices) ?_
  simp [g_choices, h0, hr, e]
theorem choices_neg {many : Nat} {k : Int} (h : k < 0) : φ_choices [nd many, .int k] = .ok (nd 0) := by
  refine run_of (g := g_choices) ?_
  simp [g_choices, h]
theorem l_choices_of {many some' : Nat} (h : some' ≤ many) (hm : many ≤ 1000) : φ_l_choices [nd many, nd some'] = .ok (nd (chN many some')) := by
  obtain ⟨z', e⟩ := ch_loop b_l_choices_1 (.inr rfl) h hm none
  have hr : rng1 (.int (some' : Int)) = .ok (numbers 0 some') := rng1_nat some' (by omega)
  refine run_of (g := g_l_choices) ?_
  simp [g_l_choices, hr, e]
end Bk
end
/-! BkRows -/
section
set_option linter.all false
set_option autoImplicit false
set_option maxRecDepth 100000
/-! BkRows: rows of brackets: heights, is_whole, depth, backward; the laws' own rows -/
namespace Bk
/-- what a sign adds -/
def up (c : Nat) : Int := if c = 41 then -1 else 1
def hts (h : Int) : List Nat → List Int
  | [] => [h]
  | c :: r => h :: hts (h + up c) r
theorem hts_len (h : Int) (s : List Nat) : (hts h s).length = s.length + 1 := by
  induction s generalizing h with
  | nil => rfl
  | cons c r ih =>
    show (hts (h + up c) r).length + 1 = _
    rw [ih]
    rfl
theorem signs_mem {s : List Nat} {d : D} (h : d ∈ signs s) : ∃ c, c ∈ s ∧ d = .str [c] := by
  unfold signs at h
  rw [List.mem_map] at h
  obtain ⟨c, h1, h2⟩ := h
  exact ⟨c, h1, h2.symm⟩
theorem plain_one {c : Nat} (h : c < 128) : plainS [c] = true := by
  unfold plainS
  simp [h]
theorem plain_mem {s : List Nat} (h : plainS s = true) {c : Nat} (hc : c ∈ s) : c < 128 := by
  unfold plainS at h
  rw [List.all_eq_true] at h
  exact of_decide_eq_true (h c hc)
theorem plain_cons {c : Nat} {s : List Nat} (h : plainS (c :: s) = true) : c < 128 ∧ plainS s = true := ⟨plain_mem h List.mem_cons_self, by
  unfold plainS at h ⊢
  rw [List.all_cons, Bool.and_eq_true] at h
  exact h.2⟩
/-- sign == ')' -/
theorem one_lim : (1 : Nat) ≤ lim := by decide
theorem eq_sign {c x : Nat} (h : c < 128) (hx : x < 128) : dEq (.str [c]) (.str [x]) = .ok (.bool (decide (c = x))) := by
  rw [y_eqS (plain_one h) (plain_one hx) one_lim one_lim]
  simp
theorem eq_shut {c : Nat} (h : c < 128) : dEq (.str [c]) (.str [41]) = .ok (.bool (decide (c = 41))) := eq_sign h (by decide)
theorem eq_open {c : Nat} (h : c < 128) : dEq (.str [c]) (.str [40]) = .ok (.bool (decide (c = 40))) := eq_sign h (by decide)
theorem ne_shut {c : Nat} (h : c < 128) : dNe (.str [c]) (.str [41]) = .ok (.bool (!decide (c = 41))) := by
  rw [y_neS (plain_one h) (plain_one (by decide)) one_lim one_lim]
  simp
theorem ne_open {c : Nat} (h : c < 128) : dNe (.str [c]) (.str [40]) = .ok (.bool (!decide (c = 40))) := by
  rw [y_neS (plain_one h) (plain_one (by decide)) one_lim one_lim]
  simp
theorem heights_loop : ∀ (s : List Nat) (acc : List Int) (h : Int) (d : D) (z : Option S), plainS s = true → acc.length + s.length < 16777000 →
    ∃ z', loop (gName 2) b_heights_1 (signs s)
      [some (.dat d), some (.own ((acc ++ [h]).map D.int)), z] = .next [some (.dat d), some (.own ((acc ++ hts h s).map D.int)), z']
  | [], acc, h, d, z, _, _ => ⟨z, rfl⟩
  | c :: r, acc, h, d, z, hp, hl => by
    obtain ⟨h1, h2⟩ := plain_cons hp
    rw [List.length_cons] at hl
    obtain ⟨z', ih⟩ := heights_loop r (acc ++ [h]) (h + up c) d (some (.dat (.str [c]))) h2 (by
      rw [List.length_append, List.length_singleton]
      omega)
    refine ⟨z', ?_⟩
    have e0 : acc ++ hts h (c :: r) = acc ++ [h] ++ hts (h + up c) r := by
      show acc ++ (h :: hts (h + up c) r) = _
      simp
    rw [e0, ← ih]
    refine loop_next (η1 := [some (.dat d), some (.own ((acc ++ [h]).map D.int)), some (.dat (.str [c]))]) rfl ?_
    have hl2 : acc.length + 1 < lim := by
      show _ < 16777216
      omega
    have e3 : h + 1 - 2 * (if c = 41 then 1 else 0) = h + up c := by
      unfold up
      by_cases k : c = 41
      · simp [k]
        omega
      · simp [k]
    simp [b_heights_1, eq_shut h1, at_last, dMul, small2, hl2, e3]
theorem heights_of {s : List Nat} (hp : plainS s = true) (hl : s.length < 16777000) : φ_heights [.str s] = .ok (.lst ((hts 0 s).map D.int)) := by
  obtain ⟨z', h⟩ := heights_loop s [] 0 (.str s) none hp (by simpa using hl)
  refine run_of (g := g_heights) ?_
  simp only [List.map_nil, List.nil_append] at h
  simp at h
  simp [g_heights, h]
/-! ### whole rows -/
/-- whole from a height on -/
def wholeF : Nat → List Nat → Bool
  | h, [] => h == 0
  | h, c :: r => if c = 40 then wholeF (h + 1) r else if c = 41 then (match h with
    | 0 => false
    | h + 1 => wholeF h r) else false
def whole (s : List Nat) : Bool := wholeF 0 s
def brack (s : List Nat) : Bool := s.all fun c => decide (c = 40) || decide (c = 41)
theorem brack_cons {c : Nat} {s : List Nat} : brack (c :: s) = ((decide (c = 40) || decide (c = 41)) && brack s) := rfl
theorem brack_mem {s : List Nat} (h : brack s = true) {c : Nat} (hc : c ∈ s) : c = 40 ∨ c = 41 := by
  unfold brack at h
  rw [List.all_eq_true] at h
  simpa using h c hc
theorem brack_plain {s : List Nat} (h : brack s = true) : plainS s = true := by
  unfold plainS
  rw [List.all_eq_true]
  intro c hc
  rcases brack_mem h hc with rfl | rfl <;> decide
theorem whole_brack : ∀ (s : List Nat) (h : Nat), wholeF h s = true → brack s = true
  | [], _, _ => rfl
  | c :: r, h, w => by
    unfold wholeF at w
    rw [brack_cons]
    by_cases k : c = 40
    · rw [if_pos k] at w
      simp [k, whole_brack r _ w]
    · rw [if_neg k] at w
      by_cases k2 : c = 41
      · rw [if_pos k2] at w
        cases h with
        | zero => cases w
        | succ h => simp [k2, whole_brack r _ w]
      · rw [if_neg k2] at w
        cases w
theorem least_low : ∀ (r : List Int) (m : Int), least m r = m ↔ ∀ y ∈ r, m ≤ y := by
  have le : ∀ (r : List Int) (m : Int), least m r ≤ m := by
    intro r
    induction r with
    | nil => exact fun m => Int.le_refl m
    | cons x r ih =>
      intro m
      show least (if x < m then x else m) r ≤ m
      by_cases h : x < m
      · rw [if_pos h]
        have := ih x
        omega
      · rw [if_neg h]
        exact ih m
  intro r
  induction r with
  | nil =>
    intro m
    exact ⟨fun _ _ h => (nomatch h), fun _ => rfl⟩
  | cons x r ih =>
    intro m
    show least (if x < m then x else m) r = m ↔ _
    by_cases h : x < m
    · rw [if_pos h]
      constructor
      · intro e
        have := le r x
        omega
      · intro e
        have := e x List.mem_cons_self
        omega
    · rw [if_neg h, ih]
      constructor
      · intro e y hy
        rcases List.mem_cons.mp hy with rfl | hy
        · omega
        · exact e y hy
      · exact fun e y hy => e y (List.mem_cons_of_mem _ hy)
theorem hts_last : ∀ (s : List Nat) (h : Int), ∃ pre z, hts h s = pre ++ [z] ∧ (brack s = true → ∀ n : Nat, h = n → ((∀ y ∈ hts h s, 0 ≤ y) ∧ z = 0 ↔ wholeF n s = true))
  | [], h => ⟨[], h, rfl, fun _ n hn => by
      unfold hts wholeF
      simp
      omega⟩
  | c :: r, h => by
    obtain ⟨pre, z, e, ih⟩ := hts_last r (h + up c)
    refine ⟨h :: pre, z, by show h :: hts (h + up c) r = _; rw [e]; rfl, fun hb n hn => ?_⟩
    rw [brack_cons, Bool.and_eq_true] at hb
    have hc : c = 40 ∨ c = 41 := by simpa using hb.1
    have e0 : (∀ y ∈ hts h (c :: r), 0 ≤ y) ↔ 0 ≤ h ∧ ∀ y ∈ hts (h + up c) r, 0 ≤ y := by
      show (∀ y ∈ h :: hts (h + up c) r, 0 ≤ y) ↔ _
      simp
    rw [e0]
    subst hn
    rcases hc with rfl | rfl
    · have := ih hb.2 (n + 1) (by unfold up; simp)
      show _ ↔ wholeF (n + 1) r = true
      rw [← this]
      simp
    · cases n with
      | zero =>
        have h1 : (up 41 : Int) ∈ hts (((0 : Nat) : Int) + up 41) r := by
          cases r with
          | nil => simp [hts]
          | cons x r => simp [hts]
        show _ ↔ false = true
        constructor
        · intro q
          have := q.1.2 _ h1
          unfold up at this
          simp at this
        · intro q
          cases q
      | succ n =>
        have := ih hb.2 n (by unfold up; simp; omega)
        show _ ↔ wholeF n r = true
        rw [← this]
        simp
        omega
theorem isTy_str {s : List Nat} : bIs .str (.str s) = .ok (.bool true) := rfl
theorem inS_eq {c : Nat} : dInS (.str [c]) (.str [40, 41]) = .ok (.bool (decide (c = 40) || decide (c = 41))) := by
  show Res.ok (D.bool (decide (c ∈ [40, 41]))) = _
  by_cases h : c = 40
  · simp [h]
  · by_cases h2 : c = 41 <;> simp [h, h2]
/-- is_whole of a text -/
theorem is_whole_of {s : List Nat} (hp : plainS s = true) (hl : s.length < 16777000) : φ_is_whole [.str s] = .ok (.bool (decide (s.length ≤ 120) && whole s)) := by
  have hll : s.length ≤ lim := by
    show _ ≤ 16777216
    omega
  obtain ⟨L, hc, hb⟩ : ∃ L, c_is_whole_1 [some (.dat (.str s)), none, none] = .ok (.lst L) ∧ bAll (.lst L) = .ok (.bool (brack s)) := by
    refine ⟨(s.map fun c => decide (c = 40) || decide (c = 41)).map D.bool, ?_, by
      rw [bAll_map, List.all_map]
      rfl⟩
    refine eComp_of (ds := signs s) (by simp) (by unfold signs; rw [List.length_map]; exact hll) ?_
    have e := comp_all (g := gName 1) (t := tYes) (e := eBin dInS (eVar 1) (eC (.str [40, 41]))) (η := wipes [some (.dat (.str s)), none, none] [1]) (fun d => match d with | .str [c] => .bool (decide (c = 40) || decide (c = 41)) | _ => .none) (signs s) (fun d hd => by
      obtain ⟨c, _, rfl⟩ := signs_mem hd
      exact ⟨_, rfl, rfl, by simp [inS_eq]⟩)
    rw [e]
    unfold signs
    rw [List.map_map, List.map_map]
    rfl
  obtain ⟨pre, z, e1, e2⟩ := hts_last s 0
  refine run_of (g := g_is_whole) ?_
  unfold g_is_whole
  by_cases h120 : s.length ≤ 120
  · have h120' : ¬ (120 : Int) < s.length := by omega
    cases hbr : brack s with
    | false =>
      have hw : whole s = false := by
        cases q : whole s with
        | false => rfl
        | true =>
          have := whole_brack s 0 q
          rw [hbr] at this
          cases this
      simp [isTy_str, hll, hc, hb, hbr, hw, h120']
    | true =>
      have key : (decide (least 0 (hts 0 s).tail = 0) && decide (z = 0)) = whole s := by
        have k := e2 hbr 0 rfl
        have h0 : ∃ r, hts 0 s = 0 :: r := by
          cases s with
          | nil => exact ⟨[], rfl⟩
          | cons c r => exact ⟨_, rfl⟩
        obtain ⟨r, h0⟩ := h0
        rw [h0] at k ⊢
        have k2 := least_low r 0
        unfold whole
        rw [Bool.eq_iff_iff, ← k, Bool.and_eq_true, decide_eq_true_eq, decide_eq_true_eq, List.tail_cons, k2]
        simp
      have hm : bMin (.lst ((hts 0 s).map D.int)) = .ok (.int (least 0 (hts 0 s).tail)) := by
        cases s with
        | nil => exact bMin_map 0 []
        | cons c r => exact bMin_map 0 _
      have hz : at? ((hts 0 s).map D.int) (-1) = some (.int z) := by
        rw [e1, List.map_append]
        exact at_last
      have hh : ∃ L, φ_heights [.str s] = .ok (.lst L) ∧ bMin (.lst L) = .ok (.int (least 0 (hts 0 s).tail)) ∧ at? L (-1) = some (.int z) := ⟨_, heights_of hp hl, hm, hz⟩
      obtain ⟨L2, hh, hm, hz⟩ := hh
      rw [← key]
      simp [isTy_str, hll, hc, hb, hbr, h120', h120, hh, hm, hz]
      cases k : decide (least 0 (hts 0 s).tail = 0) <;> simp_all
  · have h120' : (120 : Int) < s.length := by omega
    simp [isTy_str, hll, h120, h120']
/-! ### the laws' own tools -/
def mix (c p m : Int) : Int := c * 48271 % p % m
theorem mix_of {c p m : Int} (hp : 0 < p) (hm : 0 < m) : φ_l_mix [.int c, .int p, .int m] = .ok (.int (mix c p m)) := by
  have h : small 48271 := by decide
  refine run_of (g := g_l_mix) ?_
  simp [g_l_mix, y_mulR h, y_mod hp, y_mod hm, mix]
theorem mix_range {c p m : Int} (hm : 0 < m) : 0 ≤ mix c p m ∧ mix c p m < m := ⟨Int.emod_nonneg _ (by omega), Int.emod_lt_of_pos _ hm⟩
theorem l_whole_int {i : Int} : φ_l_whole [.int i] = .ok (.bool true) := by
  rfl
theorem sign_dict {c : Nat} {z : D} : dSign (.str [c]) z = .ok (if c = 40 then .int 1 else if c = 41 then .int (-1) else z) := by
  show Res.ok (if [c] = [40] then D.int 1 else if [c] = [41] then D.int (-1) else z) = _
  simp
theorem l_is_whole_loop : ∀ (s : List Nat) (h : Nat) (x : D) (z : Option S), h + s.length ≤ 900 →
    ∃ o, loop (gName 2) b_l_is_whole_1 (signs s) [some (.dat x), some (.dat (.int h)), z] = o ∧
      ((o = .ret (.bool false) ∧ wholeF h s = false) ∨ ∃ (h' : Nat) (z' : Option S), o = .next [some (.dat x), some (.dat (.int h')), z'] ∧ decide (h' = 0) = wholeF h s)
  | [], h, x, z, _ => ⟨_, rfl, .inr ⟨h, z, rfl, by
      unfold wholeF
      rfl⟩⟩
  | c :: r, h, x, z, hl => by
    rw [List.length_cons] at hl
    by_cases k : c = 40
    · subst k
      obtain ⟨o, e, q⟩ := l_is_whole_loop r (h + 1) x (some (.dat (.str [40]))) (by omega)
      refine ⟨o, ?_, q⟩
      rw [← e]
      refine loop_next (η1 := [some (.dat x), some (.dat (.int h)), some (.dat (.str [40]))]) rfl ?_
      have e2 : ¬ ((h : Int) + 1 < 0) := by omega
      simp [b_l_is_whole_1, sign_dict, e2]
    · by_cases k2 : c = 41
      · subst k2
        cases h with
        | zero =>
          refine ⟨_, loop_ret (η1 := [some (.dat x), some (.dat (.int 0)), some (.dat (.str [41]))]) rfl ?_, .inl ⟨rfl, rfl⟩⟩
          simp [b_l_is_whole_1, sign_dict]
        | succ h =>
          obtain ⟨o, e, q⟩ := l_is_whole_loop r h x (some (.dat (.str [41]))) (by omega)
          refine ⟨o, ?_, q⟩
          rw [← e]
          refine loop_next (η1 := [some (.dat x), some (.dat (.int (h + 1 : Nat))), some (.dat (.str [41]))]) rfl ?_
          have e2 : ((h : Int) + 1 + -1) = h := by omega
          have e3 : ¬ ((h : Int) < 0) := by omega
          simp [b_l_is_whole_1, sign_dict, e2, e3]
      · refine ⟨_, loop_ret (η1 := [some (.dat x), some (.dat (.int h)), some (.dat (.str [c]))]) rfl ?_, .inl ⟨rfl, ?_⟩⟩
        · have e2 : ((h : Int) + -999 < 0) := by omega
          simp [b_l_is_whole_1, sign_dict, k, k2, e2]
        · unfold wholeF
          rw [if_neg k, if_neg k2]
theorem l_is_whole_of {s : List Nat} (hl : s.length ≤ 900) : φ_l_is_whole [.str s] = .ok (.bool (whole s)) := by
  obtain ⟨o, e, q⟩ := l_is_whole_loop s 0 (.str s) none (by omega)
  refine run_of (g := g_l_is_whole) ?_
  unfold g_l_is_whole
  rcases q with ⟨rfl, q⟩ | ⟨h', z', rfl, q⟩
  · simp at e
    simp [e, whole, q]
  · simp at e
    have q2 : decide (h' = 0) = whole s := q
    simp [e, q2]
/-- the law's own row: some whole row of its size -/
def RowAt (c : Int) (n k : Nat) (η : Env) : Prop := ∃ (s : List Nat) (h : Nat) (z4 z5 : Option S), η = [some (.dat (.int c)), some (.dat (.int n)), some (.dat (.str s)), some (.dat (.int h)), z4, z5] ∧ s.length = k ∧ h + k ≤ 2 * n ∧ (h + k) % 2 = 0 ∧ ∀ t, wholeF 0 (s ++ t) = wholeF h t
theorem row_turn (c : Int) {n k : Nat} (hn : n ≤ 1000) (hk : k < 2 * n) {η : Env} (h : RowAt c n k η) : ∃ η1 η2, gName 4 (.int (k : Int)) η = .ok η1 ∧ (b_l_row_1 η1 = .next η2 ∨ b_l_row_1 η1 = .ct η2) ∧ RowAt c n (k + 1) η2 := by
  obtain ⟨s, h, z4, z5, rfl, hs, hle, hev, hw⟩ := h
  have hls : s.length + 1 ≤ lim := by
    show _ ≤ 16777216
    omega
  by_cases hc : h = 0 ∨ (h : Int) < 2 * n - k ∧ mix (c + 17 * k) 9973 5 < 3
  · have h3 : h + k + 2 ≤ 2 * n := by
      rcases hc with hc | hc <;> omega
    refine ⟨_, [some (.dat (.int c)), some (.dat (.int n)), some (.dat (.str (s ++ [40]))), some (.dat (.int (h + 1 : Nat))), some (.dat (.int k)), some (.dat (.int (2 * n - k)))], rfl, .inl ?_, s ++ [40], h + 1, _, _, rfl, by simp [hs], by omega, by omega, fun t => ?_⟩
    · by_cases h0 : h = 0
      · simp [b_l_row_1, y_mulL small2, y_mulL small17, mix_of, hls, h0]
      · have hc := hc.resolve_left h0
        simp [b_l_row_1, y_mulL small2, y_mulL small17, mix_of, hls, h0, hc]
    · rw [List.append_assoc, hw]
      rfl
  · have h0 : h ≠ 0 := fun z => hc (.inl z)
    obtain ⟨h', rfl⟩ : ∃ h', h = h' + 1 := ⟨h - 1, by omega⟩
    refine ⟨_, [some (.dat (.int c)), some (.dat (.int n)), some (.dat (.str (s ++ [41]))), some (.dat (.int h')), some (.dat (.int k)), some (.dat (.int (2 * n - k)))], rfl, .inl ?_, s ++ [41], h', _, _, rfl, by simp [hs], by omega, by omega, fun t => ?_⟩
    · have hz : ¬ ((h' : Int) + 1 = 0) := by omega
      by_cases h1 : (h' : Int) + 1 < 2 * n - k
      · have h2 : ¬ mix (c + 17 * k) 9973 5 < 3 := fun z => hc (.inr ⟨by omega, z⟩)
        simp [b_l_row_1, y_mulL small2, y_mulL small17, mix_of, hls, hz, h1, h2]
      · simp [b_l_row_1, y_mulL small2, y_mulL small17, mix_of, hls, hz, h1]
    · rw [List.append_assoc, hw]
      rfl

theorem hrng1 (n : Nat) (hn : n ≤ 1000) : rng1 (.int (2 * (n : Int))) = .ok (numbers 0 (2 * n)) := by
    have h := rng1_nat (2 * n) (by omega)
    have e : ((2 * n : Nat) : Int) = 2 * (n : Int) := by omega
    rw [e] at h
    exact h
theorem l_row_of (c : Int) {n : Nat} (hn : n ≤ 1000) : ∃ s, φ_l_row [.int c, .int n] = .ok (.str s) ∧ s.length = 2 * n ∧ whole s = true := by
  have hrng := hrng1 n hn
  obtain ⟨η', e1, e2⟩ := loop_inv (g := gName 4) (b := b_l_row_1) (RowAt c n) (numbers 0 (2 * n)) 0 [some (.dat (.int c)), some (.dat (.int n)), some (.dat (.str [])), some (.dat (.int 0)), none, none]
    ⟨[], 0, none, none, rfl, rfl, by omega, rfl, fun t => rfl⟩ (fun i d η hi hP => by
      obtain ⟨hin, rfl⟩ := numbers_get hi
      rw [Nat.zero_add] at hP
      rw [Nat.zero_add, Int.zero_add]
      exact row_turn c hn hin hP)
  rw [numbers_len', Nat.zero_add] at e2
  obtain ⟨s, h, z4, z5, rfl, hs, hle, hev, hw⟩ := e2
  have h0 : h = 0 := by omega
  subst h0
  refine ⟨s, ?_, hs, by
    have := hw []
    rw [List.append_nil] at this
    rw [show whole s = wholeF 0 s from rfl, this]
    rfl⟩
  have hm : g_l_row [some (.dat (.int c)), some (.dat (.int n)), none, none, none, none] = .ret (.str s) := by
    simp [g_l_row, y_mulL small2, hrng, e1]
  exact run_of (g := g_l_row) hm
theorem depth_of {s : List Nat} (hp : plainS s = true) (hl : s.length < 16777000) : φ_depth [.str s] = .ok (.int (most 0 (hts 0 s).tail)) := by
  have hm : ∃ L, φ_heights [.str s] = .ok (.lst L) ∧ bMax (.lst L) = .ok (.int (most 0 (hts 0 s).tail)) := by
    refine ⟨_, heights_of hp hl, ?_⟩
    cases s with
    | nil => exact bMax_map 0 []
    | cons c r => exact bMax_map 0 _
  obtain ⟨L, h1, h2⟩ := hm
  refine run_of (g := g_depth) ?_
  simp [g_depth, h1, h2]
/-! ### backward -/
def flip (c : Nat) : Nat := if c = 41 then 40 else 41
def back (s : List Nat) : List Nat := s.reverse.map flip
theorem back_len (s : List Nat) : (back s).length = s.length := by simp [back]
theorem back_of {s : List Nat} (hp : plainS s = true) (hl : s.length < 16777000) : φ_backward [.str s] = .ok (.str (back s)) := by
  have hll : s.length ≤ lim := by
    show _ ≤ 16777216
    omega
  have hc : ∃ L, c_backward_1 [some (.dat (.str s)), none] = .ok (.lst L) ∧ dJoin (.str []) (.lst L) = .ok (.str (back s)) := by
    refine ⟨((back s).map fun c => [c]).map D.str, ?_, ?_⟩
    · refine eComp_of (ds := signs s.reverse) (by simp [hll]) (by unfold signs; rw [List.length_map, List.length_reverse]; exact hll) ?_
      rw [comp_all (fun d => match d with | .str [c] => .str [flip c] | _ => .none) (signs s.reverse) (fun d hd => ?_)]
      · unfold signs back
        rw [List.map_map, List.map_map, List.map_map]
        rfl
      · obtain ⟨c, hc, rfl⟩ := signs_mem hd
        have h1 : c < 128 := plain_mem hp (List.mem_reverse.mp hc)
        have h2 : (2 : Nat) ≤ lim := by decide
        refine ⟨_, rfl, rfl, ?_⟩
        by_cases h : c = 41
        · subst h
          have h3 : at? [41, 40] (1 : Int) = some 40 := rfl
          simp [eq_shut h1, flip, h2, h3]
        · have h3 : at? [41, 40] (0 : Int) = some 41 := rfl
          simp [eq_shut h1, flip, h, h2, h3]
    · rw [dJoin_map, joinS_nil]
      · congr 2
        induction back s with
        | nil => rfl
        | cons c r ih => simp [ih]
      · rw [lenSum_ones, back_len]
        simp
        exact hll
  obtain ⟨L, h1, h2⟩ := hc
  refine run_of (g := g_backward) ?_
  simp [g_backward, h1, h2]
theorem brack_append {a b : List Nat} : brack (a ++ b) = (brack a && brack b) := by
  unfold brack
  rw [List.all_append]
theorem back_brack {s : List Nat} (h : brack s = true) : brack (back s) = true := by
  unfold brack
  rw [List.all_eq_true]
  intro c hc
  unfold back at hc
  rw [List.mem_map] at hc
  obtain ⟨x, _, rfl⟩ := hc
  unfold flip
  split <;> rfl
theorem back_back {s : List Nat} (h : brack s = true) : back (back s) = s := by
  unfold back
  rw [← List.map_reverse, List.reverse_reverse, List.map_map]
  have : ∀ c ∈ s, (flip ∘ flip) c = c := by
    intro c hc
    rcases brack_mem h hc with rfl | rfl <;> rfl
  rw [List.map_congr_left this]
  simp
/-- the walk of a row that is put together -/
def total (s : List Nat) : Int := (s.map up).sum
theorem hts_append (a b : List Nat) (h : Int) : hts h (a ++ b) = (hts h a).dropLast ++ hts (h + total a) b := by
  induction a generalizing h with
  | nil => simp [hts, total]
  | cons c r ih =>
    show h :: hts (h + up c) (r ++ b) = _
    rw [ih]
    have e : hts h (c :: r) = h :: hts (h + up c) r := rfl
    have ne : hts (h + up c) r ≠ [] := by
      have := hts_len (h + up c) r
      intro z
      rw [z] at this
      simp at this
    rw [e, List.dropLast_cons_of_ne_nil ne]
    have e2 : h + total (c :: r) = h + up c + total r := by
      show h + ((c :: r).map up).sum = _
      rw [List.map_cons, List.sum_cons]
      unfold total
      omega
    rw [e2]
    rfl
theorem hts_snoc (s : List Nat) (h : Int) : ∃ pre, hts h s = pre ++ [h + total s] := by
  induction s generalizing h with
  | nil => exact ⟨[], by simp [hts, total]⟩
  | cons c r ih =>
    obtain ⟨pre, e⟩ := ih (h + up c)
    refine ⟨h :: pre, ?_⟩
    show h :: hts (h + up c) r = _
    rw [e]
    have e2 : h + total (c :: r) = h + up c + total r := by
      show h + ((c :: r).map up).sum = _
      rw [List.map_cons, List.sum_cons]
      unfold total
      omega
    rw [e2]
    rfl
theorem wholeF_iff {s : List Nat} {n : Nat} : wholeF n s = true ↔ brack s = true ∧ (∀ y ∈ hts n s, 0 ≤ y) ∧ n + total s = 0 := by
  obtain ⟨pre, z, e1, e2⟩ := hts_last s n
  obtain ⟨pre2, e3⟩ := hts_snoc s n
  have ez : z = n + total s := by
    rw [e1] at e3
    have := congrArg (fun l : List Int => l.getLast?) e3
    simpa using this
  constructor
  · intro h
    have hb := whole_brack s n h
    have := (e2 hb n rfl).mpr h
    exact ⟨hb, this.1, by omega⟩
  · rintro ⟨hb, h1, h2⟩
    exact (e2 hb n rfl).mp ⟨h1, by omega⟩
theorem whole_iff {s : List Nat} : whole s = true ↔ brack s = true ∧ (∀ y ∈ hts 0 s, 0 ≤ y) ∧ total s = 0 := by
  have := wholeF_iff (s := s) (n := 0)
  simpa [whole] using this
theorem total_append (a b : List Nat) : total (a ++ b) = total a + total b := by
  unfold total
  rw [List.map_append, List.sum_append]
theorem total_back {s : List Nat} (h : brack s = true) : total (back s) = - total s := by
  induction s with
  | nil => rfl
  | cons c r ih =>
    rw [brack_cons, Bool.and_eq_true] at h
    have e : back (c :: r) = back r ++ [flip c] := by simp [back]
    rw [e, total_append, ih h.2]
    have hc : c = 40 ∨ c = 41 := by simpa using h.1
    have e2 : total (c :: r) = up c + total r := by
      unfold total
      rw [List.map_cons, List.sum_cons]
    rw [e2]
    rcases hc with rfl | rfl
    · show - total r + total [41] = _
      have : total [41] = -1 := rfl
      have h3 : up 40 = 1 := rfl
      omega
    · show - total r + total [40] = _
      have : total [40] = 1 := rfl
      have h3 : up 41 = -1 := rfl
      omega
theorem hts_back {s : List Nat} (hb : brack s = true) (h : Int) : hts (h + total s) (back s) = (hts h s).reverse := by
  induction s generalizing h with
  | nil => simp [hts, total, back]
  | cons c r ih =>
    rw [brack_cons, Bool.and_eq_true] at hb
    have e : back (c :: r) = back r ++ [flip c] := by simp [back]
    have e2 : h + total (c :: r) = h + up c + total r := by
      show h + ((c :: r).map up).sum = _
      rw [List.map_cons, List.sum_cons]
      unfold total
      omega
    rw [e, e2, hts_append, ih hb.2, total_back hb.2]
    have hc : c = 40 ∨ c = 41 := by simpa using hb.1
    have e3 : h + up c + total r + - total r = h + up c := by omega
    have e4 : hts (h + up c) [flip c] = [h + up c, h] := by
      show [h + up c, h + up c + up (flip c)] = _
      have : up c + up (flip c) = 0 := by rcases hc with rfl | rfl <;> rfl
      have e5 : h + up c + up (flip c) = h := by omega
      rw [e5]
    rw [e3, e4]
    have e6 : hts h (c :: r) = h :: hts (h + up c) r := rfl
    have e7 : ∃ t, hts (h + up c) r = (h + up c) :: t := by
      cases r with
      | nil => exact ⟨[], rfl⟩
      | cons x r => exact ⟨_, rfl⟩
    obtain ⟨t, e7⟩ := e7
    rw [e6, e7]
    simp
theorem whole_back {s : List Nat} (h : whole s = true) : whole (back s) = true ∧ hts 0 (back s) = (hts 0 s).reverse := by
  obtain ⟨h1, h2, h3⟩ := whole_iff.mp h
  have e := hts_back h1 0
  rw [h3] at e
  have e : hts 0 (back s) = (hts 0 s).reverse := e
  refine ⟨whole_iff.mpr ⟨back_brack h1, ?_, by rw [total_back h1, h3]; rfl⟩, e⟩
  rw [e]
  intro y hy
  exact h2 y (List.mem_reverse.mp hy)
theorem most_is : ∀ (r : List Int) (m : Int), (∀ y ∈ m :: r, y ≤ most m r) ∧ most m r ∈ m :: r
  | [], m => ⟨fun y hy => by
      rw [List.mem_singleton] at hy
      rw [hy]
      exact Int.le_refl m, List.mem_singleton.mpr rfl⟩
  | x :: r, m => by
    show (∀ y ∈ m :: x :: r, y ≤ most (if m < x then x else m) r) ∧ most (if m < x then x else m) r ∈ m :: x :: r
    by_cases h : m < x
    · rw [if_pos h]
      obtain ⟨h1, h2⟩ := most_is r x
      refine ⟨fun y hy => ?_, List.mem_cons_of_mem _ h2⟩
      rcases List.mem_cons.mp hy with rfl | hy
      · have := h1 x List.mem_cons_self
        omega
      · exact h1 y hy
    · rw [if_neg h]
      obtain ⟨h1, h2⟩ := most_is r m
      refine ⟨fun y hy => ?_, ?_⟩
      · rcases List.mem_cons.mp hy with rfl | hy
        · exact h1 _ List.mem_cons_self
        · rcases List.mem_cons.mp hy with rfl | hy
          · have := h1 m List.mem_cons_self
            omega
          · exact h1 y (List.mem_cons_of_mem _ hy)
      · rcases List.mem_cons.mp h2 with h2 | h2
        · rw [h2]
          exact List.mem_cons_self
        · exact List.mem_cons_of_mem _ (List.mem_cons_of_mem _ h2)
theorem most_same {m n : Int} {r t : List Int} (h : ∀ y, y ∈ m :: r ↔ y ∈ n :: t) : most m r = most n t := by
  obtain ⟨h1, h2⟩ := most_is r m
  obtain ⟨h3, h4⟩ := most_is t n
  have := h1 _ ((h _).mpr h4)
  have := h3 _ ((h _).mp h2)
  omega
theorem hts_head (h : Int) (s : List Nat) : hts h s = h :: (hts h s).tail := by
  cases s <;> rfl
theorem depth_back {s : List Nat} (h : whole s = true) : most 0 (hts 0 (back s)).tail = most 0 (hts 0 s).tail := by
  apply most_same
  intro y
  rw [← hts_head, ← hts_head, (whole_back h).2, List.mem_reverse]
theorem total_cons (c : Nat) (r : List Nat) : total (c :: r) = up c + total r := by
  unfold total
  rw [List.map_cons, List.sum_cons]
theorem hts_get (s : List Nat) (h : Int) (k : Nat) (hk : k ≤ s.length) : (hts h s)[k]? = some (h + total (s.take k)) := by
  induction s generalizing h k with
  | nil =>
    have : k = 0 := by simpa using hk
    subst this
    simp [hts, total]
  | cons c r ih =>
    cases k with
    | zero => simp [hts, total]
    | succ k =>
      rw [List.length_cons] at hk
      show (h :: hts (h + up c) r)[k + 1]? = _
      rw [List.getElem?_cons_succ, ih (h + up c) k (by omega), List.take_succ_cons, total_cons]
      congr 1
      omega
theorem total_count {s : List Nat} (h : brack s = true) : total s = (s.count 40 : Nat) - (s.count 41 : Nat) := by
  induction s with
  | nil => rfl
  | cons c r ih =>
    rw [brack_cons, Bool.and_eq_true] at h
    have hc : c = 40 ∨ c = 41 := by simpa using h.1
    rw [total_cons, ih h.2]
    rcases hc with rfl | rfl
    · have e : up 40 = 1 := rfl
      simp [e]
      omega
    · have e : up 41 = -1 := rfl
      simp [e]
      omega
theorem brack_take {s : List Nat} (h : brack s = true) (k : Nat) : brack (s.take k) = true := by
  unfold brack
  rw [List.all_eq_true]
  intro c hc
  have := brack_mem h (List.mem_of_mem_take hc)
  simpa using this
theorem at_neg {α : Type} {xs : List α} {k : Nat} (h : k < xs.length) : at? xs (-1 - (k : Int)) = xs.reverse[k]? := by
  unfold at? ix
  rw [if_neg (by omega), if_pos (by omega), List.getElem?_reverse h]
  have e : (-1 - (k : Int) + (xs.length : Int)).toNat = xs.length - 1 - k := by omega
  show (some (-1 - (k : Int) + (xs.length : Int)).toNat).bind _ = _
  rw [e]
  rfl
end Bk
end
/-! BkAll -/
section
set_option linter.all false
set_option autoImplicit false
set_option maxRecDepth 100000
/-! BkAll: the laws' own list of all rows of a size; sorting of texts -/
namespace Bk
/-! ### sorting -/
theorem str_le (a b : List Nat) : D.le (.str a) (.str b) = !decide (b < a) := by
  unfold D.le D.lt
  rfl
theorem sort_strs {l : List (List Nat)} (h1 : ∀ s ∈ l, plainS s = true ∧ s.length ≤ lim) (h2 : l.length ≤ lim) : bSorted (.lst (l.map D.str)) = .ok (.lst ((l.mergeSort fun a b => !decide (b < a)).map D.str)) := by
  have hs : sortable (l.map D.str) = true := by
    unfold sortable
    rw [Bool.and_eq_true, Bool.and_eq_true, Bool.and_eq_true]
    refine ⟨⟨⟨?_, ?_⟩, ?_⟩, ?_⟩
    · rw [List.all_eq_true]
      intro a ha
      rw [List.all_eq_true]
      intro b hb
      rw [List.mem_map] at ha hb
      obtain ⟨x, _, rfl⟩ := ha
      obtain ⟨y, _, rfl⟩ := hb
      rfl
    · rw [Bool.or_eq_true]
      right
      rw [List.all_eq_true]
      intro a ha
      rw [List.mem_map] at ha
      obtain ⟨x, _, rfl⟩ := ha
      rfl
    · rw [List.all_eq_true]
      intro a ha
      rw [List.mem_map] at ha
      obtain ⟨x, hx, rfl⟩ := ha
      show (plainS x && decide (x.length ≤ lim)) = true
      rw [(h1 x hx).1, decide_eq_true (h1 x hx).2]
      rfl
    · rw [List.length_map]
      exact decide_eq_true h2
  show (if sortable (l.map D.str) = true then Res.ok (D.lst ((l.map D.str).mergeSort D.le)) else .bad) = _
  rw [if_pos hs]
  rw [List.map_mergeSort (r := fun a b : List Nat => !decide (b < a)) (s := D.le) fun a _ b _ => (str_le a b).symm]
theorem le_trans' (a b c : List Nat) (h1 : (!decide (b < a)) = true) (h2 : (!decide (c < b)) = true) : (!decide (c < a)) = true := by
  rw [Bool.not_eq_true', decide_eq_false_iff_not, List.not_lt] at h1 h2 ⊢
  exact List.le_trans h1 h2
theorem le_total' (a b : List Nat) : ((!decide (b < a)) || (!decide (a < b))) = true := by
  rw [Bool.or_eq_true, Bool.not_eq_true', Bool.not_eq_true', decide_eq_false_iff_not, decide_eq_false_iff_not, List.not_lt, List.not_lt]
  exact List.le_total a b
/-! ### all rows -/
theorem flat_perm {α β : Type} {f g : α → List β} (l : List α) (h : ∀ a, (f a).Perm (g a)) : (l.flatMap f).Perm (l.flatMap g) := by
  induction l with
  | nil => exact List.Perm.refl _
  | cons x r ih =>
    rw [List.flatMap_cons, List.flatMap_cons]
    exact (h x).append ih
def wrapS (one other : List Nat) : List Nat := [40] ++ one ++ [41] ++ other
def allF : Nat → Nat → List (List Nat)
  | 0, _ => []
  | f + 1, n => if n = 0 then [[]] else (List.range n).flatMap fun k => (allF f k).flatMap fun one => (allF f (n - 1 - k)).map fun other => wrapS one other
abbrev allN (n : Nat) : List (List Nat) := allF 7 n
theorem allF_same : ∀ k, k < 6 → allF 6 k = allF 7 k := by decide +kernel
theorem allN_len : ∀ k, k < 7 → (allN k).length ≤ 132 := by decide +kernel
theorem allN_mem : ∀ k, k < 7 → ∀ s ∈ allN k, s.length = 2 * k ∧ brack s = true := by decide +kernel
theorem allN_pos {n : Nat} (h : 0 < n) (h6 : n ≤ 6) : allN n = (List.range n).flatMap fun k => (allN k).flatMap fun one => (allN (n - 1 - k)).map fun other => wrapS one other := by
  show (if n = 0 then [[]] else _) = _
  rw [if_neg (by omega)]
  have e : ∀ k ∈ List.range n, ((allF 6 k).flatMap fun one => (allF 6 (n - 1 - k)).map fun other => wrapS one other) = (allN k).flatMap fun one => (allN (n - 1 - k)).map fun other => wrapS one other := by
    intro k hk
    rw [List.mem_range] at hk
    rw [allF_same k (by omega), allF_same (n - 1 - k) (by omega)]
  show ((List.range n).map _).flatten = ((List.range n).map _).flatten
  rw [List.map_congr_left e]
section
variable {self : List D → Res D}
theorem all_inner {n k : Nat} {L2 : List (List Nat)} (hk : k < n) (h6 : n ≤ 6) (ho : self [nd (n - 1 - k)] = .ok (.lst (L2.map D.str))) (h2 : L2.length ≤ 132) (h3 : ∀ s ∈ L2, s.length ≤ 12) :
    ∀ (L1 acc : List (List Nat)) (z3 z4 : Option S), (∀ s ∈ L1, s.length ≤ 12) → acc.length + 132 * L1.length ≤ 1000000 → ∃ z3', loop (gName 3) (b_l_all_1 self) (L1.map D.str) [some (.dat (nd n)), some (.own (acc.map D.str)), some (.dat (nd k)), z3, z4] =
      .next [some (.dat (nd n)), some (.own ((acc ++ L1.flatMap fun one => L2.map fun other => wrapS one other).map D.str)), some (.dat (nd k)), z3', z4]
  | [], acc, z3, z4, _, _ => ⟨z3, by
      rw [List.flatMap_nil, List.append_nil]
      rfl⟩
  | one :: L1, acc, z3, z4, h1, hl => by
    rw [List.length_cons] at hl
    have ho1 := h1 one List.mem_cons_self
    have e0 : (n : Int) - 1 - k = ((n - 1 - k : Nat) : Int) := by omega
    have hc : c_l_all_1 self [some (.dat (nd n)), some (.own (acc.map D.str)), some (.dat (nd k)), some (.dat (.str one)), z4] = .ok (.lst ((L2.map fun other => wrapS one other).map D.str)) := by
      have hself : self [.int ((n : Int) - 1 - k)] = .ok (.lst (L2.map D.str)) := by
        rw [e0]
        exact ho
      refine eComp_of (ds := L2.map D.str) (by simp [hself]) (by rw [List.length_map]; show _ ≤ 16777216; omega) ?_
      rw [comp_all (fun d => match d with | .str other => .str (wrapS one other) | _ => .none) _ (fun d hd => ?_)]
      · rw [List.map_map, List.map_map]
        rfl
      · rw [List.mem_map] at hd
        obtain ⟨other, hoth, rfl⟩ := hd
        have h4 := h3 other hoth
        refine ⟨_, rfl, rfl, ?_⟩
        have l1 : 1 + one.length ≤ lim := by
          show _ ≤ 16777216
          omega
        have l2 : 1 + one.length + 1 ≤ lim := by
          show _ ≤ 16777216
          omega
        have l3 : 1 + one.length + 1 + other.length ≤ lim := by
          show _ ≤ 16777216
          omega
        have l2' : one.length + 1 ≤ lim := by
          show _ ≤ 16777216
          omega
        have l2'' : one.length + 1 + 1 ≤ lim := by
          show _ ≤ 16777216
          omega
        have l3' : one.length + 1 + 1 + other.length ≤ lim := by
          show _ ≤ 16777216
          omega
        have d1 : dAdd (.str [40]) (.str one) = .ok (.str ([40] ++ one)) := if_pos l1
        have d2 : dAdd (.str ([40] ++ one)) (.str [41]) = .ok (.str ([40] ++ one ++ [41])) := if_pos (by
          rw [List.length_append]
          exact l2)
        have d3 : dAdd (.str ([40] ++ one ++ [41])) (.str other) = .ok (.str (wrapS one other)) := if_pos (by
          rw [List.length_append, List.length_append]
          exact l3)
        generalize [40] ++ one ++ [41] = A2 at d2 d3
        generalize [40] ++ one = A1 at d1 d2
        simp [-y_addS, d1, d2, d3]
    obtain ⟨z3', ih⟩ := all_inner hk h6 ho h2 h3 L1 (acc ++ L2.map fun other => wrapS one other) (some (.dat (.str one))) z4 (fun s hs => h1 s (List.mem_cons_of_mem _ hs)) (by
      rw [List.length_append, List.length_map]
      omega)
    refine ⟨z3', ?_⟩
    rw [List.flatMap_cons, ← List.append_assoc, ← ih]
    rw [List.map_append]
    have hlen : (acc.map D.str).length + ((L2.map fun other => wrapS one other).map D.str).length ≤ lim := by
      rw [List.length_map, List.length_map, List.length_map]
      show _ ≤ 16777216
      omega
    generalize (L2.map fun other => wrapS one other).map D.str = M at hc hlen
    generalize acc.map D.str = A at hc hlen
    refine loop_next rfl ?_
    have hq : seqOf (.lst M) = .ok M := rfl
    simp [b_l_all_1, hc, hq, hlen]
theorem l_all_of : ∀ (n f : Nat), n ≤ 6 → n < f → ∃ L : List (List Nat), φ_l_all f [nd n] = .ok (.lst (L.map D.str)) ∧ L.Perm (allN n) ∧ L.Pairwise (fun a b => (!decide (b < a)) = true) := by
  intro n
  induction n using Nat.strongRecOn with
  | ind n ih =>
    intro f h6 hf
    obtain ⟨f, rfl⟩ : ∃ g, f = g + 1 := ⟨f - 1, by omega⟩
    by_cases h0 : n = 0
    · subst h0
      refine ⟨[[]], ?_, List.Perm.refl _, List.pairwise_singleton _ _⟩
      show runDef 5 (g_l_all (φ_l_all f)) [nd 0] = _
      refine run_of ?_
      simp [g_l_all]
    · -- the outer loop
      obtain ⟨η', e1, L, z2, z3, z4, rfl, hl, hperm⟩ := loop_inv (g := gName 2) (b := b_l_all_2 (φ_l_all f)) (fun m η => ∃ (L : List (List Nat)) (z2 z3 z4 : Option S), η = [some (.dat (nd n)), some (.own (L.map D.str)), z2, z3, z4] ∧
          L.length ≤ m * 17424 ∧ L.Perm ((List.range m).flatMap fun k => (allN k).flatMap fun one => (allN (n - 1 - k)).map fun other => wrapS one other)) (numbers 0 n) 0 [some (.dat (nd n)), some (.own []), none, none, none]
          ⟨[], none, none, none, rfl, Nat.zero_le _, List.Perm.refl _⟩ (fun k d η hi hP => by
        obtain ⟨hk, rfl⟩ := numbers_get hi
        rw [Nat.zero_add] at hP ⊢
        rw [Int.zero_add]
        obtain ⟨L, z2, z3, z4, rfl, hl, hperm⟩ := hP
        obtain ⟨L1, a1, p1, _⟩ := ih k hk f (by omega) (by omega)
        obtain ⟨L2, a2, p2, _⟩ := ih (n - 1 - k) (by omega) f (by omega) (by omega)
        have n1 : L1.length ≤ 132 := by
          rw [p1.length_eq]
          exact allN_len k (by omega)
        have n2 : L2.length ≤ 132 := by
          rw [p2.length_eq]
          exact allN_len (n - 1 - k) (by omega)
        have m1 : ∀ s ∈ L1, s.length ≤ 12 := fun s hs => by
          have := (allN_mem k (by omega) s (p1.mem_iff.mp hs)).1
          omega
        have m2 : ∀ s ∈ L2, s.length ≤ 12 := fun s hs => by
          have := (allN_mem (n - 1 - k) (by omega) s (p2.mem_iff.mp hs)).1
          omega
        have hkk : k * 17424 ≤ 5 * 17424 := Nat.mul_le_mul_right _ (by omega)
        obtain ⟨z3', e⟩ := all_inner hk h6 a2 n2 m2 L1 L z3 z4 m1 (by omega)
        refine ⟨_, [some (.dat (nd n)), some (.own ((L ++ L1.flatMap fun one => L2.map fun other => wrapS one other).map D.str)), some (.dat (nd k)), z3', z4], rfl, .inl ?_, L ++ L1.flatMap fun one => L2.map fun other => wrapS one other, _, _, _, rfl, ?_, ?_⟩
        · show outOf (((Res.ok [nd k]).bind (φ_l_all f)).bind items) (fun ds => loop (gName 3) (b_l_all_1 (φ_l_all f)) ds [some (.dat (nd n)), some (.own (L.map D.str)), some (.dat (nd k)), z3, z4]) = _
          rw [bind_ok, a1, bind_ok, y_itL, outOf_ok]
          exact e
        · rw [List.length_append]
          have : ∀ (L1 : List (List Nat)), (L1.flatMap fun one => L2.map fun other => wrapS one other).length = L1.length * L2.length := by
            intro L1
            induction L1 with
            | nil => simp
            | cons x r ih =>
              rw [List.flatMap_cons, List.length_append, ih, List.length_map, List.length_cons, Nat.succ_mul]
              omega
          rw [this]
          have : L1.length * L2.length ≤ 132 * 132 := Nat.mul_le_mul n1 n2
          omega
        · rw [List.range_succ, List.flatMap_append]
          refine hperm.append ?_
          simp only [List.flatMap_cons, List.flatMap_nil, List.append_nil]
          exact (List.Perm.flatMap_right _ p1).trans (flat_perm _ fun a => p2.map _))
      rw [numbers_len', Nat.zero_add] at hl hperm
      have hr : rng1 (.int (n : Int)) = .ok (numbers 0 n) := rng1_nat n (by omega)
      have hpN : L.Perm (allN n) := by
        rw [allN_pos (by omega) h6]
        exact hperm
      have hs := sort_strs (l := L) (fun s hs => by
        obtain ⟨k1, k2⟩ := allN_mem n (by omega) s (hpN.mem_iff.mp hs)
        exact ⟨brack_plain k2, by
          show _ ≤ 16777216
          omega⟩) (by
        have : n * 17424 ≤ 6 * 17424 := Nat.mul_le_mul_right _ h6
        show _ ≤ 16777216
        omega)
      refine ⟨L.mergeSort fun a b => !decide (b < a), ?_, (List.mergeSort_perm L _).trans hpN, List.pairwise_mergeSort le_trans' le_total' L⟩
      generalize (L.mergeSort fun a b => !decide (b < a)).map D.str = M at hs ⊢
      generalize L.map D.str = L' at e1 hs
      show runDef 5 (g_l_all (φ_l_all f)) [nd n] = _
      refine run_of ?_
      have hn0 : ¬ (n : Int) = 0 := by omega
      simp [g_l_all, hn0, h0, hr, e1, hs]
end
end Bk
end
/-! BkTups -/
section
set_option linter.all false
set_option autoImplicit false
set_option maxRecDepth 100000
/-! BkTups: tuples of numbers: how they are compared and sorted -/
namespace Bk
def tupN (l : List Nat) : D := .tup (l.map nd)
theorem eqv_nd (a b : Nat) : D.eqv (nd a) (nd b) = decide (a = b) := by
  show D.eqv (.int a) (.int b) = _
  unfold D.eqv
  by_cases h : a = b
  · subst h; simp
  · have : ¬ (a : Int) = (b : Int) := by omega
    simp [h, this]
theorem lt_nd (a b : Nat) : D.lt (nd a) (nd b) = decide (a < b) := by
  show D.lt (.int a) (.int b) = _
  unfold D.lt
  by_cases h : a < b
  · have : (a : Int) < (b : Int) := by omega
    simp [h, this]
  · have : ¬ (a : Int) < (b : Int) := by omega
    simp [h, this]
theorem ltAll_nd : ∀ (a b : List Nat), D.ltAll (a.map nd) (b.map nd) = decide (a < b)
  | [], [] => by simp [D.ltAll]
  | [], _ :: _ => by simp [D.ltAll]
  | _ :: _, [] => by simp [D.ltAll]
  | x :: xs, y :: ys => by
    rw [List.map_cons, List.map_cons, D.ltAll, eqv_nd, lt_nd, ltAll_nd xs ys]
    by_cases h : x = y
    · subst h
      simp [List.cons_lt_cons_iff]
    · simp [h, List.cons_lt_cons_iff]
theorem eqvAll_nd : ∀ (a b : List Nat), D.eqvAll (a.map nd) (b.map nd) = decide (a = b)
  | [], [] => by simp [D.eqvAll]
  | [], _ :: _ => by simp [D.eqvAll]
  | _ :: _, [] => by simp [D.eqvAll]
  | x :: xs, y :: ys => by
    rw [List.map_cons, List.map_cons, D.eqvAll, eqv_nd, eqvAll_nd xs ys]
    by_cases h : x = y <;> simp [h]
theorem le_tupN (a b : List Nat) : D.le (tupN a) (tupN b) = !decide (b < a) := by
  unfold D.le tupN D.lt
  rw [ltAll_nd]
theorem eqv_tupN (a b : List Nat) : D.eqv (tupN a) (tupN b) = decide (a = b) := by
  unfold tupN D.eqv
  rw [eqvAll_nd]
theorem alikeAll_nd : ∀ (a b : List Nat), D.alikeAll (a.map nd) (b.map nd) = true
  | [], _ => by simp [D.alikeAll]
  | _ :: _, [] => by simp [D.alikeAll]
  | x :: xs, y :: ys => by
    rw [List.map_cons, List.map_cons, D.alikeAll, alikeAll_nd xs ys]
    rfl
theorem cmpAll_nd (n : Nat) : ∀ (a : List Nat), D.cmpAll n (a.map nd) = true
  | [] => by unfold D.cmpAll; rfl
  | x :: xs => by
    rw [List.map_cons, D.cmpAll, cmpAll_nd n xs]
    cases n <;> unfold D.cmp <;> rfl
theorem cmp_tupN (n : Nat) (a : List Nat) : D.cmp (n + 1) (tupN a) = true := by
  unfold tupN D.cmp
  exact cmpAll_nd n a
theorem cmpAll_tupN (n : Nat) : ∀ (a : List (List Nat)), D.cmpAll (n + 1) (a.map tupN) = true
  | [] => by unfold D.cmpAll; rfl
  | x :: xs => by rw [List.map_cons, D.cmpAll, cmpAll_tupN n xs, cmp_tupN]; rfl
theorem eqvAll_tupN : ∀ (a b : List (List Nat)), D.eqvAll (a.map tupN) (b.map tupN) = decide (a = b)
  | [], [] => by simp [D.eqvAll]
  | [], _ :: _ => by simp [D.eqvAll]
  | _ :: _, [] => by simp [D.eqvAll]
  | x :: xs, y :: ys => by
    rw [List.map_cons, List.map_cons, D.eqvAll, eqv_tupN, eqvAll_tupN xs ys]
    by_cases h : x = y <;> simp [h]
abbrev leN (a b : List Nat) : Bool := !decide (b < a)
theorem sort_tups {l : List (List Nat)} (h1 : ∀ s ∈ l, s ≠ []) (h2 : l.length ≤ 1000) : sortable (l.map tupN) = true ∧ (l.map tupN).mergeSort D.le = (l.mergeSort leN).map tupN := by
  refine ⟨?_, ?_⟩
  · unfold sortable
    rw [Bool.and_eq_true, Bool.and_eq_true, Bool.and_eq_true]
    refine ⟨⟨⟨?_, ?_⟩, ?_⟩, ?_⟩
    · rw [List.all_eq_true]
      intro a ha
      rw [List.all_eq_true]
      intro b hb
      rw [List.mem_map] at ha hb
      obtain ⟨x, _, rfl⟩ := ha
      obtain ⟨y, _, rfl⟩ := hb
      exact alikeAll_nd x y
    · rw [Bool.or_eq_true]
      left
      rw [List.all_eq_true]
      intro a ha
      rw [List.mem_map] at ha
      obtain ⟨x, hx, rfl⟩ := ha
      cases x with
      | nil => exact absurd rfl (h1 _ hx)
      | cons c r => rfl
    · rw [List.all_eq_true]
      intro a ha
      rw [List.mem_map] at ha
      obtain ⟨x, hx, rfl⟩ := ha
      exact cmp_tupN 7 x
    · rw [List.length_map]
      refine decide_eq_true (Nat.le_trans h2 ?_)
      show 1000 ≤ 16777216
      omega
  · rw [List.map_mergeSort (r := leN) (s := D.le) fun a _ b _ => (le_tupN a b).symm]
theorem bSorted_tupsL {l : List (List Nat)} (h1 : ∀ s ∈ l, s ≠ []) (h2 : l.length ≤ 1000) : bSorted (.lst (l.map tupN)) = .ok (.lst ((l.mergeSort leN).map tupN)) := by
  show (if sortable (l.map tupN) = true then Res.ok (D.lst ((l.map tupN).mergeSort D.le)) else .bad) = _
  rw [if_pos (sort_tups h1 h2).1, (sort_tups h1 h2).2]
theorem bSorted_tupsT {l : List (List Nat)} (h1 : ∀ s ∈ l, s ≠ []) (h2 : l.length ≤ 1000) : bSorted (.tup (l.map tupN)) = .ok (.lst ((l.mergeSort leN).map tupN)) := by
  show (if sortable (l.map tupN) = true then Res.ok (D.lst ((l.map tupN).mergeSort D.le)) else .bad) = _
  rw [if_pos (sort_tups h1 h2).1, (sort_tups h1 h2).2]
theorem leN_anti {a b : List Nat} (h1 : leN a b = true) (h2 : leN b a = true) : a = b := by
  rw [Bool.not_eq_true', decide_eq_false_iff_not, List.not_lt] at h1 h2
  exact List.le_antisymm h1 h2
theorem merge_perm {l m : List (List Nat)} (h : l.Perm m) : l.mergeSort leN = m.mergeSort leN :=
  List.Perm.eq_of_pairwise (fun a b _ _ h1 h2 => leN_anti h1 h2) (List.pairwise_mergeSort le_trans' le_total' l) (List.pairwise_mergeSort le_trans' le_total' m)
    ((List.mergeSort_perm l _).trans (h.trans (List.mergeSort_perm m _).symm))
theorem merge_same {l m : List (List Nat)} (h : l.Perm m) (hs : m.Pairwise fun a b => leN a b = true) : l.mergeSort leN = m :=
  List.Perm.eq_of_pairwise (fun a b _ _ h1 h2 => leN_anti h1 h2) (List.pairwise_mergeSort le_trans' le_total' l) hs ((List.mergeSort_perm l _).trans h)
end Bk
end
/-! BkPart -/
section
set_option linter.all false
set_option autoImplicit false
set_option maxRecDepth 100000
/-! BkPart: partner; sorting of numbers -/
namespace Bk
theorem wholeF_app {a : List Nat} : ∀ {n : Nat} {t : List Nat}, wholeF n a = true → ∀ m : Nat, wholeF (n + m) (a ++ t) = wholeF m t := by
  induction a with
  | nil =>
    intro n t h m
    unfold wholeF at h
    have : n = 0 := by simpa using h
    subst this
    rw [Nat.zero_add]
    rfl
  | cons c r ih =>
    intro n t h m
    unfold wholeF at h
    show wholeF (n + m) (c :: (r ++ t)) = _
    unfold wholeF
    by_cases k : c = 40
    · rw [if_pos k] at h ⊢
      have e : n + m + 1 = n + 1 + m := by omega
      rw [e, ih h m]
      cases t <;> rfl
    · rw [if_neg k] at h ⊢
      by_cases k2 : c = 41
      · rw [if_pos k2] at h ⊢
        cases n with
        | zero => cases h
        | succ n =>
          have e : n + 1 + m = n + m + 1 := by omega
          rw [e]
          show wholeF (n + m) (r ++ t) = _
          rw [ih h m]
          cases t <;> rfl
      · rw [if_neg k2] at h
        cases h
theorem whole_app {a t : List Nat} (h : whole a = true) (m : Nat) : wholeF m (a ++ t) = wholeF m t := by
  have := wholeF_app (t := t) h m
  rw [Nat.zero_add] at this
  exact this
theorem whole_cat {a b : List Nat} (h : whole a = true) (h2 : whole b = true) : whole (a ++ b) = true := (whole_app h 0).trans h2
theorem whole_pair {b : List Nat} (h : whole b = true) : whole (40 :: b ++ [41]) = true := by
  show wholeF 1 (b ++ [41]) = true
  rw [whole_app h 1]
  rfl
theorem whole_total {s : List Nat} (h : whole s = true) : total s = 0 := (whole_iff.mp h).2.2
/-! ### the pieces of a row -/
def seg (s : List Nat) (i j : Nat) : List Nat := (s.take j).drop i
theorem take_open {s : List Nat} {o k : Nat} {c : Nat} (h : s[o]? = some c) (hk : o < k) : s.take k = s.take o ++ c :: seg s (o + 1) k := by
  have e1 : (s.take k).take o = s.take o := by rw [List.take_take, Nat.min_eq_left (by omega)]
  have e2 : (s.take k)[o]? = some c := by rw [List.getElem?_take, if_pos hk, h]
  obtain ⟨hl, e3⟩ := List.getElem?_eq_some_iff.mp e2
  have e4 : (s.take k).drop o = c :: (s.take k).drop (o + 1) := by
    rw [List.drop_eq_getElem_cons hl, e3]
  unfold seg
  rw [← e4, ← e1, List.take_append_drop]
theorem seg_wrap {s : List Nat} {i o k : Nat} (hi : i ≤ o) (hk : o < k) (h1 : s[o]? = some 40) (h2 : s[k]? = some 41) : seg s i (k + 1) = seg s i o ++ (40 :: seg s (o + 1) k ++ [41]) := by
  have e1 : s.take (k + 1) = s.take k ++ [41] := by
    rw [List.take_add_one, h2]
    rfl
  have ho : o < s.length := by
    obtain ⟨h, _⟩ := List.getElem?_eq_some_iff.mp h1
    exact h
  show (s.take (k + 1)).drop i = _
  rw [e1, take_open h1 hk, List.append_assoc, List.drop_append_of_le_length (by rw [List.length_take]; omega)]
  rfl
def base : List Nat → Nat
  | [] => 0
  | o :: _ => o + 1
/-- what stands open at place k: the last one first -/
def Stk (s : List Nat) : Nat → List Nat → Prop
  | k, [] => whole (seg s 0 k) = true
  | k, o :: r => whole (seg s (o + 1) k) = true ∧ o < k ∧ s[o]? = some 40 ∧ Stk s o r
theorem Stk.seg {s : List Nat} {k : Nat} : ∀ {l : List Nat}, Stk s k l → whole (seg s (base l) k) = true
  | [], h => h
  | _ :: _, h => h.1
theorem Stk.base_le {s : List Nat} {k : Nat} : ∀ {l : List Nat}, Stk s k l → base l ≤ k
  | [], _ => Nat.zero_le _
  | _ :: _, h => h.2.1
theorem Stk.total {s : List Nat} : ∀ {l : List Nat} {k : Nat}, Stk s k l → total (s.take k) = l.length
  | [], k, h => whole_total h
  | o :: r, k, h => by
    obtain ⟨h1, h2, h3, h4⟩ := h
    rw [take_open h3 h2, total_append, total_cons, h4.total, whole_total h1]
    show ((r.length : Nat) : Int) + (1 + 0) = ((r.length + 1 : Nat) : Int)
    omega
theorem Stk.shut {s : List Nat} {k o : Nat} {r : List Nat} (h : Stk s k (o :: r)) (hk : s[k]? = some 41) : Stk s (k + 1) r := by
  obtain ⟨h1, h2, h3, h4⟩ := h
  have e : whole (Bk.seg s (base r) (k + 1)) = true := by
    rw [seg_wrap h4.base_le h2 h3 hk]
    exact whole_cat h4.seg (whole_pair h1)
  cases r with
  | nil => exact e
  | cons o' r' => exact ⟨e, by have := h4.2.1; omega, h4.2.2.1, h4.2.2.2⟩
/-- a goes with b -/
def Match (s : List Nat) (a b : Nat) : Prop := ∃ lo hi, ((a = lo ∧ b = hi) ∨ (a = hi ∧ b = lo)) ∧ lo < hi ∧ s[lo]? = some 40 ∧ s[hi]? = some 41 ∧ whole (seg s (lo + 1) hi) = true
/-! ### the dict -/
theorem sameKey_int (a b : Int) : sameKey (.int a) (.int b) = (a == b) := rfl
theorem sameKey_true {k : D} {a : Int} (h : sameKey k (.int a) = true) : k = .int a := by
  cases k with
  | int i =>
    have : i = a := by simpa [sameKey] using h
    rw [this]
  | _ => cases h
theorem dget_put (kvs : List (D × D)) (a b : Int) (v : D) : dget (dput kvs (.int a) v) (.int b) = if a = b then some v else dget kvs (.int b) := by
  unfold dput dget
  by_cases h : (kvs.any fun kv => sameKey kv.1 (.int a)) = true
  · rw [if_pos h]
    have key : ∀ l : List (D × D), ((l.map fun kv => if sameKey kv.1 (.int a) = true then (kv.1, v) else kv).find? fun kv => sameKey kv.1 (.int b)).map (·.2) = if a = b ∧ (l.any fun kv => sameKey kv.1 (.int a)) = true then some v else (l.find? fun kv => sameKey kv.1 (.int b)).map (·.2) := by
      intro l
      induction l with
      | nil => simp
      | cons x r ih =>
        rw [List.map_cons, List.find?_cons, List.find?_cons, List.any_cons]
        obtain ⟨x1, x2⟩ := x
        cases q : sameKey x1 (.int a) with
        | true =>
          obtain rfl := sameKey_true q
          by_cases hb : a = b
          · subst hb
            simp [sameKey_int]
          · have : (a == b) = false := by simpa using hb
            simp only [sameKey_int, beq_self_eq_true, if_true, this]
            rw [ih]
            simp [hb]
        | false =>
          cases q2 : sameKey x1 (.int b) with
          | true =>
            obtain rfl := sameKey_true q2
            have hb : ¬ a = b := fun z => by
              subst z
              rw [q] at q2
              cases q2
            simp [q, sameKey_int, hb]
          | false =>
            simp only [q, q2, Bool.false_eq_true, if_false, Bool.false_or]
            rw [ih]
    rw [key]
    by_cases hab : a = b
    · rw [if_pos ⟨hab, h⟩, if_pos hab]
    · rw [if_neg fun z => hab z.1, if_neg hab]
  · rw [if_neg h]
    have h' : ∀ x ∈ kvs, sameKey x.1 (.int a) = false := by
      intro x hx
      cases q : sameKey x.1 (.int a) with
      | false => rfl
      | true => exact absurd (List.any_eq_true.mpr ⟨x, hx, q⟩) h
    rw [List.find?_append]
    by_cases hab : a = b
    · subst hab
      have : (kvs.find? fun kv => sameKey kv.1 (.int a)) = none := by
        rw [List.find?_eq_none]
        intro x hx
        rw [h' x hx]
        exact Bool.false_ne_true
      rw [this]
      simp [sameKey_int]
    · rw [if_neg hab]
      have e : (a == b) = false := by simpa using hab
      have : ([(D.int a, v)].find? fun kv => sameKey kv.1 (.int b)) = none := by
        simp [sameKey_int, hab]
      rw [this]
      cases (kvs.find? fun kv => sameKey kv.1 (.int b)) <;> rfl
theorem dput_len (kvs : List (D × D)) (k v : D) : (dput kvs k v).length ≤ kvs.length + 1 := by
  unfold dput
  split
  · rw [List.length_map]
    omega
  · rw [List.length_append]
    exact Nat.le_refl _
/-! ### partner -/
def PInv (s : List Nat) (p : Int) (k : Nat) (η : Env) : Prop := ∃ (l : List Nat) (kvs : List (D × D)) (z4 z5 : Option S), η = [some (.dat (.str s)), some (.dat (.int p)), some (.own (l.reverse.map fun o : Nat => D.int (o : Int))), some (.dic kvs), z4, z5] ∧
  Stk s k l ∧ kvs.length ≤ 2 * k ∧ ∀ j : Nat, j < k → j ∈ l ∨ ∃ q : Nat, dget kvs (.int j) = some (.int q) ∧ Match s j q
theorem partner_turn {s : List Nat} (p : Int) (hw : whole s = true) (hl : s.length ≤ 1000) {k c : Nat} (hc : s[k]? = some c) {η : Env} (h : PInv s p k η) :
    ∃ η1 η2, gPair 4 5 (.tup [.int (k : Int), .str [c]]) η = .ok η1 ∧ (b_partner_1 η1 = .next η2 ∨ b_partner_1 η1 = .ct η2) ∧ PInv s p (k + 1) η2 := by
  obtain ⟨l, kvs, z4, z5, rfl, hS, hk, hj⟩ := h
  obtain ⟨hkl, hck⟩ := List.getElem?_eq_some_iff.mp hc
  have hb := (whole_iff.mp hw).1
  have hc2 := brack_mem hb (List.mem_of_getElem? hc)
  have hlen : l.length ≤ k := by
    have h1 := hS.total
    have h2 : ∀ t : List Nat, total t ≤ t.length := by
      intro t
      induction t with
      | nil => exact Int.le_refl 0
      | cons x r ih =>
        rw [total_cons, List.length_cons]
        have : up x ≤ 1 := by
          unfold up
          split <;> omega
        omega
    have h3 := h2 (s.take k)
    rw [h1, List.length_take] at h3
    omega
  rcases hc2 with rfl | rfl
  · refine ⟨_, [some (.dat (.str s)), some (.dat (.int p)), some (.own ((k :: l).reverse.map fun o : Nat => D.int (o : Int))), some (.dic kvs), some (.dat (.int k)), some (.dat (.str [40]))], rfl, .inl ?_, k :: l, kvs, _, _, rfl, ?_, by omega, fun j hjk => ?_⟩
    · have h1 : l.length < lim := by
        show _ < 16777216
        omega
      simp [b_partner_1, eq_open, h1]
    · refine ⟨?_, Nat.lt_succ_self k, hc, hS⟩
      have : seg s (k + 1) (k + 1) = [] := by
        unfold seg
        apply List.drop_of_length_le
        rw [List.length_take]
        omega
      rw [this]
      rfl
    · by_cases hjk2 : j = k
      · exact .inl (by rw [hjk2]; exact List.mem_cons_self)
      · rcases hj j (by omega) with h | h
        · exact .inl (List.mem_cons_of_mem _ h)
        · exact .inr h
  · cases l with
    | nil =>
      exfalso
      have h1 : whole (s.take k) = true := hS
      have h2 : s = s.take k ++ 41 :: s.drop (k + 1) := by
        have : s.drop k = 41 :: s.drop (k + 1) := by rw [List.drop_eq_getElem_cons hkl, hck]
        rw [← this, List.take_append_drop]
      have h3 : wholeF 0 s = wholeF 0 (41 :: s.drop (k + 1)) := by
        have := whole_app (t := 41 :: s.drop (k + 1)) h1 0
        rw [← h2] at this
        exact this
      have h4 : wholeF 0 s = true := hw
      rw [h3] at h4
      cases h4
    | cons o r =>
      have hM : Match s o k := ⟨o, k, .inl ⟨rfl, rfl⟩, hS.2.1, hS.2.2.1, hc, hS.1⟩
      have hM2 : Match s k o := ⟨o, k, .inr ⟨rfl, rfl⟩, hS.2.1, hS.2.2.1, hc, hS.1⟩
      have hok := hS.2.1
      have d1 := dput_len kvs (.int k) (.int o)
      have d2 := dput_len (dput kvs (.int k) (.int o)) (.int o) (.int k)
      refine ⟨_, [some (.dat (.str s)), some (.dat (.int p)), some (.own (r.reverse.map fun o : Nat => D.int (o : Int))), some (.dic (dput (dput kvs (.int k) (.int o)) (.int o) (.int k))), some (.dat (.int k)), some (.dat (.str [41]))], rfl, .inl ?_, r, _, _, _, rfl, hS.shut hc, by omega, fun j hjk => ?_⟩
      · have h1 : kvs.length < lim := by
          show _ < 16777216
          omega
        have h2 : (dput kvs (.int k) (.int o)).length < lim := by
          show _ < 16777216
          omega
        have h3 : dget (dput kvs (.int k) (.int o)) (.int k) = some (.int o) := by rw [dget_put, if_pos rfl]
        simp [b_partner_1, eq_open, h1, h2, h3, keyD]
      · rw [dget_put, dget_put]
        by_cases j1 : j = o
        · subst j1
          exact .inr ⟨k, by simp, hM⟩
        · by_cases j2 : j = k
          · subst j2
            have : ¬ ((o : Int) = j) := by omega
            exact .inr ⟨o, by simp [this], hM2⟩
          · have e1 : ¬ ((o : Int) = j) := by omega
            have e2 : ¬ ((k : Int) = j) := by omega
            rw [if_neg e1, if_neg e2]
            rcases hj j (by omega) with h | h
            · rcases List.mem_cons.mp h with h | h
              · exact absurd h j1
              · exact .inl h
            · exact .inr h
theorem enum_get {s : List Nat} {i : Nat} {d : D} (h : (enumL 0 (signs s))[i]? = some d) : ∃ c, s[i]? = some c ∧ d = .tup [.int (i : Int), .str [c]] := by
  have e : ∀ (k : Nat) (ds : List D) (i : Nat), (enumL k ds)[i]? = (ds[i]?).map fun d => .tup [.int ((k + i : Nat) : Int), d] := by
    intro k ds
    induction ds generalizing k with
    | nil => intro i; simp [enumL]
    | cons x r ih =>
      intro i
      cases i with
      | zero => simp [enumL]
      | succ i =>
        have := ih (k + 1) i
        have e2 : k + 1 + i = k + (i + 1) := by omega
        rw [e2] at this
        simpa [enumL] using this
  rw [e, Nat.zero_add] at h
  unfold signs at h
  rw [List.getElem?_map] at h
  cases z : s[i]? with
  | none =>
    rw [z] at h
    cases h
  | some c =>
    rw [z] at h
    cases h
    exact ⟨c, rfl, rfl⟩
theorem enum_len (k : Nat) (ds : List D) : (enumL k ds).length = ds.length := by
  induction ds generalizing k with
  | nil => rfl
  | cons x r ih =>
    show (enumL (k + 1) r).length + 1 = _
    rw [ih]
    rfl
theorem partner_of {s : List Nat} (hw : whole s = true) (hl : s.length ≤ 1000) {p : Nat} (hp : p < s.length) : ∃ q : Nat, φ_partner [.str s, .int p] = .ok (.int q) ∧ Match s p q := by
  obtain ⟨η', e1, e2⟩ := loop_inv (g := gPair 4 5) (b := b_partner_1) (PInv s p) (enumL 0 (signs s)) 0 [some (.dat (.str s)), some (.dat (.int p)), some (.own []), some (.dic []), none, none]
    ⟨[], [], none, none, rfl, rfl, by simp, fun j hj => absurd hj (Nat.not_lt_zero j)⟩ (fun i d η hi hP => by
      obtain ⟨c, hc, rfl⟩ := enum_get hi
      rw [Nat.zero_add] at hP ⊢
      exact partner_turn p hw hl hc hP)
  have hlen : (enumL 0 (signs s)).length = s.length := by
    rw [enum_len]
    simp [signs]
  rw [hlen, Nat.zero_add] at e2
  obtain ⟨l, kvs, z4, z5, rfl, hS, hk, hj⟩ := e2
  have hl0 : l = [] := by
    have h1 := hS.total
    rw [List.take_of_length_le (Nat.le_refl _), whole_total hw] at h1
    have : l.length = 0 := by omega
    exact List.length_eq_zero_iff.mp this
  subst hl0
  rcases hj p hp with h | ⟨q, h1, h2⟩
  · cases h
  · refine ⟨q, ?_, h2⟩
    refine run_of (g := g_partner) ?_
    have hll : s.length ≤ lim := by
      show _ ≤ 16777216
      omega
    have a1 : (0 : Int) ≤ p := by omega
    have a2 : (p : Int) < s.length := by omega
    simp at e1
    simp [g_partner, hll, a1, a2, e1, h1, keyD]
theorem partner_bad {s : List Nat} (hl : s.length ≤ 1000) {p : Int} (hp : p < 0 ∨ (s.length : Int) ≤ p) : φ_partner [.str s, .int p] = .raise .noPlace := by
  refine run_raise (g := g_partner) ?_
  have hll : s.length ≤ lim := by
    show _ ≤ 16777216
    omega
  by_cases h : 0 ≤ p
  · have h2 : ¬ p < s.length := by omega
    simp [g_partner, hll, h, h2]
  · simp [g_partner, hll, h]
theorem l_partner_bad {s : List Nat} (hl : s.length ≤ 1000) {p : Int} (hp : p < 0 ∨ (s.length : Int) ≤ p) : φ_l_partner [.str s, .int p] = .ok .none := by
  refine run_of (g := g_l_partner) ?_
  simp [g_l_partner, sTryAs, partner_bad hl hp]
/-! ### sorting -/
theorem sort_two (a b : Int) : ∃ lo hi, bSorted (.lst [.int a, .int b]) = .ok (.lst [.int lo, .int hi]) ∧ ((lo = a ∧ hi = b ∧ a ≤ b) ∨ (lo = b ∧ hi = a ∧ b < a)) := by
  have hs : sortable [D.int a, D.int b] = true := rfl
  have e : bSorted (.lst [.int a, .int b]) = .ok (.lst ([D.int a, D.int b].mergeSort D.le)) := by
    show (if sortable [D.int a, D.int b] = true then Res.ok (D.lst ([D.int a, D.int b].mergeSort D.le)) else .bad) = _
    rw [if_pos hs]
  rw [e]
  by_cases h : a ≤ b
  · refine ⟨a, b, ?_, .inl ⟨rfl, rfl, h⟩⟩
    have : [D.int a, D.int b].mergeSort D.le = [.int a, .int b] := by
      have : D.le (.int a) (.int b) = true := by
        simp [D.le, D.lt]
        omega
      simp [List.mergeSort, List.MergeSort.Internal.splitInTwo, List.merge, this]
    rw [this]
  · refine ⟨b, a, ?_, .inr ⟨rfl, rfl, by omega⟩⟩
    have : [D.int a, D.int b].mergeSort D.le = [.int b, .int a] := by
      have : D.le (.int a) (.int b) = false := by
        simp [D.le, D.lt]
        omega
      simp [List.mergeSort, List.MergeSort.Internal.splitInTwo, List.merge, this]
    rw [this]
end Bk
end
/-! BkT5 -/
section
set_option linter.all false
set_option autoImplicit false
set_option maxRecDepth 100000
/-! terms printed by gen.py -/
namespace Bk
def b_parts_of_1 : St := (sSeq (sSet 2 (eBin dSub (eBin dAdd (eVar 2) (eC (.int 1))) (eBin dMul (eC (.int 2)) (eUn bInt (eBin dEq (eVar 5) (eC (.str [41])))))))
  (sIf (tE (eBin dEq (eVar 2) (eC (.int 0)))) (sSeq (sApp 1 (eSlice (eVar 0) (some (eBin dAdd (eVar 3) (eC (.int 1)))) (some (eVar 4))))
  (sSet 3 (eBin dAdd (eVar 4) (eC (.int 1))))) sSkip))
def g_parts_of : St := (sSeq (sNew 1 [])
  (sSeq (sSet 2 (eC (.int 0)))
  (sSeq (sSet 3 (eC (.int 0)))
  (sSeq (sFor (iEnum (eVar 0)) (gPair 4 5) b_parts_of_1)
  (sRetOwn 1)))))
def φ_parts_of : List D → Res D := runDef 6 g_parts_of
def c_forest_of_1 (self : List D → Res D) : E := (eComp [1] (iAny (eCall φ_parts_of [(eVar 0)])) (gName 1) tYes (eCall self [(eVar 1)]))
def g_forest_of (self : List D → Res D) : St := (sRet (eUn bTuple (c_forest_of_1 self)))
def φ_forest_of : Nat → List D → Res D
  | 0 => fun _ => .bad
  | n + 1 => runDef 2 (g_forest_of (φ_forest_of n))
def c_row_by_forest_1 (self : List D → Res D) : E := (eComp [1] (iAny (eVar 0)) (gName 1) tYes (eBin dAdd (eBin dAdd (eC (.str [40])) (eCall self [(eVar 1)])) (eC (.str [41]))))
def g_row_by_forest (self : List D → Res D) : St := (sRet (eBin dJoin (eC (.str [])) (c_row_by_forest_1 self)))
def φ_row_by_forest : Nat → List D → Res D
  | 0 => fun _ => .bad
  | n + 1 => runDef 2 (g_row_by_forest (φ_row_by_forest n))
def g_tree_of (self : List D → Res D) : St := (sSeq (sIf (tE (eBin dEq (eVar 0) (eC (.str [])))) (sRet (eC .none)) sSkip)
  (sSeq (sSet 1 (eBin dIdx (eCall φ_parts_of [(eVar 0)]) (eC (.int 0))))
  (sRet (eTup [(eCall self [(eVar 1)]), (eCall self [(eSlice (eVar 0) (some (eBin dAdd (eUn bLen (eVar 1)) (eC (.int 2)))) none)])]))))
def φ_tree_of : Nat → List D → Res D
  | 0 => fun _ => .bad
  | n + 1 => runDef 2 (g_tree_of (φ_tree_of n))
def g_row_by_tree (self : List D → Res D) : St := (sSeq (sIf (tE (eBin dIsN (eVar 0) (eC .none))) (sRet (eC (.str []))) sSkip)
  (sRet (eBin dAdd (eBin dAdd (eBin dAdd (eC (.str [40])) (eCall self [(eBin dIdx (eVar 0) (eC (.int 0)))])) (eC (.str [41]))) (eCall self [(eBin dIdx (eVar 0) (eC (.int 1)))]))))
def φ_row_by_tree : Nat → List D → Res D
  | 0 => fun _ => .bad
  | n + 1 => runDef 1 (g_row_by_tree (φ_row_by_tree n))
def g_mirrored (self : List D → Res D) : St := (sSeq (sIf (tE (eBin dIsN (eVar 0) (eC .none))) (sRet (eC .none)) sSkip)
  (sRet (eTup [(eCall self [(eBin dIdx (eVar 0) (eC (.int 1)))]), (eCall self [(eBin dIdx (eVar 0) (eC (.int 0)))])])))
def φ_mirrored : Nat → List D → Res D
  | 0 => fun _ => .bad
  | n + 1 => runDef 1 (g_mirrored (φ_mirrored n))
def b_l_forest_1 : St := (sSet 3 (eBin dAdd (eVar 3) (eC (.int 1))))
def b_l_forest_2 (self : List D → Res D) : St := (sSeq (sSet 3 (eC (.int 1)))
  (sSeq (sWhile 1000 (tE (eBin dNe (eBin dCount (eSlice (eVar 2) none (some (eVar 3))) (eC (.str [40]))) (eBin dCount (eSlice (eVar 2) none (some (eVar 3))) (eC (.str [41]))))) b_l_forest_1)
  (sSeq (sApp 1 (eCall self [(eSlice (eVar 2) (some (eC (.int 1))) (some (eBin dSub (eVar 3) (eC (.int 1)))))]))
  (sSet 2 (eSlice (eVar 2) (some (eVar 3)) none)))))
def g_l_forest (self : List D → Res D) : St := (sSeq (sNew 1 [])
  (sSeq (sSet 2 (eVar 0))
  (sSeq (sWhile 1000 (tV (eVar 2)) (b_l_forest_2 self))
  (sRet (eOwn bTuple 1)))))
def φ_l_forest : Nat → List D → Res D
  | 0 => fun _ => .bad
  | n + 1 => runDef 4 (g_l_forest (φ_l_forest n))
def g_l_tree (self : List D → Res D) : St := (sSeq (sIf (tNot (tV (eVar 0))) (sRet (eC .none)) sSkip)
  (sRet (eTup [(eCall self [(eBin dIdx (eVar 0) (eC (.int 0)))]), (eCall self [(eSlice (eVar 0) (some (eC (.int 1))) none)])])))
def φ_l_tree : Nat → List D → Res D
  | 0 => fun _ => .bad
  | n + 1 => runDef 1 (g_l_tree (φ_l_tree n))
def g_l_mirrored (self : List D → Res D) : St := (sSeq (sIf (tE (eBin dIsN (eVar 0) (eC .none))) (sRet (eC .none)) sSkip)
  (sSeq (sAsg (eVar 0) (gPair 1 2))
  (sRet (eTup [(eCall self [(eVar 2)]), (eCall self [(eVar 1)])]))))
def φ_l_mirrored : Nat → List D → Res D
  | 0 => fun _ => .bad
  | n + 1 => runDef 3 (g_l_mirrored (φ_l_mirrored n))
end Bk
end
/-! BkTree -/
section
set_option linter.all false
set_option autoImplicit false
set_option maxRecDepth 100000
/-! BkTree: rows as trees; parts_of, forests, trees -/
namespace Bk
inductive Tr where
  | leaf
  | node (a b : Tr)
def rowT : Tr → List Nat
  | .leaf => []
  | .node a b => 40 :: rowT a ++ 41 :: rowT b
def sz : Tr → Nat
  | .leaf => 0
  | .node a b => sz a + sz b + 1
def kids : Tr → List Tr
  | .leaf => []
  | .node a b => a :: kids b
def forT : Tr → List D
  | .leaf => []
  | .node a b => .tup (forT a) :: forT b
def treeD : Tr → D
  | .leaf => .none
  | .node a b => .tup [treeD a, treeD b]
def mir : Tr → Tr
  | .leaf => .leaf
  | .node a b => .node (mir b) (mir a)
theorem rowT_len : ∀ t, (rowT t).length = 2 * sz t
  | .leaf => rfl
  | .node a b => by
    show (40 :: (rowT a ++ 41 :: rowT b)).length = 2 * (sz a + sz b + 1)
    rw [List.length_cons, List.length_append, List.length_cons, rowT_len a, rowT_len b]
    omega
theorem rowT_whole : ∀ t, whole (rowT t) = true
  | .leaf => rfl
  | .node a b => by
    have h : rowT (.node a b) = (40 :: rowT a ++ [41]) ++ rowT b := by
      show 40 :: (rowT a ++ 41 :: rowT b) = _
      simp
    rw [h]
    exact whole_cat (whole_pair (rowT_whole a)) (rowT_whole b)
theorem kids_sz : ∀ t, ∀ a ∈ kids t, sz a < sz t
  | .leaf, _, h => nomatch h
  | .node a b, c, h => by
    show sz c < sz a + sz b + 1
    rcases List.mem_cons.mp h with rfl | h
    · omega
    · have := kids_sz b c h
      omega
theorem kids_len : ∀ t, (kids t).length ≤ sz t
  | .leaf => Nat.le_refl _
  | .node a b => by
    have := kids_len b
    show (kids b).length + 1 ≤ sz a + sz b + 1
    omega
theorem forT_eq : ∀ t, forT t = (kids t).map fun a => .tup (forT a)
  | .leaf => rfl
  | .node a b => by
    show D.tup (forT a) :: forT b = _
    rw [forT_eq b]
    rfl
theorem mir_mir : ∀ t, mir (mir t) = t
  | .leaf => rfl
  | .node a b => by
    show Tr.node (mir (mir a)) (mir (mir b)) = _
    rw [mir_mir a, mir_mir b]
theorem sz_mir : ∀ t, sz (mir t) = sz t
  | .leaf => rfl
  | .node a b => by
    show sz (mir b) + sz (mir a) + 1 = sz a + sz b + 1
    rw [sz_mir a, sz_mir b]
    omega
/-! ### each whole row is a tree's -/
theorem split_first : ∀ (n : Nat) (r : List Nat) (h : Nat), r.length ≤ n → wholeF (h + 1) r = true → ∃ u v, r = u ++ 41 :: v ∧ whole u = true ∧ wholeF h v = true
  | _, [], h, _, q => by
    unfold wholeF at q
    simp at q
  | 0, _ :: _, h, hl, _ => by simp at hl
  | n + 1, c :: r, h, hl, q => by
    have hc := brack_mem (whole_brack _ _ q) List.mem_cons_self
    rw [List.length_cons] at hl
    rcases hc with rfl | rfl
    · obtain ⟨u1, v1, rfl, w1, q1⟩ := split_first n r (h + 1) (by omega) q
      rw [List.length_append, List.length_cons] at hl
      obtain ⟨u2, v2, rfl, w2, q2⟩ := split_first n v1 h (by omega) q1
      refine ⟨40 :: u1 ++ [41] ++ u2, v2, by simp, whole_cat (whole_pair w1) w2, q2⟩
    · exact ⟨[], r, rfl, rfl, q⟩
theorem tree_exists : ∀ (n : Nat) (s : List Nat), s.length ≤ n → whole s = true → ∃ t, rowT t = s
  | _, [], _, _ => ⟨.leaf, rfl⟩
  | 0, _ :: _, hl, _ => by simp at hl
  | n + 1, c :: r, hl, q => by
    have hc := brack_mem (whole_brack _ _ q) List.mem_cons_self
    rw [List.length_cons] at hl
    rcases hc with rfl | rfl
    · obtain ⟨u, v, rfl, w1, w2⟩ := split_first r.length r 0 (Nat.le_refl _) q
      rw [List.length_append, List.length_cons] at hl
      obtain ⟨a, rfl⟩ := tree_exists n u (by omega) w1
      obtain ⟨b, rfl⟩ := tree_exists n v (by omega) w2
      exact ⟨.node a b, rfl⟩
    · cases q
theorem tree_of_row {s : List Nat} (h : whole s = true) : ∃ t, rowT t = s ∧ 2 * sz t = s.length := by
  obtain ⟨t, e⟩ := tree_exists s.length s (Nat.le_refl _) h
  exact ⟨t, e, by rw [← e, rowT_len]⟩
/-! ### equality of data with itself -/
mutual
theorem eqv_refl : ∀ (n : Nat) (d : D), D.cmp n d = true → D.eqv d d = true
  | _, .none, _ => by unfold D.eqv; rfl
  | _, .bool b, _ => by unfold D.eqv; simp
  | _, .int i, _ => by unfold D.eqv; simp
  | _, .str s, _ => by unfold D.eqv; simp
  | 0, .tup _, h => by unfold D.cmp at h; cases h
  | 0, .lst _, h => by unfold D.cmp at h; cases h
  | n + 1, .tup xs, h => by
    unfold D.cmp at h
    unfold D.eqv
    exact eqv_reflAll n xs h
  | n + 1, .lst xs, h => by
    unfold D.cmp at h
    unfold D.eqv
    exact eqv_reflAll n xs h
  | 0, .dic _, h => by unfold D.cmp at h; cases h
  | _ + 1, .dic _, h => by unfold D.cmp at h; cases h
theorem eqv_reflAll : ∀ (n : Nat) (xs : List D), D.cmpAll n xs = true → D.eqvAll xs xs = true
  | _, [], _ => by unfold D.eqvAll; rfl
  | n, x :: xs, h => by
    unfold D.cmpAll at h
    rw [Bool.and_eq_true] at h
    unfold D.eqvAll
    rw [eqv_refl n x h.1, eqv_reflAll n xs h.2]
    rfl
end
theorem eq_self {d : D} (h : D.cmp 64 d = true) : dEq d d = .ok (.bool true) := by
  unfold dEq
  rw [h, eqv_refl 64 d h]
  rfl
theorem ne_self {d : D} (h : D.cmp 64 d = true) : dNe d d = .ok (.bool false) := by
  unfold dNe
  rw [h, eqv_refl 64 d h]
  rfl
theorem cmp_tree : ∀ (t : Tr) (n : Nat), sz t < n → D.cmp n (treeD t) = true
  | .leaf, n, _ => by
    cases n <;> (show D.cmp _ D.none = true; unfold D.cmp; rfl)
  | .node a b, 0, h => by omega
  | .node a b, n + 1, h => by
    have h : sz a + sz b + 1 < n + 1 := h
    show D.cmp (n + 1) (.tup [treeD a, treeD b]) = true
    unfold D.cmp D.cmpAll D.cmpAll D.cmpAll
    rw [cmp_tree a n (by omega), cmp_tree b n (by omega)]
    rfl
theorem cmp_for : ∀ (t : Tr) (n : Nat), sz t < n → D.cmpAll n (forT t) = true
  | .leaf, n, _ => by
    show D.cmpAll _ [] = true
    unfold D.cmpAll
    rfl
  | .node a b, 0, h => by omega
  | .node a b, n + 1, h => by
    have h : sz a + sz b + 1 < n + 1 := h
    show D.cmpAll (n + 1) (.tup (forT a) :: forT b) = true
    unfold D.cmpAll D.cmp
    rw [cmp_for a n (by omega), cmp_for b (n + 1) (by omega)]
    rfl
theorem cmp_forT {t : Tr} {n : Nat} (h : sz t < n) : D.cmp (n + 1) (.tup (forT t)) = true := by
  unfold D.cmp
  exact cmp_for t n h
/-! ### parts_of -/
section
variable {z0 z1 z2 z3 z4 z5 : Option S}
theorem part_turn {x : List Nat} (hx : x.length ≤ 1000) {F : List D} {h b k c : Nat} (hc : c = 40 ∨ c = 41) {h' : Nat} (hh : (h : Int) + 1 - 2 * (if c = 41 then 1 else 0) = h') (h0 : h' ≠ 0) :
    b_parts_of_1 [some (.dat (.str x)), some (.own F), some (.dat (nd h)), some (.dat (nd b)), some (.dat (nd k)), some (.dat (.str [c]))] =
      .next [some (.dat (.str x)), some (.own F), some (.dat (nd h')), some (.dat (nd b)), some (.dat (nd k)), some (.dat (.str [c]))] := by
  have h1 : c < 128 := by omega
  have e : dEq (.str [c]) (.str [41]) = .ok (.bool (decide (c = 41))) := eq_shut h1
  have h2 : dSub (.int ((h : Int) + 1)) (.int (2 * (if c = 41 then 1 else 0))) = .ok (nd h') := by
    rw [y_sub, hh]
  have h3 : dEq (nd h') (.int 0) = .ok (.bool false) := by
    rw [y_eqI, decide_eq_false (by omega)]
  generalize nd h' = H at h2 h3 ⊢
  simp [b_parts_of_1, e, y_mulL small2, h2, h3]
theorem parts_in {x : List Nat} (hx : x.length ≤ 1000) {F : List D} {b : Nat} : ∀ (t : Tr) (rest : List Nat) (k h : Nat) (z4 z5 : Option S), h ≠ 0 →
    ∃ x4 x5, loop (gPair 4 5) b_parts_of_1 (enumL k (signs (rowT t ++ rest))) [some (.dat (.str x)), some (.own F), some (.dat (nd h)), some (.dat (nd b)), z4, z5] =
      loop (gPair 4 5) b_parts_of_1 (enumL (k + (rowT t).length) (signs rest)) [some (.dat (.str x)), some (.own F), some (.dat (nd h)), some (.dat (nd b)), x4, x5]
  | .leaf, rest, k, h, z4, z5, _ => ⟨z4, z5, rfl⟩
  | .node a c, rest, k, h, z4, z5, h0 => by
    obtain ⟨y4, y5, e1⟩ := parts_in hx (F := F) (b := b) a (41 :: (rowT c ++ rest)) (k + 1) (h + 1) (some (.dat (nd k))) (some (.dat (.str [40]))) (by omega)
    obtain ⟨x4, x5, e2⟩ := parts_in hx (F := F) (b := b) c rest (k + 1 + (rowT a).length + 1) h (some (.dat (nd (k + 1 + (rowT a).length)))) (some (.dat (.str [41]))) h0
    refine ⟨x4, x5, ?_⟩
    have es : rowT (.node a c) ++ rest = 40 :: (rowT a ++ 41 :: (rowT c ++ rest)) := by
      show (40 :: (rowT a ++ 41 :: rowT c)) ++ rest = _
      simp
    have el : k + (rowT (.node a c)).length = k + 1 + (rowT a).length + 1 + (rowT c).length := by
      show k + (40 :: (rowT a ++ 41 :: rowT c)).length = _
      rw [List.length_cons, List.length_append, List.length_cons]
      omega
    rw [es, el, ← e2]
    show loop (gPair 4 5) b_parts_of_1 (.tup [nd k, .str [40]] :: enumL (k + 1) (signs (rowT a ++ 41 :: (rowT c ++ rest)))) _ = _
    rw [loop_next rfl (part_turn hx (.inl rfl) (h' := h + 1) (by simp) (by omega)), e1]
    show loop (gPair 4 5) b_parts_of_1 (.tup [nd (k + 1 + (rowT a).length), .str [41]] :: enumL (k + 1 + (rowT a).length + 1) (signs (rowT c ++ rest))) _ = _
    rw [loop_next rfl (part_turn hx (.inr rfl) (h' := h) (by simp; omega) h0)]
theorem parts_out {x : List Nat} (hx : x.length ≤ 1000) : ∀ (t : Tr) (k : Nat) (F : List (List Nat)) (pre : List Nat) (z4 z5 : Option S), x = pre ++ rowT t → k = pre.length → F.length ≤ pre.length →
    ∃ x2 x3 x4 x5, loop (gPair 4 5) b_parts_of_1 (enumL k (signs (rowT t))) [some (.dat (.str x)), some (.own (F.map D.str)), some (.dat (nd 0)), some (.dat (nd k)), z4, z5] =
      .next [some (.dat (.str x)), some (.own ((F ++ (kids t).map rowT).map D.str)), x2, x3, x4, x5]
  | .leaf, k, F, pre, z4, z5, _, _, _ => ⟨_, _, _, _, by
      show _ = Out.next [_, some (.own ((F ++ []).map D.str)), _, _, _, _]
      rw [List.append_nil]
      rfl⟩
  | .node a c, k, F, pre, z4, z5, e, hk, hF => by
    have hll : x.length ≤ lim := by
      show _ ≤ 16777216
      omega
    obtain ⟨y4, y5, e1⟩ := parts_in hx (F := F.map D.str) (b := k) a (41 :: rowT c) (k + 1) 1 (some (.dat (nd k))) (some (.dat (.str [40]))) (by omega)
    have e' : x = (pre ++ (40 :: rowT a ++ [41])) ++ rowT c := by
      rw [e]
      show pre ++ (40 :: (rowT a ++ 41 :: rowT c)) = _
      simp
    have hxl : x.length = pre.length + (rowT a).length + 2 + (rowT c).length := by
      rw [e']
      simp
      omega
    obtain ⟨x2, x3, x4, x5, e2⟩ := parts_out hx c (k + 1 + (rowT a).length + 1) (F ++ [rowT a]) (pre ++ (40 :: rowT a ++ [41])) (some (.dat (nd (k + 1 + (rowT a).length)))) (some (.dat (.str [41]))) e' (by simp; omega) (by simp; omega)
    refine ⟨x2, x3, x4, x5, ?_⟩
    have ek : F ++ (kids (.node a c)).map rowT = F ++ [rowT a] ++ (kids c).map rowT := by
      show F ++ (rowT a :: (kids c).map rowT) = _
      simp
    rw [ek, ← e2]
    show loop (gPair 4 5) b_parts_of_1 (.tup [nd k, .str [40]] :: enumL (k + 1) (signs (rowT a ++ 41 :: rowT c))) _ = _
    rw [loop_next rfl (part_turn hx (h := 0) (.inl rfl) (h' := 1) (by simp) (by omega)), e1]
    show loop (gPair 4 5) b_parts_of_1 (.tup [nd (k + 1 + (rowT a).length), .str [41]] :: enumL (k + 1 + (rowT a).length + 1) (signs (rowT c))) _ = _
    refine loop_next rfl ?_
    have ec : ∀ p : Nat, k + 1 + (rowT a).length = p → cut x (some ((k : Int) + 1)) (some (p : Int)) = rowT a := by
      intro p hp
      subst hp
      have e0 : (k : Int) + 1 = ((k + 1 : Nat) : Int) := by omega
      rw [e0, cut_mid, e, hk]
      show ((pre ++ (40 :: (rowT a ++ 41 :: rowT c))).take (pre.length + 1 + (rowT a).length)).drop (pre.length + 1) = _
      rw [show pre ++ (40 :: (rowT a ++ 41 :: rowT c)) = (pre ++ [40]) ++ (rowT a ++ 41 :: rowT c) by simp]
      rw [show pre.length + 1 + (rowT a).length = (pre ++ [40]).length + (rowT a).length by simp, List.take_length_add_append]
      rw [show pre.length + 1 = (pre ++ [40]).length by simp, List.drop_left]
      simp
    have hlen : F.length < lim := by
      show _ < 16777216
      omega
    have e41 : dEq (.str [41]) (.str [41]) = .ok (.bool true) := rfl
    generalize hp : k + 1 + (rowT a).length = p
    have ha : dAdd (nd p) (.int 1) = .ok (nd (p + 1)) := by
      rw [y_add]
      rfl
    have hcut : dCut (.str x) (some ((k : Int) + 1)) (some (p : Int)) = .ok (.str (rowT a)) := by
      rw [y_cutS, if_pos hll, ec p hp]
    generalize nd (p + 1) = E1 at ha ⊢
    generalize rowT a = A at hcut ⊢
    simp [-y_cutS, b_parts_of_1, e41, y_mulL small2, hcut, hlen, ha]
theorem parts_of_of {t : Tr} (hl : sz t ≤ 400) : φ_parts_of [.str (rowT t)] = .ok (.lst (((kids t).map rowT).map D.str)) := by
  have hlen := rowT_len t
  obtain ⟨x2, x3, x4, x5, e⟩ := parts_out (x := rowT t) (by omega) t 0 [] [] none none rfl rfl (Nat.le_refl _)
  rw [List.nil_append] at e
  have e : loop (gPair 4 5) b_parts_of_1 (enumL 0 (signs (rowT t))) [some (.dat (.str (rowT t))), some (.own []), some (.dat (.int 0)), some (.dat (.int 0)), none, none] = .next [some (.dat (.str (rowT t))), some (.own (((kids t).map rowT).map D.str)), x2, x3, x4, x5] := e
  generalize ((kids t).map rowT).map D.str = R at e ⊢
  refine run_of (g := g_parts_of) ?_
  simp [g_parts_of, e]
end
end Bk
end
/-! BkTree2 -/
section
set_option linter.all false
set_option autoImplicit false
set_option maxRecDepth 100000
/-! BkTree2: forests, trees, rows of them, mirrored; the law's own -/
namespace Bk
theorem limA {n : Nat} (h : n ≤ 1000) : n ≤ lim := by
  show _ ≤ 16777216
  omega
theorem sum_kids : ∀ t, ((kids t).map sz).sum + (kids t).length = sz t
  | .leaf => rfl
  | .node a b => by
    have := sum_kids b
    show ((a :: kids b).map sz).sum + (a :: kids b).length = sz a + sz b + 1
    rw [List.map_cons, List.sum_cons, List.length_cons]
    omega
/-- forest_of -/
theorem forest_of_of : ∀ (f : Nat) (t : Tr), sz t < f → sz t ≤ 400 → φ_forest_of f [.str (rowT t)] = .ok (.tup (forT t))
  | 0, t, h, _ => absurd h (Nat.not_lt_zero _)
  | f + 1, t, h, hl => by
    have hp := parts_of_of (t := t) hl
    have hc : c_forest_of_1 (φ_forest_of f) [some (.dat (.str (rowT t))), none] = .ok (.lst (forT t)) := by
      refine eComp_of (ds := ((kids t).map rowT).map D.str) ?_ ?_ ?_
      · generalize ((kids t).map rowT).map D.str = L at hp
        simp [hp]
      · rw [List.length_map, List.length_map]
        exact limA (Nat.le_trans (kids_len t) (by omega))
      · rw [List.map_map, forT_eq]
        refine comp_list (fun a => D.str (rowT a)) (fun a => D.tup (forT a)) (kids t) fun a ha => ?_
        have := kids_sz t a ha
        have ih := forest_of_of f a (by omega) (by omega)
        exact ⟨_, rfl, rfl, by simp [ih]⟩
    refine run_of (g := g_forest_of (φ_forest_of f)) ?_
    simp [g_forest_of, hc]
/-- tree_of -/
theorem tree_of_of : ∀ (f : Nat) (t : Tr), sz t < f → sz t ≤ 400 → φ_tree_of f [.str (rowT t)] = .ok (treeD t)
  | 0, t, h, _ => absurd h (Nat.not_lt_zero _)
  | f + 1, .leaf, h, hl => rfl
  | f + 1, .node a b, h, hl => by
    have h : sz a + sz b + 1 < f + 1 := h
    have hl' : sz a + sz b + 1 ≤ 400 := hl
    have hp := parts_of_of (t := .node a b) hl
    have hp : φ_parts_of [.str (rowT (.node a b))] = .ok (.lst (.str (rowT a) :: ((kids b).map rowT).map D.str)) := hp
    have i1 := tree_of_of f a (by omega) (by omega)
    have i2 := tree_of_of f b (by omega) (by omega)
    have hlen := rowT_len (.node a b)
    have hlen : (rowT (.node a b)).length = 2 * (sz a + sz b + 1) := hlen
    have hla := rowT_len a
    have pl : plainS (rowT (.node a b)) = true := brack_plain (whole_iff.mp (rowT_whole _)).1
    have e1 : dEq (.str (rowT (.node a b))) (.str []) = .ok (.bool false) := by
      rw [y_eqS pl rfl (limA (by omega)) (limA (by simp))]
      rfl
    have e2 : at? (D.str (rowT a) :: ((kids b).map rowT).map D.str) (0 : Int) = some (.str (rowT a)) := at_zero
    have e3 : bLen (.str (rowT a)) = .ok (nd (rowT a).length) := by
      rw [y_lenS, if_pos (limA (by omega))]
    have e4 : dAdd (nd (rowT a).length) (.int 2) = .ok (nd ((rowT a).length + 2)) := by
      rw [y_add]
      rfl
    have e5 : dCut (.str (rowT (.node a b))) (some (((rowT a).length + 2 : Nat) : Int)) none = .ok (.str (rowT b)) := by
      rw [y_cutS, if_pos (limA (by omega)), cut_from]
      show Res.ok (D.str ((40 :: (rowT a ++ 41 :: rowT b)).drop ((rowT a).length + 2))) = _
      rw [show (40 :: (rowT a ++ 41 :: rowT b)) = (40 :: rowT a ++ [41]) ++ rowT b by simp]
      rw [show (rowT a).length + 2 = (40 :: rowT a ++ [41]).length by simp, List.drop_left]
    refine run_of (g := g_tree_of (φ_tree_of f)) ?_
    show _ = Out.ret (.tup [treeD a, treeD b])
    generalize hn : (rowT a).length + 2 = m at e4 e5
    generalize (rowT a).length = m0 at e3 e4
    generalize rowT (.node a b) = R at hp e1 e5 ⊢
    generalize ((kids b).map rowT).map D.str = L at hp e2
    generalize rowT a = A at hp e2 e3 i1
    generalize rowT b = B at e5 i2
    simp [-y_lenS, -y_cutS, g_tree_of, e1, hp, e2, i1, e3, e4, e5, i2]
/-- row_by_forest -/
theorem flat_rows : ∀ t, ((kids t).map fun a => 40 :: rowT a ++ [41]).flatten = rowT t
  | .leaf => rfl
  | .node a b => by
    show ((40 :: rowT a ++ [41]) :: (kids b).map fun a => 40 :: rowT a ++ [41]).flatten = 40 :: (rowT a ++ 41 :: rowT b)
    rw [List.flatten_cons, flat_rows b]
    simp
theorem lenSum_flat (l : List (List Nat)) : lenSum l = l.flatten.length := by
  induction l with
  | nil => rfl
  | cons x r ih =>
    rw [List.flatten_cons, List.length_append, ← ih]
    rfl
theorem row_by_forest_of : ∀ (f : Nat) (t : Tr), sz t < f → sz t ≤ 400 → φ_row_by_forest f [.tup (forT t)] = .ok (.str (rowT t))
  | 0, t, h, _ => absurd h (Nat.not_lt_zero _)
  | f + 1, t, h, hl => by
    have hc : c_row_by_forest_1 (φ_row_by_forest f) [some (.dat (.tup (forT t))), none] = .ok (.lst (((kids t).map fun a => 40 :: rowT a ++ [41]).map D.str)) := by
      refine eComp_of (ds := forT t) rfl ?_ ?_
      · rw [forT_eq, List.length_map]
        exact limA (Nat.le_trans (kids_len t) (by omega))
      · rw [forT_eq, List.map_map]
        refine comp_list (fun a => D.tup (forT a)) (fun a => D.str (40 :: rowT a ++ [41])) (kids t) fun a ha => ?_
        have hk := kids_sz t a ha
        have ih := row_by_forest_of f a (by omega) (by omega)
        have hla := rowT_len a
        have l1 : 1 + (rowT a).length ≤ lim := limA (by omega)
        have a1 : dAdd (.str [40]) (.str (rowT a)) = .ok (.str (40 :: rowT a)) := if_pos l1
        have a2 : dAdd (.str (40 :: rowT a)) (.str [41]) = .ok (.str (40 :: rowT a ++ [41])) := if_pos (limA (by
          show (rowT a).length + 1 + 1 ≤ 1000
          omega))
        refine ⟨_, rfl, rfl, ?_⟩
        generalize 40 :: rowT a ++ [41] = Y at a2 ⊢
        generalize 40 :: rowT a = Z at a1 a2
        simp [-y_addS, ih, a1, a2]
    have hj : dJoin (.str []) (.lst (((kids t).map fun a => 40 :: rowT a ++ [41]).map D.str)) = .ok (.str (rowT t)) := by
      rw [dJoin_map, joinS_nil, flat_rows]
      rw [lenSum_flat, flat_rows, rowT_len]
      show _ + _ * 0 ≤ 16777216
      omega
    refine run_of (g := g_row_by_forest (φ_row_by_forest f)) ?_
    generalize ((kids t).map fun a => 40 :: rowT a ++ [41]).map D.str = L at hc hj
    simp [g_row_by_forest, hc, hj]
/-- row_by_tree -/
theorem row_by_tree_of : ∀ (f : Nat) (t : Tr), sz t < f → sz t ≤ 400 → φ_row_by_tree f [treeD t] = .ok (.str (rowT t))
  | 0, t, h, _ => absurd h (Nat.not_lt_zero _)
  | f + 1, .leaf, h, hl => rfl
  | f + 1, .node a b, h, hl => by
    have h : sz a + sz b + 1 < f + 1 := h
    have hl' : sz a + sz b + 1 ≤ 400 := hl
    have i1 := row_by_tree_of f a (by omega) (by omega)
    have i2 := row_by_tree_of f b (by omega) (by omega)
    have hla := rowT_len a
    have hlb := rowT_len b
    have a1 : dAdd (.str [40]) (.str (rowT a)) = .ok (.str (40 :: rowT a)) := if_pos (limA (by
      show 1 + (rowT a).length ≤ 1000
      omega))
    have a2 : dAdd (.str (40 :: rowT a)) (.str [41]) = .ok (.str (40 :: rowT a ++ [41])) := if_pos (limA (by
      show (rowT a).length + 1 + 1 ≤ 1000
      omega))
    have a3 : dAdd (.str (40 :: rowT a ++ [41])) (.str (rowT b)) = .ok (.str (40 :: (rowT a ++ 41 :: rowT b))) := by
      have : dAdd (.str (40 :: rowT a ++ [41])) (.str (rowT b)) = .ok (.str ((40 :: rowT a ++ [41]) ++ rowT b)) := if_pos (limA (by
        simp
        omega))
      rw [this]
      simp
    have n1 : dIsN (.tup [treeD a, treeD b]) .none = .ok (.bool false) := rfl
    have x1 : at? [treeD a, treeD b] (0 : Int) = some (treeD a) := rfl
    have x2 : at? [treeD a, treeD b] (1 : Int) = some (treeD b) := rfl
    refine run_of (g := g_row_by_tree (φ_row_by_tree f)) ?_
    show g_row_by_tree (φ_row_by_tree f) [some (.dat (.tup [treeD a, treeD b]))] = Out.ret (.str (40 :: (rowT a ++ 41 :: rowT b)))
    generalize 40 :: (rowT a ++ 41 :: rowT b) = Y at a3 ⊢
    generalize 40 :: rowT a ++ [41] = Z at a2 a3
    generalize 40 :: rowT a = Z2 at a1 a2
    simp [-y_addS, g_row_by_tree, n1, x1, x2, i1, i2, a1, a2, a3]
/-- mirrored -/
theorem mirrored_of : ∀ (f : Nat) (t : Tr), sz t < f → φ_mirrored f [treeD t] = .ok (treeD (mir t))
  | 0, t, h => absurd h (Nat.not_lt_zero _)
  | f + 1, .leaf, h => rfl
  | f + 1, .node a b, h => by
    have h : sz a + sz b + 1 < f + 1 := h
    have i1 := mirrored_of f a (by omega)
    have i2 := mirrored_of f b (by omega)
    have n1 : dIsN (.tup [treeD a, treeD b]) .none = .ok (.bool false) := rfl
    have x1 : at? [treeD a, treeD b] (0 : Int) = some (treeD a) := rfl
    have x2 : at? [treeD a, treeD b] (1 : Int) = some (treeD b) := rfl
    refine run_of (g := g_mirrored (φ_mirrored f)) ?_
    show g_mirrored (φ_mirrored f) [some (.dat (.tup [treeD a, treeD b]))] = Out.ret (.tup [treeD (mir b), treeD (mir a)])
    simp [g_mirrored, n1, x1, x2, i1, i2]
theorem l_mirrored_of : ∀ (f : Nat) (t : Tr), sz t < f → φ_l_mirrored f [treeD t] = .ok (treeD (mir t))
  | 0, t, h => absurd h (Nat.not_lt_zero _)
  | f + 1, .leaf, h => rfl
  | f + 1, .node a b, h => by
    have h : sz a + sz b + 1 < f + 1 := h
    have i1 := l_mirrored_of f a (by omega)
    have i2 := l_mirrored_of f b (by omega)
    have n1 : dIsN (.tup [treeD a, treeD b]) .none = .ok (.bool false) := rfl
    refine run_of (g := g_l_mirrored (φ_l_mirrored f)) ?_
    show g_l_mirrored (φ_l_mirrored f) [some (.dat (.tup [treeD a, treeD b])), none, none] = Out.ret (.tup [treeD (mir b), treeD (mir a)])
    simp [g_l_mirrored, n1, i1, i2]
theorem cut_tup1 (d : D) (ds : List D) : dCut (.tup (d :: ds)) (some 1) none = .ok (.tup ds) := by
  have hs : sl (d :: ds).length 0 (some 1) = 1 := by
    have := sl_nat (d :: ds).length 0 1
    rw [show ((1 : Nat) : Int) = 1 from rfl] at this
    rw [this, List.length_cons]
    omega
  have h : ¬ (sl (d :: ds).length 0 (some 1) = 0 ∧ sl (d :: ds).length (d :: ds).length Option.none = (d :: ds).length) := fun z => by omega
  have e : cut (d :: ds) (some 1) none = ds := cut_from (d :: ds) 1
  unfold dCut
  dsimp only
  rw [if_pos h, e]
/-- the law's own tree of a forest -/
theorem l_tree_of : ∀ (f : Nat) (t : Tr), sz t < f → φ_l_tree f [.tup (forT t)] = .ok (treeD t)
  | 0, t, h => absurd h (Nat.not_lt_zero _)
  | f + 1, .leaf, h => rfl
  | f + 1, .node a b, h => by
    have h : sz a + sz b + 1 < f + 1 := h
    have i1 := l_tree_of f a (by omega)
    have i2 := l_tree_of f b (by omega)
    have x1 : at? (D.tup (forT a) :: forT b) (0 : Int) = some (.tup (forT a)) := at_zero
    have x2 : dCut (.tup (D.tup (forT a) :: forT b)) (some 1) none = .ok (.tup (forT b)) := cut_tup1 _ _
    refine run_of (g := g_l_tree (φ_l_tree f)) ?_
    show g_l_tree (φ_l_tree f) [some (.dat (.tup (.tup (forT a) :: forT b)))] = Out.ret (.tup [treeD a, treeD b])
    simp [g_l_tree, x1, x2, i1, i2]
/-- the law's own forest -/
theorem low_pos {s : List Nat} (h : whole s = true) (k : Nat) : 0 ≤ total (s.take k) := by
  obtain ⟨h1, h2, _⟩ := whole_iff.mp h
  by_cases hk : k ≤ s.length
  · have := hts_get s 0 k hk
    have := h2 _ (List.mem_of_getElem? this)
    omega
  · rw [List.take_of_length_le (by omega)]
    rw [(whole_iff.mp h).2.2]
    exact Int.le_refl 0
section
variable {z0 z1 z2 z3 : Option S}
theorem find_end {a b : Tr} (hl : sz a + sz b + 1 ≤ 100) :
    whil (tE (eBin dNe (eBin dCount (eSlice (eVar 2) none (some (eVar 3))) (eC (.str [40]))) (eBin dCount (eSlice (eVar 2) none (some (eVar 3))) (eC (.str [41]))))) b_l_forest_1 1000
      [z0, z1, some (.dat (.str (rowT (.node a b)))), some (.dat (.int 1))] = .next [z0, z1, some (.dat (.str (rowT (.node a b)))), some (.dat (nd ((rowT a).length + 2)))] := by
  have hlen : (rowT (.node a b)).length = 2 * (sz a + sz b + 1) := rowT_len (.node a b)
  have hla := rowT_len a
  have hll : (rowT (.node a b)).length ≤ lim := limA (by omega)
  have hb : brack (rowT (.node a b)) = true := (whole_iff.mp (rowT_whole _)).1
  have test : ∀ k : Nat, tE (eBin dNe (eBin dCount (eSlice (eVar 2) none (some (eVar 3))) (eC (.str [40]))) (eBin dCount (eSlice (eVar 2) none (some (eVar 3))) (eC (.str [41])))) [z0, z1, some (.dat (.str (rowT (.node a b)))), some (.dat (nd k))] =
      .ok (!decide (total ((rowT (.node a b)).take k) = 0)) := fun k => by
    have hc : cut (rowT (.node a b)) none (some (k : Int)) = (rowT (.node a b)).take k := cut_to _ k
    have ht : ((rowT (.node a b)).take k).length ≤ lim := by
      rw [List.length_take]
      exact Nat.le_trans (Nat.min_le_right _ _) hll
    have c40 : dCount (.str ((rowT (.node a b)).take k)) (.str [40]) = .ok (.int (((rowT (.node a b)).take k).count 40 : Nat)) := if_pos ht
    have c41 : dCount (.str ((rowT (.node a b)).take k)) (.str [41]) = .ok (.int (((rowT (.node a b)).take k).count 41 : Nat)) := if_pos ht
    have htc := total_count (brack_take hb k)
    have e : decide ((((rowT (.node a b)).take k).count 40 : Int) = (((rowT (.node a b)).take k).count 41 : Int)) = decide (total ((rowT (.node a b)).take k) = 0) := by
      rw [htc]
      by_cases q : (((rowT (.node a b)).take k).count 40 : Int) = (((rowT (.node a b)).take k).count 41 : Int)
      · rw [decide_eq_true q, decide_eq_true (by omega)]
      · rw [decide_eq_false q, decide_eq_false (by omega)]
    rw [← e]
    have hne : dNe (.int (((rowT (.node a b)).take k).count 40 : Nat)) (.int (((rowT (.node a b)).take k).count 41 : Nat)) = .ok (.bool (!decide ((((rowT (.node a b)).take k).count 40 : Int) = (((rowT (.node a b)).take k).count 41 : Int)))) := y_neI
    generalize (D.int (((rowT (.node a b)).take k).count 40 : Nat)) = C40 at c40 hne
    generalize (D.int (((rowT (.node a b)).take k).count 41 : Nat)) = C41 at c41 hne
    generalize (!decide ((((rowT (.node a b)).take k).count 40 : Int) = (((rowT (.node a b)).take k).count 41 : Int))) = Q at hne ⊢
    simp [hll, hc, c40, c41, hne]
  have key := whil_up (t := tE (eBin dNe (eBin dCount (eSlice (eVar 2) none (some (eVar 3))) (eC (.str [40]))) (eBin dCount (eSlice (eVar 2) none (some (eVar 3))) (eC (.str [41]))))) (b := b_l_forest_1)
    (fun k => [z0, z1, some (.dat (.str (rowT (.node a b)))), some (.dat (nd k))]) ((rowT a).length + 1) 1 1000 (by omega) (fun i h1 h2 => by
      refine ⟨?_, ?_⟩
      · show tE _ [z0, z1, some (.dat (.str (rowT (.node a b)))), some (.dat (nd i))] = _
        rw [test]
        have ht : total ((rowT (.node a b)).take i) ≠ 0 := by
          obtain ⟨j, rfl⟩ : ∃ j, i = j + 1 := ⟨i - 1, by omega⟩
          show total ((40 :: (rowT a ++ 41 :: rowT b)).take (j + 1)) ≠ 0
          rw [List.take_succ_cons, total_cons, List.take_append_of_le_length (by omega)]
          have := low_pos (rowT_whole a) j
          have h40 : up 40 = 1 := rfl
          omega
        rw [decide_eq_false ht]
        rfl
      · show b_l_forest_1 [z0, z1, some (.dat (.str (rowT (.node a b)))), some (.dat (nd i))] = .next [z0, z1, some (.dat (.str (rowT (.node a b)))), some (.dat (nd (i + 1)))]
        rfl) (by
      show tE _ [z0, z1, some (.dat (.str (rowT (.node a b)))), some (.dat (nd (1 + ((rowT a).length + 1))))] = _
      rw [test]
      have ht : total ((rowT (.node a b)).take (1 + ((rowT a).length + 1))) = 0 := by
        show total ((40 :: (rowT a ++ 41 :: rowT b)).take (1 + ((rowT a).length + 1))) = 0
        rw [show (40 :: (rowT a ++ 41 :: rowT b)) = (40 :: rowT a ++ [41]) ++ rowT b by simp]
        rw [show 1 + ((rowT a).length + 1) = (40 :: rowT a ++ [41]).length by simp; omega, List.take_left]
        exact whole_total (whole_pair (rowT_whole a))
      rw [decide_eq_true ht]
      rfl)
  have e : 1 + ((rowT a).length + 1) = (rowT a).length + 2 := by omega
  rw [e] at key
  exact key
theorem l_forest_turns {f : Nat} (ih : ∀ t : Tr, sz t < f → sz t ≤ 100 → φ_l_forest f [.str (rowT t)] = .ok (.tup (forT t))) :
    ∀ (t : Tr) (n : Nat) (acc : List D) (z3 : Option S), sz t ≤ f → sz t ≤ 100 → sz t < n → acc.length + sz t ≤ 1000 → ∃ x3, whil (tV (eVar 2)) (b_l_forest_2 (φ_l_forest f)) n [z0, some (.own acc), some (.dat (.str (rowT t))), z3] = .next [z0, some (.own (acc ++ forT t)), some (.dat (.str [])), x3]
  | .leaf, n + 1, acc, z3, _, _, _, _ => ⟨z3, by
      show _ = Out.next [z0, some (.own (acc ++ [])), some (.dat (.str [])), z3]
      rw [List.append_nil]
      rfl⟩
  | .node a b, n + 1, acc, z3, h1, h2, h3, h4 => by
    have h1 : sz a + sz b + 1 ≤ f := h1
    have h2 : sz a + sz b + 1 ≤ 100 := h2
    have h3 : sz a + sz b + 1 < n + 1 := h3
    have h4 : acc.length + (sz a + sz b + 1) ≤ 1000 := h4
    obtain ⟨x3, e⟩ := l_forest_turns ih b n (acc ++ [.tup (forT a)]) (some (.dat (nd ((rowT a).length + 2)))) (by omega) (by omega) (by omega) (by
      rw [List.length_append, List.length_singleton]
      omega)
    refine ⟨x3, ?_⟩
    have hlen : (rowT (.node a b)).length = 2 * (sz a + sz b + 1) := rowT_len (.node a b)
    have hla := rowT_len a
    have hll : (rowT (.node a b)).length ≤ lim := limA (by omega)
    have hF : acc ++ forT (.node a b) = acc ++ [.tup (forT a)] ++ forT b := by
      show acc ++ (.tup (forT a) :: forT b) = _
      simp
    rw [hF, ← e]
    show outOf (tV (eVar 2) [z0, some (.own acc), some (.dat (.str (rowT (.node a b)))), z3]) _ = _
    have ht : tV (eVar 2) [z0, some (.own acc), some (.dat (.str (rowT (.node a b)))), z3] = .ok true := by
      show (dTruth (.str (rowT (.node a b)))) = _
      rw [y_truS, if_pos hll]
      rfl
    rw [ht, outOf_ok, if_pos rfl]
    have hi := ih a (by omega) (by omega)
    have hE := find_end (z0 := z0) (z1 := some (.own acc)) (a := a) (b := b) h2
    have hs : dSub (nd ((rowT a).length + 2)) (.int 1) = .ok (nd ((rowT a).length + 1)) := by
      rw [y_sub]
      congr 2
      omega
    have e5 : dCut (.str (rowT (.node a b))) (some (((rowT a).length + 2 : Nat) : Int)) none = .ok (.str (rowT b)) := by
      rw [y_cutS, if_pos (limA (by omega)), cut_from]
      show Res.ok (D.str ((40 :: (rowT a ++ 41 :: rowT b)).drop ((rowT a).length + 2))) = _
      rw [show (40 :: (rowT a ++ 41 :: rowT b)) = (40 :: rowT a ++ [41]) ++ rowT b by simp]
      rw [show (rowT a).length + 2 = (40 :: rowT a ++ [41]).length by simp, List.drop_left]
    have e6 : dCut (.str (rowT (.node a b))) (some 1) (some (((rowT a).length + 1 : Nat) : Int)) = .ok (.str (rowT a)) := by
      rw [y_cutS, if_pos (limA (by omega)), show (1 : Int) = ((1 : Nat) : Int) from rfl, cut_mid]
      show Res.ok (D.str (((40 :: (rowT a ++ 41 :: rowT b)).take ((rowT a).length + 1)).drop 1)) = _
      rw [List.take_succ_cons, List.take_left]
      rfl
    have hac : acc.length < lim := by
      show _ < 16777216
      omega
    have hbody : b_l_forest_2 (φ_l_forest f) [z0, some (.own acc), some (.dat (.str (rowT (.node a b)))), z3] = .next [z0, some (.own (acc ++ [.tup (forT a)])), some (.dat (.str (rowT b))), some (.dat (nd ((rowT a).length + 2)))] := by
      generalize (rowT a).length + 2 = m2 at hE hs e5 ⊢
      generalize (rowT a).length + 1 = m1 at hs e6
      generalize rowT (.node a b) = R at hE e5 e6 ⊢
      generalize rowT a = A at hi e6
      generalize rowT b = B at e5 ⊢
      simp [-y_cutS, b_l_forest_2, sWhile, hE, hs, e6, hi, hac, e5]
    rw [hbody]
theorem l_forest_of : ∀ (f : Nat) (t : Tr), sz t < f → sz t ≤ 100 → φ_l_forest f [.str (rowT t)] = .ok (.tup (forT t))
  | 0, t, h, _ => absurd h (Nat.not_lt_zero _)
  | f + 1, t, h, hl => by
    obtain ⟨x3, e⟩ := l_forest_turns (z0 := some (.dat (.str (rowT t)))) (f := f) (fun a ha hb => l_forest_of f a ha hb) t 1000 [] none (by omega) hl (by omega) (by simp; omega)
    refine run_of (g := g_l_forest (φ_l_forest f)) ?_
    rw [List.nil_append] at e
    simp [g_l_forest, sWhile, e]
end
end Bk
end
/-! BkT7 -/
section
set_option linter.all false
set_option autoImplicit false
set_option maxRecDepth 100000
/-! terms printed by gen.py -/
namespace Bk
def g_threes (self : List D → Res D) : St := (sSeq (sIf (tE (eBin dEq (eVar 0) (eC (.str [])))) (sRet (eLst [])) sSkip)
  (sSeq (sSet 2 (eBin dIdx (eCall φ_parts_of [(eVar 0)]) (eC (.int 0))))
  (sSeq (sSet 3 (eSlice (eVar 0) (some (eBin dAdd (eUn bLen (eVar 2)) (eC (.int 2)))) none))
  (sSeq (sSet 4 (eBin dAdd (eBin dAdd (eVar 1) (eBin dDiv (eUn bLen (eVar 2)) (eC (.int 2)))) (eC (.int 1))))
  (sRet (eBin dAdd (eBin dAdd (eLst [(eTup [(eVar 1), (eVar 4), (eBin dAdd (eBin dAdd (eVar 4) (eBin dDiv (eUn bLen (eVar 3)) (eC (.int 2)))) (eC (.int 1)))])]) (eCall self [(eVar 2), (eVar 1)])) (eCall self [(eVar 3), (eVar 4)])))))))
def φ_threes : Nat → List D → Res D
  | 0 => fun _ => .bad
  | n + 1 => runDef 5 (g_threes (φ_threes n))
def c_cut_of_1 : E := (eComp [1, 2, 3] (iAny (eCall (φ_threes 26) [(eVar 0), (eC (.int 0))])) (gTri 1 2 3) tYes (eTup [(eVar 1), (eVar 2), (eVar 3)]))
def g_cut_of : St := (sRet (eUn bTuple (eUn bSorted c_cut_of_1)))
def φ_cut_of : List D → Res D := runDef 4 g_cut_of
def c_row_between_1 : E := (eComp [4] (iAny (eVar 0)) (gName 4) (tAnd (tE (eBin dEq (eBin dIdx (eVar 4) (eC (.int 0))) (eVar 1))) (tE (eBin dEq (eBin dIdx (eVar 4) (eC (.int 2))) (eVar 2)))) (eBin dIdx (eVar 4) (eC (.int 1))))
def g_row_between (self : List D → Res D) : St := (sSeq (sIf (tE (eBin dEq (eVar 2) (eBin dAdd (eVar 1) (eC (.int 1))))) (sRet (eC (.str []))) sSkip)
  (sSeq (sSet 3 (eBin dIdx c_row_between_1 (eC (.int 0))))
  (sRet (eBin dAdd (eBin dAdd (eBin dAdd (eC (.str [40])) (eCall self [(eVar 0), (eVar 1), (eVar 3)])) (eC (.str [41]))) (eCall self [(eVar 0), (eVar 3), (eVar 2)])))))
def φ_row_between : Nat → List D → Res D
  | 0 => fun _ => .bad
  | n + 1 => runDef 5 (g_row_between (φ_row_between n))
def g_row_by_cut : St := (sRet (eCall (φ_row_between 26) [(eVar 0), (eC (.int 0)), (eBin dAdd (eUn bLen (eVar 0)) (eC (.int 1)))]))
def φ_row_by_cut : List D → Res D := runDef 1 g_row_by_cut
def g_l_size (self : List D → Res D) : St := (sSeq (sIf (tE (eBin dIsN (eVar 0) (eC .none))) (sRet (eC (.int 0))) sSkip)
  (sRet (eBin dAdd (eBin dAdd (eC (.int 1)) (eCall self [(eBin dIdx (eVar 0) (eC (.int 0)))])) (eCall self [(eBin dIdx (eVar 0) (eC (.int 1)))]))))
def φ_l_size : Nat → List D → Res D
  | 0 => fun _ => .bad
  | n + 1 => runDef 1 (g_l_size (φ_l_size n))
def g_l_threes (self : List D → Res D) : St := (sSeq (sIf (tE (eBin dIsN (eVar 0) (eC .none))) (sRet (eLst [])) sSkip)
  (sSeq (sSet 3 (eBin dAdd (eBin dAdd (eVar 1) (eC (.int 1))) (eCall (φ_l_size 26) [(eBin dIdx (eVar 0) (eC (.int 0)))])))
  (sSeq (sSet 4 (eBin dAdd (eCall self [(eBin dIdx (eVar 0) (eC (.int 0))), (eVar 1), (eVar 3)]) (eCall self [(eBin dIdx (eVar 0) (eC (.int 1))), (eVar 3), (eVar 2)])))
  (sRet (eBin dAdd (eVar 4) (eLst [(eTup [(eVar 1), (eVar 3), (eVar 2)])]))))))
def φ_l_threes : Nat → List D → Res D
  | 0 => fun _ => .bad
  | n + 1 => runDef 5 (g_l_threes (φ_l_threes n))
def b_l_sides_right_1 : St := (sSet 2 (eBin dAdd (eVar 2) (eLst [(eTup [(eVar 3), (eVar 4)]), (eTup [(eVar 4), (eVar 5)]), (eTup [(eVar 3), (eVar 5)])])))
def c_l_sides_right_1 : E := (eComp [8] (iAny (eVar 2)) (gName 8) (tE (eChain3 dLt dLt dLt (eVar 6) (eBin dIdx (eVar 8) (eC (.int 0))) (eVar 7) (eBin dIdx (eVar 8) (eC (.int 1))))) (eVar 8))
def b_l_sides_right_2 : St := (sSeq (sIf (tOr (tE (eBin dEq (eVar 7) (eBin dAdd (eVar 6) (eC (.int 1))))) (tE (eBin dEq (eBin dSub (eVar 7) (eVar 6)) (eBin dAdd (eVar 1) (eC (.int 1)))))) (sIf (tE (eBin dNe (eCountL (eVar 2) (eTup [(eVar 6), (eVar 7)])) (eC (.int 1)))) (sRet (eC (.bool false))) sSkip) (sIf (tE (eBin dNe (eCountL (eVar 2) (eTup [(eVar 6), (eVar 7)])) (eC (.int 2)))) (sRet (eC (.bool false))) sSkip))
  (sIf (tV c_l_sides_right_1) (sRet (eC (.bool false))) sSkip))
def g_l_sides_right : St := (sSeq (sSet 2 (eLst []))
  (sSeq (sFor (iAny (eVar 0)) (gTri 3 4 5) b_l_sides_right_1)
  (sSeq (sFor (iAny (eVar 2)) (gPair 6 7) b_l_sides_right_2)
  (sRet (eC (.bool true))))))
def φ_l_sides_right : List D → Res D := runDef 9 g_l_sides_right
end Bk
end
/-! BkTP -/
section
set_option linter.all false
set_option autoImplicit false
set_option maxRecDepth 100000
/-! terms printed by gen.py -/
namespace Bk
def b_parting_of_1 : St := (sIf (tE (eBin dEq (eVar 5) (eC (.str [40])))) (sSeq (sIf (tOwn 3) (sSeq (sApp 1 (eUn bTuple (eOwn bSorted 3)))
  (sNew 3 [])) sSkip)
  (sSeq (sApp 2 (eVar 4))
  (sSet 4 (eBin dAdd (eVar 4) (eC (.int 1)))))) (sAppPop 3 2))
def g_parting_of : St := (sSeq (sNew 1 [])
  (sSeq (sNew 2 [])
  (sSeq (sNew 3 [])
  (sSeq (sSet 4 (eC (.int 0)))
  (sSeq (sFor (iAny (eBin dAdd (eVar 0) (eC (.str [40])))) (gName 5) b_parting_of_1)
  (sRet (eUn bTuple (eOwn bSorted 1))))))))
def φ_parting_of : List D → Res D := runDef 6 g_parting_of
end Bk
end
/-! BkPA -/
section
set_option linter.all false
set_option autoImplicit false
set_option maxRecDepth 100000
/-! BkPA: what parting_of gives -/
namespace Bk
theorem sort_nums {l : List Nat} (h : l.length ≤ 1000) : bSorted (.lst (l.map nd)) = .ok (.lst ((l.mergeSort fun a b => decide (a ≤ b)).map nd)) := by
  have h1 : sortable (l.map nd) = true := by
    unfold sortable
    rw [Bool.and_eq_true, Bool.and_eq_true, Bool.and_eq_true]
    refine ⟨⟨⟨?_, ?_⟩, ?_⟩, ?_⟩
    · rw [List.all_eq_true]
      intro a ha
      rw [List.all_eq_true]
      intro b hb
      rw [List.mem_map] at ha hb
      obtain ⟨x, _, rfl⟩ := ha
      obtain ⟨y, _, rfl⟩ := hb
      rfl
    · rw [Bool.or_eq_true]
      right
      rw [List.all_eq_true]
      intro a ha
      rw [List.mem_map] at ha
      obtain ⟨x, hx, rfl⟩ := ha
      rfl
    · rw [List.all_eq_true]
      intro a ha
      rw [List.mem_map] at ha
      obtain ⟨x, hx, rfl⟩ := ha
      rfl
    · rw [List.length_map]
      exact decide_eq_true (limA h)
  show (if sortable (l.map nd) = true then Res.ok (D.lst ((l.map nd).mergeSort D.le)) else .bad) = _
  rw [if_pos h1]
  congr 2
  exact (List.map_mergeSort (r := fun a b => decide (a ≤ b)) (s := D.le) (f := nd) fun a _ b _ => by
    show decide (a ≤ b) = !D.lt (nd b) (nd a)
    rw [lt_nd]
    by_cases h : a ≤ b
    · have : ¬ b < a := by omega
      simp [h, this]
    · have : b < a := by omega
      simp [h, this]).symm
theorem nums_same {l m : List Nat} (h : l.Perm m) (hs : m.Pairwise (· ≤ ·)) : (l.mergeSort fun a b => decide (a ≤ b)) = m := by
  have tr : ∀ a b c : Nat, decide (a ≤ b) = true → decide (b ≤ c) = true → decide (a ≤ c) = true := fun a b c h1 h2 => decide_eq_true (Nat.le_trans (of_decide_eq_true h1) (of_decide_eq_true h2))
  have to : ∀ a b : Nat, (decide (a ≤ b) || decide (b ≤ a)) = true := fun a b => by
    rw [Bool.or_eq_true]
    rcases Nat.le_total a b with h | h
    · exact .inl (decide_eq_true h)
    · exact .inr (decide_eq_true h)
  have hp : (l.mergeSort fun a b => decide (a ≤ b)).Pairwise (· ≤ ·) := (List.pairwise_mergeSort tr to l).imp fun h => of_decide_eq_true h
  exact List.Perm.eq_of_pairwise (fun a b _ _ h1 h2 => Nat.le_antisymm h1 h2) hp hs ((List.mergeSort_perm l _).trans h)
theorem sort_down {l : List Nat} (h : l.length ≤ 1000) (hp : l.Pairwise (· > ·)) : bSorted (.lst (l.map nd)) = .ok (.lst (l.reverse.map nd)) := by
  rw [sort_nums h, nums_same (List.reverse_perm l).symm (List.pairwise_reverse.mpr (hp.imp fun h => Nat.le_of_lt h))]
def flushF (F : List (List Nat)) (b : List Nat) : List (List Nat) := if b = [] then F else F ++ [b.reverse]
/-- the blocks that are found: those so far, the stack from the top, the block that is under way, the points so far -/
def pf : List Nat → List (List Nat) → List Nat → List Nat → Nat → Option (List (List Nat))
  | [], F, _, _, _ => some F
  | c :: r, F, S, b, m => if c = 40 then pf r (flushF F b) (m :: S) [] (m + 1) else match S with
    | [] => none
    | o :: S' => pf r F S' (b ++ [o]) m
theorem part_loop {x0 : Option S} : ∀ (r : List Nat) (F : List (List Nat)) (S b : List Nat) (m : Nat) (z5 : Option Bk.S) (F' : List (List Nat)), brack r = true → pf r F S b m = some F' → (b ++ S).Pairwise (· > ·) → (∀ x ∈ b ++ S, x < m) → b.length + S.length ≤ m → m + r.length ≤ 1000 → F.length + r.length ≤ 1000 → (∀ x ∈ F, x ≠ []) →
    ∃ z2 z3 z4 z5', loop (gName 5) b_parting_of_1 (signs r) [x0, some (.own (F.map tupN)), some (.own (S.reverse.map nd)), some (.own (b.map nd)), some (.dat (nd m)), z5] = .next [x0, some (.own (F'.map tupN)), z2, z3, z4, z5'] ∧ F'.length ≤ 1000 ∧ ∀ x ∈ F', x ≠ []
  | [], F, S, b, m, z5, F', _, h, _, _, _, _, hF, hn => by
    cases h
    exact ⟨_, _, _, _, rfl, by simpa using hF, hn⟩
  | c :: r, F, S, b, m, z5, F', hb, h, hp, hm, hl, hr, hF, hn => by
    have hb' : brack r = true := by
      unfold brack at hb ⊢
      rw [List.all_cons, Bool.and_eq_true] at hb
      exact hb.2
    rw [List.length_cons] at hr hF
    rcases brack_mem hb List.mem_cons_self with rfl | rfl
    · have h : pf r (flushF F b) (m :: S) [] (m + 1) = some F' := h
      have hp2 : ([] ++ m :: S).Pairwise (· > ·) := List.pairwise_cons.mpr ⟨fun x hx => hm x (List.mem_append_right _ hx), (List.pairwise_append.mp hp).2.1⟩
      have hm2 : ∀ x ∈ [] ++ m :: S, x < m + 1 := fun x hx => by
        rcases List.mem_cons.mp hx with rfl | hx
        · exact Nat.lt_succ_self _
        · exact Nat.lt_succ_of_lt (hm x (List.mem_append_right _ hx))
      have hfl : (flushF F b).length + r.length ≤ 1000 := by
        unfold flushF
        split
        · omega
        · rw [List.length_append]
          show F.length + 1 + _ ≤ _
          omega
      have hfn : ∀ x ∈ flushF F b, x ≠ [] := by
        unfold flushF
        split
        · exact hn
        · rename_i hne
          intro x hx
          rcases List.mem_append.mp hx with hx | hx
          · exact hn x hx
          · rw [List.mem_singleton] at hx
            subst hx
            simpa using hne
      obtain ⟨z2, z3, z4, z5', e, e2⟩ := part_loop r (flushF F b) (m :: S) [] (m + 1) (some (.dat (.str [40]))) F' hb' h hp2 hm2 (by simp; omega) (by omega) hfl hfn
      refine ⟨z2, z3, z4, z5', ?_, e2⟩
      rw [← e]
      refine loop_next rfl ?_
      have a1 : dAdd (nd m) (.int 1) = .ok (nd (m + 1)) := by
        rw [y_add, show (1 : Int) = ((1 : Nat) : Int) from rfl, nd_add]
      have l1 : S.length < lim := by
        show _ < 16777216
        omega
      have l2 : F.length < lim := by
        show _ < 16777216
        omega
      have e3 : (S.reverse.map nd) ++ [nd m] = (m :: S).reverse.map nd := by simp
      have l1' : (S.reverse.map nd).length < lim := by simpa using l1
      by_cases hbe : b = []
      · subst hbe
        have ef : flushF F [] = F := if_pos rfl
        rw [ef]
        generalize nd (m + 1) = m1 at a1 ⊢
        generalize (m :: S).reverse.map nd = S2 at e3 ⊢
        generalize S.reverse.map nd = S1 at e3 l1' ⊢
        generalize nd m = m0 at a1 e3 ⊢
        simp [b_parting_of_1, eq_open, a1, l1', e3]
      · have ef : (flushF F b).map tupN = F.map tupN ++ [.tup (b.reverse.map nd)] := by
          unfold flushF
          rw [if_neg hbe, List.map_append]
          rfl
        have hs := sort_down (l := b) (by omega) (List.pairwise_append.mp hp).1
        have l2' : (F.map tupN).length < lim := by simpa using l2
        have hbe' : (b.map nd).isEmpty = false := by
          cases b with
          | nil => exact absurd rfl hbe
          | cons x y => rfl
        rw [ef]
        generalize nd (m + 1) = m1 at a1 ⊢
        generalize (m :: S).reverse.map nd = S2 at e3 ⊢
        generalize S.reverse.map nd = S1 at e3 l1' ⊢
        generalize nd m = m0 at a1 e3 ⊢
        generalize F.map tupN = F1 at l2' ⊢
        generalize b.reverse.map nd = B1 at hs ⊢
        generalize b.map nd = B2 at hs hbe' ⊢
        simp [b_parting_of_1, eq_open, a1, l1', l2', e3, hs, hbe']
    · cases S with
      | nil => exact nomatch h
      | cons o S' =>
        have h : pf r F S' (b ++ [o]) m = some F' := h
        have ea : (b ++ [o]) ++ S' = b ++ o :: S' := by simp
        obtain ⟨z2, z3, z4, z5', e, e2⟩ := part_loop r F S' (b ++ [o]) m (some (.dat (.str [41]))) F' hb' h (by rw [ea]; exact hp) (by rw [ea]; exact hm) (by simp at hl ⊢; omega) (by omega) (by omega) hn
        refine ⟨z2, z3, z4, z5', ?_, e2⟩
        rw [← e]
        refine loop_next rfl ?_
        have l1' : (b.map nd).length < lim := by
          rw [List.length_map]
          show _ < 16777216
          omega
        have e3 : (b ++ [o]).map nd = b.map nd ++ [nd o] := by simp
        rw [e3]
        generalize b.map nd = B1 at l1' ⊢
        simp [b_parting_of_1, eq_open, l1']
theorem parting_of_of {s : List Nat} {F : List (List Nat)} (hb : brack s = true) (hl : s.length ≤ 900) (h : pf (s ++ [40]) [] [] [] 0 = some F) : φ_parting_of [.str s] = .ok (.tup ((F.mergeSort leN).map tupN)) := by
  have hb2 : brack (s ++ [40]) = true := by
    unfold brack at hb ⊢
    rw [List.all_append, hb]
    rfl
  obtain ⟨z2, z3, z4, z5, e, hF, hn⟩ := part_loop (x0 := some (.dat (.str s))) (s ++ [40]) [] [] [] 0 none F hb2 h List.Pairwise.nil (fun x hx => nomatch hx) (Nat.le_refl _) (by rw [List.length_append]; show 0 + (s.length + 1) ≤ _; omega) (by rw [List.length_append]; show 0 + (s.length + 1) ≤ _; omega) (fun x hx => nomatch hx)
  have a1 : dAdd (.str s) (.str [40]) = .ok (.str (s ++ [40])) := if_pos (limA (by
    show s.length + 1 ≤ 1000
    omega))
  have hs := bSorted_tupsL hn hF
  have i1 : items (.str (s ++ [40])) = .ok (signs (s ++ [40])) := rfl
  refine run_of (g := g_parting_of) ?_
  have e : loop (gName 5) b_parting_of_1 (signs (s ++ [40])) [some (.dat (.str s)), some (.own []), some (.own []), some (.own []), some (.dat (.int 0)), none] = .next [some (.dat (.str s)), some (.own (F.map tupN)), z2, z3, z4, z5] := e
  generalize signs (s ++ [40]) = L at e i1
  generalize F.map tupN = F1 at e hs
  generalize D.str (s ++ [40]) = T at a1 i1
  simp [-y_addS, g_parting_of, a1, i1, e, hs]
end Bk
end
/-! BkNC -/
section
set_option linter.all false
set_option autoImplicit false
set_option maxRecDepth 100000
/-! BkNC: rows by runs; partings that don't cross -/
namespace Bk
/-- a row: behind each bracket that opens, so many that shut -/
def rowC : List Nat → List Nat
  | [] => []
  | c :: cs => 40 :: (List.replicate c 41 ++ rowC cs)
/-- the blocks, in the order in which they end; what stays open -/
def runB : List Nat → Nat → List Nat → Option (List (List Nat) × List Nat)
  | [], _, S => some ([], S)
  | c :: cs, m, S => if c ≤ S.length + 1 then (match runB cs (m + 1) ((m :: S).drop c) with
    | some (R, T) => some (if c = 0 then R else ((m :: S).take c).reverse :: R, T)
    | none => none) else none
theorem runB_cons {c : Nat} {cs : List Nat} {m : Nat} {S : List Nat} {R : List (List Nat)} {T : List Nat} (h : runB (c :: cs) m S = some (R, T)) :
    c ≤ S.length + 1 ∧ ∃ R', runB cs (m + 1) ((m :: S).drop c) = some (R', T) ∧ R = if c = 0 then R' else ((m :: S).take c).reverse :: R' := by
  unfold runB at h
  by_cases hc : c ≤ S.length + 1
  · rw [if_pos hc] at h
    cases e : runB cs (m + 1) ((m :: S).drop c) with
    | none =>
      rw [e] at h
      cases h
    | some p =>
      obtain ⟨R', T'⟩ := p
      rw [e] at h
      simp at h
      obtain ⟨h1, h2⟩ := h
      subst h2
      exact ⟨hc, R', rfl, h1.symm⟩
  · rw [if_neg hc] at h
    cases h
theorem pf_close (r : List Nat) (F : List (List Nat)) : ∀ (c : Nat) (S b : List Nat) (m : Nat), c ≤ S.length → pf (List.replicate c 41 ++ r) F S b m = pf r F (S.drop c) (b ++ S.take c) m
  | 0, S, b, m, _ => by simp
  | c + 1, [], b, m, h => absurd h (by simp)
  | c + 1, o :: S, b, m, h => by
    have e : pf (List.replicate (c + 1) 41 ++ r) F (o :: S) b m = pf (List.replicate c 41 ++ r) F S (b ++ [o]) m := rfl
    rw [e, pf_close r F c S (b ++ [o]) m (by simpa using h)]
    simp
theorem pf_run : ∀ (cs : List Nat) (F : List (List Nat)) (S b : List Nat) (m : Nat) {R : List (List Nat)} {T : List Nat}, runB cs m S = some (R, T) → pf (rowC cs ++ [40]) F S b m = some (flushF F b ++ R)
  | [], F, S, b, m, R, T, h => by
    cases h
    rw [List.append_nil]
    rfl
  | c :: cs, F, S, b, m, R, T, h => by
    obtain ⟨hc, R', h1, h2⟩ := runB_cons h
    have e : pf (rowC (c :: cs) ++ [40]) F S b m = pf (List.replicate c 41 ++ (rowC cs ++ [40])) (flushF F b) (m :: S) [] (m + 1) := by
      show pf (40 :: (List.replicate c 41 ++ rowC cs) ++ [40]) F S b m = _
      rw [List.cons_append, List.append_assoc]
      rfl
    rw [e, pf_close _ _ c (m :: S) [] (m + 1) (by simpa using hc), pf_run cs _ _ _ _ h1, h2]
    by_cases h0 : c = 0
    · subst h0
      rfl
    · rw [if_neg h0, List.nil_append]
      have : (m :: S).take c ≠ [] := by
        cases c with
        | zero => exact absurd rfl h0
        | succ c => simp
      conv => lhs; unfold flushF
      rw [if_neg this, List.append_assoc]
      rfl
theorem run_perm : ∀ (cs : List Nat) (m : Nat) (S : List Nat) {R : List (List Nat)} {T : List Nat}, runB cs m S = some (R, T) → (R.flatten ++ T).Perm (S ++ List.range' m cs.length)
  | [], m, S, R, T, h => by
    cases h
    simp
  | c :: cs, m, S, R, T, h => by
    obtain ⟨hc, R', h1, h2⟩ := runB_cons h
    have ih := run_perm cs (m + 1) _ h1
    have e1 : (R.flatten ++ T).Perm ((m :: S).take c ++ (R'.flatten ++ T)) := by
      rw [h2]
      by_cases h0 : c = 0
      · subst h0
        simp
      · rw [if_neg h0, List.flatten_cons, List.append_assoc]
        exact (List.reverse_perm _).append_right _
    refine e1.trans ((ih.append_left _).trans ?_)
    rw [← List.append_assoc, List.take_append_drop]
    show ((m :: S) ++ List.range' (m + 1) cs.length).Perm (S ++ List.range' m (cs.length + 1))
    rw [List.range'_succ]
    exact List.perm_middle.symm
/-- no point of Y between two of X -/
def NG (X Y : List Nat) : Prop := ∀ q, q ∈ Y → ∀ a, a ∈ X → ∀ c, c ∈ X → ¬ (a < q ∧ q < c)
theorem run_props : ∀ (cs : List Nat) (m : Nat) (S : List Nat) {R : List (List Nat)} {T : List Nat}, runB cs m S = some (R, T) → S.Pairwise (· > ·) → (∀ x, x ∈ S → x < m) → (∀ X, X ∈ R → X ≠ [] ∧ X.Pairwise (· < ·)) ∧ R.Pairwise NG
  | [], m, S, R, T, h, _, _ => by
    cases h
    exact ⟨fun X hX => (nomatch hX), List.Pairwise.nil⟩
  | c :: cs, m, S, R, T, h, hS, hm => by
    obtain ⟨hc, R', h1, h2⟩ := runB_cons h
    have hS1 : (m :: S).Pairwise (· > ·) := List.pairwise_cons.mpr ⟨fun x hx => hm x hx, hS⟩
    have hsp := hS1
    rw [← List.take_append_drop c (m :: S), List.pairwise_append] at hsp
    obtain ⟨hs1, hs2, hs3⟩ := hsp
    have hm1 : ∀ x, x ∈ m :: S → x ≤ m := fun x hx => by
      rcases List.mem_cons.mp hx with rfl | hx
      · exact Nat.le_refl _
      · exact Nat.le_of_lt (hm x hx)
    obtain ⟨ih1, ih2⟩ := run_props cs (m + 1) _ h1 hs2 fun x hx => Nat.lt_succ_of_le (hm1 x (List.mem_of_mem_drop hx))
    by_cases h0 : c = 0
    · rw [if_pos h0] at h2
      subst h2
      exact ⟨ih1, ih2⟩
    · rw [if_neg h0] at h2
      subst h2
      refine ⟨fun X hX => ?_, List.pairwise_cons.mpr ⟨fun Y hY => ?_, ih2⟩⟩
      · rcases List.mem_cons.mp hX with rfl | hX
        · refine ⟨fun z => ?_, List.pairwise_reverse.mpr hs1⟩
          have := congrArg List.length z
          rw [List.length_reverse, List.length_take] at this
          simp at this
          omega
        · exact ih1 X hX
      · intro q hq a ha d hd hh
        rw [List.mem_reverse] at ha hd
        have hp := run_perm cs (m + 1) _ h1
        have hq2 : q ∈ (m :: S).drop c ++ List.range' (m + 1) cs.length := hp.mem_iff.mp (List.mem_append_left _ (List.mem_flatten.mpr ⟨Y, hY, hq⟩))
        rcases List.mem_append.mp hq2 with hq2 | hq2
        · have := hs3 a ha q hq2
          omega
        · have := (List.mem_range'_1.mp hq2).1
          have := hm1 d (List.mem_of_mem_take hd)
          omega
def lastN (X : List Nat) : Nat := X.getLast?.getD 0
def keysC : Nat → List Nat → List (Nat × Nat)
  | _, [] => []
  | m, c :: cs => if c = 0 then keysC (m + 1) cs else (m, c) :: keysC (m + 1) cs
theorem run_keys : ∀ (cs : List Nat) (m : Nat) (S : List Nat) {R : List (List Nat)} {T : List Nat}, runB cs m S = some (R, T) → R.map (fun X => (lastN X, X.length)) = keysC m cs
  | [], m, S, R, T, h => by
    cases h
    rfl
  | c :: cs, m, S, R, T, h => by
    obtain ⟨hc, R', h1, h2⟩ := runB_cons h
    have ih := run_keys cs (m + 1) _ h1
    unfold keysC
    by_cases h0 : c = 0
    · rw [if_pos h0] at h2 ⊢
      subst h2
      exact ih
    · rw [if_neg h0] at h2 ⊢
      subst h2
      rw [List.map_cons, ih]
      congr 1
      have e1 : lastN ((m :: S).take c).reverse = m := by
        unfold lastN
        rw [List.getLast?_reverse]
        cases c with
        | zero => exact absurd rfl h0
        | succ c => rfl
      have e2 : (((m :: S).take c).reverse).length = c := by
        rw [List.length_reverse, List.length_take]
        simp
        omega
      rw [e1, e2]
theorem keys_mem : ∀ (cs : List Nat) (m p c : Nat), (p, c) ∈ keysC m cs ↔ ∃ i, cs[i]? = some c ∧ p = m + i ∧ c ≠ 0
  | [], m, p, c => by simp [keysC]
  | d :: cs, m, p, c => by
    have ih := keys_mem cs (m + 1) p c
    unfold keysC
    by_cases h0 : d = 0
    · rw [if_pos h0, ih]
      refine ⟨fun ⟨i, h1, h2, h3⟩ => ⟨i + 1, by simpa using h1, by omega, h3⟩, fun ⟨i, h1, h2, h3⟩ => ?_⟩
      cases i with
      | zero =>
        simp at h1
        exact absurd (h1.symm.trans h0) h3
      | succ i => exact ⟨i, by simpa using h1, by omega, h3⟩
    · rw [if_neg h0, List.mem_cons, ih]
      refine ⟨fun h => ?_, fun ⟨i, h1, h2, h3⟩ => ?_⟩
      · rcases h with h | ⟨i, h1, h2, h3⟩
        · rw [Prod.mk.injEq] at h
          exact ⟨0, by simp [h.2], by omega, by omega⟩
        · exact ⟨i + 1, by simpa using h1, by omega, h3⟩
      · cases i with
        | zero =>
          simp at h1
          exact .inl (by rw [h1, h2]; rfl)
        | succ i => exact .inr ⟨i, by simpa using h1, by omega, h3⟩
theorem keys_rise : ∀ (cs : List Nat) (m : Nat), ((keysC m cs).map (·.1)).Pairwise (· < ·)
  | [], m => List.Pairwise.nil
  | d :: cs, m => by
    unfold keysC
    split
    · exact keys_rise cs (m + 1)
    · refine List.pairwise_cons.mpr ⟨fun p hp => ?_, keys_rise cs (m + 1)⟩
      rw [List.mem_map] at hp
      obtain ⟨⟨p', c⟩, hp, rfl⟩ := hp
      obtain ⟨i, _, h2, _⟩ := (keys_mem cs (m + 1) p' c).mp hp
      show m < p'
      omega
/-! the sizes by the last points -/
def szOf (x : List (List Nat)) (p : Nat) : Nat := ((x.find? fun X => lastN X == p).map List.length).getD 0
def csOf (x : List (List Nat)) (n : Nat) : List Nat := (List.range n).map (szOf x)
theorem sz_mem {x : List (List Nat)} (h : (x.map lastN).Nodup) {X : List Nat} (hX : X ∈ x) : szOf x (lastN X) = X.length := by
  unfold szOf
  induction x with
  | nil => cases hX
  | cons Y x ih =>
    rw [List.map_cons, List.nodup_cons] at h
    rw [List.find?_cons]
    rcases List.mem_cons.mp hX with rfl | hX
    · simp
    · have : (lastN Y == lastN X) = false := by
        rw [beq_eq_false_iff_ne]
        intro z
        exact h.1 (List.mem_map.mpr ⟨X, hX, z.symm⟩)
      rw [this]
      exact ih h.2 hX
theorem sz_none {x : List (List Nat)} {p : Nat} (h : ∀ X, X ∈ x → lastN X ≠ p) : szOf x p = 0 := by
  unfold szOf
  have : (x.find? fun X => lastN X == p) = none := by
    rw [List.find?_eq_none]
    intro X hX
    simpa using h X hX
  rw [this]
  rfl
theorem cs_back {cs : List Nat} {F x : List (List Nat)} {S T : List Nat} (h : runB cs 0 S = some (F, T)) (hp : x.Perm F) : csOf x cs.length = cs := by
  have hk := run_keys cs 0 S h
  have hn : (F.map lastN).Nodup := by
    have : F.map lastN = (keysC 0 cs).map (·.1) := by
      rw [← hk, List.map_map]
      rfl
    rw [this]
    exact (keys_rise cs 0).imp fun h => Nat.ne_of_lt h
  have hnx : (x.map lastN).Nodup := (hp.map lastN).nodup_iff.mpr hn
  unfold csOf
  apply List.ext_getElem?
  intro p
  rw [List.getElem?_map]
  by_cases hpl : p < cs.length
  · rw [List.getElem?_range hpl]
    have e : cs[p]? = some cs[p] := List.getElem?_eq_getElem hpl
    rw [e]
    show some (szOf x p) = _
    congr 1
    by_cases h0 : cs[p] = 0
    · rw [h0]
      refine sz_none fun X hX z => ?_
      have hm : (lastN X, X.length) ∈ keysC 0 cs := by
        rw [← hk]
        exact List.mem_map.mpr ⟨X, hp.mem_iff.mp hX, rfl⟩
      obtain ⟨i, h1, h2, h3⟩ := (keys_mem _ _ _ _).mp hm
      have : i = p := by omega
      subst this
      rw [e] at h1
      have := Option.some.inj h1
      omega
    · have hm : (p, cs[p]) ∈ keysC 0 cs := (keys_mem _ _ _ _).mpr ⟨p, e, by omega, h0⟩
      rw [← hk, List.mem_map] at hm
      obtain ⟨X, hX, hXe⟩ := hm
      rw [Prod.mk.injEq] at hXe
      obtain ⟨k1, k2⟩ := hXe
      have := sz_mem hnx (hp.mem_iff.mpr hX)
      rw [k1, k2] at this
      exact this
  · rw [List.getElem?_eq_none (by simpa using hpl), List.getElem?_eq_none (by omega)]
    rfl
/-! partings that don't cross -/
structure Nice (x : List (List Nat)) (n : Nat) : Prop where
  ne : ∀ X, X ∈ x → X ≠ []
  rise : ∀ X, X ∈ x → X.Pairwise (· < ·)
  perm : x.flatten.Perm (List.range n)
def noCross (x : List (List Nat)) : Prop := ∀ X, X ∈ x → ∀ Y, Y ∈ x → X ≠ Y → ∀ a, a ∈ X → ∀ c, c ∈ X → ∀ b, b ∈ Y → ∀ d, d ∈ Y → ¬ (a < b ∧ b < c ∧ c < d)
theorem lastN_mem {X : List Nat} (h : X ≠ []) : lastN X ∈ X := by
  unfold lastN
  rw [List.getLast?_eq_some_getLast h]
  exact List.getLast_mem h
theorem lastN_max {X : List Nat} (h : X.Pairwise (· < ·)) {q : Nat} (hq : q ∈ X) : q ≤ lastN X := by
  have hne : X ≠ [] := List.ne_nil_of_mem hq
  unfold lastN
  rw [List.getLast?_eq_some_getLast hne]
  show q ≤ X.getLast hne
  have e := List.dropLast_concat_getLast hne
  rw [← e] at hq h
  rcases List.mem_append.mp hq with hq | hq
  · exact Nat.le_of_lt ((List.pairwise_append.mp h).2.2 q hq _ (List.mem_singleton.mpr rfl))
  · rw [List.mem_singleton] at hq
    rw [hq]
    exact Nat.le_refl _
section
variable {x : List (List Nat)} {n : Nat}
theorem Nice.nodup (h : Nice x n) : x.flatten.Nodup := h.perm.nodup_iff.mpr List.nodup_range
theorem Nice.one (h : Nice x n) {X Y : List Nat} (hX : X ∈ x) (hY : Y ∈ x) {q : Nat} (h1 : q ∈ X) (h2 : q ∈ Y) : X = Y := by
  have hn := h.nodup
  have hn : x.flatten.Pairwise (· ≠ ·) := hn
  rw [List.pairwise_flatten] at hn
  have key : ∀ (l : List (List Nat)), l.Pairwise (fun l₁ l₂ => ∀ a, a ∈ l₁ → ∀ b, b ∈ l₂ → a ≠ b) → X ∈ l → Y ∈ l → X = Y := by
    intro l
    induction l with
    | nil => intro _ a; cases a
    | cons Z l ih =>
      intro hp a b
      rw [List.pairwise_cons] at hp
      rcases List.mem_cons.mp a with ea | a'
      · rcases List.mem_cons.mp b with eb | b'
        · rw [ea, eb]
        · exact absurd rfl (hp.1 Y b' q (by rw [← ea]; exact h1) q h2)
      · rcases List.mem_cons.mp b with eb | b'
        · exact absurd rfl (hp.1 X a' q (by rw [← eb]; exact h2) q h1)
        · exact ih hp.2 a' b'
  exact key x hn.2 hX hY
theorem Nice.has (h : Nice x n) {q : Nat} (hq : q < n) : ∃ X, X ∈ x ∧ q ∈ X := by
  have := h.perm.mem_iff.mpr (List.mem_range.mpr hq)
  obtain ⟨X, h1, h2⟩ := List.mem_flatten.mp this
  exact ⟨X, h1, h2⟩
theorem Nice.lt (h : Nice x n) {X : List Nat} (hX : X ∈ x) {q : Nat} (hq : q ∈ X) : q < n := List.mem_range.mp (h.perm.mem_iff.mp (List.mem_flatten.mpr ⟨X, hX, hq⟩))
def blkOf (x : List (List Nat)) (q : Nat) : List Nat := (x.find? fun X => X.contains q).getD []
theorem Nice.blk (h : Nice x n) {X : List Nat} (hX : X ∈ x) {q : Nat} (hq : q ∈ X) : blkOf x q = X := by
  unfold blkOf
  cases e : x.find? fun X => X.contains q with
  | none =>
    rw [List.find?_eq_none] at e
    exact absurd (List.contains_iff_mem.mpr hq) (e X hX)
  | some Y =>
    have h1 := List.find?_some e
    have h2 := List.mem_of_find?_eq_some e
    exact h.one h2 hX (List.contains_iff_mem.mp h1) hq
def mx (x : List (List Nat)) (q : Nat) : Nat := lastN (blkOf x q)
def blkAt (x : List (List Nat)) (q : Nat) : Option (List Nat) := x.find? fun X => lastN X == q
def stk (x : List (List Nat)) (p : Nat) : List Nat := (List.range p).reverse.filter fun q => decide (p ≤ mx x q)
theorem split_dec (P : Nat → Bool) : ∀ (L : List Nat), L.Pairwise (· > ·) → (∀ a, a ∈ L → ∀ b, b ∈ L → P a = true → P b = false → b < a) → L = L.filter P ++ L.filter (fun q => !P q)
  | [], _, _ => rfl
  | h :: t, hp, hk => by
    rw [List.pairwise_cons] at hp
    cases e : P h with
    | true =>
      rw [List.filter_cons_of_pos e, List.filter_cons_of_neg (by simp [e]), List.cons_append, ← split_dec P t hp.2 fun a ha b hb => hk a (List.mem_cons_of_mem _ ha) b (List.mem_cons_of_mem _ hb)]
    | false =>
      have e1 : t.filter P = [] := by
        rw [List.filter_eq_nil_iff]
        intro a ha z
        have h1 := hk a (List.mem_cons_of_mem _ ha) h List.mem_cons_self z e
        have h2 := hp.1 a ha
        omega
      have e2 : t.filter (fun q => !P q) = t := by
        rw [List.filter_eq_self]
        intro a ha
        cases z : P a with
        | false => rfl
        | true =>
          have h1 := hk a (List.mem_cons_of_mem _ ha) h List.mem_cons_self z e
          have h2 := hp.1 a ha
          omega
      rw [List.filter_cons_of_neg (by simp [e]), List.filter_cons_of_pos (by simp [e]), e1, e2]
      rfl
theorem dec_eq {A B : List Nat} (hA : A.Pairwise (· > ·)) (hB : B.Pairwise (· > ·)) (h : ∀ q, q ∈ A ↔ q ∈ B) : A = B := by
  have nA : A.Nodup := hA.imp fun h => Nat.ne_of_gt h
  have nB : B.Nodup := hB.imp fun h => Nat.ne_of_gt h
  have hp : A.Perm B := (List.perm_ext_iff_of_nodup nA nB).mpr h
  exact List.Perm.eq_of_pairwise (le := fun a b => a > b) (fun a b _ _ h1 h2 => absurd h1 (Nat.lt_asymm h2)) hA hB hp
theorem stk_mem {p q : Nat} : q ∈ stk x p ↔ q < p ∧ p ≤ mx x q := by
  unfold stk
  rw [List.mem_filter, List.mem_reverse, List.mem_range, decide_eq_true_eq]
theorem stk_dec (p : Nat) : (stk x p).Pairwise (· > ·) := by
  unfold stk
  exact (List.pairwise_reverse.mpr List.pairwise_lt_range).filter _
theorem stk_push (h : Nice x n) {p : Nat} (hp : p < n) : (p :: stk x p).Pairwise (· > ·) := List.pairwise_cons.mpr ⟨fun q hq => (stk_mem.mp hq).1, stk_dec p⟩
theorem step_none (h : Nice x n) {p : Nat} (hp : p < n) (e : blkAt x p = none) : p :: stk x p = stk x (p + 1) := by
  have no : ∀ q, q < n → mx x q ≠ p := fun q hq z => by
    obtain ⟨X, h1, h2⟩ := h.has hq
    unfold mx at z
    rw [h.blk h1 h2] at z
    unfold blkAt at e
    rw [List.find?_eq_none] at e
    exact e X h1 (by simp [z])
  have le : ∀ q, q < n → q ≤ mx x q := fun q hq => by
    obtain ⟨X, h1, h2⟩ := h.has hq
    unfold mx
    rw [h.blk h1 h2]
    exact lastN_max (h.rise X h1) h2
  refine dec_eq (stk_push h hp) (stk_dec _) fun q => ?_
  rw [List.mem_cons, stk_mem, stk_mem]
  constructor
  · rintro (rfl | ⟨h1, h2⟩)
    · have := no q hp
      have := le q hp
      omega
    · have := no q (by omega)
      omega
  · rintro ⟨h1, h2⟩
    by_cases z : q = p
    · exact .inl z
    · exact .inr ⟨by omega, by omega⟩
theorem step_some (h : Nice x n) (hc : noCross x) {p : Nat} (hp : p < n) {X : List Nat} (e : blkAt x p = some X) : p :: stk x p = X.reverse ++ stk x (p + 1) := by
  have hX := List.mem_of_find?_eq_some e
  have hl : lastN X = p := by
    have := List.find?_some e
    simpa using this
  have hpX : p ∈ X := by
    rw [← hl]
    exact lastN_mem (h.ne X hX)
  have hin : ∀ q, q ∈ p :: stk x p → q ∈ X ∨ (q < p ∧ p + 1 ≤ mx x q ∧ q ∉ X) := fun q hq => by
    by_cases z : q ∈ X
    · exact .inl z
    · right
      rcases List.mem_cons.mp hq with rfl | hq
      · exact absurd hpX z
      · obtain ⟨h1, h2⟩ := stk_mem.mp hq
        refine ⟨h1, ?_, z⟩
        obtain ⟨Y, hY, hqY⟩ := h.has (q := q) (by omega)
        have e1 : mx x q = lastN Y := by
          unfold mx
          rw [h.blk hY hqY]
        have : lastN Y ≠ p := fun w => by
          have hpY : p ∈ Y := by
            rw [← w]
            exact lastN_mem (h.ne Y hY)
          have := h.one hX hY hpX hpY
          subst this
          exact z hqY
        omega
  have hall := split_dec (fun q => X.contains q) (p :: stk x p) (stk_push h hp) fun a ha b hb h1 h2 => by
    have h1 := List.contains_iff_mem.mp h1
    have h2' : b ∉ X := fun z => by
      rw [List.contains_iff_mem.mpr z] at h2
      cases h2
    rcases hin b hb with z | ⟨k1, k2, _⟩
    · exact absurd z h2'
    · by_cases hlt : b < a
      · exact hlt
      · exfalso
        have hab : a < b := by
          have : a ≠ b := fun z => h2' (by rw [← z]; exact h1)
          omega
        obtain ⟨Y, hY, hbY⟩ := h.has (q := b) (by omega)
        have e1 : mx x b = lastN Y := by
          unfold mx
          rw [h.blk hY hbY]
        have hXY : X ≠ Y := fun z => h2' (by rw [z]; exact hbY)
        exact hc X hX Y hY hXY a h1 p hpX b hbY (lastN Y) (lastN_mem (h.ne Y hY)) ⟨hab, k1, by omega⟩
  have f1 : (p :: stk x p).filter (fun q => X.contains q) = X.reverse := by
    refine dec_eq ((stk_push h hp).filter _) (List.pairwise_reverse.mpr (h.rise X hX)) fun q => ?_
    rw [List.mem_filter, List.mem_reverse, List.contains_iff_mem]
    refine ⟨fun z => z.2, fun z => ⟨?_, z⟩⟩
    have hle := lastN_max (h.rise X hX) z
    rw [hl] at hle
    by_cases w : q = p
    · rw [w]
      exact List.mem_cons_self
    · refine List.mem_cons_of_mem _ (stk_mem.mpr ⟨by omega, ?_⟩)
      unfold mx
      rw [h.blk hX z, hl]
      exact Nat.le_refl _
  have f2 : (p :: stk x p).filter (fun q => !X.contains q) = stk x (p + 1) := by
    refine dec_eq ((stk_push h hp).filter _) (stk_dec _) fun q => ?_
    rw [List.mem_filter, stk_mem]
    constructor
    · rintro ⟨h1, h2⟩
      rcases hin q h1 with z | ⟨k1, k2, _⟩
      · rw [List.contains_iff_mem.mpr z] at h2
        cases h2
      · exact ⟨by omega, k2⟩
    · rintro ⟨h1, h2⟩
      have hqX : q ∉ X := fun z => by
        unfold mx at h2
        rw [h.blk hX z, hl] at h2
        omega
      refine ⟨?_, ?_⟩
      · by_cases w : q = p
        · rw [w]
          exact List.mem_cons_self
        · exact List.mem_cons_of_mem _ (stk_mem.mpr ⟨by omega, by omega⟩)
      · rw [Bool.not_eq_true', Bool.eq_false_iff]
        exact fun z => hqX (List.contains_iff_mem.mp z)
  rw [f1, f2] at hall
  exact hall
theorem run_in (h : Nice x n) (hc : noCross x) : ∀ (k p : Nat), p + k = n → runB ((List.range' p k).map (szOf x)) p (stk x p) = some ((List.range' p k).filterMap (blkAt x), stk x n)
  | 0, p, hk => by
    have : p = n := by omega
    subst this
    rfl
  | k + 1, p, hk => by
    rw [List.range'_succ, List.map_cons, List.filterMap_cons]
    have ih := run_in h hc k (p + 1) (by omega)
    unfold runB
    cases e : blkAt x p with
    | none =>
      have hs : szOf x p = 0 := by
        unfold szOf
        have : (x.find? fun X => lastN X == p) = none := e
        rw [this]
        rfl
      rw [hs, if_pos (Nat.zero_le _)]
      show (match runB ((List.range' (p + 1) k).map (szOf x)) (p + 1) (p :: stk x p) with
        | some (R, T) => some (R, T)
        | none => none) = _
      rw [step_none h (by omega) e, ih]
    | some X =>
      have hX := List.mem_of_find?_eq_some e
      have hs : szOf x p = X.length := by
        unfold szOf
        have : (x.find? fun X => lastN X == p) = some X := e
        rw [this]
        rfl
      have hst := step_some h hc (show p < n by omega) e
      have hlen := congrArg List.length hst
      rw [List.length_cons, List.length_append, List.length_reverse] at hlen
      rw [hs, if_pos (by omega), hst]
      have hne : X.length ≠ 0 := fun z => h.ne X hX (List.length_eq_zero_iff.mp z)
      have e1 : (X.reverse ++ stk x (p + 1)).drop X.length = stk x (p + 1) := by
        have := List.drop_left (l₁ := X.reverse) (l₂ := stk x (p + 1))
        rw [List.length_reverse] at this
        exact this
      have e2 : (X.reverse ++ stk x (p + 1)).take X.length = X.reverse := by
        have := List.take_left (l₁ := X.reverse) (l₂ := stk x (p + 1))
        rw [List.length_reverse] at this
        exact this
      rw [e1, e2, ih]
      show some (if X.length = 0 then _ else X.reverse.reverse :: _, _) = _
      rw [if_neg hne, List.reverse_reverse]
theorem nc_in (h : Nice x n) (hc : noCross x) : ∃ F, runB (csOf x n) 0 [] = some (F, []) ∧ F.Perm x := by
  have h1 := run_in h hc n 0 (by omega)
  have e0 : stk x 0 = [] := rfl
  have e1 : stk x n = [] := by
    cases hs : stk x n with
    | nil => rfl
    | cons q r =>
      exfalso
      have hm : q ∈ stk x n := by
        rw [hs]
        exact List.mem_cons_self
      obtain ⟨h1, h2⟩ := stk_mem.mp hm
      obtain ⟨X, hX, hq⟩ := h.has h1
      have e1 : mx x q = lastN X := by
        unfold mx
        rw [h.blk hX hq]
      have := h.lt hX (lastN_mem (h.ne X hX))
      omega
  rw [e0, e1, ← List.range_eq_range'] at h1
  refine ⟨_, h1, ?_⟩
  have n1 : ((List.range n).filterMap (blkAt x)).Nodup := by
    show List.Pairwise (· ≠ ·) _
    rw [List.pairwise_filterMap]
    refine List.nodup_range.imp fun {a b} hab => ?_
    intro X hX Y hY z
    subst z
    have k1 := List.find?_some hX
    have k2 := List.find?_some hY
    simp at k1 k2
    exact hab (k1.symm.trans k2)
  have n2 : x.Nodup := by
    have hn : x.flatten.Pairwise (· ≠ ·) := h.nodup
    rw [List.pairwise_flatten] at hn
    have key : ∀ (l : List (List Nat)), (∀ X, X ∈ l → X ≠ []) → l.Pairwise (fun l₁ l₂ => ∀ a, a ∈ l₁ → ∀ b, b ∈ l₂ → a ≠ b) → l.Nodup := by
      intro l
      induction l with
      | nil => intro _ _; exact List.nodup_nil
      | cons Z l ih =>
        intro hne hp
        rw [List.pairwise_cons] at hp
        refine List.nodup_cons.mpr ⟨fun hz => ?_, ih (fun X hX => hne X (List.mem_cons_of_mem _ hX)) hp.2⟩
        have hm := lastN_mem (hne Z List.mem_cons_self)
        exact hp.1 Z hz _ hm _ hm rfl
    exact key x h.ne hn.2
  refine (List.perm_ext_iff_of_nodup n1 n2).mpr fun X => ?_
  rw [List.mem_filterMap]
  constructor
  · rintro ⟨q, _, hq⟩
    exact List.mem_of_find?_eq_some hq
  · intro hX
    have hm := lastN_mem (h.ne X hX)
    refine ⟨lastN X, List.mem_range.mpr (h.lt hX hm), ?_⟩
    show (x.find? fun Y => lastN Y == lastN X) = some X
    cases e : x.find? fun Y => lastN Y == lastN X with
    | none =>
      rw [List.find?_eq_none] at e
      exact absurd (by simp) (e X hX)
    | some Y =>
      have k1 := List.find?_some e
      have k2 := List.mem_of_find?_eq_some e
      simp at k1
      have : Y = X := h.one k2 hX (lastN_mem (h.ne Y k2)) (by rw [k1]; exact hm)
      rw [this]
end
/-- what the blocks of a row are -/
theorem nc_out {cs : List Nat} {F x : List (List Nat)} (h : runB cs 0 [] = some (F, [])) (hp : x.Perm F) : Nice x cs.length ∧ noCross x := by
  obtain ⟨h1, h2⟩ := run_props cs 0 [] h List.Pairwise.nil fun x hx => nomatch hx
  have h3 := run_perm cs 0 [] h
  rw [List.append_nil, List.nil_append, ← List.range_eq_range'] at h3
  have hN : Nice x cs.length := ⟨fun X hX => (h1 X (hp.mem_iff.mp hX)).1, fun X hX => (h1 X (hp.mem_iff.mp hX)).2, hp.flatten.trans h3⟩
  refine ⟨hN, fun X hX Y hY hne a ha c hc b hb d hd hh => ?_⟩
  have key : ∀ (l : List (List Nat)), l.Pairwise NG → X ∈ l → Y ∈ l → False := by
    intro l
    induction l with
    | nil => intro _ k; cases k
    | cons Z l ih =>
      intro hl k1 k2
      rw [List.pairwise_cons] at hl
      rcases List.mem_cons.mp k1 with e1 | k1'
      · rcases List.mem_cons.mp k2 with e2 | k2'
        · exact hne (e1.trans e2.symm)
        · exact hl.1 Y k2' b hb a (by rw [← e1]; exact ha) c (by rw [← e1]; exact hc) ⟨hh.1, hh.2.1⟩
      · rcases List.mem_cons.mp k2 with e2 | k2'
        · exact hl.1 X k1' c hc b (by rw [← e2]; exact hb) d (by rw [← e2]; exact hd) ⟨hh.2.1, hh.2.2⟩
        · exact ih hl.2 k1' k2'
  exact key F h2 (hp.mem_iff.mp hX) (hp.mem_iff.mp hY)
end Bk
end
/-! BkT6 -/
section
set_option linter.all false
set_option autoImplicit false
set_option maxRecDepth 100000
/-! terms printed by gen.py -/
namespace Bk
def c_is_block_1 : E := (eComp [1] (iAny (eVar 0)) (gName 1) tYes (eAnd (eUn (bIs .int) (eVar 1)) (eAnd (eNot (eUn (bIs .bool) (eVar 1))) (eBin dGe (eVar 1) (eC (.int 0))))))
def g_is_block : St := (sSeq (sIf (tOr (tNot (tV (eUn (bIs .tuple) (eVar 0)))) (tE (eBin dEq (eUn bLen (eVar 0)) (eC (.int 0))))) (sRet (eC (.bool false))) sSkip)
  (sSeq (sIf (tNot (tV (eUn bAll c_is_block_1))) (sRet (eC (.bool false))) sSkip)
  (sRet (eBin dEq (eUn bList (eVar 0)) (eUn bSorted (eVar 0))))))
def φ_is_block : List D → Res D := runDef 2 g_is_block
def c_row_by_parting_1 : E := (eComp [1] (iAny (eVar 0)) (gName 1) tYes (eCall φ_is_block [(eVar 1)]))
def b_row_by_parting_1 : St := (sSeq (sExt 3 (eVar 1))
  (sPut 2 (eBin dIdx (eVar 1) (eUn dNeg (eC (.int 1)))) (eUn bLen (eVar 1))))
def c_row_by_parting_2 : E := (eComp [5] (iRange1 (eOwn bLen 3)) (gName 5) tYes (eBin dAdd (eC (.str [40])) (eBin dMul (eC (.str [41])) (eDGet2 2 (eVar 5) (eC (.int 0))))))
def g_row_by_parting : St := (sSeq (sIf (tOr (tNot (tV (eUn (bIs .tuple) (eVar 0)))) (tNot (tV (eUn bAll c_row_by_parting_1)))) (sRaise .noRow) sSkip)
  (sSeq (sNewD 2)
  (sSeq (sNew 3 [])
  (sSeq (sFor (iAny (eVar 0)) (gName 1) b_row_by_parting_1)
  (sSeq (sIf (tE (eBin dNe (eOwn bSorted 3) (eListRange (eOwn bLen 3)))) (sRaise .noRow) sSkip)
  (sSeq (sSet 4 (eBin dJoin (eC (.str [])) c_row_by_parting_2))
  (sSeq (sIf (tE (eBin dNe (eCall φ_parting_of [(eVar 4)]) (eVar 0))) (sRaise .noRow) sSkip)
  (sRet (eVar 4)))))))))
def φ_row_by_parting : List D → Res D := runDef 6 g_row_by_parting
def c_l_crosses_1 : E := (eComp [6] (iRange1 (eVar 2)) (gName 6) (tE (eBin dEq (eBin dDIdx (eVar 0) (eVar 6)) (eBin dDIdx (eVar 0) (eVar 3)))) (eVar 6))
def c_l_crosses_2 : E := (eComp [7] (iRange2 (eBin dAdd (eVar 3) (eC (.int 1))) (eVar 1)) (gName 7) (tE (eBin dEq (eBin dDIdx (eVar 0) (eVar 7)) (eBin dDIdx (eVar 0) (eVar 2)))) (eVar 7))
def b_l_crosses_1 : St := (sIf (tE (eBin dNe (eBin dDIdx (eVar 0) (eVar 2)) (eBin dDIdx (eVar 0) (eVar 3)))) (sSeq (sSet 4 c_l_crosses_1)
  (sSeq (sSet 5 c_l_crosses_2)
  (sIf (tAnd (tV (eVar 4)) (tV (eVar 5))) (sRet (eC (.bool true))) sSkip))) sSkip)
def b_l_crosses_2 : St := (sFor (iRange2 (eBin dAdd (eVar 2) (eC (.int 1))) (eVar 1)) (gName 3) b_l_crosses_1)
def g_l_crosses : St := (sSeq (sFor (iRange1 (eVar 1)) (gName 2) b_l_crosses_2)
  (sRet (eC (.bool false))))
def φ_l_crosses : List D → Res D := runDef 8 g_l_crosses
def c_l_is_parting_1 : E := (eComp [1] (iAny (eVar 0)) (gName 1) tYes (eAnd (eUn (bIs .tuple) (eVar 1)) (eBin dGt (eUn bLen (eVar 1)) (eC (.int 0)))))
def c_l_is_parting_2 : E := (eComp [3] (iAny (eVar 1)) (gName 3) tYes (eCall φ_l_whole [(eVar 3)]))
def b_l_is_parting_1 : St := (sSeq (sIf (tNot (tV (eUn bAll c_l_is_parting_2))) (sRet (eC (.bool false))) sSkip)
  (sExt 2 (eUn bList (eVar 1))))
def b_l_is_parting_2 : St := (sPut 4 (eVar 3) (eVar 5))
def b_l_is_parting_3 : St := (sSeq (sIf (tE (eBin dNe (eUn bList (eVar 1)) (eUn bSorted (eVar 1)))) (sRet (eC (.bool false))) sSkip)
  (sFor (iAny (eVar 1)) (gName 3) b_l_is_parting_2))
def g_l_is_parting : St := (sSeq (sIf (tOr (tNot (tV (eUn (bIs .tuple) (eVar 0)))) (tNot (tV (eUn bAll c_l_is_parting_1)))) (sRet (eC (.bool false))) sSkip)
  (sSeq (sNew 2 [])
  (sSeq (sFor (iAny (eVar 0)) (gName 1) b_l_is_parting_1)
  (sSeq (sIf (tOr (tE (eBin dNe (eOwn bSorted 2) (eListRange (eOwn bLen 2)))) (tE (eBin dNe (eUn bList (eVar 0)) (eUn bSorted (eVar 0))))) (sRet (eC (.bool false))) sSkip)
  (sSeq (sNewD 4)
  (sSeq (sFor (iEnumT (eVar 0)) (gPair 5 1) b_l_is_parting_3)
  (sSeq (sFrz 4) (sRet (eNot (eCall φ_l_crosses [(eVar 4), (eOwn bLen 2)]))))))))))
def φ_l_is_parting : List D → Res D := runDef 6 g_l_is_parting
def b_l_parting_1 : St := (sIf (tE (eBin dEq (eVar 5) (eC (.str [40])))) (sSeq (sApp 1 (eVar 3))
  (sSet 3 (eBin dAdd (eVar 3) (eC (.int 1))))) (sIf (tE (eBin dEq (eBin dIdx (eVar 0) (eBin dSub (eVar 4) (eC (.int 1)))) (eC (.str [40])))) (sOoNew 2 1) (sOoApp 2 1)))
def c_l_parting_1 : E := (eComp [6] (iAny (eVar 2)) (gName 6) tYes (eUn bTuple (eUn bSorted (eVar 6))))
def g_l_parting : St := (sSeq (sNew 1 [])
  (sSeq (sNew 2 [])
  (sSeq (sSet 3 (eC (.int 0)))
  (sSeq (sFor (iEnum (eVar 0)) (gPair 4 5) b_l_parting_1)
  (sSeq (sFrz 2) (sRet (eUn bTuple (eUn bSorted c_l_parting_1))))))))
def φ_l_parting : List D → Res D := runDef 7 g_l_parting
def g_l_row_by : St := (sSeq (sSet 1 (eC (.str [111, 116, 104, 101, 114])))
  (sSeq (sTryAs 2 (sSet 1 (eCallT φ_row_by_parting [(eVar 0)])) (fun c => match c with | .noPlace => if (false && !true && true) then sSet 1 (eC .none) else sSkip | .noRow => if (true && !false && true) then sSet 1 (eC .none) else sSkip))
  (sRet (eVar 1))))
def φ_l_row_by : List D → Res D := runDef 3 g_l_row_by
def c_l_spoilt6_1 : E := (eComp [3] (iAny (eVar 2)) (gName 3) tYes (eUn bLen (eVar 3)))
def c_l_spoilt6_2 : E := (eComp [7] (iRange1 (eUn bSum c_l_spoilt6_1)) (gName 7) tYes (eTup [(eVar 7)]))
def c_l_spoilt6_3 : E := (eComp [3] (iAny (eVar 2)) (gName 3) (tV (eVar 3)) (eUn bSorted (eVar 3)))
def c_l_spoilt6_4 : E := (eComp [3] (iAny (eVar 2)) (gName 3) tYes (eUn bTuple (eVar 3)))
def g_l_spoilt6 : St := (sSeq (sOoLists 2 3 (iAny (eVar 0)))
  (sSeq (sSet 4 (eBin dMod (eBin dDiv (eVar 1) (eC (.int 7))) (eOoLen 2)))
  (sSeq (sSet 5 (eBin dMod (eBin dDiv (eVar 1) (eC (.int 97))) (eOoLen 2)))
  (sSeq (sSet 6 (eBin dMod (eVar 1) (eC (.int 7))))
  (sSeq (sIf (tE (eBin dEq (eVar 6) (eC (.int 0)))) (sRet (eBin dAddA (eSlice (eVar 0) none (some (eVar 4))) (eSlice (eVar 0) (some (eBin dAdd (eVar 4) (eC (.int 1)))) none))) sSkip)
  (sSeq (sIf (tE (eBin dEq (eVar 6) (eC (.int 1)))) (sOoSwap 2 4 5) sSkip)
  (sSeq (sIf (tE (eBin dEq (eVar 6) (eC (.int 2)))) (sOoMove 2 4 5) sSkip)
  (sSeq (sIf (tE (eBin dEq (eVar 6) (eC (.int 3)))) (sRet (eUn dTupRev (eVar 0))) sSkip)
  (sSeq (sIf (tE (eBin dEq (eVar 6) (eC (.int 4)))) (sOoRev 2 4) sSkip)
  (sSeq (sIf (tE (eBin dEq (eVar 6) (eC (.int 5)))) (sRet (eBin dIdx (eLst [(eC .none), (eC (.str [48, 49])), (eUn bList (eVar 0)), (eBin dAdd (eVar 0) (eTup [(eTup [])])), (eBin dAdd (eVar 0) (eTup [(eLst [(eC (.int 99))])])), (eBin dAdd (eVar 0) (eTup [(eTup [(eC (.bool true))])])), (eC (.int 7))]) (eBin dMod (eVar 4) (eC (.int 7))))) sSkip)
  (sSeq (sIf (tE (eBin dEq (eVar 6) (eC (.int 6)))) (sSeq (sFrz 2) (sRet (eUn bTuple c_l_spoilt6_2))) sSkip)
  (sSeq (sIf (tE (eBin dLt (eVar 6) (eC (.int 4)))) (sSeq (sFrz 2) (sSet 2 (eUn bSorted c_l_spoilt6_3))) sSkip)
  (sSeq (sFrz 2) (sRet (eUn bTuple c_l_spoilt6_4)))))))))))))))
def φ_l_spoilt6 : List D → Res D := runDef 8 g_l_spoilt6
end Bk
end
/-! BkBy6 -/
section
set_option linter.all false
set_option autoImplicit false
set_option maxRecDepth 100000
/-! BkBy6: row_by_parting -/
namespace Bk
def parD (x : List (List Nat)) : D := .tup (x.map tupN)
def blkB (l : List Nat) : Bool := !l.isEmpty && decide (l.Pairwise (· ≤ ·))
@[simp] theorem x_eListRange {f : E} {η : Env} : eListRange f η = (f η).bind fun x => match x with
  | .int n => if 0 ≤ n ∧ n ≤ lim then .ok (.lst (numbers 0 n.toNat)) else .bad
  | _ => .bad := id rfl
theorem cmp_numsL (a : List Nat) : D.cmp 64 (.lst (a.map nd)) = true := by
  unfold D.cmp
  exact cmpAll_nd 63 a
theorem eqv_numsL (a b : List Nat) : D.eqv (.lst (a.map nd)) (.lst (b.map nd)) = decide (a = b) := by
  unfold D.eqv
  exact eqvAll_nd a b
theorem eq_numsL (a b : List Nat) : dEq (.lst (a.map nd)) (.lst (b.map nd)) = .ok (.bool (decide (a = b))) := by
  unfold dEq
  rw [cmp_numsL, cmp_numsL, eqv_numsL]
  rfl
theorem ne_numsL (a b : List Nat) : dNe (.lst (a.map nd)) (.lst (b.map nd)) = .ok (.bool (!decide (a = b))) := by
  unfold dNe
  rw [cmp_numsL, cmp_numsL, eqv_numsL]
  rfl
theorem cmp_par (x : List (List Nat)) : D.cmp 64 (parD x) = true := by
  unfold parD D.cmp
  exact cmpAll_tupN 62 x
theorem eqv_par (x y : List (List Nat)) : D.eqv (parD x) (parD y) = decide (x = y) := by
  unfold parD D.eqv
  exact eqvAll_tupN x y
theorem ne_par (x y : List (List Nat)) : dNe (parD x) (parD y) = .ok (.bool (!decide (x = y))) := by
  unfold dNe
  rw [cmp_par, cmp_par, eqv_par]
  rfl
theorem nums_pw (l : List Nat) : (l.mergeSort fun a b => decide (a ≤ b)).Pairwise (· ≤ ·) := by
  have tr : ∀ a b c : Nat, decide (a ≤ b) = true → decide (b ≤ c) = true → decide (a ≤ c) = true := fun a b c h1 h2 => decide_eq_true (Nat.le_trans (of_decide_eq_true h1) (of_decide_eq_true h2))
  have to : ∀ a b : Nat, (decide (a ≤ b) || decide (b ≤ a)) = true := fun a b => by
    rw [Bool.or_eq_true]
    rcases Nat.le_total a b with h | h
    · exact .inl (decide_eq_true h)
    · exact .inr (decide_eq_true h)
  exact (List.pairwise_mergeSort tr to l).imp fun h => of_decide_eq_true h
theorem sorted_iff (l : List Nat) : l = (l.mergeSort fun a b => decide (a ≤ b)) ↔ l.Pairwise (· ≤ ·) :=
  ⟨fun h => by
    rw [h]
    exact nums_pw l, fun h => (nums_same (List.Perm.refl l) h).symm⟩
theorem sort_numsT {l : List Nat} (h : l.length ≤ 1000) : bSorted (.tup (l.map nd)) = .ok (.lst ((l.mergeSort fun a b => decide (a ≤ b)).map nd)) := sort_nums h
theorem is_block_nums {l : List Nat} (hl : l.length ≤ 900) : φ_is_block [tupN l] = .ok (.bool (blkB l)) := by
  have c1 : c_is_block_1 [some (.dat (tupN l)), none] = .ok (.lst ((l.map fun _ => true).map D.bool)) := by
    refine eComp_of (ds := l.map nd) rfl (limA (by rw [List.length_map]; omega)) ?_
    have := comp_list (g := gName 1) (t := tYes) (e := eAnd (eUn (bIs .int) (eVar 1)) (eAnd (eNot (eUn (bIs .bool) (eVar 1))) (eBin dGe (eVar 1) (eC (.int 0))))) (η := wipes [some (.dat (tupN l)), none] [1]) nd (fun _ => D.bool true) l fun a _ => by
      refine ⟨_, rfl, rfl, ?_⟩
      have h1 : bIs .int (nd a) = .ok (.bool true) := rfl
      have h2 : bIs .bool (nd a) = .ok (.bool false) := rfl
      have h3 : dGe (nd a) (.int 0) = .ok (.bool true) := by
        rw [y_ge, decide_eq_true (Int.natCast_nonneg a)]
      generalize nd a = v at h1 h2 h3 ⊢
      simp [h1, h2, h3]
    rw [List.map_map]
    exact this
  have t1 : bIs .tuple (tupN l) = .ok (.bool true) := rfl
  have t2 : bAll (.lst ((l.map fun _ => true).map D.bool)) = .ok (.bool true) := by
    show (match boolsL ((l.map fun _ => true).map D.bool) with
      | some bs => Res.ok (D.bool (bs.all id))
      | _ => .bad) = _
    rw [bools_map]
    simp
  have t3 := sort_numsT (l := l) (by omega)
  have t4 := eq_numsL l (l.mergeSort fun a b => decide (a ≤ b))
  have t5 : bList (tupN l) = .ok (.lst (l.map nd)) := rfl
  have t6 : bLen (tupN l) = .ok (nd l.length) := by
    show Res.ok (D.int ((l.map nd).length : Nat)) = _
    rw [List.length_map]
  have t7 : dEq (nd l.length) (.int 0) = .ok (.bool (decide (l.length = 0))) := by
    rw [y_eqI]
    congr 2
    exact decide_eq_decide.mpr (by omega)
  have t8 : bSorted (tupN l) = .ok (.lst ((l.mergeSort fun a b => decide (a ≤ b)).map nd)) := t3
  have hb : blkB l = if l.length = 0 then false else decide (l = l.mergeSort fun a b => decide (a ≤ b)) := by
    unfold blkB
    by_cases h : l.length = 0
    · rw [if_pos h, List.length_eq_zero_iff.mp h]
      rfl
    · rw [if_neg h]
      have : l.isEmpty = false := by
        cases l with
        | nil => exact absurd rfl h
        | cons a b => rfl
      rw [this]
      exact decide_eq_decide.mpr (sorted_iff l).symm
  refine run_of (g := g_is_block) ?_
  show g_is_block [some (.dat (tupN l)), none] = _
  rw [hb]
  generalize decide (l = l.mergeSort fun a b => decide (a ≤ b)) = k at t4 ⊢
  generalize (l.mergeSort fun a b => decide (a ≤ b)).map nd = S at t4 t8
  generalize l.map nd = L at t4 t5
  generalize (l.map fun _ => true).map D.bool = BB at c1 t2
  generalize tupN l = T at c1 t1 t5 t6 t8 ⊢
  generalize nd l.length = N at t6 t7
  by_cases h : l.length = 0
  · rw [decide_eq_true h] at t7
    simp [g_is_block, t1, t6, t7, h]
  · rw [decide_eq_false h] at t7
    simp [g_is_block, t1, t6, t7, h, c1, t2, t5, t8, t4]
/-- the blocks' verdicts -/
theorem blocks_comp {η : Env} (h0 : η.length = 6) {xs : List D} {bs : List Bool} (hx : η[0]? = some (some (.dat (.tup xs)))) (hl : xs.length ≤ 900) (h : ∀ (i : Nat) d, xs[i]? = some d → ∃ b, bs[i]? = some b ∧ φ_is_block [d] = .ok (.bool b)) (hlb : bs.length = xs.length) : c_row_by_parting_1 η = .ok (.lst (bs.map D.bool)) := by
  have e0 : iAny (eVar 0) η = .ok xs := by
    show ((eVar 0) η).bind items = _
    unfold eVar
    rw [hx]
    rfl
  refine eComp_of e0 (limA (by omega)) ?_
  have key : ∀ (xs : List D) (bs : List Bool), (∀ (i : Nat) d, xs[i]? = some d → ∃ b, bs[i]? = some b ∧ φ_is_block [d] = .ok (.bool b)) → bs.length = xs.length → comp (gName 1) tYes (eCall φ_is_block [eVar 1]) (wipes η [1]) xs = .ok (bs.map D.bool) := by
    intro xs
    induction xs with
    | nil =>
      intro bs _ hb
      have : bs = [] := List.length_eq_zero_iff.mp hb
      subst this
      rfl
    | cons d xs ih =>
      intro bs h hb
      cases bs with
      | nil => simp at hb
      | cons b bs =>
        obtain ⟨b', h1, h2⟩ := h 0 d rfl
        have : b' = b := by simpa using h1.symm
        subst this
        have ih := ih bs (fun i d hd => by simpa using h (i + 1) d (by simpa using hd)) (by simpa using hb)
        have hη : ((wipes η [1]).set 1 (some (.dat d)))[1]? = some (some (.dat d)) := List.getElem?_set_self (by
          show 1 < (η.set 1 none).length
          rw [List.length_set, h0]
          omega)
        have he : eCall φ_is_block [eVar 1] ((wipes η [1]).set 1 (some (.dat d))) = .ok (.bool b') := by
          show (evals [eVar 1] _).bind φ_is_block = _
          have : eVar 1 ((wipes η [1]).set 1 (some (.dat d))) = .ok d := by
            unfold eVar
            rw [hη]
          rw [x_evals1, this]
          exact h2
        show ((gName 1 d (wipes η [1])).calm.bind fun η1 => (tYes η1).bind fun b => if b then (eCall φ_is_block [eVar 1] η1).bind fun y => (comp (gName 1) tYes (eCall φ_is_block [eVar 1]) (wipes η [1]) xs).bind fun ys => .ok (y :: ys) else _) = _
        show ((eCall φ_is_block [eVar 1] ((wipes η [1]).set 1 (some (.dat d)))).bind fun y => (comp (gName 1) tYes (eCall φ_is_block [eVar 1]) (wipes η [1]) xs).bind fun ys => .ok (y :: ys)) = _
        rw [he, ih]
        rfl
  exact key xs bs h hlb
theorem all_bools (bs : List Bool) : bAll (.lst (bs.map D.bool)) = .ok (.bool (bs.all id)) := by
  show (match boolsL (bs.map D.bool) with
    | some bs => Res.ok (D.bool (bs.all id))
    | _ => .bad) = _
  rw [bools_map]
/-- refused -/
theorem rbp_bad {xs : List D} {bs : List Bool} (hl : xs.length ≤ 900) (h : ∀ (i : Nat) d, xs[i]? = some d → ∃ b, bs[i]? = some b ∧ φ_is_block [d] = .ok (.bool b)) (hlb : bs.length = xs.length) (hf : bs.all id = false) : φ_row_by_parting [.tup xs] = .raise .noRow := by
  have c1 := blocks_comp (η := [some (.dat (.tup xs)), none, none, none, none, none]) rfl rfl hl h hlb
  have t1 : bIs .tuple (.tup xs) = .ok (.bool true) := rfl
  have t2 := all_bools bs
  rw [hf] at t2
  refine run_raise (g := g_row_by_parting) ?_
  show g_row_by_parting [some (.dat (.tup xs)), none, none, none, none, none] = _
  generalize D.lst (bs.map D.bool) = BB at c1 t2
  generalize D.tup xs = T at c1 t1 ⊢
  simp [g_row_by_parting, t1, c1, t2]
theorem rbp_not {d : D} (h : bIs .tuple d = .ok (.bool false)) : φ_row_by_parting [d] = .raise .noRow := by
  refine run_raise (g := g_row_by_parting) ?_
  show g_row_by_parting [some (.dat d), none, none, none, none, none] = _
  simp [g_row_by_parting, h]
/-! the sizes -/
def putS (acc : List (D × D)) (X : List Nat) : List (D × D) := dput acc (nd (lastN X)) (nd X.length)
theorem last_at {X : List Nat} (h : X ≠ []) : dIdx (tupN X) (.int (-1)) = .ok (nd (lastN X)) := by
  have e := List.dropLast_concat_getLast h
  have : at? (X.map nd) (-1) = some (nd (lastN X)) := by
    have e2 : X.map nd = X.dropLast.map nd ++ [nd (X.getLast h)] := by
      conv => lhs; rw [← e]
      rw [List.map_append]
      rfl
    rw [e2, at_last]
    unfold lastN
    rw [List.getLast?_eq_some_getLast h]
    rfl
  show (match at? (X.map nd) (-1) with | some d => Res.ok d | Option.none => .bad) = _
  rw [this]
theorem sizes_loop {P : D} : ∀ (todo : List (List Nat)) (kvs : List (D × D)) (pts : List Nat) (z1 : Option S), (∀ X, X ∈ todo → X ≠ []) → pts.length + todo.flatten.length ≤ 900 → kvs.length + todo.length ≤ 900 →
    ∃ z1', loop (gName 1) b_row_by_parting_1 (todo.map tupN) [some (.dat P), z1, some (.dic kvs), some (.own (pts.map nd)), none, none] = .next [some (.dat P), z1', some (.dic (todo.foldl putS kvs)), some (.own ((pts ++ todo.flatten).map nd)), none, none]
  | [], kvs, pts, z1, _, _, _ => ⟨z1, by simp [loop]⟩
  | X :: todo, kvs, pts, z1, hne, hp, hk => by
    rw [List.flatten_cons, List.length_append] at hp
    rw [List.length_cons] at hk
    have hd := dput_len kvs (nd (lastN X)) (nd X.length)
    obtain ⟨z1', e⟩ := sizes_loop (P := P) todo (putS kvs X) (pts ++ X) (some (.dat (tupN X))) (fun Y hY => hne Y (List.mem_cons_of_mem _ hY)) (by rw [List.length_append]; omega) (by
      have : (putS kvs X).length ≤ kvs.length + 1 := hd
      omega)
    refine ⟨z1', ?_⟩
    rw [List.foldl_cons, List.flatten_cons, ← List.append_assoc, ← e]
    refine loop_next rfl ?_
    have t1 := last_at (hne X List.mem_cons_self)
    have t2 : bLen (tupN X) = .ok (nd X.length) := by
      show Res.ok (D.int ((X.map nd).length : Nat)) = _
      rw [List.length_map]
    have t3 : seqOf (tupN X) = .ok (X.map nd) := rfl
    have t4 : (pts.map nd).length + (X.map nd).length ≤ lim := by
      rw [List.length_map, List.length_map]
      exact limA (by omega)
    have t5 : kvs.length < lim := by
      show _ < 16777216
      omega
    have t6 : keyD (nd (lastN X)) = true := rfl
    have t7 : pts.map nd ++ X.map nd = (pts ++ X).map nd := by rw [List.map_append]
    unfold putS
    rw [← t7]
    generalize pts.map nd = L1 at t4 ⊢
    generalize X.map nd = L2 at t3 t4 ⊢
    generalize nd X.length = n1 at t2 ⊢
    generalize nd (lastN X) = n2 at t1 t6 ⊢
    generalize tupN X = T at t1 t2 t3 ⊢
    have q1 : sExt 3 (eVar 1) [some (.dat P), some (.dat T), some (.dic kvs), some (.own L1), none, none] = .next [some (.dat P), some (.dat T), some (.dic kvs), some (.own (L1 ++ L2)), none, none] := by
      simp [t3, t4]
    have q2 : sPut 2 (eBin dIdx (eVar 1) (eUn dNeg (eC (.int 1)))) (eUn bLen (eVar 1)) [some (.dat P), some (.dat T), some (.dic kvs), some (.own (L1 ++ L2)), none, none] = .next [some (.dat P), some (.dat T), some (.dic (dput kvs n2 n1)), some (.own (L1 ++ L2)), none, none] := by
      simp [t1, t2, t5, t6]
    show ((sExt 3 (eVar 1)) [some (.dat P), some (.dat T), some (.dic kvs), some (.own L1), none, none]).andThen _ = _
    rw [q1, andThen_next, q2]
theorem sizes_get (p : Nat) : ∀ (x : List (List Nat)) (acc : List (D × D)), (x.map lastN).Nodup → dget (x.foldl putS acc) (nd p) = ((x.find? fun X => lastN X == p).map fun X => nd X.length).or (dget acc (nd p))
  | [], acc, _ => by simp
  | X :: x, acc, h => by
    rw [List.map_cons, List.nodup_cons] at h
    rw [List.foldl_cons, sizes_get p x _ h.2, List.find?_cons]
    have e : dget (putS acc X) (nd p) = if (lastN X : Int) = (p : Int) then some (nd X.length) else dget acc (nd p) := dget_put acc _ _ _
    rw [e]
    by_cases hp : lastN X = p
    · have hnone : (x.find? fun Y => lastN Y == p) = none := by
        rw [List.find?_eq_none]
        intro Y hY z
        exact h.1 (List.mem_map.mpr ⟨Y, hY, by rw [hp]; simpa using z⟩)
      rw [hnone, if_pos (by omega)]
      have : (lastN X == p) = true := by simp [hp]
      rw [this]
      rfl
    · have : (lastN X == p) = false := by simp [hp]
      rw [this, if_neg (by omega)]
theorem sizes_of {x : List (List Nat)} (h : (x.map lastN).Nodup) (p : Nat) : (dget (x.foldl putS []) (nd p)).getD (.int 0) = nd (szOf x p) := by
  rw [sizes_get p x [] h]
  unfold szOf
  cases x.find? fun X => lastN X == p with
  | none => rfl
  | some X => rfl
theorem rep_str (c : Nat) (h : c ≤ 1000) : dMul (.str [41]) (nd c) = .ok (.str (List.replicate c 41)) := by
  have e : ∀ c : Nat, (List.replicate c [41]).flatten = List.replicate c 41 := by
    intro c
    induction c with
    | zero => rfl
    | succ c ih => rw [List.replicate_succ, List.flatten_cons, ih]; rfl
  have hc : (0 : Int) ≤ (c : Int) ∧ (c : Int) ≤ lim ∧ ([41] : List Nat).length * (c : Int).toNat ≤ lim := by
    refine ⟨by omega, ?_, ?_⟩
    · show (c : Int) ≤ 16777216
      omega
    · show 1 * (c : Int).toNat ≤ 16777216
      rw [Int.toNat_natCast]
      omega
  show (if (0 : Int) ≤ (c : Int) ∧ (c : Int) ≤ lim ∧ ([41] : List Nat).length * (c : Int).toNat ≤ lim then Res.ok (D.str (List.replicate (c : Int).toNat [41]).flatten) else .bad) = _
  rw [if_pos hc, Int.toNat_natCast, e]
theorem rowC_flat : ∀ cs : List Nat, rowC cs = (cs.map fun c => 40 :: List.replicate c 41).flatten
  | [] => rfl
  | c :: cs => by
    rw [List.map_cons, List.flatten_cons, ← rowC_flat cs]
    rfl
theorem rowC_len : ∀ cs : List Nat, (rowC cs).length = cs.length + cs.sum
  | [] => rfl
  | c :: cs => by
    show (List.replicate c 41 ++ rowC cs).length + 1 = _
    rw [List.length_append, List.length_replicate, rowC_len cs, List.length_cons, List.sum_cons]
    omega
theorem rowC_brack : ∀ cs : List Nat, brack (rowC cs) = true
  | [] => rfl
  | c :: cs => by
    have ih := rowC_brack cs
    unfold brack at ih ⊢
    show ((40 :: (List.replicate c 41 ++ rowC cs)).all _) = true
    rw [List.all_cons, List.all_append, ih]
    have : (List.replicate c 41).all (fun c => decide (c = 40) || decide (c = 41)) = true := by
      rw [List.all_eq_true]
      intro d hd
      rw [List.eq_of_mem_replicate hd]
      rfl
    rw [this]
    rfl
end Bk
end
/-! BkBy7 -/
section
set_option linter.all false
set_option autoImplicit false
set_option maxRecDepth 100000
/-! BkBy7: row_by_parting: what it gives -/
namespace Bk
theorem run_sum : ∀ (cs : List Nat) (m : Nat) (S : List Nat) {R : List (List Nat)} {T : List Nat}, runB cs m S = some (R, T) → cs.sum + T.length = S.length + cs.length
  | [], m, S, R, T, h => by
    cases h
    simp
  | c :: cs, m, S, R, T, h => by
    obtain ⟨hc, R', h1, h2⟩ := runB_cons h
    have ih := run_sum cs (m + 1) _ h1
    rw [List.length_drop, List.length_cons] at ih
    rw [List.sum_cons, List.length_cons]
    omega
theorem step_len {x : List (List Nat)} {n : Nat} (h : Nice x n) {p : Nat} (hp : p < n) {X : List Nat} (e : blkAt x p = some X) : (stk x p).length + 1 = X.length + (stk x (p + 1)).length := by
  have hX := List.mem_of_find?_eq_some e
  have hl : lastN X = p := by
    have := List.find?_some e
    simpa using this
  have hpX : p ∈ X := by
    rw [← hl]
    exact lastN_mem (h.ne X hX)
  have f1 : (p :: stk x p).filter (fun q => X.contains q) = X.reverse := by
    refine dec_eq ((stk_push h hp).filter _) (List.pairwise_reverse.mpr (h.rise X hX)) fun q => ?_
    rw [List.mem_filter, List.mem_reverse, List.contains_iff_mem]
    refine ⟨fun z => z.2, fun z => ⟨?_, z⟩⟩
    have hle := lastN_max (h.rise X hX) z
    rw [hl] at hle
    by_cases w : q = p
    · rw [w]
      exact List.mem_cons_self
    · refine List.mem_cons_of_mem _ (stk_mem.mpr ⟨by omega, ?_⟩)
      unfold mx
      rw [h.blk hX z, hl]
      exact Nat.le_refl _
  have f2 : (p :: stk x p).filter (fun q => !X.contains q) = stk x (p + 1) := by
    refine dec_eq ((stk_push h hp).filter _) (stk_dec _) fun q => ?_
    rw [List.mem_filter, stk_mem]
    constructor
    · rintro ⟨h1, h2⟩
      have z : q ∉ X := fun z => by
        rw [List.contains_iff_mem.mpr z] at h2
        cases h2
      rcases List.mem_cons.mp h1 with rfl | h1
      · exact absurd hpX z
      · obtain ⟨k1, k2⟩ := stk_mem.mp h1
        refine ⟨by omega, ?_⟩
        obtain ⟨Y, hY, hqY⟩ := h.has (q := q) (by omega)
        have e1 : mx x q = lastN Y := by
          unfold mx
          rw [h.blk hY hqY]
        have : lastN Y ≠ p := fun w => by
          have hpY : p ∈ Y := by
            rw [← w]
            exact lastN_mem (h.ne Y hY)
          have := h.one hX hY hpX hpY
          subst this
          exact z hqY
        omega
    · rintro ⟨h1, h2⟩
      have hqX : q ∉ X := fun z => by
        unfold mx at h2
        rw [h.blk hX z, hl] at h2
        omega
      refine ⟨?_, ?_⟩
      · by_cases w : q = p
        · rw [w]
          exact List.mem_cons_self
        · exact List.mem_cons_of_mem _ (stk_mem.mpr ⟨by omega, by omega⟩)
      · rw [Bool.not_eq_true', Bool.eq_false_iff]
        exact fun z => hqX (List.contains_iff_mem.mp z)
  have hlen := List.length_eq_countP_add_countP (fun q => X.contains q) (l := p :: stk x p)
  have g1 : (p :: stk x p).countP (fun q => X.contains q) = X.length := by
    rw [List.countP_eq_length_filter, f1, List.length_reverse]
  have g2 : (p :: stk x p).countP (fun q => !X.contains q) = (stk x (p + 1)).length := by
    rw [List.countP_eq_length_filter, f2]
  rw [List.length_cons] at hlen
  have g3 : (p :: stk x p).countP (fun q => decide ¬ (X.contains q) = true) = (p :: stk x p).countP (fun q => !X.contains q) := by
    congr 1
    funext q
    cases X.contains q <;> rfl
  rw [g1, g3, g2] at hlen
  exact hlen
theorem run_ok {x : List (List Nat)} {n : Nat} (h : Nice x n) : ∀ (k p : Nat) (S : List Nat), p + k = n → S.length = (stk x p).length → ∃ R T, runB ((List.range' p k).map (szOf x)) p S = some (R, T) ∧ T.length = (stk x n).length
  | 0, p, S, hk, hS => by
    have : p = n := by omega
    subst this
    exact ⟨[], S, rfl, hS⟩
  | k + 1, p, S, hk, hS => by
    rw [List.range'_succ, List.map_cons]
    have hp : p < n := by omega
    obtain ⟨hc, hl⟩ : szOf x p ≤ S.length + 1 ∧ ((p :: S).drop (szOf x p)).length = (stk x (p + 1)).length := by
      cases e : blkAt x p with
      | none =>
        have hs : szOf x p = 0 := by
          unfold szOf
          have : (x.find? fun X => lastN X == p) = none := e
          rw [this]
          rfl
        have := congrArg List.length (step_none h hp e)
        rw [List.length_cons] at this
        rw [hs]
        refine ⟨Nat.zero_le _, ?_⟩
        show S.length + 1 = _
        omega
      | some X =>
        have hs : szOf x p = X.length := by
          unfold szOf
          have : (x.find? fun X => lastN X == p) = some X := e
          rw [this]
          rfl
        have := step_len h hp e
        rw [hs, List.length_drop, List.length_cons]
        omega
    obtain ⟨R, T, h1, h2⟩ := run_ok h k (p + 1) ((p :: S).drop (szOf x p)) (by omega) hl
    unfold runB
    rw [if_pos hc, h1]
    exact ⟨_, T, rfl, h2⟩
theorem stk_end {x : List (List Nat)} {n : Nat} (h : Nice x n) : stk x n = [] := by
  cases hs : stk x n with
  | nil => rfl
  | cons q r =>
    exfalso
    have hm : q ∈ stk x n := by
      rw [hs]
      exact List.mem_cons_self
    obtain ⟨h1, h2⟩ := stk_mem.mp hm
    obtain ⟨X, hX, hq⟩ := h.has h1
    have e1 : mx x q = lastN X := by
      unfold mx
      rw [h.blk hX hq]
    have := h.lt hX (lastN_mem (h.ne X hX))
    omega
theorem run_ok0 {x : List (List Nat)} {n : Nat} (h : Nice x n) : ∃ F, runB (csOf x n) 0 [] = some (F, []) := by
  obtain ⟨R, T, h1, h2⟩ := run_ok h n 0 [] (by omega) rfl
  rw [stk_end h] at h2
  have : T = [] := List.length_eq_zero_iff.mp h2
  subst this
  rw [← List.range_eq_range'] at h1
  exact ⟨R, h1⟩
/-- what a row of runs has as its parting -/
theorem part_runs {cs : List Nat} {F : List (List Nat)} (h : runB cs 0 [] = some (F, [])) (hl : cs.length ≤ 400) : φ_parting_of [.str (rowC cs)] = .ok (parD (F.mergeSort leN)) := by
  have hs := run_sum cs 0 [] h
  have hp := pf_run cs [] [] [] 0 h
  have hp : pf (rowC cs ++ [40]) [] [] [] 0 = some F := hp
  refine parting_of_of (rowC_brack cs) ?_ hp
  rw [rowC_len]
  simp at hs
  omega
def Good (x : List (List Nat)) : Prop := Nice x x.flatten.length ∧ noCross x ∧ x.Pairwise fun a b => leN a b = true
theorem mem_len {x : List (List Nat)} {X : List Nat} (h : X ∈ x) : X.length ≤ x.flatten.length := by
  induction x with
  | nil => cases h
  | cons Y x ih =>
    rw [List.flatten_cons, List.length_append]
    rcases List.mem_cons.mp h with rfl | h
    · omega
    · have := ih h
      omega
theorem blkB_iff {l : List Nat} : blkB l = true ↔ l ≠ [] ∧ l.Pairwise (· ≤ ·) := by
  unfold blkB
  rw [Bool.and_eq_true, decide_eq_true_eq]
  cases l <;> simp
theorem numbers_nd (n : Nat) : numbers 0 n = (List.range n).map nd := by
  unfold numbers
  refine List.map_congr_left fun k _ => ?_
  show D.int (0 + (k : Int)) = _
  rw [Int.zero_add]
theorem nice_of {x : List (List Nat)} (hb : (x.map blkB).all id = true) (hp : x.flatten.Perm (List.range x.flatten.length)) : Nice x x.flatten.length := by
  rw [List.all_eq_true] at hb
  have hb2 : ∀ X, X ∈ x → X ≠ [] ∧ X.Pairwise (· ≤ ·) := fun X hX => blkB_iff.mp (hb _ (List.mem_map.mpr ⟨X, hX, rfl⟩))
  have hn : x.flatten.Pairwise (· ≠ ·) := hp.nodup_iff.mpr List.nodup_range
  rw [List.pairwise_flatten] at hn
  refine ⟨fun X hX => (hb2 X hX).1, fun X hX => ?_, hp⟩
  exact (List.pairwise_and_iff.mpr ⟨(hb2 X hX).2, hn.1 X hX⟩).imp fun h => by omega
theorem good_blk {x : List (List Nat)} (h : Good x) : (x.map blkB).all id = true := by
  rw [List.all_eq_true]
  intro b hb
  rw [List.mem_map] at hb
  obtain ⟨X, hX, rfl⟩ := hb
  exact blkB_iff.mpr ⟨h.1.ne X hX, (h.1.rise X hX).imp fun h => Nat.le_of_lt h⟩
theorem lasts_nodup {x : List (List Nat)} {n : Nat} (h : Nice x n) : (x.map lastN).Nodup := by
  have hn : x.flatten.Pairwise (· ≠ ·) := h.nodup
  rw [List.pairwise_flatten] at hn
  have key : ∀ (l : List (List Nat)), (∀ X, X ∈ l → X ≠ []) → l.Pairwise (fun l₁ l₂ => ∀ a, a ∈ l₁ → ∀ b, b ∈ l₂ → a ≠ b) → (l.map lastN).Nodup := by
    intro l
    induction l with
    | nil => intro _ _; exact List.nodup_nil
    | cons Z l ih =>
      intro hne hp
      rw [List.pairwise_cons] at hp
      rw [List.map_cons]
      refine List.nodup_cons.mpr ⟨fun hz => ?_, ih (fun X hX => hne X (List.mem_cons_of_mem _ hX)) hp.2⟩
      rw [List.mem_map] at hz
      obtain ⟨Y, hY, e⟩ := hz
      exact hp.1 Y hY _ (lastN_mem (hne Z List.mem_cons_self)) _ (lastN_mem (hne Y (List.mem_cons_of_mem _ hY))) e.symm
  exact key x h.ne hn.2
theorem rbp_of {x : List (List Nat)} (hx : x.length ≤ 400) (hf : x.flatten.length ≤ 400) :
    (Good x → φ_row_by_parting [parD x] = .ok (.str (rowC (csOf x x.flatten.length))) ∧ φ_parting_of [.str (rowC (csOf x x.flatten.length))] = .ok (parD x)) ∧ (¬ Good x → φ_row_by_parting [parD x] = .raise .noRow) := by
  have hblk : ∀ (i : Nat) d, (x.map tupN)[i]? = some d → ∃ b, (x.map blkB)[i]? = some b ∧ φ_is_block [d] = .ok (.bool b) := fun i d hd => by
    rw [List.getElem?_map, Option.map_eq_some_iff] at hd
    obtain ⟨X, hX, rfl⟩ := hd
    have := mem_len (List.mem_of_getElem? hX)
    exact ⟨blkB X, by rw [List.getElem?_map, hX]; rfl, is_block_nums (by omega)⟩
  by_cases hb : (x.map blkB).all id = true
  rotate_left
  · have hb' : (x.map blkB).all id = false := by simpa using hb
    exact ⟨fun hg => absurd (good_blk hg) hb, fun _ => rbp_bad (by rw [List.length_map]; omega) hblk (by rw [List.length_map, List.length_map]) hb'⟩
  · have hne : ∀ X, X ∈ x → X ≠ [] := fun X hX => (blkB_iff.mp ((List.all_eq_true.mp hb) _ (List.mem_map.mpr ⟨X, hX, rfl⟩))).1
    have c1 := blocks_comp (η := [some (.dat (parD x)), none, none, none, none, none]) rfl rfl (by rw [List.length_map]; omega) hblk (by rw [List.length_map, List.length_map])
    have t1 : bIs .tuple (parD x) = .ok (.bool true) := rfl
    have t2 := all_bools (x.map blkB)
    rw [hb] at t2
    obtain ⟨z1, hloop⟩ := sizes_loop (P := parD x) x [] [] none hne (by show 0 + x.flatten.length ≤ 900; omega) (by show 0 + x.length ≤ 900; omega)
    rw [List.nil_append] at hloop
    have i1 : items (parD x) = .ok (x.map tupN) := rfl
    have t3 := sort_nums (l := x.flatten) (by omega)
    have t5 := ne_numsL (x.flatten.mergeSort fun a b => decide (a ≤ b)) (List.range x.flatten.length)
    have t4 : eListRange (eOwn bLen 3) [some (.dat (parD x)), z1, some (.dic (x.foldl putS [])), some (.own (x.flatten.map nd)), none, none] = .ok (.lst ((List.range x.flatten.length).map nd)) := by
      have h1 : eOwn bLen 3 [some (.dat (parD x)), z1, some (.dic (x.foldl putS [])), some (.own (x.flatten.map nd)), none, none] = .ok (nd x.flatten.length) := by
        show (bLen (.lst (x.flatten.map nd))).calm = _
        rw [y_lenL, List.length_map]
        rfl
      rw [x_eListRange, h1]
      have hc : (0 : Int) ≤ (x.flatten.length : Int) ∧ (x.flatten.length : Int) ≤ lim := ⟨by omega, by show (x.flatten.length : Int) ≤ 16777216; omega⟩
      show (if (0 : Int) ≤ (x.flatten.length : Int) ∧ (x.flatten.length : Int) ≤ lim then Res.ok (D.lst (numbers 0 (x.flatten.length : Int).toNat)) else .bad) = _
      rw [if_pos hc, Int.toNat_natCast, numbers_nd]
    have hloop : loop (gName 1) b_row_by_parting_1 (x.map tupN) [some (.dat (parD x)), none, some (.dic []), some (.own []), none, none] = .next [some (.dat (parD x)), z1, some (.dic (x.foldl putS [])), some (.own (x.flatten.map nd)), none, none] := hloop
    by_cases hs : (x.flatten.mergeSort fun a b => decide (a ≤ b)) = List.range x.flatten.length
    rotate_left
    · refine ⟨fun hg => absurd (nums_same hg.1.perm (List.pairwise_lt_range.imp fun h => Nat.le_of_lt h)) hs, fun _ => run_raise (g := g_row_by_parting) ?_⟩
      rw [decide_eq_false hs] at t5
      show g_row_by_parting [some (.dat (parD x)), none, none, none, none, none] = _
      generalize (x.flatten.mergeSort fun a b => decide (a ≤ b)).map nd = L1 at t3 t5
      generalize (List.range x.flatten.length).map nd = L2 at t4 t5
      generalize x.flatten.map nd = L3 at hloop t3 t4
      generalize D.lst ((x.map blkB).map D.bool) = BB at c1 t2
      generalize x.map tupN = L4 at i1 hloop
      generalize parD x = T at c1 t1 i1 hloop t4 ⊢
      simp [-x_eListRange, g_row_by_parting, t1, c1, t2, i1, hloop, t3, t4, t5]
    · have hperm : x.flatten.Perm (List.range x.flatten.length) := by
        rw [← hs]
        exact (List.mergeSort_perm _ _).symm
      have hN := nice_of hb hperm
      obtain ⟨F, hF⟩ := run_ok0 hN
      have hcl : (csOf x x.flatten.length).length = x.flatten.length := by
        unfold csOf
        rw [List.length_map, List.length_range]
      have hpart := part_runs hF (by omega)
      have hsum := run_sum _ _ _ hF
      rw [List.length_nil, Nat.add_zero, Nat.zero_add] at hsum
      have hiff : F.mergeSort leN = x ↔ Good x := by
        constructor
        · intro e
          have hp : x.Perm F := by
            rw [← e]
            exact List.mergeSort_perm _ _
          obtain ⟨_, h2⟩ := nc_out hF hp
          refine ⟨hN, h2, ?_⟩
          rw [← e]
          exact List.pairwise_mergeSort le_trans' le_total' F
        · intro hg
          obtain ⟨F', h1, h2⟩ := nc_in hg.1 hg.2.1
          rw [hF] at h1
          have : F = F' := by
            have := Option.some.inj h1
            rw [Prod.mk.injEq] at this
            exact this.1
          subst this
          exact merge_same h2 hg.2.2
      rw [decide_eq_true hs] at t5
      have c2 : c_row_by_parting_2 [some (.dat (parD x)), z1, some (.dic (x.foldl putS [])), some (.own (x.flatten.map nd)), none, none] = .ok (.lst (((csOf x x.flatten.length).map fun c => 40 :: List.replicate c 41).map D.str)) := by
        have h1 : eOwn bLen 3 [some (.dat (parD x)), z1, some (.dic (x.foldl putS [])), some (.own (x.flatten.map nd)), none, none] = .ok (nd x.flatten.length) := by
          show (bLen (.lst (x.flatten.map nd))).calm = _
          rw [y_lenL, List.length_map]
          rfl
        have e0 : iRange1 (eOwn bLen 3) [some (.dat (parD x)), z1, some (.dic (x.foldl putS [])), some (.own (x.flatten.map nd)), none, none] = .ok (numbers 0 x.flatten.length) := by
          have h2 := rng1_nat x.flatten.length (Nat.le_trans hf (by decide))
          rw [x_iRange1, h1, bind_ok]
          exact h2
        refine eComp_of e0 (limA (by rw [numbers_len']; omega)) ?_
        have key := comp_list (g := gName 5) (t := tYes) (e := eBin dAdd (eC (.str [40])) (eBin dMul (eC (.str [41])) (eDGet2 2 (eVar 5) (eC (.int 0))))) (η := wipes [some (.dat (parD x)), z1, some (.dic (x.foldl putS [])), some (.own (x.flatten.map nd)), none, none] [5]) nd (fun k => D.str (40 :: List.replicate (szOf x k) 41)) (List.range x.flatten.length) fun k hk => by
          refine ⟨_, rfl, rfl, ?_⟩
          have hsz : szOf x k ≤ 400 := by
            unfold szOf
            cases e : x.find? fun X => lastN X == k with
            | none => exact Nat.zero_le _
            | some X =>
              have := mem_len (List.mem_of_find?_eq_some e)
              show X.length ≤ 400
              omega
          have g1 := sizes_of (lasts_nodup hN) k
          have g2 := rep_str (szOf x k) (by omega)
          have g3 : dAdd (.str [40]) (.str (List.replicate (szOf x k) 41)) = .ok (.str (40 :: List.replicate (szOf x k) 41)) := if_pos (limA (by
            rw [List.length_replicate]
            show 1 + szOf x k ≤ 1000
            omega))
          have g4 : keyD (nd k) = true := rfl
          show eBin dAdd (eC (.str [40])) (eBin dMul (eC (.str [41])) (eDGet2 2 (eVar 5) (eC (.int 0)))) [some (.dat (parD x)), z1, some (.dic (x.foldl putS [])), some (.own (x.flatten.map nd)), none, some (.dat (nd k))] = _
          have g5 : eDGet2 2 (eVar 5) (eC (.int 0)) [some (.dat (parD x)), z1, some (.dic (x.foldl putS [])), some (.own (x.flatten.map nd)), none, some (.dat (nd k))] = .ok (nd (szOf x k)) := by
            show (if keyD (nd k) = true then Res.ok ((dget (x.foldl putS []) (nd k)).getD (.int 0)) else .bad) = _
            rw [if_pos g4, g1]
          rw [x_eBin, x_eC, bind_ok, x_eBin, x_eC, bind_ok, g5, bind_ok, g2]
          show (dAdd (.str [40]) (.str (List.replicate (szOf x k) 41))).calm = _
          rw [g3]
          rfl
        rw [numbers_nd]
        have e2 : ((csOf x x.flatten.length).map fun c => 40 :: List.replicate c 41).map D.str = (List.range x.flatten.length).map fun k => D.str (40 :: List.replicate (szOf x k) 41) := by
          unfold csOf
          rw [List.map_map, List.map_map]
          rfl
        rw [e2]
        exact key
      have hj : dJoin (.str []) (.lst (((csOf x x.flatten.length).map fun c => 40 :: List.replicate c 41).map D.str)) = .ok (.str (rowC (csOf x x.flatten.length))) := by
        have hlen : lenSum ((csOf x x.flatten.length).map fun c => 40 :: List.replicate c 41) = (rowC (csOf x x.flatten.length)).length := by
          have : ∀ l : List (List Nat), lenSum l = l.flatten.length := by
            intro l
            induction l with
            | nil => rfl
            | cons a b ih => rw [List.flatten_cons, List.length_append, ← ih]; rfl
          rw [this, ← rowC_flat]
        rw [dJoin_map, joinS_nil, ← rowC_flat]
        rw [hlen, rowC_len]
        exact limA (by
          show _ + _ * 0 ≤ 1000
          omega)
      have hne := ne_par (F.mergeSort leN) x
      have fin : φ_row_by_parting [parD x] = if F.mergeSort leN = x then .ok (.str (rowC (csOf x x.flatten.length))) else .raise .noRow := by
        by_cases he : F.mergeSort leN = x
        · rw [if_pos he]
          rw [decide_eq_true he] at hne
          refine run_of (g := g_row_by_parting) ?_
          show g_row_by_parting [some (.dat (parD x)), none, none, none, none, none] = _
          clear hcl hsum hF
          generalize rowC (csOf x x.flatten.length) = RW at hj hpart ⊢
          generalize ((csOf x x.flatten.length).map fun c => 40 :: List.replicate c 41).map D.str = L0 at c2 hj
          generalize (x.flatten.mergeSort fun a b => decide (a ≤ b)).map nd = L1 at t3 t5
          generalize (List.range x.flatten.length).map nd = L2 at t4 t5
          generalize x.flatten.map nd = L3 at hloop t3 t4 c2
          generalize D.lst ((x.map blkB).map D.bool) = BB at c1 t2
          generalize x.map tupN = L4 at i1 hloop
          generalize parD (F.mergeSort leN) = T2 at hpart hne
          generalize parD x = T at c1 t1 i1 hloop t4 c2 hne ⊢
          simp [-x_eListRange, g_row_by_parting, t1, c1, t2, i1, hloop, t3, t4, t5, c2, hj, hpart, hne]
        · rw [if_neg he]
          rw [decide_eq_false he] at hne
          refine run_raise (g := g_row_by_parting) ?_
          show g_row_by_parting [some (.dat (parD x)), none, none, none, none, none] = _
          clear hcl hsum hF
          generalize rowC (csOf x x.flatten.length) = RW at hj hpart ⊢
          generalize ((csOf x x.flatten.length).map fun c => 40 :: List.replicate c 41).map D.str = L0 at c2 hj
          generalize (x.flatten.mergeSort fun a b => decide (a ≤ b)).map nd = L1 at t3 t5
          generalize (List.range x.flatten.length).map nd = L2 at t4 t5
          generalize x.flatten.map nd = L3 at hloop t3 t4 c2
          generalize D.lst ((x.map blkB).map D.bool) = BB at c1 t2
          generalize x.map tupN = L4 at i1 hloop
          generalize parD (F.mergeSort leN) = T2 at hpart hne
          generalize parD x = T at c1 t1 i1 hloop t4 c2 hne ⊢
          simp [-x_eListRange, g_row_by_parting, t1, c1, t2, i1, hloop, t3, t4, t5, c2, hj, hpart, hne]
      refine ⟨fun hg => ?_, fun hg => ?_⟩
      · have he := hiff.mpr hg
        rw [if_pos he] at fin
        rw [he] at hpart
        exact ⟨fin, hpart⟩
      · rw [if_neg fun z => hg (hiff.mp z)] at fin
        exact fin
end Bk
end
/-! BkCut -/
section
set_option linter.all false
set_option autoImplicit false
set_option maxRecDepth 100000
/-! BkCut: the threes of a tree -/
namespace Bk
abbrev N3 := Nat × Nat × Nat
def t3 (p : N3) : List Nat := [p.1, p.2.1, p.2.2]
def d3 (p : N3) : D := tupN (t3 p)
def thr : Tr → Nat → List N3
  | .leaf, _ => []
  | .node a b, x => (x, x + 1 + sz a, x + sz a + sz b + 2) :: (thr a x ++ thr b (x + 1 + sz a))
theorem thr_len : ∀ t x, (thr t x).length = sz t
  | .leaf, _ => rfl
  | .node a b, x => by
    rw [thr, List.length_cons, List.length_append, thr_len a, thr_len b]
    rfl
theorem thr_in : ∀ t x, ∀ p ∈ thr t x, x ≤ p.1 ∧ p.1 < p.2.1 ∧ p.2.1 < p.2.2 ∧ p.2.2 ≤ x + sz t + 1
  | .leaf, _, _, h => nomatch h
  | .node a b, x, p, h => by
    rw [thr, List.mem_cons, List.mem_append] at h
    have hs : sz (.node a b) = sz a + sz b + 1 := rfl
    rcases h with rfl | h | h
    · simp only
      omega
    · have := thr_in a x p h
      omega
    · have := thr_in b _ p h
      omega
def key (p : N3) : Nat × Nat := (p.1, p.2.2)
theorem thr_keys : ∀ t x, ((thr t x).map key).Nodup
  | .leaf, _ => List.nodup_nil
  | .node a b, x => by
    rw [thr, List.map_cons, List.nodup_cons, List.map_append, List.nodup_append]
    refine ⟨?_, thr_keys a x, thr_keys b _, ?_⟩
    · rw [List.mem_append, List.mem_map, List.mem_map]
      rintro (⟨p, hp, e⟩ | ⟨p, hp, e⟩)
      · have := thr_in a x p hp
        simp only [key, Prod.mk.injEq] at e
        omega
      · have := thr_in b _ p hp
        simp only [key, Prod.mk.injEq] at e
        omega
    · intro u hu v hv e
      rw [List.mem_map] at hu hv
      obtain ⟨p, hp, rfl⟩ := hu
      obtain ⟨q, hq, e2⟩ := hv
      have h1 := thr_in a x p hp
      have h2 := thr_in b _ q hq
      subst e
      simp only [key, Prod.mk.injEq] at e2
      omega
theorem one_key {L C : List N3} (hn : (L.map key).Nodup) (hc : C.Perm L) {q : N3} (hq : q ∈ L) : C.filter (fun p => key p == key q) = [q] := by
  have h1 : (C.filter (fun p => key p == key q)).Perm (L.filter (fun p => key p == key q)) := hc.filter _
  have h2 : L.filter (fun p => key p == key q) = [q] := by
    clear h1 hc
    induction L with
    | nil => cases hq
    | cons p r ih =>
      rw [List.map_cons, List.nodup_cons] at hn
      rw [List.mem_cons] at hq
      rcases hq with rfl | hq
      · rw [List.filter_cons_of_pos (by simp)]
        congr 1
        rw [List.filter_eq_nil_iff]
        intro a ha
        rw [beq_iff_eq]
        intro e
        exact hn.1 (List.mem_map.mpr ⟨a, ha, e⟩)
      · rw [List.filter_cons_of_neg]
        · exact ih hn.2 hq
        · rw [beq_iff_eq]
          intro e
          exact hn.1 (List.mem_map.mpr ⟨q, hq, e.symm⟩)
  rw [h2] at h1
  exact List.perm_singleton.mp h1
/-! the mirrored tree -/
def rev3 (s : Nat) (p : N3) : N3 := (s - p.2.2, s - p.2.1, s - p.1)
theorem thr_mir : ∀ t x y, (thr (mir t) x).Perm ((thr t y).map (rev3 (x + y + sz t + 1)))
  | .leaf, _, _ => List.Perm.refl _
  | .node a b, x, y => by
    show ((x, x + 1 + sz (mir b), x + sz (mir b) + sz (mir a) + 2) :: (thr (mir b) x ++ thr (mir a) (x + 1 + sz (mir b)))).Perm (((y, y + 1 + sz a, y + sz a + sz b + 2) :: (thr a y ++ thr b (y + 1 + sz a))).map (rev3 (x + y + (sz a + sz b + 1) + 1)))
    rw [sz_mir, sz_mir, List.map_cons, List.map_append]
    have h1 := thr_mir a (x + 1 + sz b) y
    have h2 := thr_mir b x (y + 1 + sz a)
    rw [show x + 1 + sz b + y + sz a + 1 = x + y + (sz a + sz b + 1) + 1 by omega] at h1
    rw [show x + (y + 1 + sz a) + sz b + 1 = x + y + (sz a + sz b + 1) + 1 by omega] at h2
    have e : rev3 (x + y + (sz a + sz b + 1) + 1) (y, y + 1 + sz a, y + sz a + sz b + 2) = (x, x + 1 + sz b, x + sz b + sz a + 2) := by
      simp only [rev3, Prod.mk.injEq]
      omega
    rw [e]
    exact List.Perm.cons _ ((h2.append h1).trans List.perm_append_comm)
/-! sides -/
def sides3 (p : N3) : List (Nat × Nat) := [(p.1, p.2.1), (p.2.1, p.2.2), (p.1, p.2.2)]
def es : Tr → Nat → List (Nat × Nat)
  | .leaf, x => [(x, x + 1)]
  | .node a b, x => (x, x + sz a + sz b + 2) :: (x, x + sz a + sz b + 2) :: (es a x ++ es b (x + 1 + sz a))
theorem es_in : ∀ t x, ∀ p ∈ es t x, x ≤ p.1 ∧ p.1 < p.2 ∧ p.2 ≤ x + sz t + 1
  | .leaf, x, p, h => by
    rw [es, List.mem_singleton] at h
    subst h
    simp only [sz]
    omega
  | .node a b, x, p, h => by
    have hs : sz (.node a b) = sz a + sz b + 1 := rfl
    rw [es, List.mem_cons, List.mem_cons, List.mem_append] at h
    rcases h with rfl | rfl | h | h
    · simp only
      omega
    · simp only
      omega
    · have := es_in a x p h
      omega
    · have := es_in b _ p h
      omega
theorem es_perm : ∀ t x, ((x, x + sz t + 1) :: (thr t x).flatMap sides3).Perm (es t x)
  | .leaf, x => List.Perm.refl _
  | .node a b, x => by
    have h1 := es_perm a x
    have h2 := es_perm b (x + 1 + sz a)
    rw [thr, es, List.flatMap_cons, List.flatMap_append, sides3]
    show ((x, x + (sz a + sz b + 1) + 1) :: ((x, x + 1 + sz a) :: (x + 1 + sz a, x + sz a + sz b + 2) :: (x, x + sz a + sz b + 2) :: ((thr a x).flatMap sides3 ++ (thr b (x + 1 + sz a)).flatMap sides3))).Perm _
    rw [show x + (sz a + sz b + 1) + 1 = x + sz a + sz b + 2 by omega]
    refine List.Perm.cons _ ?_
    have e1 : x + sz a + 1 = x + 1 + sz a := by omega
    have e2 : x + 1 + sz a + sz b + 1 = x + sz a + sz b + 2 := by omega
    rw [e1] at h1
    rw [e2] at h2
    generalize (thr a x).flatMap sides3 = A at h1 ⊢
    generalize (thr b (x + 1 + sz a)).flatMap sides3 = B at h2 ⊢
    generalize es a x = EA at h1 ⊢
    generalize es b (x + 1 + sz a) = EB at h2 ⊢
    have h3 : (((x, x + 1 + sz a) :: A) ++ ((x + 1 + sz a, x + sz a + sz b + 2) :: B)).Perm (EA ++ EB) := h1.append h2
    refine List.Perm.trans ?_ (List.Perm.cons _ h3)
    generalize (x, x + 1 + sz a) = p
    generalize (x + 1 + sz a, x + sz a + sz b + 2) = q
    generalize (x, x + sz a + sz b + 2) = r
    have : (p :: q :: r :: (A ++ B)).Perm (r :: p :: q :: (A ++ B)) := by
      refine List.Perm.trans (List.Perm.cons p (List.Perm.swap r q _)) ?_
      exact List.Perm.swap r p _
    refine this.trans (List.Perm.cons r (List.Perm.cons p ?_))
    exact (List.perm_middle (a := q) (l₁ := A) (l₂ := B)).symm
theorem es_count : ∀ t x u v, (v = u + 1 → (es t x).count (u, v) = if x ≤ u ∧ u ≤ x + sz t then 1 else 0) ∧ (v ≠ u + 1 → (es t x).count (u, v) = 0 ∨ (es t x).count (u, v) = 2)
  | .leaf, x, u, v => by
    rw [es, List.count_singleton]
    refine ⟨fun h => ?_, fun h => ?_⟩
    · subst h
      by_cases h : u = x
      · subst h; simp [sz]
      · have hne : ((x, x + 1) == (u, u + 1)) = false := by
          rw [beq_eq_false_iff_ne]
          simp only [ne_eq, Prod.mk.injEq]
          omega
        rw [hne, if_neg Bool.false_ne_true, if_neg (by simp only [sz]; omega)]
    · left
      have : ¬ (x = u ∧ x + 1 = v) := by omega
      simp
      omega
  | .node a b, x, u, v => by
    obtain ⟨a1, a2⟩ := es_count a x u v
    obtain ⟨b1, b2⟩ := es_count b (x + 1 + sz a) u v
    have hs : sz (.node a b) = sz a + sz b + 1 := rfl
    rw [es, List.count_cons, List.count_cons, List.count_append]
    refine ⟨fun h => ?_, fun h => ?_⟩
    · have hne : ((x, x + sz a + sz b + 2) == (u, v)) = false := by
        rw [beq_eq_false_iff_ne]
        simp only [ne_eq, Prod.mk.injEq]
        omega
      rw [a1 h, b1 h, hne, hs]
      simp only [Bool.false_eq_true, if_false]
      by_cases c1 : x ≤ u ∧ u ≤ x + sz a
      · rw [if_pos c1, if_neg (by omega), if_pos (by omega)]
      · rw [if_neg c1]
        by_cases c2 : x + 1 + sz a ≤ u ∧ u ≤ x + 1 + sz a + sz b
        · rw [if_pos c2, if_pos (by omega)]
        · rw [if_neg c2, if_neg (by omega)]
    · have ka : (es a x).count (u, v) ≠ 0 → x ≤ u ∧ u < v ∧ v ≤ x + sz a + 1 := fun hc => es_in a x (u, v) (List.count_pos_iff.mp (by omega))
      have kb : (es b (x + 1 + sz a)).count (u, v) ≠ 0 → x + 1 + sz a ≤ u ∧ u < v ∧ v ≤ x + 1 + sz a + sz b + 1 := fun hc => es_in b _ (u, v) (List.count_pos_iff.mp (by omega))
      have a3 := a2 h
      have b3 := b2 h
      by_cases hq : (x, x + sz a + sz b + 2) = (u, v)
      · have hq2 := hq
        simp only [Prod.mk.injEq] at hq
        rw [beq_iff_eq.mpr hq2]
        simp only [if_true]
        omega
      · have hne : ((x, x + sz a + sz b + 2) == (u, v)) = false := by
          rw [beq_eq_false_iff_ne]
          exact hq
        rw [hne]
        simp only [Bool.false_eq_true, if_false]
        omega
theorem es_flat : ∀ t x, ∀ p ∈ es t x, ∀ q ∈ es t x, ¬ (p.1 < q.1 ∧ q.1 < p.2 ∧ p.2 < q.2)
  | .leaf, x, p, hp, q, hq => by
    rw [es, List.mem_singleton] at hp hq
    subst hp hq
    simp only
    omega
  | .node a b, x, p, hp, q, hq => by
    have kp := es_in _ x p hp
    have kq := es_in _ x q hq
    have hs : sz (.node a b) = sz a + sz b + 1 := rfl
    rw [es, List.mem_cons, List.mem_cons, List.mem_append] at hp hq
    rcases hp with rfl | rfl | hp | hp
    · simp only
      omega
    · simp only
      omega
    · have ka := es_in a x p hp
      rcases hq with rfl | rfl | hq | hq
      · simp only
        omega
      · simp only
        omega
      · exact es_flat a x p hp q hq
      · have kb := es_in b _ q hq
        omega
    · have ka := es_in b _ p hp
      rcases hq with rfl | rfl | hq | hq
      · simp only
        omega
      · simp only
        omega
      · have kb := es_in a _ q hq
        omega
      · exact es_flat b _ p hp q hq
/-- the sides of the whole cut -/
theorem sides_fair {t : Tr} (ht : 0 < sz t) {S : List (Nat × Nat)} (hS : S.Perm ((thr t 0).flatMap sides3)) {u v : Nat} (h : (u, v) ∈ S) : S.count (u, v) = (if v = u + 1 ∨ v - u = sz t + 1 then 1 else 2) ∧ (u < v ∧ v ≤ sz t + 1) ∧ ∀ q ∈ S, ¬ (u < q.1 ∧ q.1 < v ∧ v < q.2) := by
  have hp := es_perm t 0
  have hp2 : ((0, 0 + sz t + 1) :: S).Perm (es t 0) := (List.Perm.cons _ hS).trans hp
  have hm : ∀ q ∈ S, q ∈ es t 0 := fun q hq => hp2.mem_iff.mp (List.mem_cons_of_mem _ hq)
  have hi := es_in t 0 (u, v) (hm _ h)
  refine ⟨?_, by simp only at hi; omega, fun q hq => es_flat t 0 (u, v) (hm _ h) q (hm q hq)⟩
  have hc := hp2.count_eq (u, v)
  rw [List.count_cons] at hc
  have hpos : 0 < S.count (u, v) := List.count_pos_iff.mpr h
  obtain ⟨c1, c2⟩ := es_count t 0 u v
  simp only at hi
  by_cases h1 : v = u + 1
  · have c1 := c1 h1
    rw [if_pos (by omega)] at c1
    rw [if_pos (.inl h1)]
    omega
  · have c2 := c2 h1
    by_cases h2 : v - u = sz t + 1
    · rw [if_pos (.inr h2)]
      have e : ((0, 0 + sz t + 1) == (u, v)) = true := by
        rw [beq_iff_eq]
        simp only [Prod.mk.injEq]
        omega
      rw [e] at hc
      simp only [if_true] at hc
      omega
    · rw [if_neg (by omega)]
      have e : ((0, 0 + sz t + 1) == (u, v)) = false := by
        rw [beq_eq_false_iff_ne]
        simp only [ne_eq, Prod.mk.injEq]
        omega
      rw [e] at hc
      simp only [Bool.false_eq_true, if_false] at hc
      omega
end Bk
end
/-! BkCut2 -/
section
set_option linter.all false
set_option autoImplicit false
set_option maxRecDepth 100000
/-! BkCut2: what the defs of cuts compute -/
namespace Bk
theorem comp_listF {α : Type} {g : G} {t : T} {e : E} {η : Env} (p : α → Bool) (f v : α → D) : ∀ (xs : List α), (∀ a, a ∈ xs → ∃ η1, g (f a) η = .ok η1 ∧ t η1 = .ok (p a) ∧ (p a = true → e η1 = .ok (v a))) → comp g t e η (xs.map f) = .ok ((xs.filter p).map v)
  | [], _ => rfl
  | d :: ds, h => by
    obtain ⟨η1, h1, h2, h3⟩ := h d List.mem_cons_self
    have ih := comp_listF p f v ds fun d hd => h d (List.mem_cons_of_mem _ hd)
    show (g (f d) η).calm.bind _ = _
    rw [h1, calm_ok, bind_ok, h2, bind_ok]
    cases hp : p d with
    | true => rw [if_pos rfl, h3 hp, bind_ok, ih, bind_ok, List.filter_cons_of_pos hp, List.map_cons]
    | false => rw [if_neg Bool.false_ne_true, ih, List.filter_cons_of_neg (by rw [hp]; exact Bool.false_ne_true)]
theorem threes_of : ∀ (f : Nat) (t : Tr) (x : Nat), sz t < f → sz t ≤ 100 → φ_threes f [.str (rowT t), nd x] = .ok (.lst ((thr t x).map d3))
  | 0, t, x, h, _ => absurd h (Nat.not_lt_zero _)
  | f + 1, .leaf, x, h, hl => rfl
  | f + 1, .node a b, x, h, hl => by
    have h : sz a + sz b + 1 < f + 1 := h
    have hl' : sz a + sz b + 1 ≤ 100 := hl
    have hp := parts_of_of (t := .node a b) (by omega)
    have hp : φ_parts_of [.str (rowT (.node a b))] = .ok (.lst (.str (rowT a) :: ((kids b).map rowT).map D.str)) := hp
    have i1 := threes_of f a x (by omega) (by omega)
    have i2 := threes_of f b (x + 1 + sz a) (by omega) (by omega)
    have hlen := rowT_len (.node a b)
    have hlen : (rowT (.node a b)).length = 2 * (sz a + sz b + 1) := hlen
    have hla := rowT_len a
    have hlb := rowT_len b
    have pl : plainS (rowT (.node a b)) = true := brack_plain (whole_iff.mp (rowT_whole _)).1
    have e1 : dEq (.str (rowT (.node a b))) (.str []) = .ok (.bool false) := by
      rw [y_eqS pl rfl (limA (by omega)) (limA (by simp))]
      rfl
    have e2 : at? (D.str (rowT a) :: ((kids b).map rowT).map D.str) (0 : Int) = some (.str (rowT a)) := at_zero
    have e3 : bLen (.str (rowT a)) = .ok (nd (2 * sz a)) := by
      rw [y_lenS, if_pos (limA (by omega)), hla]
    have e6 : bLen (.str (rowT b)) = .ok (nd (2 * sz b)) := by
      rw [y_lenS, if_pos (limA (by omega)), hlb]
    have e4 : dAdd (nd (2 * sz a)) (.int 2) = .ok (nd (2 * sz a + 2)) := by
      rw [y_add]
      rfl
    have e5 : dCut (.str (rowT (.node a b))) (some ((2 * sz a + 2 : Nat) : Int)) none = .ok (.str (rowT b)) := by
      rw [y_cutS, if_pos (limA (by omega)), cut_from]
      show Res.ok (D.str ((40 :: (rowT a ++ 41 :: rowT b)).drop (2 * sz a + 2))) = _
      rw [show (40 :: (rowT a ++ 41 :: rowT b)) = (40 :: rowT a ++ [41]) ++ rowT b by simp]
      rw [show 2 * sz a + 2 = (40 :: rowT a ++ [41]).length by simp [hla], List.drop_left]
    have v1 : dDiv (nd (2 * sz a)) (.int 2) = .ok (nd (sz a)) := by
      rw [y_div (by omega) (by omega)]
      have : ((2 * sz a : Nat) : Int) / 2 = ((sz a : Nat) : Int) := by omega
      rw [this]
    have v2 : dDiv (nd (2 * sz b)) (.int 2) = .ok (nd (sz b)) := by
      rw [y_div (by omega) (by omega)]
      have : ((2 * sz b : Nat) : Int) / 2 = ((sz b : Nat) : Int) := by omega
      rw [this]
    have w1 : dAdd (nd x) (nd (sz a)) = .ok (nd (x + sz a)) := by rw [y_add, nd_add]
    have w2 : dAdd (nd (x + sz a)) (.int 1) = .ok (nd (x + 1 + sz a)) := by
      rw [y_add, show (1 : Int) = ((1 : Nat) : Int) from rfl, nd_add]
      congr 2
      omega
    have w3 : dAdd (nd (x + 1 + sz a)) (nd (sz b)) = .ok (nd (x + 1 + sz a + sz b)) := by rw [y_add, nd_add]
    have w4 : dAdd (nd (x + 1 + sz a + sz b)) (.int 1) = .ok (nd (x + sz a + sz b + 2)) := by
      rw [y_add, show (1 : Int) = ((1 : Nat) : Int) from rfl, nd_add]
      congr 2
      omega
    have la := thr_len a x
    have lb := thr_len b (x + 1 + sz a)
    have s1 : dAdd (.lst [.tup [nd x, nd (x + 1 + sz a), nd (x + sz a + sz b + 2)]]) (.lst ((thr a x).map d3)) = .ok (.lst (d3 (x, x + 1 + sz a, x + sz a + sz b + 2) :: (thr a x).map d3)) := if_pos (limA (by
      rw [List.length_map, List.length_singleton]
      omega))
    have s2 : dAdd (.lst (d3 (x, x + 1 + sz a, x + sz a + sz b + 2) :: (thr a x).map d3)) (.lst ((thr b (x + 1 + sz a)).map d3)) = .ok (.lst ((thr (.node a b) x).map d3)) := by
      have : dAdd (.lst (d3 (x, x + 1 + sz a, x + sz a + sz b + 2) :: (thr a x).map d3)) (.lst ((thr b (x + 1 + sz a)).map d3)) = .ok (.lst ((d3 (x, x + 1 + sz a, x + sz a + sz b + 2) :: (thr a x).map d3) ++ ((thr b (x + 1 + sz a)).map d3))) := if_pos (limA (by
        rw [List.length_map, List.length_cons, List.length_map]
        omega))
      rw [this, thr, List.map_cons, List.map_append]
      rfl
    refine run_of (g := g_threes (φ_threes f)) ?_
    show g_threes (φ_threes f) [some (.dat (.str (rowT (.node a b)))), some (.dat (nd x)), none, none, none] = Out.ret (.lst ((thr (.node a b) x).map d3))
    generalize (thr (.node a b) x).map d3 = Z at s2 ⊢
    generalize d3 (x, x + 1 + sz a, x + sz a + sz b + 2) = hd at s1 s2
    generalize (thr a x).map d3 = ZA at i1 s1 s2
    generalize (thr b (x + 1 + sz a)).map d3 = ZB at i2 s2
    generalize nd (x + sz a + sz b + 2) = n1 at w4 s1
    generalize nd (x + 1 + sz a + sz b) = n2 at w3 w4
    generalize nd (x + 1 + sz a) = n3 at w2 w3 s1 i2
    generalize nd (x + sz a) = n4 at w1 w2
    generalize 2 * sz a + 2 = m2 at e4 e5
    generalize nd (2 * sz a) = n5 at e3 e4 v1
    generalize nd (2 * sz b) = n6 at e6 v2
    generalize nd (sz a) = n7 at v1 w1
    generalize nd (sz b) = n8 at v2 w3
    generalize nd x = n9 at w1 s1 i1 ⊢
    generalize rowT (.node a b) = R at hp e1 e5 ⊢
    generalize ((kids b).map rowT).map D.str = L at hp e2
    generalize rowT a = A at hp e2 e3 i1
    generalize rowT b = B at e5 e6 i2
    simp [-y_lenS, -y_cutS, -y_addL, g_threes, e1, hp, e2, i1, e3, e4, e5, e6, i2, v1, v2, w1, w2, w3, w4, s1, s2]
theorem l_size_of : ∀ (f : Nat) (t : Tr), sz t < f → φ_l_size f [treeD t] = .ok (nd (sz t))
  | 0, t, h => absurd h (Nat.not_lt_zero _)
  | f + 1, .leaf, h => rfl
  | f + 1, .node a b, h => by
    have h : sz a + sz b + 1 < f + 1 := h
    have i1 := l_size_of f a (by omega)
    have i2 := l_size_of f b (by omega)
    have n1 : dIsN (.tup [treeD a, treeD b]) .none = .ok (.bool false) := rfl
    have x1 : at? [treeD a, treeD b] (0 : Int) = some (treeD a) := rfl
    have x2 : at? [treeD a, treeD b] (1 : Int) = some (treeD b) := rfl
    refine run_of (g := g_l_size (φ_l_size f)) ?_
    show g_l_size (φ_l_size f) [some (.dat (.tup [treeD a, treeD b]))] = Out.ret (nd (sz a + sz b + 1))
    simp [g_l_size, n1, x1, x2, i1, i2]
    omega
/-- the law's own threes -/
def lthr : Tr → Nat → List N3
  | .leaf, _ => []
  | .node a b, x => (lthr a x ++ lthr b (x + 1 + sz a)) ++ [(x, x + 1 + sz a, x + sz a + sz b + 2)]
theorem lthr_perm : ∀ t x, (lthr t x).Perm (thr t x)
  | .leaf, _ => List.Perm.refl _
  | .node a b, x => by
    rw [lthr, thr]
    exact List.perm_append_comm.trans (List.Perm.cons _ ((lthr_perm a x).append (lthr_perm b _)))
theorem l_threes_of : ∀ (f : Nat) (t : Tr) (x : Nat), sz t < f → sz t ≤ 25 → φ_l_threes f [treeD t, nd x, nd (x + sz t + 1)] = .ok (.lst ((lthr t x).map d3))
  | 0, t, x, h, _ => absurd h (Nat.not_lt_zero _)
  | f + 1, .leaf, x, h, hl => rfl
  | f + 1, .node a b, x, h, hl => by
    have h : sz a + sz b + 1 < f + 1 := h
    have hl' : sz a + sz b + 1 ≤ 25 := hl
    have i1 := l_threes_of f a x (by omega) (by omega)
    have i2 := l_threes_of f b (x + 1 + sz a) (by omega) (by omega)
    have i3 := l_size_of 26 a (by omega)
    rw [show x + sz a + 1 = x + 1 + sz a by omega] at i1
    rw [show x + 1 + sz a + sz b + 1 = x + sz a + sz b + 2 by omega] at i2
    have n1 : dIsN (.tup [treeD a, treeD b]) .none = .ok (.bool false) := rfl
    have x1 : at? [treeD a, treeD b] (0 : Int) = some (treeD a) := rfl
    have x2 : at? [treeD a, treeD b] (1 : Int) = some (treeD b) := rfl
    have w1 : dAdd (nd x) (.int 1) = .ok (nd (x + 1)) := by
      rw [y_add, show (1 : Int) = ((1 : Nat) : Int) from rfl, nd_add]
    have w2 : dAdd (nd (x + 1)) (nd (sz a)) = .ok (nd (x + 1 + sz a)) := by rw [y_add, nd_add]
    have la := (lthr_perm a x).length_eq
    have lb := (lthr_perm b (x + 1 + sz a)).length_eq
    rw [thr_len] at la lb
    have s1 : dAdd (.lst ((lthr a x).map d3)) (.lst ((lthr b (x + 1 + sz a)).map d3)) = .ok (.lst ((lthr a x).map d3 ++ (lthr b (x + 1 + sz a)).map d3)) := if_pos (limA (by
      rw [List.length_map, List.length_map]
      omega))
    have s2 : dAdd (.lst ((lthr a x).map d3 ++ (lthr b (x + 1 + sz a)).map d3)) (.lst [.tup [nd x, nd (x + 1 + sz a), nd (x + sz a + sz b + 2)]]) = .ok (.lst ((lthr (.node a b) x).map d3)) := by
      have : dAdd (.lst ((lthr a x).map d3 ++ (lthr b (x + 1 + sz a)).map d3)) (.lst [.tup [nd x, nd (x + 1 + sz a), nd (x + sz a + sz b + 2)]]) = .ok (.lst (((lthr a x).map d3 ++ (lthr b (x + 1 + sz a)).map d3) ++ [.tup [nd x, nd (x + 1 + sz a), nd (x + sz a + sz b + 2)]])) := if_pos (limA (by
        rw [List.length_append, List.length_map, List.length_map, List.length_singleton]
        omega))
      rw [this, lthr, List.map_append, List.map_append]
      rfl
    refine run_of (g := g_l_threes (φ_l_threes f)) ?_
    show g_l_threes (φ_l_threes f) [some (.dat (.tup [treeD a, treeD b])), some (.dat (nd x)), some (.dat (nd (x + (sz a + sz b + 1) + 1))), none, none] = Out.ret (.lst ((lthr (.node a b) x).map d3))
    rw [show x + (sz a + sz b + 1) + 1 = x + sz a + sz b + 2 by omega]
    generalize (lthr (.node a b) x).map d3 = Z at s2 ⊢
    generalize (lthr a x).map d3 ++ (lthr b (x + 1 + sz a)).map d3 = ZC at s1 s2
    generalize (lthr a x).map d3 = ZA at i1 s1
    generalize (lthr b (x + 1 + sz a)).map d3 = ZB at i2 s1
    generalize nd (x + sz a + sz b + 2) = m1 at s2 i2 ⊢
    generalize nd (x + 1 + sz a) = n3 at w2 s2 i1 i2
    generalize nd (x + 1) = n4 at w1 w2
    generalize nd (sz a) = n7 at w2 i3
    generalize nd x = n9 at w1 s2 i1 ⊢
    simp [-y_addL, g_l_threes, n1, x1, x2, i1, i2, i3, w1, w2, s1, s2]
/-! the cut -/
abbrev le3 (p q : N3) : Bool := leN (t3 p) (t3 q)
def cutT (t : Tr) : List N3 := (thr t 0).mergeSort le3
theorem cut_perm (t : Tr) : (cutT t).Perm (thr t 0) := List.mergeSort_perm _ _
theorem cut_len (t : Tr) : (cutT t).length = sz t := by rw [(cut_perm t).length_eq, thr_len]
theorem map_d3 (l : List N3) : l.map d3 = (l.map t3).map tupN := by
  rw [List.map_map]
  rfl
theorem sort_d3 {l : List N3} (h : l.length ≤ 1000) : bSorted (.lst (l.map d3)) = .ok (.lst ((l.mergeSort le3).map d3)) := by
  have h1 := bSorted_tupsL (l := l.map t3) (fun s hs => by
    rw [List.mem_map] at hs
    obtain ⟨p, _, rfl⟩ := hs
    exact List.cons_ne_nil _ _) (by rw [List.length_map]; exact h)
  rw [map_d3, map_d3, h1]
  rw [List.map_mergeSort (r := le3) (s := leN) fun a _ b _ => rfl]
theorem t3_inj {p q : N3} (h : t3 p = t3 q) : p = q := by
  obtain ⟨a, b, c⟩ := p
  obtain ⟨a', b', c'⟩ := q
  simp only [t3, List.cons.injEq, and_true] at h
  obtain ⟨rfl, rfl, rfl⟩ := h
  rfl
theorem merge3 {l m : List N3} (h : l.Perm m) : l.mergeSort le3 = m.mergeSort le3 :=
  List.Perm.eq_of_pairwise (fun a b _ _ h1 h2 => t3_inj (leN_anti h1 h2)) (List.pairwise_mergeSort (fun a b c => le_trans' (t3 a) (t3 b) (t3 c)) (fun a b => le_total' (t3 a) (t3 b)) l) (List.pairwise_mergeSort (fun a b c => le_trans' (t3 a) (t3 b) (t3 c)) (fun a b => le_total' (t3 a) (t3 b)) m)
    ((List.mergeSort_perm l _).trans (h.trans (List.mergeSort_perm m _).symm))
theorem cut_of_of {t : Tr} (h : sz t ≤ 25) : φ_cut_of [.str (rowT t)] = .ok (.tup ((cutT t).map d3)) := by
  have e1 := threes_of 26 t 0 (by omega) (by omega)
  have e2 : eComp [1, 2, 3] (iAny (eCall (φ_threes 26) [eVar 0, eC (.int 0)])) (gTri 1 2 3) tYes (eTup [eVar 1, eVar 2, eVar 3]) [some (.dat (.str (rowT t))), none, none, none] = .ok (.lst ((thr t 0).map d3)) := by
    refine eComp_of (ds := (thr t 0).map d3) ?_ (limA (by rw [List.length_map, thr_len]; omega)) (comp_list d3 d3 _ fun p hp => ?_)
    · show ((Res.ok [D.str (rowT t), nd 0]).bind (φ_threes 26)).bind items = _
      rw [bind_ok, e1]
      rfl
    · exact ⟨_, rfl, rfl, rfl⟩
  have e3 := sort_d3 (l := thr t 0) (by rw [thr_len]; omega)
  refine run_of (g := g_cut_of) ?_
  show g_cut_of [some (.dat (.str (rowT t))), none, none, none] = Out.ret (.tup ((cutT t).map d3))
  unfold cutT
  generalize ((thr t 0).mergeSort le3).map d3 = Z at e3 ⊢
  generalize (thr t 0).map d3 = Z2 at e2 e3
  simp [g_cut_of, c_cut_of_1, e2, e3]
/-! the row of a cut -/
theorem row_between_of {C : List N3} (hC : C.length ≤ 100) : ∀ (f : Nat) (t : Tr) (x : Nat), sz t < f → sz t ≤ 25 → (∀ q ∈ thr t x, C.filter (fun p => key p == key q) = [q]) → φ_row_between f [.tup (C.map d3), nd x, nd (x + sz t + 1)] = .ok (.str (rowT t))
  | 0, t, x, h, _, _ => absurd h (Nat.not_lt_zero _)
  | f + 1, .leaf, x, h, hl, hk => by
    refine run_of (g := g_row_between (φ_row_between f)) ?_
    show g_row_between (φ_row_between f) [some (.dat (.tup (C.map d3))), some (.dat (nd x)), some (.dat (nd (x + 0 + 1))), none, none] = Out.ret (.str [])
    simp [g_row_between]
  | f + 1, .node a b, x, h, hl, hk => by
    have h : sz a + sz b + 1 < f + 1 := h
    have hl' : sz a + sz b + 1 ≤ 25 := hl
    have i1 := row_between_of hC f a x (by omega) (by omega) fun q hq => hk q (by
      rw [thr]
      exact List.mem_cons_of_mem _ (List.mem_append_left _ hq))
    have i2 := row_between_of hC f b (x + 1 + sz a) (by omega) (by omega) fun q hq => hk q (by
      rw [thr]
      exact List.mem_cons_of_mem _ (List.mem_append_right _ hq))
    have i3 := hk (x, x + 1 + sz a, x + sz a + sz b + 2) (by
      rw [thr]
      exact List.mem_cons_self)
    rw [show x + sz a + 1 = x + 1 + sz a by omega] at i1
    rw [show x + 1 + sz a + sz b + 1 = x + sz a + sz b + 2 by omega] at i2
    have hla := rowT_len a
    have hlb := rowT_len b
    have a1 : dAdd (.str [40]) (.str (rowT a)) = .ok (.str (40 :: rowT a)) := if_pos (limA (by
      show 1 + (rowT a).length ≤ 1000
      omega))
    have a2 : dAdd (.str (40 :: rowT a)) (.str [41]) = .ok (.str (40 :: rowT a ++ [41])) := if_pos (limA (by
      show (rowT a).length + 1 + 1 ≤ 1000
      omega))
    have a3 : dAdd (.str (40 :: rowT a ++ [41])) (.str (rowT b)) = .ok (.str (40 :: (rowT a ++ 41 :: rowT b))) := by
      have : dAdd (.str (40 :: rowT a ++ [41])) (.str (rowT b)) = .ok (.str ((40 :: rowT a ++ [41]) ++ rowT b)) := if_pos (limA (by
        simp
        omega))
      rw [this]
      simp
    have e0 : dEq (nd (x + sz a + sz b + 2)) (nd (x + 1)) = .ok (.bool false) := by
      rw [y_eqI, decide_eq_false (by omega)]
    have w1 : dAdd (nd x) (.int 1) = .ok (nd (x + 1)) := by
      rw [y_add, show (1 : Int) = ((1 : Nat) : Int) from rfl, nd_add]
    have e1 : c_row_between_1 [some (.dat (.tup (C.map d3))), some (.dat (nd x)), some (.dat (nd (x + sz a + sz b + 2))), none, none] = .ok (.lst [nd (x + 1 + sz a)]) := by
      have hcomp := comp_listF (g := gName 4) (t := tAnd (tE (eBin dEq (eBin dIdx (eVar 4) (eC (.int 0))) (eVar 1))) (tE (eBin dEq (eBin dIdx (eVar 4) (eC (.int 2))) (eVar 2)))) (e := eBin dIdx (eVar 4) (eC (.int 1)))
        (η := [some (.dat (.tup (C.map d3))), some (.dat (nd x)), some (.dat (nd (x + sz a + sz b + 2))), none, none]) (fun p => key p == key (x, x + 1 + sz a, x + sz a + sz b + 2)) d3 (fun p => nd p.2.1) C fun p _ => by
        obtain ⟨u, v, w⟩ := p
        have x0 : at? (List.map nd (t3 (u, v, w))) (0 : Int) = some (nd u) := rfl
        have x1 : at? (List.map nd (t3 (u, v, w))) (1 : Int) = some (nd v) := rfl
        have x2 : at? (List.map nd (t3 (u, v, w))) (2 : Int) = some (nd w) := rfl
        refine ⟨_, rfl, ?_, fun _ => ?_⟩
        · have h1 : dEq (nd u) (nd x) = .ok (.bool (decide (u = x))) := by
            rw [y_eqI]
            congr 2
            exact decide_eq_decide.mpr (by omega)
          have h2 : dEq (nd w) (nd (x + sz a + sz b + 2)) = .ok (.bool (decide (w = x + sz a + sz b + 2))) := by
            rw [y_eqI]
            congr 2
            exact decide_eq_decide.mpr (by omega)
          have hk : (key (u, v, w) == key (x, x + 1 + sz a, x + sz a + sz b + 2)) = (decide (u = x) && decide (w = x + sz a + sz b + 2)) := by
            simp only [key]
            rw [Bool.eq_iff_iff]
            simp
          rw [hk]
          generalize nd (x + sz a + sz b + 2) = m1 at h2 ⊢
          generalize x + sz a + sz b + 2 = m2 at h2 ⊢
          unfold d3 tupN
          generalize List.map nd (t3 (u, v, w)) = L3 at x0 x1 x2 ⊢
          generalize decide (u = x) = k1 at h1 ⊢
          generalize decide (w = m2) = k2 at h2 ⊢
          generalize nd x = m3 at h1 ⊢
          generalize nd u = m4 at h1 x0
          generalize nd w = m5 at h2 x2
          cases k1 <;> simp [x0, x2, h1, h2]
        · unfold d3 tupN
          generalize List.map nd (t3 (u, v, w)) = L3 at x0 x1 x2 ⊢
          simp [x1]
      rw [i3] at hcomp
      exact eComp_of (ds := C.map d3) rfl (limA (by rw [List.length_map]; omega)) hcomp
    refine run_of (g := g_row_between (φ_row_between f)) ?_
    show g_row_between (φ_row_between f) [some (.dat (.tup (C.map d3))), some (.dat (nd x)), some (.dat (nd (x + (sz a + sz b + 1) + 1))), none, none] = Out.ret (.str (40 :: (rowT a ++ 41 :: rowT b)))
    rw [show x + (sz a + sz b + 1) + 1 = x + sz a + sz b + 2 by omega]
    have x1 : at? [nd (x + 1 + sz a)] (0 : Int) = some (nd (x + 1 + sz a)) := rfl
    generalize 40 :: (rowT a ++ 41 :: rowT b) = Y at a3 ⊢
    generalize 40 :: rowT a ++ [41] = Z at a2 a3
    generalize 40 :: rowT a = Z2 at a1 a2
    generalize nd (x + sz a + sz b + 2) = n1 at e0 e1 i2 ⊢
    generalize nd (x + 1 + sz a) = n3 at e1 i1 i2 x1
    generalize nd (x + 1) = n4 at w1 e0
    generalize nd x = n9 at w1 e1 i1 ⊢
    simp [-y_addS, g_row_between, w1, e0, e1, i1, i2, a1, a2, a3, x1]
theorem row_by_cut_of {t : Tr} (h : sz t ≤ 25) : φ_row_by_cut [.tup ((cutT t).map d3)] = .ok (.str (rowT t)) := by
  have e1 := row_between_of (C := cutT t) (by rw [cut_len]; omega) 26 t 0 (by omega) h fun q hq => one_key (thr_keys t 0) (cut_perm t) hq
  have e2 : bLen (.tup ((cutT t).map d3)) = .ok (nd (sz t)) := by rw [y_lenT, List.length_map, cut_len]
  have e3 : dAdd (nd (sz t)) (.int 1) = .ok (nd (0 + sz t + 1)) := by
    rw [y_add, show (1 : Int) = ((1 : Nat) : Int) from rfl, nd_add]
    congr 2
    omega
  refine run_of (g := g_row_by_cut) ?_
  show g_row_by_cut [some (.dat (.tup ((cutT t).map d3)))] = Out.ret (.str (rowT t))
  generalize nd (0 + sz t + 1) = n1 at e1 e3
  generalize nd (sz t) = n2 at e2 e3
  have e1 : φ_row_between 26 [.tup ((cutT t).map d3), .int 0, n1] = .ok (.str (rowT t)) := e1
  generalize D.tup ((cutT t).map d3) = C at e1 e2 ⊢
  simp [g_row_by_cut, e1, e2, e3]
/-! sides -/
@[simp] theorem x_eCountL {f g : E} {η : Env} : eCountL f g η = (f η).bind fun x => match x with
  | .lst _ => (g η).bind fun y => (dCountL x y).calm
  | _ => .bad := id rfl
def d2 (p : Nat × Nat) : D := tupN [p.1, p.2]
theorem d2_count (S : List (Nat × Nat)) (p : Nat × Nat) : (S.map d2).countP (fun x => D.eqv x (d2 p)) = S.count p := by
  rw [List.countP_map, List.count]
  congr 1
  funext q
  show D.eqv (tupN [q.1, q.2]) (tupN [p.1, p.2]) = (q == p)
  rw [eqv_tupN, Bool.eq_iff_iff]
  simp [Prod.ext_iff]
theorem pairNum_d2 (p : Nat × Nat) : pairNum (d2 p) = true := rfl
theorem countL_of (S : List (Nat × Nat)) (p : Nat × Nat) : dCountL (.lst (S.map d2)) (d2 p) = .ok (nd (S.count p)) := by
  show (if pairNum (d2 p) && (S.map d2).all pairNum then Res.ok (D.int ((S.map d2).countP fun x => D.eqv x (d2 p) : Nat)) else .bad) = _
  have : (S.map d2).all pairNum = true := by
    rw [List.all_eq_true]
    intro x hx
    rw [List.mem_map] at hx
    obtain ⟨q, _, rfl⟩ := hx
    rfl
  rw [pairNum_d2, this, Bool.and_self, if_pos rfl, d2_count]
theorem sides_right_of {t : Tr} (h0 : 0 < sz t) (h : sz t ≤ 25) : φ_l_sides_right [.tup ((cutT t).map d3), nd (sz t)] = .ok (.bool true) := by
  -- the sides
  have hl1 := loop_inv (g := gTri 3 4 5) (b := b_l_sides_right_1) (fun m η => ∃ z3 z4 z5, η = [some (.dat (.tup ((cutT t).map d3))), some (.dat (nd (sz t))), some (.dat (.lst ((((cutT t).take m).flatMap sides3).map d2))), z3, z4, z5, none, none, none]) ((cutT t).map d3) 0 [some (.dat (.tup ((cutT t).map d3))), some (.dat (nd (sz t))), some (.dat (.lst [])), none, none, none, none, none, none] ⟨_, _, _, rfl⟩ (fun i d η hi hP => by
    rw [List.getElem?_map, Option.map_eq_some_iff] at hi
    obtain ⟨⟨a, b, c⟩, hi, rfl⟩ := hi
    rw [Nat.zero_add] at hP ⊢
    obtain ⟨z3, z4, z5, rfl⟩ := hP
    have hlen : (((cutT t).take i).flatMap sides3).length ≤ 75 := by
      have : ∀ l : List N3, (l.flatMap sides3).length = 3 * l.length := by
        intro l
        induction l with
        | nil => rfl
        | cons x r ih =>
          rw [List.flatMap_cons, List.length_append, ih, List.length_cons]
          show 3 + _ = _
          omega
      rw [this, List.length_take, cut_len]
      omega
    have e1 : dAdd (.lst ((((cutT t).take i).flatMap sides3).map d2)) (.lst [.tup [nd a, nd b], .tup [nd b, nd c], .tup [nd a, nd c]]) = .ok (.lst ((((cutT t).take (i + 1)).flatMap sides3).map d2)) := by
      have : dAdd (.lst ((((cutT t).take i).flatMap sides3).map d2)) (.lst [.tup [nd a, nd b], .tup [nd b, nd c], .tup [nd a, nd c]]) = .ok (.lst ((((cutT t).take i).flatMap sides3).map d2 ++ [.tup [nd a, nd b], .tup [nd b, nd c], .tup [nd a, nd c]])) := if_pos (limA (by
        rw [List.length_map]
        show _ + 3 ≤ 1000
        omega))
      rw [this, List.take_add_one, hi, List.flatMap_append, List.map_append]
      rfl
    refine ⟨_, [some (.dat (.tup ((cutT t).map d3))), some (.dat (nd (sz t))), some (.dat (.lst ((((cutT t).take (i + 1)).flatMap sides3).map d2))), some (.dat (nd a)), some (.dat (nd b)), some (.dat (nd c)), none, none, none], rfl, .inl ?_, _, _, _, rfl⟩
    generalize (((cutT t).take (i + 1)).flatMap sides3).map d2 = S2 at e1 ⊢
    generalize (((cutT t).take i).flatMap sides3).map d2 = S1 at e1 ⊢
    generalize nd a = m1 at e1 ⊢
    generalize nd b = m2 at e1 ⊢
    generalize nd c = m3 at e1 ⊢
    generalize D.tup ((cutT t).map d3) = CT
    generalize nd (sz t) = n
    simp [-y_addL, b_l_sides_right_1, e1])
  obtain ⟨η1, e1, z3, z4, z5, rfl⟩ := hl1
  rw [Nat.zero_add, List.length_map, List.take_length] at e1
  have hS : ((cutT t).flatMap sides3).Perm ((thr t 0).flatMap sides3) := List.Perm.flatMap_right _ (cut_perm t)
  generalize hSS : (cutT t).flatMap sides3 = S at hS e1
  have hSl : S.length ≤ 75 := by
    have : ∀ l : List N3, (l.flatMap sides3).length = 3 * l.length := by
      intro l
      induction l with
      | nil => rfl
      | cons x r ih =>
        rw [List.flatMap_cons, List.length_append, ih, List.length_cons]
        show 3 + _ = _
        omega
    rw [← hSS, this, cut_len]
    omega
  have hl2 := loop_all (g := gPair 6 7) (b := b_l_sides_right_2) (fun η => ∃ z6 z7, η = [some (.dat (.tup ((cutT t).map d3))), some (.dat (nd (sz t))), some (.dat (.lst (S.map d2))), z3, z4, z5, z6, z7, none]) (S.map d2) (η := [some (.dat (.tup ((cutT t).map d3))), some (.dat (nd (sz t))), some (.dat (.lst (S.map d2))), z3, z4, z5, none, none, none]) ⟨_, _, rfl⟩ (fun d hd η hP => by
    rw [List.mem_map] at hd
    obtain ⟨⟨u, v⟩, hu, rfl⟩ := hd
    obtain ⟨z6, z7, rfl⟩ := hP
    obtain ⟨f1, f2, f3⟩ := sides_fair h0 hS hu
    have w1 : dAdd (nd u) (.int 1) = .ok (nd (u + 1)) := by
      rw [y_add, show (1 : Int) = ((1 : Nat) : Int) from rfl, nd_add]
    have w2 : dAdd (nd (sz t)) (.int 1) = .ok (nd (sz t + 1)) := by
      rw [y_add, show (1 : Int) = ((1 : Nat) : Int) from rfl, nd_add]
    have w3 : dSub (nd v) (nd u) = .ok (nd (v - u)) := by
      rw [y_sub]
      have : (v : Int) - (u : Int) = ((v - u : Nat) : Int) := by omega
      rw [this]
    have q1 : dEq (nd v) (nd (u + 1)) = .ok (.bool (decide (v = u + 1))) := by
      rw [y_eqI]
      congr 2
      exact decide_eq_decide.mpr (by omega)
    have q2 : dEq (nd (v - u)) (nd (sz t + 1)) = .ok (.bool (decide (v - u = sz t + 1))) := by
      rw [y_eqI]
      congr 2
      exact decide_eq_decide.mpr (by omega)
    have c1 : dCountL (.lst (S.map d2)) (.tup [nd u, nd v]) = .ok (nd (S.count (u, v))) := countL_of S (u, v)
    have n1 : ∀ k, dNe (nd (S.count (u, v))) (.int ((k : Nat) : Int)) = .ok (.bool (!decide (S.count (u, v) = k))) := by
      intro k
      rw [y_neI]
      congr 3
      exact decide_eq_decide.mpr (by omega)
    have n1a := n1 1
    have n1b := n1 2
    have hcomp := comp_listF (g := gName 8) (t := tE (eChain3 dLt dLt dLt (eVar 6) (eBin dIdx (eVar 8) (eC (.int 0))) (eVar 7) (eBin dIdx (eVar 8) (eC (.int 1))))) (e := eVar 8)
        (η := [some (.dat (.tup ((cutT t).map d3))), some (.dat (nd (sz t))), some (.dat (.lst (S.map d2))), z3, z4, z5, some (.dat (nd u)), some (.dat (nd v)), none]) (fun q => decide (u < q.1) && (decide (q.1 < v) && decide (v < q.2))) d2 d2 S fun q _ => by
        obtain ⟨a, b⟩ := q
        have x0 : at? (List.map nd [a, b]) (0 : Int) = some (nd a) := rfl
        have x1 : at? (List.map nd [a, b]) (1 : Int) = some (nd b) := rfl
        have l1 : ∀ i j : Nat, dLt (nd i) (nd j) = .ok (.bool (decide (i < j))) := by
          intro i j
          rw [y_lt]
          congr 2
          exact decide_eq_decide.mpr (by omega)
        refine ⟨_, rfl, ?_, fun _ => rfl⟩
        show ((eChain3 dLt dLt dLt (eVar 6) (eBin dIdx (eVar 8) (eC (.int 0))) (eVar 7) (eBin dIdx (eVar 8) (eC (.int 1)))) [some (.dat (.tup ((cutT t).map d3))), some (.dat (nd (sz t))), some (.dat (.lst (S.map d2))), z3, z4, z5, some (.dat (nd u)), some (.dat (nd v)), some (.dat (d2 (a, b)))]).bind asBool = _
        unfold eChain3
        have j1 := l1 u a
        have j2 := l1 a v
        have j3 := l1 v b
        show _ = Res.ok (decide (u < a) && (decide (a < v) && decide (v < b)))
        unfold d2 tupN
        generalize List.map nd [(a, b).1, (a, b).2] = L3 at x0 x1 ⊢
        have x0 : at? L3 (0 : Int) = some (nd a) := x0
        have x1 : at? L3 (1 : Int) = some (nd b) := x1
        generalize decide (u < a) = k1 at j1 ⊢
        generalize decide (a < v) = k2 at j2 ⊢
        generalize decide (v < b) = k3 at j3 ⊢
        generalize nd u = m1 at j1 ⊢
        generalize nd v = m2 at j2 j3 ⊢
        generalize nd a = m3 at j1 j2 x0
        generalize nd b = m4 at j3 x1
        cases k1 <;> cases k2 <;> simp [x0, x1, j1, j2, j3]
    have hfil : S.filter (fun q => decide (u < q.1) && (decide (q.1 < v) && decide (v < q.2))) = [] := by
      rw [List.filter_eq_nil_iff]
      intro q hq
      have := f3 q hq
      simp
      omega
    rw [hfil] at hcomp
    have e2 : c_l_sides_right_1 [some (.dat (.tup ((cutT t).map d3))), some (.dat (nd (sz t))), some (.dat (.lst (S.map d2))), z3, z4, z5, some (.dat (nd u)), some (.dat (nd v)), none] = .ok (.lst []) := eComp_of (ds := S.map d2) rfl (limA (by rw [List.length_map]; omega)) hcomp
    have na : (decide (v = u + 1) || decide (v - u = sz t + 1)) = true → dNe (nd (S.count (u, v))) (.int 1) = .ok (.bool false) := fun hk => by
      rw [Bool.or_eq_true, decide_eq_true_eq, decide_eq_true_eq] at hk
      have e := n1 1
      rw [f1, if_pos hk, decide_eq_true rfl] at e
      rw [f1, if_pos hk]
      exact e
    have nb : (decide (v = u + 1) || decide (v - u = sz t + 1)) = false → dNe (nd (S.count (u, v))) (.int 2) = .ok (.bool false) := fun hk => by
      rw [Bool.or_eq_false_iff, decide_eq_false_iff_not, decide_eq_false_iff_not] at hk
      have hk : ¬ (v = u + 1 ∨ v - u = sz t + 1) := fun h => h.elim hk.1 hk.2
      have e := n1 2
      rw [f1, if_neg hk, decide_eq_true rfl] at e
      rw [f1, if_neg hk]
      exact e
    refine ⟨_, [some (.dat (.tup ((cutT t).map d3))), some (.dat (nd (sz t))), some (.dat (.lst (S.map d2))), z3, z4, z5, some (.dat (nd u)), some (.dat (nd v)), none], rfl, .inl ?_, _, _, rfl⟩
    show b_l_sides_right_2 [some (.dat (.tup ((cutT t).map d3))), some (.dat (nd (sz t))), some (.dat (.lst (S.map d2))), z3, z4, z5, some (.dat (nd u)), some (.dat (nd v)), none] = _
    generalize D.tup ((cutT t).map d3) = CT at e2 ⊢
    clear hcomp f1 f2 f3 hfil n1 n1a n1b
    generalize S.map d2 = SL at e2 c1 ⊢
    generalize decide (v = u + 1) = k1 at q1 na nb
    generalize decide (v - u = sz t + 1) = k2 at q2 na nb
    generalize nd (S.count (u, v)) = cnt at c1 na nb
    generalize nd (u + 1) = m1 at w1 q1
    generalize nd (sz t + 1) = m2 at w2 q2
    generalize nd (v - u) = m3 at w3 q2
    generalize nd (sz t) = m4 at w2 e2 ⊢
    generalize nd u = m5 at w1 w3 e2 c1 ⊢
    generalize nd v = m6 at w3 q1 e2 c1 ⊢
    cases k1 <;> cases k2 <;> simp at na nb <;> simp [b_l_sides_right_2, w1, w2, w3, q1, q2, c1, na, nb, e2])
  obtain ⟨η2, e2, z6, z7, rfl⟩ := hl2
  refine run_of (g := g_l_sides_right) ?_
  show g_l_sides_right [some (.dat (.tup ((cutT t).map d3))), some (.dat (nd (sz t))), none, none, none, none, none, none, none] = Out.ret (.bool true)
  generalize nd (sz t) = n at e1 e2 ⊢
  generalize S.map d2 = SL at e1 e2
  generalize (cutT t).map d3 = CT at e1 e2 ⊢
  simp [g_l_sides_right, e1, e2]
end Bk
end
/-! BkIs6 -/
section
set_option linter.all false
set_option autoImplicit false
set_option maxRecDepth 100000
/-! BkIs6: the law's own look at partings -/
namespace Bk
/-- a loop that may return on the way -/
theorem loop_any {g : G} {b : St} {v : D} (t : D → Bool) (P : Nat → Env → Prop) : ∀ (ds : List D) (k : Nat) (η : Env), P k η →
    (∀ (i : Nat) d η, ds[i]? = some d → P (k + i) η → ∃ η1, g d η = .ok η1 ∧ (if t d = true then b η1 = .ret v else ∃ η2, b η1 = .next η2 ∧ P (k + i + 1) η2)) →
    if ds.any t = true then loop g b ds η = .ret v else ∃ η', loop g b ds η = .next η' ∧ P (k + ds.length) η'
  | [], k, η, h, _ => by
    show if false = true then _ else _
    rw [if_neg Bool.false_ne_true]
    exact ⟨η, rfl, h⟩
  | d :: ds, k, η, h, step => by
    obtain ⟨η1, h1, h2⟩ := step 0 d η rfl h
    rw [List.any_cons]
    by_cases ht : t d = true
    · rw [if_pos ht] at h2
      rw [ht, Bool.true_or, if_pos rfl]
      exact loop_ret h1 h2
    · rw [if_neg ht] at h2
      obtain ⟨η2, h3, h4⟩ := h2
      have ht' : t d = false := by simpa using ht
      rw [ht', Bool.false_or, loop_next h1 h3]
      have ih := loop_any (g := g) (b := b) (v := v) t P ds (k + 1) η2 h4 fun i d' η' hi hp => by
        have := step (i + 1) d' η' (by simpa using hi) (by rw [show k + (i + 1) = k + 1 + i by omega]; exact hp)
        rw [show k + (i + 1) + 1 = k + 1 + i + 1 by omega] at this
        exact this
      rw [List.length_cons, show k + (ds.length + 1) = k + 1 + ds.length by omega]
      exact ih
section
variable {kvs : List (D × D)} {h : Nat → Nat} {n : Nat}
theorem rng2_nat (a b : Nat) (ha : a ≤ 2 ^ 40) (hb : b ≤ 2 ^ 40) : rng2 (nd a) (nd b) = .ok ((List.range (b - a)).map fun k => nd (a + k)) := by
  have e1 : rngOk (a : Int) = true := by
    unfold rngOk
    rw [decide_eq_true (by omega), decide_eq_true (by omega)]
    rfl
  have e2 : rngOk (b : Int) = true := by
    unfold rngOk
    rw [decide_eq_true (by omega), decide_eq_true (by omega)]
    rfl
  show (if (rngOk (a : Int) && rngOk (b : Int)) = true then Res.ok (numbers (a : Int) ((b : Int) - (a : Int)).toNat) else .bad) = _
  rw [e1, e2, Bool.and_self, if_pos rfl]
  have e3 : numbers (a : Int) ((b : Int) - (a : Int)).toNat = (List.range (b - a)).map fun k => nd (a + k) := by
    unfold numbers
    have : ((b : Int) - (a : Int)).toNat = b - a := by omega
    rw [this]
    refine List.map_congr_left fun k _ => ?_
    rw [nd_add]
  rw [e3]
def tt (h : Nat → Nat) (n b c : Nat) : Bool := !decide (h b = h c) && ((List.range b).any (fun a => decide (h a = h c)) && (List.range (n - (c + 1))).any fun k => decide (h (c + 1 + k) = h b))
def crossN (h : Nat → Nat) (n : Nat) : Bool := (List.range n).any fun b => (List.range (n - (b + 1))).any fun k => tt h n b (b + 1 + k)
theorem didx (H : ∀ q, q < n → dget kvs (nd q) = some (nd (h q))) {q : Nat} (hq : q < n) : dDIdx (.dic kvs) (nd q) = .ok (nd (h q)) := by
  show (if keyD (nd q) = true then (match dget kvs (nd q) with
    | some v => Res.ok v
    | Option.none => .bad) else .bad) = _
  rw [H q hq]
  rfl
theorem eq_nd (a b : Nat) : dEq (nd a) (nd b) = .ok (.bool (decide (a = b))) := by
  rw [y_eqI]
  congr 2
  exact decide_eq_decide.mpr (by omega)
theorem ne_nd (a b : Nat) : dNe (nd a) (nd b) = .ok (.bool (!decide (a = b))) := by
  rw [y_neI]
  congr 3
  exact decide_eq_decide.mpr (by omega)
theorem suc_nd (a : Nat) : dAdd (nd a) (.int 1) = .ok (nd (a + 1)) := by
  rw [y_add, show (1 : Int) = ((1 : Nat) : Int) from rfl, nd_add]
theorem any_filter {α : Type} (p : α → Bool) (l : List α) : (!(l.filter p).isEmpty) = l.any p := by
  induction l with
  | nil => rfl
  | cons a l ih =>
    rw [List.any_cons, List.filter_cons]
    cases e : p a with
    | true => simp
    | false => simpa using ih
theorem cross_turn (H : ∀ q, q < n → dget kvs (nd q) = some (nd (h q))) (hn : n ≤ 900) {b c : Nat} (hb : b < n) (hc : c < n) (z4 z5 z6 z7 : Option S) :
    if tt h n b c = true then b_l_crosses_1 [some (.dat (.dic kvs)), some (.dat (nd n)), some (.dat (nd b)), some (.dat (nd c)), z4, z5, z6, z7] = .ret (.bool true) else ∃ z4' z5', b_l_crosses_1 [some (.dat (.dic kvs)), some (.dat (nd n)), some (.dat (nd b)), some (.dat (nd c)), z4, z5, z6, z7] = .next [some (.dat (.dic kvs)), some (.dat (nd n)), some (.dat (nd b)), some (.dat (nd c)), z4', z5', z6, z7] := by
  have d1 := didx H hb
  have d2 := didx H hc
  have e1 := ne_nd (h b) (h c)
  have c1 : ∀ z4 z5 : Option S, c_l_crosses_1 [some (.dat (.dic kvs)), some (.dat (nd n)), some (.dat (nd b)), some (.dat (nd c)), z4, z5, z6, z7] = .ok (.lst (((List.range b).filter fun a => decide (h a = h c)).map nd)) := by
    intro z4 z5
    have e0 : iRange1 (eVar 2) [some (.dat (.dic kvs)), some (.dat (nd n)), some (.dat (nd b)), some (.dat (nd c)), z4, z5, z6, z7] = .ok ((List.range b).map nd) := by
      have := rng1_nat b (Nat.le_trans (Nat.le_of_lt hb) (Nat.le_trans hn (by decide)))
      rw [numbers_nd] at this
      generalize (List.range b).map nd = L at this ⊢
      have this : rng1 (nd b) = .ok L := this
      generalize nd b = B at this ⊢
      simp [this]
    refine eComp_of e0 (limA (by rw [List.length_map, List.length_range]; omega)) ?_
    refine comp_listF (fun a => decide (h a = h c)) nd nd (List.range b) fun a ha => ⟨_, rfl, ?_, fun _ => rfl⟩
    rw [List.mem_range] at ha
    have d3 := didx H (show a < n by omega)
    have e3 := eq_nd (h a) (h c)
    show tE (eBin dEq (eBin dDIdx (eVar 0) (eVar 6)) (eBin dDIdx (eVar 0) (eVar 3))) [some (.dat (.dic kvs)), some (.dat (nd n)), some (.dat (nd b)), some (.dat (nd c)), z4, z5, some (.dat (nd a)), z7] = _
    generalize decide (h a = h c) = k at e3 ⊢
    generalize nd (h a) = m1 at d3 e3
    generalize nd (h c) = m2 at d2 e3
    generalize nd a = m3 at d3 ⊢
    generalize nd c = m4 at d2 ⊢
    generalize D.dic kvs = KV at d2 d3 ⊢
    simp [d2, d3, e3]
  have c2 : ∀ z4 z5 : Option S, c_l_crosses_2 [some (.dat (.dic kvs)), some (.dat (nd n)), some (.dat (nd b)), some (.dat (nd c)), z4, z5, z6, z7] = .ok (.lst (((List.range (n - (c + 1))).filter fun k => decide (h (c + 1 + k) = h b)).map fun k => nd (c + 1 + k))) := by
    intro z4 z5
    have e0 : iRange2 (eBin dAdd (eVar 3) (eC (.int 1))) (eVar 1) [some (.dat (.dic kvs)), some (.dat (nd n)), some (.dat (nd b)), some (.dat (nd c)), z4, z5, z6, z7] = .ok ((List.range (n - (c + 1))).map fun k => nd (c + 1 + k)) := by
      have := rng2_nat (c + 1) n (Nat.le_trans (Nat.succ_le_of_lt hc) (Nat.le_trans hn (by decide))) (Nat.le_trans hn (by decide))
      have s1 := suc_nd c
      generalize (List.range (n - (c + 1))).map (fun k => nd (c + 1 + k)) = L at this ⊢
      generalize nd (c + 1) = C1 at this s1
      generalize nd n = N at this ⊢
      generalize nd c = C at s1 ⊢
      simp [this, s1]
    refine eComp_of e0 (limA (by rw [List.length_map, List.length_range]; omega)) ?_
    refine comp_listF (fun k => decide (h (c + 1 + k) = h b)) (fun k => nd (c + 1 + k)) (fun k => nd (c + 1 + k)) (List.range (n - (c + 1))) fun k hk => ⟨_, rfl, ?_, fun _ => rfl⟩
    rw [List.mem_range] at hk
    have d3 := didx H (show c + 1 + k < n by omega)
    have e3 := eq_nd (h (c + 1 + k)) (h b)
    show tE (eBin dEq (eBin dDIdx (eVar 0) (eVar 7)) (eBin dDIdx (eVar 0) (eVar 2))) [some (.dat (.dic kvs)), some (.dat (nd n)), some (.dat (nd b)), some (.dat (nd c)), z4, z5, z6, some (.dat (nd (c + 1 + k)))] = _
    generalize decide (h (c + 1 + k) = h b) = kk at e3 ⊢
    generalize nd (h (c + 1 + k)) = m1 at d3 e3
    generalize nd (h b) = m2 at d1 e3
    generalize nd (c + 1 + k) = m3 at d3 ⊢
    generalize nd b = m4 at d1 ⊢
    generalize D.dic kvs = KV at d1 d3 ⊢
    simp [d1, d3, e3]
  have f1 := any_filter (fun a => decide (h a = h c)) (List.range b)
  have f2 := any_filter (fun k => decide (h (c + 1 + k) = h b)) (List.range (n - (c + 1)))
  unfold tt
  generalize (List.range b).any (fun a => decide (h a = h c)) = k1 at f1 ⊢
  generalize (List.range (n - (c + 1))).any (fun k => decide (h (c + 1 + k) = h b)) = k2 at f2 ⊢
  generalize (List.range b).filter (fun a => decide (h a = h c)) = L1 at f1 c1
  generalize (List.range (n - (c + 1))).filter (fun k => decide (h (c + 1 + k) = h b)) = L2 at f2 c2
  generalize decide (h b = h c) = k3 at e1 ⊢
  have g1 : dTruth (.lst (L1.map nd)) = .ok k1 := by
    rw [y_truL, List.isEmpty_map, f1]
  have g2 : dTruth (.lst (L2.map fun k => nd (c + 1 + k))) = .ok k2 := by
    rw [y_truL, List.isEmpty_map, f2]
  generalize D.lst (L1.map nd) = M1 at c1 g1
  generalize D.lst (L2.map fun k => nd (c + 1 + k)) = M2 at c2 g2
  generalize nd (h b) = m2 at d1 e1
  generalize nd (h c) = m1 at d2 e1
  generalize nd b = m3 at d1 c1 c2 ⊢
  generalize nd c = m4 at d2 c1 c2 ⊢
  generalize D.dic kvs = KV at d1 d2 c1 c2 ⊢
  cases k3
  · cases k1 <;> cases k2 <;> simp [b_l_crosses_1, d1, d2, e1, c1, c2, g1, g2]
  · simp [b_l_crosses_1, d1, d2, e1]
theorem crosses_of (H : ∀ q, q < n → dget kvs (nd q) = some (nd (h q))) (hn : n ≤ 900) : φ_l_crosses [.dic kvs, nd n] = .ok (.bool (crossN h n)) := by
  have outer := loop_any (g := gName 2) (b := b_l_crosses_2) (v := .bool true) (fun d => match d with
    | .int i => (List.range (n - (i.toNat + 1))).any fun k => tt h n i.toNat (i.toNat + 1 + k)
    | _ => false) (fun _ η => ∃ z2 z3 z4 z5, η = [some (.dat (.dic kvs)), some (.dat (nd n)), z2, z3, z4, z5, none, none]) ((List.range n).map nd) 0 [some (.dat (.dic kvs)), some (.dat (nd n)), none, none, none, none, none, none] ⟨_, _, _, _, rfl⟩ (fun i d η hi hP => by
    rw [List.getElem?_map, Option.map_eq_some_iff] at hi
    obtain ⟨b, hb, rfl⟩ := hi
    have hb' : b < n := List.mem_range.mp (List.mem_of_getElem? hb)
    obtain ⟨z2, z3, z4, z5, rfl⟩ := hP
    refine ⟨[some (.dat (.dic kvs)), some (.dat (nd n)), some (.dat (nd b)), z3, z4, z5, none, none], rfl, ?_⟩
    have e0 : iRange2 (eBin dAdd (eVar 2) (eC (.int 1))) (eVar 1) [some (.dat (.dic kvs)), some (.dat (nd n)), some (.dat (nd b)), z3, z4, z5, none, none] = .ok ((List.range (n - (b + 1))).map fun k => nd (b + 1 + k)) := by
      have := rng2_nat (b + 1) n (Nat.le_trans (Nat.succ_le_of_lt hb') (Nat.le_trans hn (by decide))) (Nat.le_trans hn (by decide))
      have s1 := suc_nd b
      generalize (List.range (n - (b + 1))).map (fun k => nd (b + 1 + k)) = L at this ⊢
      generalize nd (b + 1) = C1 at this s1
      generalize nd n = N at this ⊢
      generalize nd b = C at s1 ⊢
      simp [this, s1]
    have inner := loop_any (g := gName 3) (b := b_l_crosses_1) (v := .bool true) (fun d => match d with
      | .int i => tt h n b i.toNat
      | _ => false) (fun _ η => ∃ z3 z4 z5, η = [some (.dat (.dic kvs)), some (.dat (nd n)), some (.dat (nd b)), z3, z4, z5, none, none]) ((List.range (n - (b + 1))).map fun k => nd (b + 1 + k)) 0 [some (.dat (.dic kvs)), some (.dat (nd n)), some (.dat (nd b)), z3, z4, z5, none, none] ⟨_, _, _, rfl⟩ (fun j d η hj hP => by
      rw [List.getElem?_map, Option.map_eq_some_iff] at hj
      obtain ⟨k, hk, rfl⟩ := hj
      have hk' := List.mem_range.mp (List.mem_of_getElem? hk)
      obtain ⟨z3, z4, z5, rfl⟩ := hP
      refine ⟨[some (.dat (.dic kvs)), some (.dat (nd n)), some (.dat (nd b)), some (.dat (nd (b + 1 + k))), z4, z5, none, none], rfl, ?_⟩
      have ct := cross_turn H hn hb' (show b + 1 + k < n by omega) z4 z5 none none
      have e : ((b + 1 + k : Nat) : Int).toNat = b + 1 + k := Int.toNat_natCast _
      show if tt h n b ((b + 1 + k : Nat) : Int).toNat = true then _ else _
      rw [e]
      by_cases q : tt h n b (b + 1 + k) = true
      · rw [if_pos q] at ct ⊢
        exact ct
      · rw [if_neg q] at ct ⊢
        obtain ⟨z4', z5', ct⟩ := ct
        exact ⟨_, ct, _, _, _, rfl⟩)
    have ea : ((List.range (n - (b + 1))).map fun k => nd (b + 1 + k)).any (fun d => match d with
      | .int i => tt h n b i.toNat
      | _ => false) = (List.range (n - (b + 1))).any fun k => tt h n b (b + 1 + k) := by
      rw [List.any_map]
      congr 1
    rw [ea] at inner
    have e : ((b : Nat) : Int).toNat = b := Int.toNat_natCast _
    show if ((List.range (n - (((b : Nat) : Int).toNat + 1))).any fun k => tt h n ((b : Nat) : Int).toNat (((b : Nat) : Int).toNat + 1 + k)) = true then _ else _
    rw [e]
    have hbody : ∀ η', b_l_crosses_2 η' = outOf (iRange2 (eBin dAdd (eVar 2) (eC (.int 1))) (eVar 1) η') fun ds => loop (gName 3) b_l_crosses_1 ds η' := fun _ => rfl
    rw [hbody, e0, outOf_ok]
    by_cases q : ((List.range (n - (b + 1))).any fun k => tt h n b (b + 1 + k)) = true
    · rw [if_pos q] at inner ⊢
      exact inner
    · rw [if_neg q] at inner ⊢
      obtain ⟨η', h1, z3', z4', z5', rfl⟩ := inner
      exact ⟨_, h1, _, _, _, _, rfl⟩)
  have ea : ((List.range n).map nd).any (fun d => match d with
    | .int i => (List.range (n - (i.toNat + 1))).any fun k => tt h n i.toNat (i.toNat + 1 + k)
    | _ => false) = crossN h n := by
    rw [List.any_map]
    rfl
  rw [ea] at outer
  have hr := rng1_nat n (Nat.le_trans hn (by decide))
  rw [numbers_nd] at hr
  have hr : rng1 (nd n) = .ok ((List.range n).map nd) := hr
  refine run_of (g := g_l_crosses) ?_
  show g_l_crosses [some (.dat (.dic kvs)), some (.dat (nd n)), none, none, none, none, none, none] = _
  by_cases q : crossN h n = true
  · rw [if_pos q] at outer
    rw [q]
    generalize (List.range n).map nd = L at hr outer
    generalize nd n = N at hr outer ⊢
    generalize D.dic kvs = KV at outer ⊢
    simp [g_l_crosses, hr, outer]
  · rw [if_neg q] at outer
    obtain ⟨η', h1, z2, z3, z4, z5, rfl⟩ := outer
    have q : crossN h n = false := by simpa using q
    rw [q]
    generalize (List.range n).map nd = L at hr h1
    generalize nd n = N at hr h1 ⊢
    generalize D.dic kvs = KV at h1 ⊢
    simp [g_l_crosses, hr, h1]
end
end Bk
end
/-! BkIs7 -/
section
set_option linter.all false
set_option autoImplicit false
set_option maxRecDepth 100000
/-! BkIs7: the law's own look at partings: what it gives -/
namespace Bk
section
variable {x : List (List Nat)} {n : Nat}
theorem Nice.idx (h : Nice x n) {i j : Nat} {X Y : List Nat} (hi : x[i]? = some X) (hj : x[j]? = some Y) {q : Nat} (h1 : q ∈ X) (h2 : q ∈ Y) : i = j := by
  have hn : x.flatten.Pairwise (· ≠ ·) := h.nodup
  rw [List.pairwise_flatten] at hn
  have key : ∀ (l : List (List Nat)), l.Pairwise (fun l₁ l₂ => ∀ a, a ∈ l₁ → ∀ b, b ∈ l₂ → a ≠ b) → ∀ i j : Nat, l[i]? = some X → l[j]? = some Y → i = j := by
    intro l
    induction l with
    | nil => intro _ i j a _; simp at a
    | cons Z l ih =>
      intro hp i j a b
      rw [List.pairwise_cons] at hp
      cases i with
      | zero =>
        cases j with
        | zero => rfl
        | succ j =>
          simp at a b
          exact absurd rfl (hp.1 Y (List.mem_of_getElem? b) q (by rw [a]; exact h1) q h2)
      | succ i =>
        cases j with
        | zero =>
          simp at a b
          exact absurd rfl (hp.1 X (List.mem_of_getElem? a) q (by rw [b]; exact h2) q h1)
        | succ j => rw [ih hp.2 i j (by simpa using a) (by simpa using b)]
  exact key x hn.2 i j hi hj
def homeOf (x : List (List Nat)) (q : Nat) : Nat := x.findIdx fun X => X.contains q
theorem Nice.home (h : Nice x n) {i : Nat} {X : List Nat} (hi : x[i]? = some X) {q : Nat} (hq : q ∈ X) : homeOf x q = i := by
  have hlt : homeOf x q < x.length := List.findIdx_lt_length_of_exists ⟨X, List.mem_of_getElem? hi, List.contains_iff_mem.mpr hq⟩
  have hp := List.findIdx_getElem (w := hlt)
  exact h.idx (List.getElem?_eq_getElem hlt) hi (List.contains_iff_mem.mp hp) hq
theorem Nice.homed (h : Nice x n) {q : Nat} (hq : q < n) : ∃ X, x[homeOf x q]? = some X ∧ q ∈ X := by
  obtain ⟨X, h1, h2⟩ := h.has hq
  obtain ⟨i, hi⟩ := List.getElem?_of_mem h1
  rw [h.home hi h2]
  exact ⟨X, hi, h2⟩
theorem cross_iff (h : Nice x n) : crossN (homeOf x) n = false ↔ noCross x := by
  constructor
  · intro hc X hX Y hY hne a ha c hc' b hb d hd hh
    have hcn := h.lt hX hc'
    have hbn := h.lt hY hb
    have hdn := h.lt hY hd
    obtain ⟨i, hi⟩ := List.getElem?_of_mem hX
    obtain ⟨j, hj⟩ := List.getElem?_of_mem hY
    have hij : i ≠ j := fun z => by
      subst z
      rw [hi] at hj
      exact hne (Option.some.inj hj)
    have : crossN (homeOf x) n = true := by
      unfold crossN
      rw [List.any_eq_true]
      refine ⟨b, List.mem_range.mpr hbn, ?_⟩
      rw [List.any_eq_true]
      refine ⟨c - (b + 1), List.mem_range.mpr (by omega), ?_⟩
      rw [show b + 1 + (c - (b + 1)) = c by omega]
      unfold tt
      rw [Bool.and_eq_true, Bool.and_eq_true, List.any_eq_true, List.any_eq_true]
      refine ⟨?_, ⟨a, List.mem_range.mpr hh.1, decide_eq_true ?_⟩, d - (c + 1), List.mem_range.mpr (by omega), decide_eq_true ?_⟩
      · rw [h.home hj hb, h.home hi hc', decide_eq_false (Ne.symm hij)]
        rfl
      · rw [h.home hi ha, h.home hi hc']
      · rw [show c + 1 + (d - (c + 1)) = d by omega, h.home hj hd, h.home hj hb]
    rw [hc] at this
    cases this
  · intro hc
    cases e : crossN (homeOf x) n with
    | false => rfl
    | true =>
      exfalso
      unfold crossN at e
      rw [List.any_eq_true] at e
      obtain ⟨b, hb, e⟩ := e
      rw [List.any_eq_true] at e
      obtain ⟨k, hk, e⟩ := e
      rw [List.mem_range] at hb hk
      unfold tt at e
      rw [Bool.and_eq_true, Bool.and_eq_true, List.any_eq_true, List.any_eq_true] at e
      obtain ⟨e1, ⟨a, ha, e2⟩, m, hm, e3⟩ := e
      rw [List.mem_range] at ha hm
      have e2 := of_decide_eq_true e2
      have e3 := of_decide_eq_true e3
      have e1 : ¬ homeOf x b = homeOf x (b + 1 + k) := fun z => by
        rw [decide_eq_true z] at e1
        cases e1
      obtain ⟨X, hX, hcX⟩ := h.homed (q := b + 1 + k) (by omega)
      obtain ⟨Y, hY, hbY⟩ := h.homed (q := b) (by omega)
      obtain ⟨X', hX', haX⟩ := h.homed (q := a) (by omega)
      obtain ⟨Y', hY', hdY⟩ := h.homed (q := b + 1 + k + 1 + m) (by omega)
      rw [e2, hX] at hX'
      cases hX'
      rw [e3, hY] at hY'
      cases hY'
      have hne : X ≠ Y := fun z => by
        subst z
        exact e1 (h.idx hY hX hbY hbY)
      exact hc X (List.mem_of_getElem? hX) Y (List.mem_of_getElem? hY) hne a haX (b + 1 + k) hcX b hbY (b + 1 + k + 1 + m) hdY ⟨by omega, by omega, by omega⟩
end
/-! home -/
def putH (k : Nat) (acc : List (D × D)) (p : Nat) : List (D × D) := dput acc (nd p) (nd k)
theorem home_inner {P : D} {z1 z2 : Option S} {k : Nat} : ∀ (l : List Nat) (kvs : List (D × D)) (z3 : Option S), kvs.length + l.length ≤ 900 → ∃ z3', loop (gName 3) b_l_is_parting_2 (l.map nd) [some (.dat P), z1, z2, z3, some (.dic kvs), some (.dat (nd k))] = .next [some (.dat P), z1, z2, z3', some (.dic (l.foldl (putH k) kvs)), some (.dat (nd k))]
  | [], kvs, z3, _ => ⟨z3, rfl⟩
  | p :: l, kvs, z3, hk => by
    rw [List.length_cons] at hk
    have hd := dput_len kvs (nd p) (nd k)
    obtain ⟨z3', e⟩ := home_inner (P := P) (z1 := z1) (z2 := z2) (k := k) l (putH k kvs p) (some (.dat (nd p))) (by
      have : (putH k kvs p).length ≤ kvs.length + 1 := hd
      omega)
    refine ⟨z3', ?_⟩
    rw [List.foldl_cons, ← e]
    refine loop_next rfl ?_
    have t5 : kvs.length < lim := by
      show _ < 16777216
      omega
    have t6 : keyD (nd p) = true := rfl
    unfold putH
    generalize nd p = n1 at t6 ⊢
    generalize nd k = n2
    simp [b_l_is_parting_2, t5, t6]
theorem home_get (k q : Nat) : ∀ (l : List Nat) (kvs : List (D × D)), dget (l.foldl (putH k) kvs) (nd q) = if q ∈ l then some (nd k) else dget kvs (nd q)
  | [], kvs => by simp
  | p :: l, kvs => by
    rw [List.foldl_cons, home_get k q l]
    have e : dget (putH k kvs p) (nd q) = if (p : Int) = (q : Int) then some (nd k) else dget kvs (nd q) := dget_put kvs _ _ _
    rw [e]
    by_cases h1 : q ∈ l
    · rw [if_pos h1, if_pos (List.mem_cons_of_mem _ h1)]
    · by_cases h2 : p = q
      · subst h2
        rw [if_neg h1, if_pos rfl, if_pos List.mem_cons_self]
      · rw [if_neg h1, if_neg (by omega), if_neg (fun z => by
          rcases List.mem_cons.mp z with z | z
          · exact h2 z.symm
          · exact h1 z)]
theorem home_len (k : Nat) : ∀ (l : List Nat) (kvs : List (D × D)), (l.foldl (putH k) kvs).length ≤ kvs.length + l.length
  | [], kvs => by simp
  | p :: l, kvs => by
    rw [List.foldl_cons]
    have h1 := home_len k l (putH k kvs p)
    have h2 : (putH k kvs p).length ≤ kvs.length + 1 := dput_len kvs _ _
    rw [List.length_cons]
    omega
theorem enumL_lenN : ∀ (xs : List D) (k : Nat), (enumL k xs).length = xs.length
  | [], _ => rfl
  | x :: xs, k => congrArg (· + 1) (enumL_lenN xs (k + 1))
theorem enumL_tup (x : List (List Nat)) : ∀ (k i : Nat) (d : D), (enumL k (x.map tupN))[i]? = some d → ∃ X, x[i]? = some X ∧ d = .tup [nd (k + i), tupN X] := by
  induction x with
  | nil => intro k i d h; simp [enumL] at h
  | cons X x ih =>
    intro k i d h
    cases i with
    | zero =>
      simp [enumL] at h
      subst h
      exact ⟨X, rfl, rfl⟩
    | succ i =>
      obtain ⟨Y, h1, h2⟩ := ih (k + 1) i d (by simpa [enumL] using h)
      refine ⟨Y, by simpa using h1, ?_⟩
      rw [h2, show k + 1 + i = k + (i + 1) by omega]
theorem enumL_any (t : List Nat → Bool) : ∀ (x : List (List Nat)) (k : Nat), (enumL k (x.map tupN)).any (fun d => match d with
    | .tup [_, .tup l] => (match numsL l with
      | some ns => t (ns.map Int.toNat)
      | _ => false)
    | _ => false) = x.any t
  | [], k => rfl
  | X :: x, k => by
    have ih := enumL_any t x (k + 1)
    rw [List.map_cons, List.any_cons, ← ih]
    show ((match numsL (X.map nd) with
      | some ns => t (ns.map Int.toNat)
      | _ => false) || _) = _
    have e1 : X.map nd = (X.map fun q : Nat => (q : Int)).map D.int := by
      rw [List.map_map]
      rfl
    rw [e1, nums_map]
    have e2 : (X.map fun q : Nat => (q : Int)).map Int.toNat = X := by
      rw [List.map_map]
      have : (Int.toNat ∘ fun q : Nat => (q : Int)) = id := by
        funext q
        exact Int.toNat_natCast q
      rw [this, List.map_id]
    show (t ((X.map fun q : Nat => (q : Int)).map Int.toNat) || _) = _
    rw [e2]
/-- whether a block is not in order -/
def unB (l : List Nat) : Bool := !decide (l = (l.mergeSort fun a b => decide (a ≤ b)))
theorem cmp_tupsL (x : List (List Nat)) : D.cmp 64 (.lst (x.map tupN)) = true := by
  unfold D.cmp
  exact cmpAll_tupN 62 x
theorem ne_tupsL (x y : List (List Nat)) : dNe (.lst (x.map tupN)) (.lst (y.map tupN)) = .ok (.bool (!decide (x = y))) := by
  unfold dNe
  rw [cmp_tupsL, cmp_tupsL]
  have : D.eqv (.lst (x.map tupN)) (.lst (y.map tupN)) = decide (x = y) := by
    unfold D.eqv
    exact eqvAll_tupN x y
  rw [this]
  rfl
theorem take_sum : ∀ (x : List (List Nat)) (m : Nat), (x.take m).flatten.length ≤ x.flatten.length
  | [], m => by simp
  | X :: x, 0 => by simp
  | X :: x, m + 1 => by
    have := take_sum x m
    rw [List.take_succ_cons, List.flatten_cons, List.flatten_cons, List.length_append, List.length_append]
    omega
theorem home_loop {x : List (List Nat)} {n : Nat} (h : Nice x n) (hf : x.flatten.length ≤ 400) {P : D} {z1 z2 z3 z5 : Option S} :
    ∃ kvs z1' z3' z5', loop (gPair 5 1) b_l_is_parting_3 (enumL 0 (x.map tupN)) [some (.dat P), z1, z2, z3, some (.dic []), z5] = .next [some (.dat P), z1', z2, z3', some (.dic kvs), z5'] ∧ ∀ q, q < n → dget kvs (nd q) = some (nd (homeOf x q)) := by
  have hl := loop_inv (g := gPair 5 1) (b := b_l_is_parting_3) (fun m η => ∃ kvs z1' z3' z5', η = [some (.dat P), z1', z2, z3', some (.dic kvs), z5'] ∧ kvs.length ≤ (x.take m).flatten.length ∧ ∀ i X q, i < m → x[i]? = some X → q ∈ X → dget kvs (nd q) = some (nd i)) (enumL 0 (x.map tupN)) 0 [some (.dat P), z1, z2, z3, some (.dic []), z5] ⟨[], z1, z3, z5, rfl, Nat.zero_le _, fun i X q hi => absurd hi (Nat.not_lt_zero _)⟩ (fun i d η hi hP => by
    obtain ⟨X, hX, rfl⟩ := enumL_tup x 0 i d hi
    rw [Nat.zero_add] at hP ⊢
    obtain ⟨kvs, z1', z3', z5', rfl, hkl, hk⟩ := hP
    have ht : (x.take (i + 1)).flatten.length = (x.take i).flatten.length + X.length := by
      rw [List.take_add_one, hX, List.flatten_append, List.length_append]
      simp
    have hts := take_sum x (i + 1)
    obtain ⟨z3'', e⟩ := home_inner (P := P) (z1 := some (.dat (tupN X))) (z2 := z2) (k := i) X kvs z3' (by omega)
    have hXm := List.mem_of_getElem? hX
    have hsort := (sorted_iff X).mpr ((h.rise X hXm).imp fun h => Nat.le_of_lt h)
    have t1 : bList (tupN X) = .ok (.lst (X.map nd)) := rfl
    have t2 : bSorted (tupN X) = .ok (.lst ((X.mergeSort fun a b => decide (a ≤ b)).map nd)) := sort_numsT (by omega)
    have t3 := ne_numsL X (X.mergeSort fun a b => decide (a ≤ b))
    rw [decide_eq_true hsort] at t3
    have t4 : items (tupN X) = .ok (X.map nd) := rfl
    refine ⟨[some (.dat P), some (.dat (tupN X)), z2, z3', some (.dic kvs), some (.dat (nd i))], [some (.dat P), some (.dat (tupN X)), z2, z3'', some (.dic (X.foldl (putH i) kvs)), some (.dat (nd i))], rfl, .inl ?_, _, _, _, _, rfl, ?_, fun j Y q hj hY hq => ?_⟩
    · generalize (X.mergeSort fun a b => decide (a ≤ b)).map nd = L2 at t2 t3
      generalize X.map nd = L1 at t1 t3 t4 e
      generalize tupN X = T at t1 t2 t4 e ⊢
      generalize nd i = I at e ⊢
      simp [b_l_is_parting_3, t1, t2, t3, t4, e]
    · have := home_len i X kvs
      omega
    · rw [home_get]
      by_cases hji : j = i
      · subst hji
        rw [hX] at hY
        cases hY
        rw [if_pos hq]
      · rw [if_neg fun z => hji (h.idx hY hX hq z)]
        exact hk j Y q (by omega) hY hq)
  obtain ⟨η', e, kvs, z1', z3', z5', rfl, _, hk⟩ := hl
  refine ⟨kvs, z1', z3', z5', e, fun q hq => ?_⟩
  obtain ⟨X, hX, hqX⟩ := h.homed hq
  have hlen : (enumL 0 (x.map tupN)).length = x.length := by rw [enumL_lenN, List.length_map]
  exact hk _ X q (by
    rw [Nat.zero_add, hlen]
    exact (List.getElem?_eq_some_iff.mp hX).1) hX hqX
theorem home_bad {x : List (List Nat)} (hf : x.flatten.length ≤ 400) (hx : x.length ≤ 400) (hb : x.any unB = true) {P : D} {z1 z2 z3 z5 : Option S} :
    loop (gPair 5 1) b_l_is_parting_3 (enumL 0 (x.map tupN)) [some (.dat P), z1, z2, z3, some (.dic []), z5] = .ret (.bool false) := by
  have hl := loop_any (g := gPair 5 1) (b := b_l_is_parting_3) (v := .bool false) (fun d => match d with
    | .tup [_, .tup l] => (match numsL l with
      | some ns => unB (ns.map Int.toNat)
      | _ => false)
    | _ => false) (fun m η => ∃ kvs z1' z3' z5', η = [some (.dat P), z1', z2, z3', some (.dic kvs), z5'] ∧ kvs.length ≤ (x.take m).flatten.length) (enumL 0 (x.map tupN)) 0 [some (.dat P), z1, z2, z3, some (.dic []), z5] ⟨[], z1, z3, z5, rfl, Nat.zero_le _⟩ (fun i d η hi hP => by
    obtain ⟨X, hX, rfl⟩ := enumL_tup x 0 i d hi
    rw [Nat.zero_add] at hP ⊢
    obtain ⟨kvs, z1', z3', z5', rfl, hkl⟩ := hP
    have ht : (x.take (i + 1)).flatten.length = (x.take i).flatten.length + X.length := by
      rw [List.take_add_one, hX, List.flatten_append, List.length_append]
      simp
    have hts := take_sum x (i + 1)
    obtain ⟨z3'', e⟩ := home_inner (P := P) (z1 := some (.dat (tupN X))) (z2 := z2) (k := i) X kvs z3' (by omega)
    have t1 : bList (tupN X) = .ok (.lst (X.map nd)) := rfl
    have t2 : bSorted (tupN X) = .ok (.lst ((X.mergeSort fun a b => decide (a ≤ b)).map nd)) := sort_numsT (by omega)
    have t3 := ne_numsL X (X.mergeSort fun a b => decide (a ≤ b))
    have t4 : items (tupN X) = .ok (X.map nd) := rfl
    refine ⟨[some (.dat P), some (.dat (tupN X)), z2, z3', some (.dic kvs), some (.dat (nd i))], rfl, ?_⟩
    have ev : (match (D.tup [nd i, tupN X] : D) with
      | .tup [_, .tup l] => (match numsL l with
        | some ns => unB (ns.map Int.toNat)
        | _ => false)
      | _ => false) = unB X := by
      have := enumL_any unB [X] i
      rw [List.any_cons, List.any_nil, Bool.or_false] at this
      rw [List.map_cons, List.map_nil] at this
      simpa [enumL] using this
    have e0 : D.tup [nd (0 + i), tupN X] = D.tup [nd i, tupN X] := by rw [Nat.zero_add]
    by_cases hs : X = (X.mergeSort fun a b => decide (a ≤ b))
    · have hu : unB X = false := by
        unfold unB
        rw [decide_eq_true hs]
        rfl
      rw [decide_eq_true hs] at t3
      rw [ev, hu, if_neg Bool.false_ne_true]
      refine ⟨[some (.dat P), some (.dat (tupN X)), z2, z3'', some (.dic (X.foldl (putH i) kvs)), some (.dat (nd i))], ?_, _, _, _, _, rfl, ?_⟩
      · generalize (X.mergeSort fun a b => decide (a ≤ b)).map nd = L2 at t2 t3
        generalize X.map nd = L1 at t1 t3 t4 e
        generalize tupN X = T at t1 t2 t4 e ⊢
        generalize nd i = I at e ⊢
        simp [b_l_is_parting_3, t1, t2, t3, t4, e]
      · have := home_len i X kvs
        omega
    · have hu : unB X = true := by
        unfold unB
        rw [decide_eq_false hs]
        rfl
      rw [decide_eq_false hs] at t3
      rw [ev, hu, if_pos rfl]
      generalize (X.mergeSort fun a b => decide (a ≤ b)).map nd = L2 at t2 t3
      generalize X.map nd = L1 at t1 t3
      generalize tupN X = T at t1 t2 ⊢
      simp [b_l_is_parting_3, t1, t2, t3])
  rw [enumL_any, hb, if_pos rfl] at hl
  exact hl
end Bk
end
/-! BkIs8 -/
section
set_option linter.all false
set_option autoImplicit false
set_option maxRecDepth 100000
/-! BkIs8: the law's own look at partings: the answer -/
namespace Bk
def neB (x : List (List Nat)) : List Bool := x.map fun X => !X.isEmpty
theorem ne_comp {x : List (List Nat)} (hx : x.length ≤ 400) : c_l_is_parting_1 [some (.dat (parD x)), none, none, none, none, none] = .ok (.lst ((neB x).map D.bool)) := by
  refine eComp_of (ds := x.map tupN) rfl (limA (by rw [List.length_map]; omega)) ?_
  have := comp_list (g := gName 1) (t := tYes) (e := eAnd (eUn (bIs .tuple) (eVar 1)) (eBin dGt (eUn bLen (eVar 1)) (eC (.int 0)))) (η := wipes [some (.dat (parD x)), none, none, none, none, none] [1]) tupN (fun X => D.bool (!X.isEmpty)) x fun X _ => by
    refine ⟨_, rfl, rfl, ?_⟩
    have h1 : bIs .tuple (tupN X) = .ok (.bool true) := rfl
    have h2 : bLen (tupN X) = .ok (nd X.length) := by
      show Res.ok (D.int ((X.map nd).length : Nat)) = _
      rw [List.length_map]
    have h3 : dGt (nd X.length) (.int 0) = .ok (.bool (!X.isEmpty)) := by
      rw [y_gt]
      congr 2
      cases X with
      | nil => rfl
      | cons a b =>
        show decide ((0 : Int) < ((b.length + 1 : Nat) : Int)) = true
        exact decide_eq_true (by omega)
    generalize nd X.length = N at h2 h3
    generalize (!X.isEmpty) = k at h3 ⊢
    generalize tupN X = T at h1 h2 ⊢
    simp [h1, h2, h3]
  unfold neB
  rw [List.map_map]
  exact this
theorem whole_comp {X : List Nat} (hX : X.length ≤ 400) {P T : D} (hT : items T = .ok (X.map nd)) {z2 z3 : Option S} : c_l_is_parting_2 [some (.dat P), some (.dat T), z2, z3, none, none] = .ok (.lst ((X.map fun _ => true).map D.bool)) := by
  have e0 : iAny (eVar 1) [some (.dat P), some (.dat T), z2, z3, none, none] = .ok (X.map nd) := hT
  refine eComp_of e0 (limA (by rw [List.length_map]; omega)) ?_
  have := comp_list (g := gName 3) (t := tYes) (e := eCall φ_l_whole [eVar 3]) (η := wipes [some (.dat P), some (.dat T), z2, z3, none, none] [3]) nd (fun _ => D.bool true) X fun q _ => ⟨_, rfl, rfl, l_whole_int⟩
  rw [List.map_map]
  exact this
theorem pts_loop {P : D} (v : D) : ∀ (todo : List (List Nat)) (rest : List D) (pts : List Nat) (z1 z3 : Option S), pts.length + todo.flatten.length ≤ 400 →
    ∃ z1' z3', loop (gName 1) b_l_is_parting_1 (todo.map tupN ++ rest) [some (.dat P), z1, some (.own (pts.map nd)), z3, none, none] = loop (gName 1) b_l_is_parting_1 rest [some (.dat P), z1', some (.own ((pts ++ todo.flatten).map nd)), z3', none, none]
  | [], rest, pts, z1, z3, _ => ⟨z1, z3, by simp⟩
  | X :: todo, rest, pts, z1, z3, hp => by
    rw [List.flatten_cons, List.length_append] at hp
    obtain ⟨z1', z3', e⟩ := pts_loop (P := P) v todo rest (pts ++ X) (some (.dat (tupN X))) z3 (by rw [List.length_append]; omega)
    refine ⟨z1', z3', ?_⟩
    rw [List.map_cons, List.cons_append, List.flatten_cons, ← List.append_assoc, ← e]
    refine loop_next rfl ?_
    have hT : items (tupN X) = .ok (X.map nd) := rfl
    have c1 := whole_comp (X := X) (by omega) (P := P) hT (z2 := some (.own (pts.map nd))) (z3 := z3)
    have t2 := all_bools (X.map fun _ => true)
    have t2' : (X.map fun _ => true).all id = true := by simp
    rw [t2'] at t2
    have t3 : bList (tupN X) = .ok (.lst (X.map nd)) := rfl
    have t4 : (pts.map nd).length + (X.map nd).length ≤ lim := by
      rw [List.length_map, List.length_map]
      exact limA (by omega)
    have t5 : seqOf (.lst (X.map nd)) = .ok (X.map nd) := rfl
    rw [List.map_append]
    generalize D.lst ((X.map fun _ => true).map D.bool) = BB at c1 t2
    generalize pts.map nd = L1 at t4 c1 ⊢
    generalize X.map nd = L2 at t3 t4 t5 ⊢
    generalize tupN X = T at c1 t3 ⊢
    simp [b_l_is_parting_1, c1, t2, t3, t4, t5]
theorem sortedT_iff (x : List (List Nat)) : x = x.mergeSort leN ↔ x.Pairwise fun a b => leN a b = true :=
  ⟨fun h => by
    rw [h]
    exact List.pairwise_mergeSort le_trans' le_total' x, fun h => (merge_same (List.Perm.refl x) h).symm⟩
theorem is_of {x : List (List Nat)} (hx : x.length ≤ 400) (hf : x.flatten.length ≤ 400) :
    (Good x → φ_l_is_parting [parD x] = .ok (.bool true)) ∧ (¬ Good x → φ_l_is_parting [parD x] = .ok (.bool false)) := by
  have c1 := ne_comp hx
  have t1 : bIs .tuple (parD x) = .ok (.bool true) := rfl
  have t2 := all_bools (neB x)
  have i1 : items (parD x) = .ok (x.map tupN) := rfl
  by_cases hne : (neB x).all id = true
  rotate_left
  · have hne' : (neB x).all id = false := by simpa using hne
    rw [hne'] at t2
    refine ⟨fun hg => absurd ?_ hne, fun _ => run_of (g := g_l_is_parting) ?_⟩
    · rw [List.all_eq_true]
      intro b hb
      unfold neB at hb
      rw [List.mem_map] at hb
      obtain ⟨X, hX, rfl⟩ := hb
      have := hg.1.ne X hX
      cases X with
      | nil => exact absurd rfl this
      | cons a b => rfl
    · show g_l_is_parting [some (.dat (parD x)), none, none, none, none, none] = _
      generalize D.lst ((neB x).map D.bool) = BB at c1 t2
      generalize parD x = T at c1 t1 ⊢
      simp [g_l_is_parting, t1, c1, t2]
  · rw [hne] at t2
    have hne2 : ∀ X, X ∈ x → X ≠ [] := fun X hX z => by
      subst z
      have := (List.all_eq_true.mp hne) _ (List.mem_map.mpr ⟨[], hX, rfl⟩)
      cases this
    obtain ⟨z1, z3, hloop⟩ := pts_loop (P := parD x) .none x [] [] none none (by show 0 + x.flatten.length ≤ 400; omega)
    rw [List.append_nil, List.nil_append] at hloop
    have hloop : loop (gName 1) b_l_is_parting_1 (x.map tupN) [some (.dat (parD x)), none, some (.own []), none, none, none] = .next [some (.dat (parD x)), z1, some (.own (x.flatten.map nd)), z3, none, none] := hloop
    have t3 := sort_nums (l := x.flatten) (by omega)
    have t5 := ne_numsL (x.flatten.mergeSort fun a b => decide (a ≤ b)) (List.range x.flatten.length)
    have t4 : eListRange (eOwn bLen 2) [some (.dat (parD x)), z1, some (.own (x.flatten.map nd)), z3, none, none] = .ok (.lst ((List.range x.flatten.length).map nd)) := by
      have h1 : eOwn bLen 2 [some (.dat (parD x)), z1, some (.own (x.flatten.map nd)), z3, none, none] = .ok (nd x.flatten.length) := by
        show (bLen (.lst (x.flatten.map nd))).calm = _
        rw [y_lenL, List.length_map]
        rfl
      rw [x_eListRange, h1]
      have hc : (0 : Int) ≤ (x.flatten.length : Int) ∧ (x.flatten.length : Int) ≤ lim := ⟨by omega, by show (x.flatten.length : Int) ≤ 16777216; omega⟩
      show (if (0 : Int) ≤ (x.flatten.length : Int) ∧ (x.flatten.length : Int) ≤ lim then Res.ok (D.lst (numbers 0 (x.flatten.length : Int).toNat)) else .bad) = _
      rw [if_pos hc, Int.toNat_natCast, numbers_nd]
    have t6 : bList (parD x) = .ok (.lst (x.map tupN)) := rfl
    have t7 : bSorted (parD x) = .ok (.lst ((x.mergeSort leN).map tupN)) := bSorted_tupsT hne2 (by omega)
    have t8 := ne_tupsL x (x.mergeSort leN)
    by_cases hs : (x.flatten.mergeSort fun a b => decide (a ≤ b)) = List.range x.flatten.length
    rotate_left
    · refine ⟨fun hg => absurd (nums_same hg.1.perm (List.pairwise_lt_range.imp fun h => Nat.le_of_lt h)) hs, fun _ => run_of (g := g_l_is_parting) ?_⟩
      rw [decide_eq_false hs] at t5
      show g_l_is_parting [some (.dat (parD x)), none, none, none, none, none] = _
      generalize (x.flatten.mergeSort fun a b => decide (a ≤ b)).map nd = L1 at t3 t5
      generalize (List.range x.flatten.length).map nd = L2 at t4 t5
      generalize x.flatten.map nd = L3 at hloop t3 t4
      generalize D.lst ((neB x).map D.bool) = BB at c1 t2
      generalize x.map tupN = L4 at i1 hloop
      generalize parD x = T at c1 t1 i1 hloop t4 ⊢
      simp [-x_eListRange, g_l_is_parting, t1, c1, t2, i1, hloop, t3, t4, t5]
    · rw [decide_eq_true hs] at t5
      have hperm : x.flatten.Perm (List.range x.flatten.length) := by
        rw [← hs]
        exact (List.mergeSort_perm _ _).symm
      by_cases hso : x = x.mergeSort leN
      rotate_left
      · refine ⟨fun hg => absurd ((sortedT_iff x).mpr hg.2.2) hso, fun _ => run_of (g := g_l_is_parting) ?_⟩
        rw [decide_eq_false hso] at t8
        show g_l_is_parting [some (.dat (parD x)), none, none, none, none, none] = _
        generalize (x.flatten.mergeSort fun a b => decide (a ≤ b)).map nd = L1 at t3 t5
        generalize (List.range x.flatten.length).map nd = L2 at t4 t5
        generalize x.flatten.map nd = L3 at hloop t3 t4
        generalize D.lst ((neB x).map D.bool) = BB at c1 t2
        generalize (x.mergeSort leN).map tupN = L5 at t7 t8
        generalize x.map tupN = L4 at i1 hloop t6 t8
        generalize parD x = T at c1 t1 i1 hloop t4 t6 t7 ⊢
        simp [-x_eListRange, g_l_is_parting, t1, c1, t2, i1, hloop, t3, t4, t5, t6, t7, t8]
      · rw [decide_eq_true hso] at t8
        have hen : iEnumT (eVar 0) [some (.dat (parD x)), z1, some (.own (x.flatten.map nd)), z3, some (.dic []), none] = .ok (enumL 0 (x.map tupN)) := rfl
        by_cases hb : x.any unB = true
        · refine ⟨fun hg => ?_, fun _ => run_of (g := g_l_is_parting) ?_⟩
          · exfalso
            rw [List.any_eq_true] at hb
            obtain ⟨X, hX, hu⟩ := hb
            unfold unB at hu
            rw [decide_eq_true ((sorted_iff X).mpr ((hg.1.rise X hX).imp fun h => Nat.le_of_lt h))] at hu
            cases hu
          · have hl := home_bad hf hx hb (P := parD x) (z1 := z1) (z2 := some (.own (x.flatten.map nd))) (z3 := z3) (z5 := none)
            show g_l_is_parting [some (.dat (parD x)), none, none, none, none, none] = _
            generalize enumL 0 (x.map tupN) = EN at hen hl
            generalize (x.flatten.mergeSort fun a b => decide (a ≤ b)).map nd = L1 at t3 t5
            generalize (List.range x.flatten.length).map nd = L2 at t4 t5
            generalize x.flatten.map nd = L3 at hloop t3 t4 hen hl
            generalize D.lst ((neB x).map D.bool) = BB at c1 t2
            generalize (x.mergeSort leN).map tupN = L5 at t7 t8
            generalize x.map tupN = L4 at i1 hloop t6 t8
            generalize parD x = T at c1 t1 i1 hloop t4 t6 t7 hen hl ⊢
            simp [-x_eListRange, g_l_is_parting, t1, c1, t2, i1, hloop, t3, t4, t5, t6, t7, t8, hen, hl]
        · have hblk : (x.map blkB).all id = true := by
            rw [List.all_eq_true]
            intro b hbm
            rw [List.mem_map] at hbm
            obtain ⟨X, hX, rfl⟩ := hbm
            refine blkB_iff.mpr ⟨hne2 X hX, (sorted_iff X).mp ?_⟩
            have hb' : x.any unB = false := by simpa using hb
            rw [List.any_eq_false] at hb'
            have := hb' X hX
            unfold unB at this
            simpa using this
          have hN := nice_of hblk hperm
          obtain ⟨kvs, z1', z3', z5', hl, hk⟩ := home_loop hN hf (P := parD x) (z1 := z1) (z2 := some (.own (x.flatten.map nd))) (z3 := z3) (z5 := none)
          have hcr := crosses_of hk (by omega)
          have hlen : bLen (.lst (x.flatten.map nd)) = .ok (nd x.flatten.length) := by rw [y_lenL, List.length_map]
          have fin : φ_l_is_parting [parD x] = .ok (.bool (!crossN (homeOf x) x.flatten.length)) := by
            refine run_of (g := g_l_is_parting) ?_
            show g_l_is_parting [some (.dat (parD x)), none, none, none, none, none] = _
            have hret : (sSeq (sFrz 4) (sRet (eNot (eCall φ_l_crosses [(eVar 4), (eOwn bLen 2)])))) [some (.dat (parD x)), z1', some (.own (x.flatten.map nd)), z3', some (.dic kvs), z5'] = .ret (.bool (!crossN (homeOf x) x.flatten.length)) := by
              have hfr : ∀ (a b c d e : Option S) (kv : List (D × D)), sFrz 4 [a, b, c, d, some (.dic kv), e] = .next [a, b, c, d, some (.dat (.dic kv)), e] := fun _ _ _ _ _ _ => rfl
              rw [x_sSeq, hfr, andThen_next]
              generalize crossN (homeOf x) x.flatten.length = k at hcr ⊢
              generalize nd x.flatten.length = N at hcr hlen
              generalize x.flatten.map nd = L3 at hlen ⊢
              generalize D.dic kvs = KV at hcr ⊢
              simp [-y_lenL, hlen, hcr]
            generalize enumL 0 (x.map tupN) = EN at hen hl
            generalize (x.flatten.mergeSort fun a b => decide (a ≤ b)).map nd = L1 at t3 t5
            generalize (List.range x.flatten.length).map nd = L2 at t4 t5
            generalize x.flatten.map nd = L3 at hloop t3 t4 hen hl hret
            generalize D.lst ((neB x).map D.bool) = BB at c1 t2
            generalize (x.mergeSort leN).map tupN = L5 at t7 t8
            generalize x.map tupN = L4 at i1 hloop t6 t8
            generalize crossN (homeOf x) x.flatten.length = k at hret ⊢
            generalize parD x = T at c1 t1 i1 hloop t4 t6 t7 hen hl hret ⊢
            unfold g_l_is_parting
            generalize (sSeq (sFrz 4) (sRet (eNot (eCall φ_l_crosses [(eVar 4), (eOwn bLen 2)])))) = TL at hret ⊢
            simp [-x_eListRange, t1, c1, t2, i1, hloop, t3, t4, t5, t6, t7, t8, hen, hl, hret]
          refine ⟨fun hg => ?_, fun hg => ?_⟩
          · rw [fin, (cross_iff hN).mpr hg.2.1]
            rfl
          · cases e : crossN (homeOf x) x.flatten.length with
            | true =>
              rw [fin, e]
              rfl
            | false => exact absurd ⟨hN, (cross_iff hN).mp e, (sortedT_iff x).mp hso⟩ hg
end Bk
end
/-! BkLp6 -/
section
set_option linter.all false
set_option autoImplicit false
set_option maxRecDepth 100000
/-! BkLp6: whole rows as runs; the law's own parting of a row -/
namespace Bk
theorem lead : ∀ (t : List Nat) (n : Nat), wholeF n t = true → ∃ c t', t = List.replicate c 41 ++ t' ∧ c ≤ n ∧ wholeF (n - c) t' = true ∧ (t' = [] ∨ ∃ u, t' = 40 :: u)
  | [], n, h => ⟨0, [], rfl, Nat.zero_le _, h, .inl rfl⟩
  | c :: t, n, h => by
    by_cases h4 : c = 40
    · subst h4
      exact ⟨0, 40 :: t, rfl, Nat.zero_le _, h, .inr ⟨t, rfl⟩⟩
    · by_cases h1 : c = 41
      · subst h1
        cases n with
        | zero =>
          unfold wholeF at h
          rw [if_neg h4, if_pos rfl] at h
          cases h
        | succ n =>
          have h : wholeF n t = true := by
            unfold wholeF at h
            rw [if_neg h4, if_pos rfl] at h
            exact h
          obtain ⟨c, t', e1, e2, e3, e4⟩ := lead t n h
          exact ⟨c + 1, t', by rw [e1]; rfl, by omega, by rw [show n + 1 - (c + 1) = n - c by omega]; exact e3, e4⟩
      · unfold wholeF at h
        rw [if_neg h4, if_neg h1] at h
        cases h
theorem runs_of : ∀ (N : Nat) (s : List Nat) (h m : Nat) (S : List Nat), s.length ≤ N → wholeF h s = true → (s = [] ∨ ∃ t, s = 40 :: t) → S.length = h → ∃ cs R, rowC cs = s ∧ runB cs m S = some (R, [])
  | N, [], h, m, S, _, hw, _, hS => by
    unfold wholeF at hw
    have : h = 0 := by simpa using hw
    subst this
    have : S = [] := List.length_eq_zero_iff.mp hS
    subst this
    exact ⟨[], [], rfl, rfl⟩
  | 0, c :: t, _, _, _, hl, _, _, _ => by simp at hl
  | N + 1, c :: t, h, m, S, hl, hw, hh, hS => by
    rcases hh with hh | ⟨u, hu⟩
    · cases hh
    · cases hu
      have hw : wholeF (h + 1) t = true := by
        unfold wholeF at hw
        exact hw
      obtain ⟨c, t', e1, e2, e3, e4⟩ := lead t (h + 1) hw
      have hl2 : t'.length ≤ N := by
        have := congrArg List.length e1
        rw [List.length_append] at this
        simp at hl
        omega
      obtain ⟨cs, R, k1, k2⟩ := runs_of N t' (h + 1 - c) (m + 1) ((m :: S).drop c) hl2 e3 e4 (by
        rw [List.length_drop, List.length_cons]
        omega)
      refine ⟨c :: cs, if c = 0 then R else ((m :: S).take c).reverse :: R, ?_, ?_⟩
      · show 40 :: (List.replicate c 41 ++ rowC cs) = _
        rw [k1, ← e1]
      · unfold runB
        rw [if_pos (by omega), k2]
theorem whole_runs {s : List Nat} (h : whole s = true) : ∃ cs F, rowC cs = s ∧ runB cs 0 [] = some (F, []) := by
  refine runs_of s.length s 0 0 [] (Nat.le_refl _) h ?_ rfl
  cases s with
  | nil => exact .inl rfl
  | cons c t =>
    right
    by_cases h4 : c = 40
    · exact ⟨t, by rw [h4]⟩
    · have h : wholeF 0 (c :: t) = true := h
      unfold wholeF at h
      rw [if_neg h4] at h
      by_cases h1 : c = 41
      · rw [if_pos h1] at h
        cases h
      · rw [if_neg h1] at h
        cases h
/-- the law's own: the blocks as they are popped -/
def lf : List Nat → Nat → List Nat → List (List Nat) → Nat → Option (List (List Nat))
  | [], _, _, B, _ => some B
  | c :: r, pv, S, B, m => if c = 40 then lf r 40 (m :: S) B (m + 1) else match S with
    | [] => none
    | o :: S' => if pv = 40 then lf r c S' (B ++ [[o]]) m else match B[B.length - 1]? with
      | none => none
      | some l => lf r c S' (B.set (B.length - 1) (l ++ [o])) m
theorem lf_more (r : List Nat) (B : List (List Nat)) (m : Nat) : ∀ (c : Nat) (S l : List Nat), c ≤ S.length → lf (List.replicate c 41 ++ r) 41 S (B ++ [l]) m = lf r 41 (S.drop c) (B ++ [l ++ S.take c]) m
  | 0, S, l, _ => by simp
  | c + 1, [], l, h => absurd h (by simp)
  | c + 1, o :: S, l, h => by
    have e1 : (B ++ [l])[(B ++ [l]).length - 1]? = some l := by
      rw [List.length_append, List.length_singleton, Nat.add_sub_cancel, List.getElem?_append_right (Nat.le_refl _)]
      simp
    have e2 : (B ++ [l]).set ((B ++ [l]).length - 1) (l ++ [o]) = B ++ [l ++ [o]] := by
      rw [List.length_append, List.length_singleton, Nat.add_sub_cancel, List.set_append_right _ _ (Nat.le_refl _)]
      simp
    have e : lf (List.replicate (c + 1) 41 ++ r) 41 (o :: S) (B ++ [l]) m = (match (B ++ [l])[(B ++ [l]).length - 1]? with
      | none => none
      | some l' => lf (List.replicate c 41 ++ r) 41 S ((B ++ [l]).set ((B ++ [l]).length - 1) (l' ++ [o])) m) := rfl
    rw [e, e1]
    show lf (List.replicate c 41 ++ r) 41 S ((B ++ [l]).set ((B ++ [l]).length - 1) (l ++ [o])) m = _
    rw [e2, lf_more r B m c S (l ++ [o]) (by simpa using h)]
    simp
theorem lf_run : ∀ (cs : List Nat) (pv m : Nat) (S : List Nat) (B : List (List Nat)) {R : List (List Nat)} {T : List Nat}, runB cs m S = some (R, T) → lf (rowC cs) pv S B m = some (B ++ R.map List.reverse)
  | [], pv, m, S, B, R, T, h => by
    cases h
    rw [List.map_nil, List.append_nil]
    rfl
  | c :: cs, pv, m, S, B, R, T, h => by
    obtain ⟨hc, R', h1, h2⟩ := runB_cons h
    have e : lf (rowC (c :: cs)) pv S B m = lf (List.replicate c 41 ++ rowC cs) 40 (m :: S) B (m + 1) := rfl
    rw [e, h2]
    cases c with
    | zero =>
      rw [if_pos rfl]
      exact lf_run cs 40 (m + 1) (m :: S) B h1
    | succ c =>
      rw [if_neg (Nat.succ_ne_zero c)]
      have e2 : lf (List.replicate (c + 1) 41 ++ rowC cs) 40 (m :: S) B (m + 1) = lf (List.replicate c 41 ++ rowC cs) 41 S (B ++ [[m]]) (m + 1) := rfl
      rw [e2, lf_more _ _ _ c S [m] (by omega)]
      have ih := lf_run cs 41 (m + 1) (S.drop c) (B ++ [[m] ++ S.take c]) h1
      rw [ih, List.map_cons, List.reverse_reverse]
      simp
def slotB (B : List (List Nat)) : Option S := match B with
  | [] => some (.own [])
  | b :: r => some (.oo ((b :: r).map fun l => l.map nd))
theorem slotB_oo {B : List (List Nat)} {η : Env} (h : η[2]? = some (slotB B)) : ooAt 2 η = some (B.map fun l => l.map nd) := by
  unfold ooAt
  rw [h]
  cases B <;> rfl
theorem slotB_of {B : List (List Nat)} (h : B ≠ []) : slotB B = some (.oo (B.map fun l => l.map nd)) := by
  cases B with
  | nil => exact absurd rfl h
  | cons a b => rfl
theorem lp_loop {x : List Nat} (hx : x.length ≤ 400) (hbx : brack x = true) : ∀ (r pre : List Nat) (pv : Nat) (S : List Nat) (B : List (List Nat)) (m : Nat) (z4 z5 : Option Bk.S) (B' : List (List Nat)), x = pre ++ r → (pre ≠ [] → pre.getLast? = some pv) → S.length ≤ pre.length → B.length ≤ pre.length → (∀ l, l ∈ B → l.length ≤ pre.length) → lf r pv S B m = some B' →
    ∃ z1 z3 z4' z5', loop (gPair 4 5) b_l_parting_1 (enumL pre.length (signs r)) [some (.dat (.str x)), some (.own (S.reverse.map nd)), slotB B, some (.dat (nd m)), z4, z5, none] = .next [some (.dat (.str x)), z1, slotB B', z3, z4', z5', none] ∧ B'.length ≤ x.length ∧ ∀ l, l ∈ B' → l.length ≤ x.length
  | [], pre, pv, S, B, m, z4, z5, B', hxe, hpv, hS, hB, hBl, h => by
    cases h
    rw [List.append_nil] at hxe
    subst hxe
    exact ⟨_, _, _, _, rfl, hB, hBl⟩
  | c :: r, pre, pv, S, B, m, z4, z5, B', hxe, hpv, hS, hB, hBl, h => by
    have hc : c = 40 ∨ c = 41 := brack_mem hbx (by rw [hxe]; simp)
    have hxe2 : x = (pre ++ [c]) ++ r := by rw [hxe]; simp
    have hpre : (pre ++ [c]).length = pre.length + 1 := by simp
    have hpl : pre.length + 1 ≤ x.length := by
      rw [hxe2]
      simp
    have hpv2 : pre ++ [c] ≠ [] → (pre ++ [c]).getLast? = some c := fun _ => by simp
    have een : enumL pre.length (signs (c :: r)) = .tup [.int (pre.length : Nat), .str [c]] :: enumL (pre ++ [c]).length (signs r) := by
      rw [hpre]
      rfl
    rw [een]
    rcases hc with rfl | rfl
    · have h : lf r 40 (m :: S) B (m + 1) = some B' := h
      obtain ⟨z1, z3, z4', z5', e, e2⟩ := lp_loop hx hbx r (pre ++ [40]) 40 (m :: S) B (m + 1) (some (.dat (nd pre.length))) (some (.dat (.str [40]))) B' hxe2 hpv2 (by rw [hpre, List.length_cons]; omega) (by omega) (fun l hl => Nat.le_trans (hBl l hl) (by omega)) h
      refine ⟨z1, z3, z4', z5', ?_, e2⟩
      rw [← e]
      refine loop_next rfl ?_
      have a1 := suc_nd m
      have l1' : (S.reverse.map nd).length < lim := by
        rw [List.length_map, List.length_reverse]
        show _ < 16777216
        omega
      have e3 : (S.reverse.map nd) ++ [nd m] = (m :: S).reverse.map nd := by simp
      show b_l_parting_1 [some (.dat (.str x)), some (.own (S.reverse.map nd)), slotB B, some (.dat (nd m)), some (.dat (nd pre.length)), some (.dat (.str [40])), none] = _
      generalize nd (m + 1) = m1 at a1 ⊢
      generalize (m :: S).reverse.map nd = S2 at e3 ⊢
      generalize S.reverse.map nd = S1 at e3 l1' ⊢
      generalize nd m = m0 at a1 e3 ⊢
      generalize nd pre.length = pl
      generalize slotB B = SB
      simp [b_l_parting_1, eq_open, a1, l1', e3]
    · cases S with
      | nil => exact nomatch h
      | cons o S' =>
        rw [List.length_cons] at hS
        have hne : pre ≠ [] := fun z => by
          subst z
          simp at hS
        have hlast := hpv hne
        have hpvb : pv = 40 ∨ pv = 41 := brack_mem hbx (by
          rw [hxe]
          exact List.mem_append_left _ (List.mem_of_getLast? hlast))
        have hidx : dIdx (.str x) (nd (pre.length - 1)) = .ok (.str [pv]) := by
          have e1 : at? x ((pre.length - 1 : Nat) : Int) = some pv := by
            rw [at_nat, hxe, List.getElem?_append_left (by omega)]
            rw [List.getLast?_eq_getElem?] at hlast
            exact hlast
          show (if x.length ≤ lim then (match at? x ((pre.length - 1 : Nat) : Int) with | some c => Res.ok (D.str [c]) | Option.none => .bad) else .bad) = _
          rw [if_pos (limA (by omega)), e1]
        have hsub : dSub (nd pre.length) (.int 1) = .ok (nd (pre.length - 1)) := by
          rw [y_sub]
          have : (pre.length : Int) - 1 = ((pre.length - 1 : Nat) : Int) := by omega
          rw [this]
        have hpop : ∀ (a b c d e f : Option Bk.S), popOf 1 [a, some (.own ((o :: S').reverse.map nd)), b, c, d, e, f] = .ok (nd o, [a, some (.own (S'.reverse.map nd)), b, c, d, e, f]) := fun a b c d e f => by
          simp
        have heqpv : dEq (.str [pv]) (.str [40]) = .ok (.bool (decide (pv = 40))) := eq_open (by omega)
        have hsign : dEq (.str [41]) (.str [40]) = .ok (.bool false) := by
          rw [eq_open (by omega)]
          rfl
        by_cases hp4 : pv = 40
        · have h : lf r 41 S' (B ++ [[o]]) m = some B' := by
            have : lf (41 :: r) pv (o :: S') B m = if pv = 40 then lf r 41 S' (B ++ [[o]]) m else match B[B.length - 1]? with
              | none => none
              | some l => lf r 41 S' (B.set (B.length - 1) (l ++ [o])) m := rfl
            rw [this, if_pos hp4] at h
            exact h
          obtain ⟨z1, z3, z4', z5', e, e2⟩ := lp_loop hx hbx r (pre ++ [41]) 41 S' (B ++ [[o]]) m (some (.dat (nd pre.length))) (some (.dat (.str [41]))) B' hxe2 hpv2 (by omega) (by rw [List.length_append, hpre]; show B.length + 1 ≤ _; omega) (fun l hl => by
            rcases List.mem_append.mp hl with hl | hl
            · exact Nat.le_trans (hBl l hl) (by omega)
            · have : l = [o] := by simpa using hl
              rw [this, hpre]
              show 1 ≤ _
              omega) h
          refine ⟨z1, z3, z4', z5', ?_, e2⟩
          rw [← e]
          refine loop_next rfl ?_
          rw [decide_eq_true hp4] at heqpv
          have hst : sOoNew 2 1 [some (.dat (.str x)), some (.own ((o :: S').reverse.map nd)), slotB B, some (.dat (nd m)), some (.dat (nd pre.length)), some (.dat (.str [41])), none] = .next [some (.dat (.str x)), some (.own (S'.reverse.map nd)), slotB (B ++ [[o]]), some (.dat (nd m)), some (.dat (nd pre.length)), some (.dat (.str [41])), none] := by
            unfold sOoNew
            rw [slotB_oo (B := B) rfl]
            show (if 2 = 1 ∨ lim ≤ (B.map fun l => l.map nd).length then Out.bad else _) = _
            rw [if_neg (by
              rw [List.length_map]
              show ¬ (2 = 1 ∨ 16777216 ≤ B.length)
              omega), hpop, slotB_of (B := B ++ [[o]]) (by simp)]
            show Out.next _ = Out.next _
            simp
          show b_l_parting_1 [some (.dat (.str x)), some (.own ((o :: S').reverse.map nd)), slotB B, some (.dat (nd m)), some (.dat (nd pre.length)), some (.dat (.str [41])), none] = _
          generalize slotB (B ++ [[o]]) = SB2 at hst ⊢
          generalize slotB B = SB at hst ⊢
          generalize nd (pre.length - 1) = pl1 at hidx hsub
          generalize nd pre.length = pl at hsub hst ⊢
          generalize (o :: S').reverse.map nd = S1 at hst ⊢
          generalize D.str x = XX at hidx hst ⊢
          simp [b_l_parting_1, hsign, hsub, hidx, heqpv, hst]
        · have hB0 : ∃ l, B[B.length - 1]? = some l ∧ lf r 41 S' (B.set (B.length - 1) (l ++ [o])) m = some B' := by
            have : lf (41 :: r) pv (o :: S') B m = if pv = 40 then lf r 41 S' (B ++ [[o]]) m else match B[B.length - 1]? with
              | none => none
              | some l => lf r 41 S' (B.set (B.length - 1) (l ++ [o])) m := rfl
            rw [this, if_neg hp4] at h
            cases e : B[B.length - 1]? with
            | none =>
              rw [e] at h
              cases h
            | some l =>
              rw [e] at h
              exact ⟨l, rfl, h⟩
          obtain ⟨l, hl, h⟩ := hB0
          have hll := hBl l (List.mem_of_getElem? hl)
          have hBne : B ≠ [] := fun z => by
            subst z
            simp at hl
          obtain ⟨z1, z3, z4', z5', e, e2⟩ := lp_loop hx hbx r (pre ++ [41]) 41 S' (B.set (B.length - 1) (l ++ [o])) m (some (.dat (nd pre.length))) (some (.dat (.str [41]))) B' hxe2 hpv2 (by omega) (by rw [List.length_set]; omega) (fun l' hl' => by
            rcases List.mem_or_eq_of_mem_set hl' with k | k
            · exact Nat.le_trans (hBl l' k) (by omega)
            · rw [k, List.length_append, hpre]
              show l.length + 1 ≤ _
              omega) h
          refine ⟨z1, z3, z4', z5', ?_, e2⟩
          rw [← e]
          refine loop_next rfl ?_
          rw [decide_eq_false hp4] at heqpv
          have hst : sOoApp 2 1 [some (.dat (.str x)), some (.own ((o :: S').reverse.map nd)), slotB B, some (.dat (nd m)), some (.dat (nd pre.length)), some (.dat (.str [41])), none] = .next [some (.dat (.str x)), some (.own (S'.reverse.map nd)), slotB (B.set (B.length - 1) (l ++ [o])), some (.dat (nd m)), some (.dat (nd pre.length)), some (.dat (.str [41])), none] := by
            unfold sOoApp
            rw [slotB_oo (B := B) rfl]
            have e1 : (B.map fun l => l.map nd)[(B.map fun l => l.map nd).length - 1]? = some (l.map nd) := by
              rw [List.length_map, List.getElem?_map, hl]
              rfl
            show (match (B.map fun l => l.map nd)[(B.map fun l => l.map nd).length - 1]? with
              | some ds => if 2 = 1 ∨ lim ≤ ds.length then Out.bad else outOf (popOf 1 _).calm fun p => .next (p.2.set 2 (some (.oo ((B.map fun l : List Nat => l.map nd).set ((B.map fun l : List Nat => l.map nd).length - 1) (ds ++ [p.1])))))
              | Option.none => .bad) = _
            rw [e1]
            show (if 2 = 1 ∨ lim ≤ (l.map nd).length then Out.bad else _) = _
            rw [if_neg (by
              rw [List.length_map]
              show ¬ (2 = 1 ∨ 16777216 ≤ l.length)
              omega), hpop, slotB_of (B := B.set (B.length - 1) (l ++ [o])) (by
                intro z
                have := congrArg List.length z
                rw [List.length_set] at this
                exact hBne (List.length_eq_zero_iff.mp this))]
            show Out.next _ = Out.next _
            simp [List.map_set]
          show b_l_parting_1 [some (.dat (.str x)), some (.own ((o :: S').reverse.map nd)), slotB B, some (.dat (nd m)), some (.dat (nd pre.length)), some (.dat (.str [41])), none] = _
          generalize slotB (B.set (B.length - 1) (l ++ [o])) = SB2 at hst ⊢
          generalize slotB B = SB at hst ⊢
          generalize nd (pre.length - 1) = pl1 at hidx hsub
          generalize nd pre.length = pl at hsub hst ⊢
          generalize (o :: S').reverse.map nd = S1 at hst ⊢
          generalize D.str x = XX at hidx hst ⊢
          simp [b_l_parting_1, hsign, hsub, hidx, heqpv, hst]
theorem frzB (B : List (List Nat)) (a b c d e f : Option Bk.S) : sFrz 2 [a, b, slotB B, c, d, e, f] = .next [a, b, some (.dat (.lst (B.map fun l => D.lst (l.map nd)))), c, d, e, f] := by
  cases B with
  | nil => rfl
  | cons x y =>
    show Out.next [a, b, some (.dat (.lst (((x :: y).map fun l => l.map nd).map D.lst))), c, d, e, f] = _
    rw [List.map_map]
    rfl
theorem l_parting_of {cs : List Nat} {F : List (List Nat)} (h : runB cs 0 [] = some (F, [])) (hl : cs.length ≤ 150) : φ_l_parting [.str (rowC cs)] = .ok (parD (F.mergeSort leN)) := by
  have hs := run_sum cs 0 [] h
  rw [List.length_nil, Nat.add_zero, Nat.zero_add] at hs
  have hrl : (rowC cs).length ≤ 400 := by
    rw [rowC_len]
    omega
  have hlf := lf_run cs 0 0 [] [] h
  rw [List.nil_append] at hlf
  obtain ⟨z1, z3, z4, z5, e, hB1, hB2⟩ := lp_loop hrl (rowC_brack cs) (rowC cs) [] 0 [] [] 0 none none _ rfl (fun z => absurd rfl z) (Nat.le_refl _) (Nat.le_refl _) (fun l hl => by cases hl) hlf
  have e : loop (gPair 4 5) b_l_parting_1 (enumL 0 (signs (rowC cs))) [some (.dat (.str (rowC cs))), some (.own []), some (.own []), some (.dat (.int 0)), none, none, none] = .next [some (.dat (.str (rowC cs))), z1, slotB (F.map List.reverse), z3, z4, z5, none] := e
  obtain ⟨hp1, hp2⟩ := run_props cs 0 [] h List.Pairwise.nil fun x hx => nomatch hx
  have hen : iEnum (eVar 0) [some (.dat (.str (rowC cs))), some (.own []), some (.own []), some (.dat (.int 0)), none, none, none] = .ok (enumL 0 (signs (rowC cs))) := rfl
  have c1 : c_l_parting_1 [some (.dat (.str (rowC cs))), z1, some (.dat (.lst ((F.map List.reverse).map fun l : List Nat => D.lst (l.map nd)))), z3, z4, z5, none] = .ok (.lst (F.map tupN)) := by
    refine eComp_of (ds := (F.map List.reverse).map fun l : List Nat => D.lst (l.map nd)) rfl (limA (by
      rw [List.length_map]
      omega)) ?_
    rw [List.map_map]
    refine comp_list (g := gName 6) (t := tYes) (e := eUn bTuple (eUn bSorted (eVar 6))) _ tupN F fun X hX => ⟨_, rfl, rfl, ?_⟩
    have hXl : X.length ≤ 400 := by
      have := hB2 X.reverse (List.mem_map.mpr ⟨X, hX, rfl⟩)
      rw [List.length_reverse] at this
      omega
    have s1 := sort_nums (l := X.reverse) (by rw [List.length_reverse]; omega)
    rw [nums_same (List.reverse_perm X) ((hp1 X hX).2.imp fun h => Nat.le_of_lt h)] at s1
    show eUn bTuple (eUn bSorted (eVar 6)) [some (.dat (.str (rowC cs))), z1, some (.dat (.lst (F.map ((fun l : List Nat => D.lst (l.map nd)) ∘ List.reverse)))), z3, z4, z5, some (.dat (.lst (X.reverse.map nd)))] = _
    have t1 : bTuple (.lst (X.map nd)) = .ok (tupN X) := rfl
    generalize D.lst (X.reverse.map nd) = A at s1 ⊢
    generalize D.lst (X.map nd) = A2 at s1 t1
    generalize tupN X = A3 at t1 ⊢
    simp [s1, t1]
  have hFl : F.length ≤ 1000 := by
    rw [List.length_map] at hB1
    omega
  have t1 : bSorted (.lst (F.map tupN)) = .ok (.lst ((F.mergeSort leN).map tupN)) := bSorted_tupsL (fun X hX => (hp1 X hX).1) hFl
  have t2 : bTuple (.lst ((F.mergeSort leN).map tupN)) = .ok (parD (F.mergeSort leN)) := rfl
  refine run_of (g := g_l_parting) ?_
  show g_l_parting [some (.dat (.str (rowC cs))), none, none, none, none, none, none] = _
  have hfr := frzB (F.map List.reverse) (some (.dat (.str (rowC cs)))) z1 z3 z4 z5 none
  generalize slotB (F.map List.reverse) = SB at e hfr
  generalize (F.map List.reverse).map (fun l : List Nat => D.lst (l.map nd)) = L0 at c1 hfr
  generalize enumL 0 (signs (rowC cs)) = EN at hen e
  generalize D.lst (F.map tupN) = A1 at c1 t1
  generalize D.lst ((F.mergeSort leN).map tupN) = A2 at t1 t2
  generalize parD (F.mergeSort leN) = A3 at t2 ⊢
  generalize D.str (rowC cs) = RW at e hen c1 hfr ⊢
  simp [-x_iEnum, g_l_parting, hen, e, hfr, c1, t1, t2]
end Bk
end
/-! BkSp6 -/
section
set_option linter.all false
set_option autoImplicit false
set_option maxRecDepth 100000
/-! BkSp6: partings spoilt -/
namespace Bk
def sp_rest : St := (sSeq (sIf (tE (eBin dEq (eVar 6) (eC (.int 0)))) (sRet (eBin dAddA (eSlice (eVar 0) none (some (eVar 4))) (eSlice (eVar 0) (some (eBin dAdd (eVar 4) (eC (.int 1)))) none))) sSkip)
  (sSeq (sIf (tE (eBin dEq (eVar 6) (eC (.int 1)))) (sOoSwap 2 4 5) sSkip)
  (sSeq (sIf (tE (eBin dEq (eVar 6) (eC (.int 2)))) (sOoMove 2 4 5) sSkip)
  (sSeq (sIf (tE (eBin dEq (eVar 6) (eC (.int 3)))) (sRet (eUn dTupRev (eVar 0))) sSkip)
  (sSeq (sIf (tE (eBin dEq (eVar 6) (eC (.int 4)))) (sOoRev 2 4) sSkip)
  (sSeq (sIf (tE (eBin dEq (eVar 6) (eC (.int 5)))) (sRet (eBin dIdx (eLst [(eC .none), (eC (.str [48, 49])), (eUn bList (eVar 0)), (eBin dAdd (eVar 0) (eTup [(eTup [])])), (eBin dAdd (eVar 0) (eTup [(eLst [(eC (.int 99))])])), (eBin dAdd (eVar 0) (eTup [(eTup [(eC (.bool true))])])), (eC (.int 7))]) (eBin dMod (eVar 4) (eC (.int 7))))) sSkip)
  (sSeq (sIf (tE (eBin dEq (eVar 6) (eC (.int 6)))) (sSeq (sFrz 2) (sRet (eUn bTuple c_l_spoilt6_2))) sSkip)
  (sSeq (sIf (tE (eBin dLt (eVar 6) (eC (.int 4)))) (sSeq (sFrz 2) (sSet 2 (eUn bSorted c_l_spoilt6_3))) sSkip)
  (sSeq (sFrz 2) (sRet (eUn bTuple c_l_spoilt6_4)))))))))))
theorem sp_split : g_l_spoilt6 = sSeq (sOoLists 2 3 (iAny (eVar 0))) (sSeq (sSet 4 (eBin dMod (eBin dDiv (eVar 1) (eC (.int 7))) (eOoLen 2))) (sSeq (sSet 5 (eBin dMod (eBin dDiv (eVar 1) (eC (.int 97))) (eOoLen 2))) (sSeq (sSet 6 (eBin dMod (eVar 1) (eC (.int 7)))) sp_rest))) := rfl
def lstN (l : List Nat) : D := .lst (l.map nd)
theorem le_lstN (a b : List Nat) : D.le (lstN a) (lstN b) = leN a b := by
  unfold D.le lstN D.lt
  rw [ltAll_nd]
theorem sort_lists {l : List (List Nat)} (h2 : l.length ≤ 1000) : bSorted (.lst (l.map lstN)) = .ok (.lst ((l.mergeSort leN).map lstN)) := by
  have h1 : sortable (l.map lstN) = true := by
    unfold sortable
    rw [Bool.and_eq_true, Bool.and_eq_true, Bool.and_eq_true]
    refine ⟨⟨⟨?_, ?_⟩, ?_⟩, ?_⟩
    · rw [List.all_eq_true]
      intro a ha
      rw [List.all_eq_true]
      intro b hb
      rw [List.mem_map] at ha hb
      obtain ⟨x, _, rfl⟩ := ha
      obtain ⟨y, _, rfl⟩ := hb
      exact alikeAll_nd x y
    · rw [Bool.or_eq_true]
      right
      rw [List.all_eq_true]
      intro a ha
      rw [List.mem_map] at ha
      obtain ⟨x, hx, rfl⟩ := ha
      rfl
    · rw [List.all_eq_true]
      intro a ha
      rw [List.mem_map] at ha
      obtain ⟨x, hx, rfl⟩ := ha
      unfold lstN D.cmp
      exact cmpAll_nd 7 x
    · rw [List.length_map]
      exact decide_eq_true (limA h2)
  show (if sortable (l.map lstN) = true then Res.ok (D.lst ((l.map lstN).mergeSort D.le)) else .bad) = _
  rw [if_pos h1, List.map_mergeSort (r := leN) (s := D.le) fun a _ b _ => (le_lstN a b).symm]
theorem set_len {x : List (List Nat)} {n : Nat} {X Y : List Nat} (h : x[n]? = some X) : (x.set n Y).flatten.length + X.length = x.flatten.length + Y.length := by
  induction x generalizing n with
  | nil => simp at h
  | cons Z x ih =>
    cases n with
    | zero =>
      simp at h
      subst h
      rw [List.set_cons_zero, List.flatten_cons, List.flatten_cons, List.length_append, List.length_append]
      omega
    | succ n =>
      have := ih (n := n) (by simpa using h)
      rw [List.set_cons_succ, List.flatten_cons, List.flatten_cons, List.length_append, List.length_append]
      omega
abbrev ooN (ys : List (List Nat)) : Option S := some (.oo (ys.map fun l : List Nat => l.map nd))
section
variable {a0 a1 z3 a4 a5 a6 a7 : Option S}
theorem seqs_tup : ∀ x : List (List Nat), seqsOf (x.map tupN) = some (x.map fun l : List Nat => l.map nd)
  | [] => rfl
  | X :: x => by
    show (seqsOf (x.map tupN)).map (X.map nd :: ·) = _
    rw [seqs_tup x]
    rfl
theorem c4_of {ys : List (List Nat)} (h : ys.length ≤ 400) : c_l_spoilt6_4 [a0, a1, some (.dat (.lst (ys.map lstN))), z3, a4, a5, a6, a7] = .ok (.lst (ys.map tupN)) := by
  refine eComp_of (ds := ys.map lstN) rfl (limA (by rw [List.length_map]; omega)) ?_
  exact comp_list (g := gName 3) (t := tYes) (e := eUn bTuple (eVar 3)) lstN tupN ys fun X _ => ⟨_, rfl, rfl, rfl⟩
theorem frz_oo (ys : List (List Nat)) : sFrz 2 [a0, a1, ooN ys, z3, a4, a5, a6, a7] = .next [a0, a1, some (.dat (.lst (ys.map lstN))), z3, a4, a5, a6, a7] := by
  show Out.next [a0, a1, some (.dat (.lst ((ys.map fun l : List Nat => l.map nd).map D.lst))), z3, a4, a5, a6, a7] = _
  rw [List.map_map]
  rfl
theorem frz_dat (d : D) : sFrz 2 [a0, a1, some (.dat d), z3, a4, a5, a6, a7] = .next [a0, a1, some (.dat d), z3, a4, a5, a6, a7] := rfl
theorem end_oo {ys : List (List Nat)} (h : ys.length ≤ 400) : (sSeq (sFrz 2) (sRet (eUn bTuple c_l_spoilt6_4))) [a0, a1, ooN ys, z3, a4, a5, a6, a7] = .ret (parD ys) := by
  have c4 := c4_of (a0 := a0) (a1 := a1) (z3 := z3) (a4 := a4) (a5 := a5) (a6 := a6) (a7 := a7) h
  have t1 : bTuple (.lst (ys.map tupN)) = .ok (parD ys) := rfl
  rw [x_sSeq, frz_oo, andThen_next]
  generalize D.lst (ys.map tupN) = A at c4 t1
  generalize D.lst (ys.map lstN) = A2 at c4 ⊢
  generalize parD ys = A3 at t1 ⊢
  simp [c4, t1]
theorem end_dat {ys : List (List Nat)} (h : ys.length ≤ 400) : (sSeq (sFrz 2) (sRet (eUn bTuple c_l_spoilt6_4))) [a0, a1, some (.dat (.lst (ys.map lstN))), z3, a4, a5, a6, a7] = .ret (parD ys) := by
  have c4 := c4_of (a0 := a0) (a1 := a1) (z3 := z3) (a4 := a4) (a5 := a5) (a6 := a6) (a7 := a7) h
  have t1 : bTuple (.lst (ys.map tupN)) = .ok (parD ys) := rfl
  rw [x_sSeq, frz_dat, andThen_next]
  generalize D.lst (ys.map tupN) = A at c4 t1
  generalize D.lst (ys.map lstN) = A2 at c4 ⊢
  generalize parD ys = A3 at t1 ⊢
  simp [c4, t1]
/-- sorted again, without empty ones -/
theorem mid_of {ys : List (List Nat)} (h : ys.length ≤ 400) (hf : ys.flatten.length ≤ 400) : ∃ z : List (List Nat), z.length ≤ ys.length ∧ z.flatten.length ≤ ys.flatten.length ∧ (sSeq (sFrz 2) (sSet 2 (eUn bSorted c_l_spoilt6_3))) [a0, a1, ooN ys, z3, a4, a5, a6, a7] = .next [a0, a1, some (.dat (.lst (z.map lstN))), z3, a4, a5, a6, a7] := by
  have c3 : c_l_spoilt6_3 [a0, a1, some (.dat (.lst (ys.map lstN))), z3, a4, a5, a6, a7] = .ok (.lst (((ys.filter fun l => !l.isEmpty).map fun l => l.mergeSort fun a b => decide (a ≤ b)).map lstN)) := by
    refine eComp_of (ds := ys.map lstN) rfl (limA (by rw [List.length_map]; omega)) ?_
    rw [List.map_map]
    refine comp_listF (g := gName 3) (t := tV (eVar 3)) (e := eUn bSorted (eVar 3)) (fun l => !l.isEmpty) lstN _ ys fun X hX => ⟨_, rfl, ?_, fun _ => ?_⟩
    · show dTruth (lstN X) = _
      show Res.ok (!(X.map nd).isEmpty) = _
      rw [List.isEmpty_map]
    · have := mem_len hX
      have s1 := sort_nums (l := X) (by omega)
      show (bSorted (.lst (X.map nd))).calm = _
      rw [s1]
      rfl
  have s2 := sort_lists (l := (ys.filter fun l => !l.isEmpty).map fun l => l.mergeSort fun a b => decide (a ≤ b)) (by
    rw [List.length_map]
    have := List.length_filter_le (fun l : List Nat => !l.isEmpty) ys
    omega)
  refine ⟨((ys.filter fun l => !l.isEmpty).map fun l => l.mergeSort fun a b => decide (a ≤ b)).mergeSort leN, ?_, ?_, ?_⟩
  · rw [List.length_mergeSort, List.length_map]
    exact List.length_filter_le _ _
  · have e1 : (((ys.filter fun l => !l.isEmpty).map fun l => l.mergeSort fun a b => decide (a ≤ b)).mergeSort leN).flatten.length = ((ys.filter fun l => !l.isEmpty).map fun l => l.mergeSort fun a b => decide (a ≤ b)).flatten.length := (List.mergeSort_perm _ _).flatten.length_eq
    rw [e1]
    clear e1 s2 c3 h hf
    induction ys with
    | nil => exact Nat.le_refl _
    | cons Y ys ih =>
      rw [List.filter_cons]
      split
      · rw [List.map_cons, List.flatten_cons, List.flatten_cons, List.length_append, List.length_append, List.length_mergeSort]
        omega
      · rw [List.flatten_cons, List.length_append]
        omega
  · rw [x_sSeq, frz_oo, andThen_next]
    generalize D.lst (((ys.filter fun l => !l.isEmpty).map fun l => l.mergeSort fun a b => decide (a ≤ b)).map lstN) = A at c3 s2
    generalize D.lst (((((ys.filter fun l => !l.isEmpty).map fun l => l.mergeSort fun a b => decide (a ≤ b)).mergeSort leN)).map lstN) = A3 at s2 ⊢
    generalize D.lst (ys.map lstN) = A2 at c3 ⊢
    simp [c3, s2]
end
end Bk
end
/-! BkSp7 -/
section
set_option linter.all false
set_option autoImplicit false
set_option maxRecDepth 100000
/-! BkSp7: partings spoilt: what comes of it -/
namespace Bk
section
variable {a0 a1 a2 z3 a4 a5 a6 a7 : Option S}
theorem if_yes {t : T} {a r : St} {η : Env} (h : t η = .ok true) : (sSeq (sIf t a sSkip) r) η = (a η).andThen r := by
  show (outOf (t η) fun c => if c then a η else sSkip η).andThen r = _
  rw [h]
  rfl
theorem if_no {t : T} {a r : St} {η : Env} (h : t η = .ok false) : (sSeq (sIf t a sSkip) r) η = r η := by
  show (outOf (t η) fun c => if c then a η else sSkip η).andThen r = _
  rw [h]
  rfl
theorem tq (w k : Int) : tE (eBin dEq (eVar 6) (eC (.int k))) [a0, a1, a2, z3, a4, a5, some (.dat (.int w)), a7] = .ok (decide (w = k)) := by
  show ((dEq (.int w) (.int k)).calm).bind asBool = _
  rw [y_eqI]
  rfl
theorem tl (w : Int) : tE (eBin dLt (eVar 6) (eC (.int 4))) [a0, a1, a2, z3, a4, a5, some (.dat (.int w)), a7] = .ok (decide (w < 4)) := rfl
theorem ix_nat {n o : Nat} (h : o < n) : ix n (o : Int) = some o := by
  unfold ix
  rw [if_pos (Int.natCast_nonneg o), if_pos (by omega), Int.toNat_natCast]
theorem move_of {x : List (List Nat)} {o t : Nat} (ho : o < x.length) (ht : t < x.length) (hne : ∀ X, X ∈ x → X ≠ []) (hf : x.flatten.length ≤ 400) : ∃ ys : List (List Nat), ys.length = x.length ∧ ys.flatten.length = x.flatten.length ∧
    sOoMove 2 4 5 [a0, a1, ooN x, z3, some (.dat (nd o)), some (.dat (nd t)), a6, a7] = .next [a0, a1, ooN ys, z3, some (.dat (nd o)), some (.dat (nd t)), a6, a7] := by
  obtain ⟨src, hs⟩ : ∃ src, x[t]? = some src := ⟨x[t], List.getElem?_eq_getElem ht⟩
  have hsne := hne src (List.mem_of_getElem? hs)
  obtain ⟨v, hv⟩ : ∃ v, src[src.length - 1]? = some v := by
    have : 0 < src.length := by
      cases src with
      | nil => exact absurd rfl hsne
      | cons a b => simp
    exact ⟨src[src.length - 1]'(by omega), List.getElem?_eq_getElem (by omega)⟩
  obtain ⟨dst, hd⟩ : ∃ dst, (x.set t src.dropLast)[o]? = some dst := ⟨(x.set t src.dropLast)[o]'(by rw [List.length_set]; exact ho), List.getElem?_eq_getElem _⟩
  have l1 := set_len (Y := src.dropLast) hs
  have l2 := set_len (Y := dst ++ [v]) hd
  have hsl : src.dropLast.length + 1 = src.length := by
    rw [List.length_dropLast]
    cases src with
    | nil => exact absurd rfl hsne
    | cons a b => simp
  have hdl : dst.length ≤ 400 := by
    have := mem_len (List.mem_of_getElem? hd)
    omega
  have e1 : ooAt 2 [a0, a1, ooN x, z3, some (.dat (nd o)), some (.dat (nd t)), a6, a7] = some (x.map fun l : List Nat => l.map nd) := rfl
  have e2 : intAt 4 [a0, a1, ooN x, z3, some (.dat (nd o)), some (.dat (nd t)), a6, a7] = some (o : Int) := rfl
  have e3 : intAt 5 [a0, a1, ooN x, z3, some (.dat (nd o)), some (.dat (nd t)), a6, a7] = some (t : Int) := rfl
  have e4 : ix (x.map fun l : List Nat => l.map nd).length (o : Int) = some o := ix_nat (by rw [List.length_map]; exact ho)
  have e5 : ix (x.map fun l : List Nat => l.map nd).length (t : Int) = some t := ix_nat (by rw [List.length_map]; exact ht)
  have e6 : (x.map fun l : List Nat => l.map nd)[t]? = some (src.map nd) := by
    rw [List.getElem?_map, hs]
    rfl
  have e7 : (src.map nd)[(src.map nd).length - 1]? = some (nd v) := by
    rw [List.length_map, List.getElem?_map, hv]
    rfl
  have e8 : ((x.map fun l : List Nat => l.map nd).set t (src.map nd).dropLast)[o]? = some (dst.map nd) := by
    have : (x.map fun l : List Nat => l.map nd).set t (src.map nd).dropLast = (x.set t src.dropLast).map fun l : List Nat => l.map nd := by
      rw [List.map_set, List.map_dropLast]
    rw [this, List.getElem?_map, hd]
    rfl
  have e9 : ((x.map fun l : List Nat => l.map nd).set t (src.map nd).dropLast).set o (dst.map nd ++ [nd v]) = ((x.set t src.dropLast).set o (dst ++ [v])).map fun l : List Nat => l.map nd := by
    rw [List.map_set, List.map_set, List.map_dropLast, List.map_append]
    rfl
  have e10 : ¬ lim ≤ (dst.map nd).length := by
    rw [List.length_map]
    show ¬ 16777216 ≤ dst.length
    omega
  refine ⟨(x.set t src.dropLast).set o (dst ++ [v]), by rw [List.length_set, List.length_set], ?_, ?_⟩
  · rw [List.length_append] at l2
    simp only [List.length_singleton] at l2
    omega
  · simp only [sOoMove, e1, e2, e3, e4, e5, e6, e7, e8, if_neg e10]
    rw [e9]
    rfl
theorem swap_of {x : List (List Nat)} {o t : Nat} (ho : o < x.length) (ht : t < x.length) (hne : ∀ X, X ∈ x → X ≠ []) : ∃ ys : List (List Nat), ys.length = x.length ∧ ys.flatten.length = x.flatten.length ∧
    sOoSwap 2 4 5 [a0, a1, ooN x, z3, some (.dat (nd o)), some (.dat (nd t)), a6, a7] = .next [a0, a1, ooN ys, z3, some (.dat (nd o)), some (.dat (nd t)), a6, a7] := by
  obtain ⟨dn, hn⟩ : ∃ dn, x[o]? = some dn := ⟨x[o], List.getElem?_eq_getElem ho⟩
  obtain ⟨dm, hm⟩ : ∃ dm, x[t]? = some dm := ⟨x[t], List.getElem?_eq_getElem ht⟩
  have hnn := hne dn (List.mem_of_getElem? hn)
  have hmn := hne dm (List.mem_of_getElem? hm)
  obtain ⟨v, hv⟩ : ∃ v, dn[dn.length - 1]? = some v := by
    have : 0 < dn.length := by
      cases dn with
      | nil => exact absurd rfl hnn
      | cons a b => simp
    exact ⟨dn[dn.length - 1]'(by omega), List.getElem?_eq_getElem (by omega)⟩
  obtain ⟨u, r, hu⟩ : ∃ u r, dm = u :: r := by
    cases dm with
    | nil => exact absurd rfl hmn
    | cons a b => exact ⟨a, b, rfl⟩
  obtain ⟨dm', hm'⟩ : ∃ dm', (x.set o (dn.set (dn.length - 1) u))[t]? = some dm' := ⟨(x.set o (dn.set (dn.length - 1) u))[t]'(by rw [List.length_set]; exact ht), List.getElem?_eq_getElem _⟩
  have l1 := set_len (Y := dn.set (dn.length - 1) u) hn
  have l2 := set_len (Y := dm'.set 0 v) hm'
  rw [List.length_set] at l1 l2
  have e1 : ooAt 2 [a0, a1, ooN x, z3, some (.dat (nd o)), some (.dat (nd t)), a6, a7] = some (x.map fun l : List Nat => l.map nd) := rfl
  have e2 : intAt 4 [a0, a1, ooN x, z3, some (.dat (nd o)), some (.dat (nd t)), a6, a7] = some (o : Int) := rfl
  have e3 : intAt 5 [a0, a1, ooN x, z3, some (.dat (nd o)), some (.dat (nd t)), a6, a7] = some (t : Int) := rfl
  have e4 : ix (x.map fun l : List Nat => l.map nd).length (o : Int) = some o := ix_nat (by rw [List.length_map]; exact ho)
  have e5 : ix (x.map fun l : List Nat => l.map nd).length (t : Int) = some t := ix_nat (by rw [List.length_map]; exact ht)
  have e6 : (x.map fun l : List Nat => l.map nd)[o]? = some (dn.map nd) := by
    rw [List.getElem?_map, hn]
    rfl
  have e6' : (x.map fun l : List Nat => l.map nd)[t]? = some (dm.map nd) := by
    rw [List.getElem?_map, hm]
    rfl
  have e7 : (dn.map nd)[(dn.map nd).length - 1]? = some (nd v) := by
    rw [List.length_map, List.getElem?_map, hv]
    rfl
  have e7' : (dm.map nd)[0]? = some (nd u) := by rw [hu]; rfl
  have e7h : (dm.map nd).headD .none = nd u := by rw [hu]; rfl
  have e8a : (x.map fun l : List Nat => l.map nd).set o ((dn.map nd).set ((dn.map nd).length - 1) (nd u)) = (x.set o (dn.set (dn.length - 1) u)).map fun l : List Nat => l.map nd := by
    rw [List.map_set, List.map_set, List.length_map]
  have e8 : ((x.map fun l : List Nat => l.map nd).set o ((dn.map nd).set ((dn.map nd).length - 1) (nd u)))[t]? = some (dm'.map nd) := by
    rw [e8a, List.getElem?_map, hm']
    rfl
  have e9 : ((x.map fun l : List Nat => l.map nd).set o ((dn.map nd).set ((dn.map nd).length - 1) (nd u))).set t ((dm'.map nd).set 0 (nd v)) = ((x.set o (dn.set (dn.length - 1) u)).set t (dm'.set 0 v)).map fun l : List Nat => l.map nd := by
    rw [e8a, List.map_set (l := x.set o (dn.set (dn.length - 1) u)), List.map_set (l := dm')]
  refine ⟨(x.set o (dn.set (dn.length - 1) u)).set t (dm'.set 0 v), by rw [List.length_set, List.length_set], by omega, ?_⟩
  simp only [sOoSwap, e1, e2, e3, e4, e5, e6, e6', e7', e7, e7h, e8]
  rw [e9]
  rfl
theorem rev_of {x : List (List Nat)} {o : Nat} (ho : o < x.length) : ∃ ys : List (List Nat), ys.length = x.length ∧ ys.flatten.length = x.flatten.length ∧
    sOoRev 2 4 [a0, a1, ooN x, z3, some (.dat (nd o)), a5, a6, a7] = .next [a0, a1, ooN ys, z3, some (.dat (nd o)), a5, a6, a7] := by
  obtain ⟨dn, hn⟩ : ∃ dn, x[o]? = some dn := ⟨x[o], List.getElem?_eq_getElem ho⟩
  have l1 := set_len (Y := dn.reverse) hn
  rw [List.length_reverse] at l1
  have e1 : ooAt 2 [a0, a1, ooN x, z3, some (.dat (nd o)), a5, a6, a7] = some (x.map fun l : List Nat => l.map nd) := rfl
  have e2 : intAt 4 [a0, a1, ooN x, z3, some (.dat (nd o)), a5, a6, a7] = some (o : Int) := rfl
  have e4 : ix (x.map fun l : List Nat => l.map nd).length (o : Int) = some o := ix_nat (by rw [List.length_map]; exact ho)
  have e6 : (x.map fun l : List Nat => l.map nd)[o]? = some (dn.map nd) := by
    rw [List.getElem?_map, hn]
    rfl
  have e9 : (x.map fun l : List Nat => l.map nd).set o (dn.map nd).reverse = (x.set o dn.reverse).map fun l : List Nat => l.map nd := by
    rw [List.map_set, List.map_reverse]
  refine ⟨x.set o dn.reverse, by rw [List.length_set], by omega, ?_⟩
  simp only [sOoRev, e1, e2, e4, e6]
  rw [e9]
  rfl
end
inductive Sp (x : List (List Nat)) : D → Prop where
  | par (y : List (List Nat)) : y.length ≤ 400 → y.flatten.length ≤ 400 → Sp x (parD y)
  | non : Sp x .none
  | str : Sp x (.str [48, 49])
  | lst (l : List D) : Sp x (.lst l)
  | int : Sp x (.int 7)
  | e1 : Sp x (.tup (x.map tupN ++ [.tup []]))
  | e2 : Sp x (.tup (x.map tupN ++ [.lst [.int 99]]))
  | e3 : Sp x (.tup (x.map tupN ++ [.tup [.bool true]]))
theorem sub_flat : ∀ (x y : List (List Nat)), List.Sublist y x → y.flatten.length ≤ x.flatten.length
  | _, _, .slnil => Nat.le_refl _
  | X :: x, y, .cons _ h => by
    have := sub_flat x y h
    rw [List.flatten_cons, List.length_append]
    omega
  | X :: x, _ :: y, .cons₂ _ h => by
    have := sub_flat x y h
    rw [List.flatten_cons, List.flatten_cons, List.length_append, List.length_append]
    omega
section
variable {x : List (List Nat)} {o t : Nat} {c : D} {z3 a7 : Option S}
theorem rng_nd {n : Nat} (h : n ≤ 400) : rng1 (nd n) = .ok ((List.range n).map nd) := by
  have h2 := rng1_nat n (Nat.le_trans h (by decide))
  rw [numbers_nd] at h2
  exact h2
theorem range_of {f : E} {η : Env} {n : Nat} (h : n ≤ 400) (hf : f η = .ok (nd n)) : iRange1 f η = .ok ((List.range n).map nd) := by
  rw [x_iRange1, hf, bind_ok]
  exact rng_nd h
theorem ev_nil {η : Env} : evals [] η = .ok [] := rfl
theorem ev_cons {f : E} {r : List E} {η : Env} {d : D} {ds : List D} (h : f η = .ok d) (h2 : evals r η = .ok ds) : evals (f :: r) η = .ok (d :: ds) := by
  show (f η).bind (fun x => (evals r η).bind fun xs => .ok (x :: xs)) = _
  rw [h, h2]
  rfl
theorem lst_of {fs : List E} {η : Env} {ds : List D} (h : evals fs η = .ok ds) : eLst fs η = .ok (.lst ds) := by
  show (evals fs η).bind (fun ds => Res.ok (D.lst ds)) = _
  rw [h]
  rfl
theorem way0 (hx : x.length ≤ 200) (hf : x.flatten.length ≤ 200) (ho : o < x.length) : ∃ d, sp_rest [some (.dat (parD x)), some (.dat c), ooN x, z3, some (.dat (nd o)), some (.dat (nd t)), some (.dat (.int 0)), a7] = .ret d ∧ Sp x d := by
  have s1 : dCut (parD x) none (some ((o : Nat) : Int)) = .ok (.tup ((x.take o).map tupN)) := by
    show (if ¬ (sl (x.map tupN).length 0 none = 0 ∧ sl (x.map tupN).length (x.map tupN).length (some (o : Int)) = (x.map tupN).length) then Res.ok (D.tup (cut (x.map tupN) none (some (o : Int)))) else .bad) = _
    rw [if_pos, cut_to, List.map_take]
    rintro ⟨_, h2⟩
    have : sl (x.map tupN).length (x.map tupN).length (some (o : Int)) = min o (x.map tupN).length := by
      show (if ((o : Nat) : Int) < 0 then (((o : Nat) : Int) + ((x.map tupN).length : Nat)).toNat else min ((o : Nat) : Int).toNat (x.map tupN).length) = _
      rw [if_neg (by omega), Int.toNat_natCast]
    rw [this, List.length_map] at h2
    omega
  have s2 : dCut (parD x) (some ((o + 1 : Nat) : Int)) none = .ok (.tup ((x.drop (o + 1)).map tupN)) := by
    show (if ¬ (sl (x.map tupN).length 0 (some ((o + 1 : Nat) : Int)) = 0 ∧ sl (x.map tupN).length (x.map tupN).length none = (x.map tupN).length) then Res.ok (D.tup (cut (x.map tupN) (some ((o + 1 : Nat) : Int)) none)) else .bad) = _
    rw [if_pos, cut_from, List.map_drop]
    rintro ⟨h1, _⟩
    have : sl (x.map tupN).length 0 (some ((o + 1 : Nat) : Int)) = min (o + 1) (x.map tupN).length := by
      show (if ((o + 1 : Nat) : Int) < 0 then (((o + 1 : Nat) : Int) + ((x.map tupN).length : Nat)).toNat else min ((o + 1 : Nat) : Int).toNat (x.map tupN).length) = _
      rw [if_neg (by omega), Int.toNat_natCast]
    rw [this, List.length_map] at h1
    omega
  have s3 : dAddA (.tup ((x.take o).map tupN)) (.tup ((x.drop (o + 1)).map tupN)) = .ok (parD (x.take o ++ x.drop (o + 1))) := by
    show (if ((x.take o).map tupN).length + ((x.drop (o + 1)).map tupN).length ≤ lim then Res.ok (D.tup ((x.take o).map tupN ++ (x.drop (o + 1)).map tupN)) else .bad) = _
    rw [if_pos (limA (by
      rw [List.length_map, List.length_map, List.length_take, List.length_drop]
      omega)), ← List.map_append]
    rfl
  have s4 := suc_nd o
  refine ⟨parD (x.take o ++ x.drop (o + 1)), ?_, .par _ (by
    rw [List.length_append, List.length_take, List.length_drop]
    omega) ?_⟩
  · unfold sp_rest
    rw [if_yes (tq 0 0)]
    have q : (sRet (eBin dAddA (eSlice (eVar 0) none (some (eVar 4))) (eSlice (eVar 0) (some (eBin dAdd (eVar 4) (eC (.int 1)))) none))) [some (.dat (parD x)), some (.dat c), ooN x, z3, some (.dat (nd o)), some (.dat (nd t)), some (.dat (.int 0)), a7] = .ret (parD (x.take o ++ x.drop (o + 1))) := by
      have p1 : eSlice (eVar 0) none (some (eVar 4)) [some (.dat (parD x)), some (.dat c), ooN x, z3, some (.dat (nd o)), some (.dat (nd t)), some (.dat (.int 0)), a7] = .ok (.tup ((x.take o).map tupN)) := by
        show (dCut (parD x) none (some ((o : Nat) : Int))).calm = _
        rw [s1]
        rfl
      have p2 : eSlice (eVar 0) (some (eBin dAdd (eVar 4) (eC (.int 1)))) none [some (.dat (parD x)), some (.dat c), ooN x, z3, some (.dat (nd o)), some (.dat (nd t)), some (.dat (.int 0)), a7] = .ok (.tup ((x.drop (o + 1)).map tupN)) := by
        show (dCut (parD x) (some ((o + 1 : Nat) : Int)) none).calm = _
        rw [s2]
        rfl
      rw [x_sRet, x_eBin, p1, bind_ok, p2, bind_ok, s3]
      rfl
    rw [q]
    rfl
  · have : (x.take o ++ x.drop (o + 1)).Sublist x := by
      have h := List.take_append_drop o x
      conv => rhs; rw [← h]
      refine (List.Sublist.refl _).append ?_
      rw [← List.drop_drop]
      exact List.drop_sublist 1 _
    have := sub_flat x _ this
    omega
theorem way1 (hx : x.length ≤ 200) (hf : x.flatten.length ≤ 200) (ho : o < x.length) (ht : t < x.length) (hne : ∀ X, X ∈ x → X ≠ []) : ∃ d, sp_rest [some (.dat (parD x)), some (.dat c), ooN x, z3, some (.dat (nd o)), some (.dat (nd t)), some (.dat (.int 1)), a7] = .ret d ∧ Sp x d := by
  obtain ⟨ys, h1, h2, h3⟩ := swap_of (a0 := some (.dat (parD x))) (a1 := some (.dat c)) (z3 := z3) (a6 := some (.dat (.int 1))) (a7 := a7) ho ht hne
  obtain ⟨z, k1, k2, k3⟩ := mid_of (ys := ys) (a0 := some (.dat (parD x))) (a1 := some (.dat c)) (z3 := z3) (a4 := some (.dat (nd o))) (a5 := some (.dat (nd t))) (a6 := some (.dat (.int 1))) (a7 := a7) (by omega) (by omega)
  refine ⟨parD z, ?_, .par z (by omega) (by omega)⟩
  unfold sp_rest
  rw [if_no (tq 1 0), if_yes (tq 1 1), h3, andThen_next, if_no (tq 1 2), if_no (tq 1 3), if_no (tq 1 4), if_no (tq 1 5), if_no (tq 1 6), if_yes (tl 1), k3, andThen_next, end_dat (by omega)]
theorem way2 (hx : x.length ≤ 200) (hf : x.flatten.length ≤ 200) (ho : o < x.length) (ht : t < x.length) (hne : ∀ X, X ∈ x → X ≠ []) : ∃ d, sp_rest [some (.dat (parD x)), some (.dat c), ooN x, z3, some (.dat (nd o)), some (.dat (nd t)), some (.dat (.int 2)), a7] = .ret d ∧ Sp x d := by
  obtain ⟨ys, h1, h2, h3⟩ := move_of (a0 := some (.dat (parD x))) (a1 := some (.dat c)) (z3 := z3) (a6 := some (.dat (.int 2))) (a7 := a7) ho ht hne (by omega)
  obtain ⟨z, k1, k2, k3⟩ := mid_of (ys := ys) (a0 := some (.dat (parD x))) (a1 := some (.dat c)) (z3 := z3) (a4 := some (.dat (nd o))) (a5 := some (.dat (nd t))) (a6 := some (.dat (.int 2))) (a7 := a7) (by omega) (by omega)
  refine ⟨parD z, ?_, .par z (by omega) (by omega)⟩
  unfold sp_rest
  rw [if_no (tq 2 0), if_no (tq 2 1), if_yes (tq 2 2), h3, andThen_next, if_no (tq 2 3), if_no (tq 2 4), if_no (tq 2 5), if_no (tq 2 6), if_yes (tl 2), k3, andThen_next, end_dat (by omega)]
theorem way3 (hx : x.length ≤ 200) (hf : x.flatten.length ≤ 200) : ∃ d, sp_rest [some (.dat (parD x)), some (.dat c), ooN x, z3, some (.dat (nd o)), some (.dat (nd t)), some (.dat (.int 3)), a7] = .ret d ∧ Sp x d := by
  refine ⟨parD x.reverse, ?_, .par _ (by rw [List.length_reverse]; omega) ?_⟩
  · unfold sp_rest
    rw [if_no (tq 3 0), if_no (tq 3 1), if_no (tq 3 2), if_yes (tq 3 3)]
    have : dTupRev (parD x) = .ok (parD x.reverse) := by
      show Res.ok (D.tup (x.map tupN).reverse) = _
      rw [← List.map_reverse]
      rfl
    have q : (sRet (eUn dTupRev (eVar 0))) [some (.dat (parD x)), some (.dat c), ooN x, z3, some (.dat (nd o)), some (.dat (nd t)), some (.dat (.int 3)), a7] = .ret (parD x.reverse) := by
      show outOf (dTupRev (parD x)).calm _ = _
      rw [this]
      rfl
    rw [q]
    rfl
  · have : x.reverse.flatten.length = x.flatten.length := (List.reverse_perm x).flatten.length_eq
    omega
theorem way4 (hx : x.length ≤ 200) (hf : x.flatten.length ≤ 200) (ho : o < x.length) : ∃ d, sp_rest [some (.dat (parD x)), some (.dat c), ooN x, z3, some (.dat (nd o)), some (.dat (nd t)), some (.dat (.int 4)), a7] = .ret d ∧ Sp x d := by
  obtain ⟨ys, h1, h2, h3⟩ := rev_of (a0 := some (.dat (parD x))) (a1 := some (.dat c)) (z3 := z3) (a5 := some (.dat (nd t))) (a6 := some (.dat (.int 4))) (a7 := a7) ho
  refine ⟨parD ys, ?_, .par ys (by omega) (by omega)⟩
  unfold sp_rest
  rw [if_no (tq 4 0), if_no (tq 4 1), if_no (tq 4 2), if_no (tq 4 3), if_yes (tq 4 4), h3, andThen_next, if_no (tq 4 5), if_no (tq 4 6), if_no (tl 4), end_oo (by omega)]
theorem way5 (hx : x.length ≤ 200) (h0 : 0 < x.length) : ∃ d, sp_rest [some (.dat (parD x)), some (.dat c), ooN x, z3, some (.dat (nd o)), some (.dat (nd t)), some (.dat (.int 5)), a7] = .ret d ∧ Sp x d := by
  have hne : x.map tupN ≠ [] := fun z => by
    have := congrArg List.length z
    rw [List.length_map, List.length_nil] at this
    omega
  have ad : ∀ e : D, dAdd (parD x) (.tup [e]) = .ok (.tup (x.map tupN ++ [e])) := fun e => if_pos ⟨limA (by
    rw [List.length_map]
    show x.length + 1 ≤ 1000
    omega), hne⟩
  have lt : bList (parD x) = .ok (.lst (x.map tupN)) := rfl
  have md : dMod (nd o) (.int 7) = .ok (nd (o % 7)) := by
    rw [y_mod (by omega)]
    rfl
  have hd : ∃ d, at? [D.none, .str [48, 49], .lst (x.map tupN), .tup (x.map tupN ++ [.tup []]), .tup (x.map tupN ++ [.lst [.int 99]]), .tup (x.map tupN ++ [.tup [.bool true]]), .int 7] ((o % 7 : Nat) : Int) = some d ∧ Sp x d := by
    have h7 : o % 7 < 7 := Nat.mod_lt _ (by omega)
    generalize o % 7 = k at h7
    rw [at_nat]
    match k, h7 with
    | 0, _ => exact ⟨_, rfl, .non⟩
    | 1, _ => exact ⟨_, rfl, .str⟩
    | 2, _ => exact ⟨_, rfl, .lst _⟩
    | 3, _ => exact ⟨_, rfl, .e1⟩
    | 4, _ => exact ⟨_, rfl, .e2⟩
    | 5, _ => exact ⟨_, rfl, .e3⟩
    | 6, _ => exact ⟨_, rfl, .int⟩
  obtain ⟨d, hd, hs⟩ := hd
  refine ⟨d, ?_, hs⟩
  have q1 : (eLst [(eC .none), (eC (.str [48, 49])), (eUn bList (eVar 0)), (eBin dAdd (eVar 0) (eTup [(eTup [])])), (eBin dAdd (eVar 0) (eTup [(eLst [(eC (.int 99))])])), (eBin dAdd (eVar 0) (eTup [(eTup [(eC (.bool true))])])), (eC (.int 7))]) [some (.dat (parD x)), some (.dat c), ooN x, z3, some (.dat (nd o)), some (.dat (nd t)), some (.dat (.int 5)), a7] = .ok (.lst [D.none, .str [48, 49], .lst (x.map tupN), .tup (x.map tupN ++ [.tup []]), .tup (x.map tupN ++ [.lst [.int 99]]), .tup (x.map tupN ++ [.tup [.bool true]]), .int 7]) := by
    refine lst_of (ev_cons rfl (ev_cons rfl (ev_cons rfl (ev_cons ?_ (ev_cons ?_ (ev_cons ?_ (ev_cons rfl ev_nil)))))))
    · show (dAdd (parD x) (.tup [.tup []])).calm = _
      rw [ad]
      rfl
    · show (dAdd (parD x) (.tup [.lst [.int 99]])).calm = _
      rw [ad]
      rfl
    · show (dAdd (parD x) (.tup [.tup [.bool true]])).calm = _
      rw [ad]
      rfl
  have q2 : eBin dMod (eVar 4) (eC (.int 7)) [some (.dat (parD x)), some (.dat c), ooN x, z3, some (.dat (nd o)), some (.dat (nd t)), some (.dat (.int 5)), a7] = .ok (nd (o % 7)) := by
    show (dMod (nd o) (.int 7)).calm = _
    rw [md]
    rfl
  have q3 : ∀ L : List D, at? L ((o % 7 : Nat) : Int) = some d → dIdx (.lst L) (nd (o % 7)) = .ok d := by
    intro L hL
    show (match at? L ((o % 7 : Nat) : Int) with
      | some d => Res.ok d
      | Option.none => .bad) = _
    rw [hL]
  have q : ∀ L : E, ∀ LL : List D, L [some (.dat (parD x)), some (.dat c), ooN x, z3, some (.dat (nd o)), some (.dat (nd t)), some (.dat (.int 5)), a7] = .ok (.lst LL) → at? LL ((o % 7 : Nat) : Int) = some d → (sRet (eBin dIdx L (eBin dMod (eVar 4) (eC (.int 7))))) [some (.dat (parD x)), some (.dat c), ooN x, z3, some (.dat (nd o)), some (.dat (nd t)), some (.dat (.int 5)), a7] = .ret d := by
    intro L LL h1 h2
    rw [x_sRet, x_eBin, h1, q2, bind_ok, bind_ok, q3 LL h2]
    rfl
  unfold sp_rest
  rw [if_no (tq 5 0), if_no (tq 5 1), if_no (tq 5 2), if_no (tq 5 3), if_no (tq 5 4), if_yes (tq 5 5), q _ _ q1 hd]
  rfl
theorem way6 (hx : x.length ≤ 200) (hf : x.flatten.length ≤ 200) : ∃ d, sp_rest [some (.dat (parD x)), some (.dat c), ooN x, z3, some (.dat (nd o)), some (.dat (nd t)), some (.dat (.int 6)), a7] = .ret d ∧ Sp x d := by
  have c1 : c_l_spoilt6_1 [some (.dat (parD x)), some (.dat c), some (.dat (.lst (x.map lstN))), z3, some (.dat (nd o)), some (.dat (nd t)), some (.dat (.int 6)), a7] = .ok (.lst ((x.map fun X => (X.length : Int)).map D.int)) := by
    refine eComp_of (ds := x.map lstN) rfl (limA (by rw [List.length_map]; omega)) ?_
    rw [List.map_map]
    exact comp_list (g := gName 3) (t := tYes) (e := eUn bLen (eVar 3)) lstN (fun X => D.int (X.length : Nat)) x fun X _ => ⟨_, rfl, rfl, by
      show (bLen (.lst (X.map nd))).calm = _
      rw [y_lenL, List.length_map]
      rfl⟩
  have hsum : (x.map fun X => (X.length : Int)).sum = (x.flatten.length : Int) := by
    clear c1 hx hf
    induction x with
    | nil => rfl
    | cons X x ih =>
      rw [List.map_cons, List.sum_cons, ih, List.flatten_cons, List.length_append]
      omega
  have s1 : bSum (.lst ((x.map fun X => (X.length : Int)).map D.int)) = .ok (nd x.flatten.length) := by
    show (match numsL ((x.map fun X => (X.length : Int)).map D.int) with
      | some ns => Res.ok (D.int ns.sum)
      | _ => .bad) = _
    rw [nums_map]
    show Res.ok (D.int (x.map fun X => (X.length : Int)).sum) = _
    rw [hsum]
  have c2 : c_l_spoilt6_2 [some (.dat (parD x)), some (.dat c), some (.dat (.lst (x.map lstN))), z3, some (.dat (nd o)), some (.dat (nd t)), some (.dat (.int 6)), a7] = .ok (.lst (((List.range x.flatten.length).map fun k => [k]).map tupN)) := by
    have e0 : iRange1 (eUn bSum c_l_spoilt6_1) [some (.dat (parD x)), some (.dat c), some (.dat (.lst (x.map lstN))), z3, some (.dat (nd o)), some (.dat (nd t)), some (.dat (.int 6)), a7] = .ok ((List.range x.flatten.length).map nd) := by
      refine range_of (Nat.le_trans hf (by decide)) ?_
      rw [x_eUn, c1, bind_ok, s1]
      rfl
    refine eComp_of e0 (limA (by rw [List.length_map, List.length_range]; omega)) ?_
    rw [List.map_map]
    exact comp_list (g := gName 7) (t := tYes) (e := eTup [eVar 7]) nd _ (List.range x.flatten.length) fun k _ => ⟨_, rfl, rfl, rfl⟩
  refine ⟨parD ((List.range x.flatten.length).map fun k => [k]), ?_, .par _ (by rw [List.length_map, List.length_range]; omega) ?_⟩
  · unfold sp_rest
    rw [if_no (tq 6 0), if_no (tq 6 1), if_no (tq 6 2), if_no (tq 6 3), if_no (tq 6 4), if_no (tq 6 5), if_yes (tq 6 6)]
    have q : (sSeq (sFrz 2) (sRet (eUn bTuple c_l_spoilt6_2))) [some (.dat (parD x)), some (.dat c), ooN x, z3, some (.dat (nd o)), some (.dat (nd t)), some (.dat (.int 6)), a7] = .ret (parD ((List.range x.flatten.length).map fun k => [k])) := by
      rw [x_sSeq, frz_oo, andThen_next, x_sRet, x_eUn, c2]
      rfl
    rw [q]
    rfl
  · have : ∀ l : List Nat, (l.map fun k => [k]).flatten = l := by
      intro l
      induction l with
      | nil => rfl
      | cons a b ih => rw [List.map_cons, List.flatten_cons, ih]; rfl
    rw [this, List.length_range]
    omega
end
theorem spoilt_of {x : List (List Nat)} (h0 : 0 < x.length) (hx : x.length ≤ 200) (hf : x.flatten.length ≤ 200) (hne : ∀ X, X ∈ x → X ≠ []) (c : Int) : ∃ d, φ_l_spoilt6 [parD x, .int c] = .ok d ∧ Sp x d := by
  have e1 : sOoLists 2 3 (iAny (eVar 0)) [some (.dat (parD x)), some (.dat (.int c)), none, none, none, none, none, none] = .next [some (.dat (parD x)), some (.dat (.int c)), ooN x, none, none, none, none, none] := by
    show outOf (Res.ok (x.map tupN)) _ = _
    rw [outOf_ok]
    show (if (x.map tupN).length ≤ lim ∧ 3 < 8 then (match seqsOf (x.map tupN) with
      | some dss => Out.next (([some (S.dat (parD x)), some (S.dat (.int c)), none, none, none, none, none, none] : Env).set 2 (some (S.oo dss)))
      | Option.none => .bad) else .bad) = _
    rw [if_pos ⟨limA (by rw [List.length_map]; omega), by omega⟩, seqs_tup]
    rfl
  have hr : (0 : Int) < (x.length : Int) := by omega
  obtain ⟨o, ho, e2⟩ : ∃ o, o < x.length ∧ (c / 7) % (x.length : Int) = (o : Int) := by
    have h1 := Int.emod_nonneg (c / 7) (Int.ne_of_gt hr)
    have h2 := Int.emod_lt_of_pos (c / 7) hr
    exact ⟨((c / 7) % (x.length : Int)).toNat, by omega, by omega⟩
  obtain ⟨t, ht, e3⟩ : ∃ o, o < x.length ∧ (c / 97) % (x.length : Int) = (o : Int) := by
    have h1 := Int.emod_nonneg (c / 97) (Int.ne_of_gt hr)
    have h2 := Int.emod_lt_of_pos (c / 97) hr
    exact ⟨((c / 97) % (x.length : Int)).toNat, by omega, by omega⟩
  have s2 : ∀ a5 a6 : Option S, sSet 4 (eBin dMod (eBin dDiv (eVar 1) (eC (.int 7))) (eOoLen 2)) [some (.dat (parD x)), some (.dat (.int c)), ooN x, none, none, a5, a6, none] = .next [some (.dat (parD x)), some (.dat (.int c)), ooN x, none, some (.dat (nd o)), a5, a6, none] := by
    intro a5 a6
    have q1 : dDiv (.int c) (.int 7) = .ok (.int (c / 7)) := y_div (by omega) (by omega)
    have q2 : eOoLen 2 [some (.dat (parD x)), some (.dat (.int c)), ooN x, none, none, a5, a6, none] = .ok (nd x.length) := by
      show Res.ok (D.int ((x.map fun l : List Nat => l.map nd).length : Nat)) = _
      rw [List.length_map]
    have q3 : dMod (.int (c / 7)) (nd x.length) = .ok (nd o) := by
      show dMod (.int (c / 7)) (.int (x.length : Int)) = _
      rw [y_mod hr, e2]
    rw [x_sSet, x_eBin, x_eBin]
    show outOf (((dDiv (.int c) (.int 7)).calm).bind fun x_1 => (eOoLen 2 [some (.dat (parD x)), some (.dat (.int c)), ooN x, none, none, a5, a6, none]).bind fun y => (dMod x_1 y).calm) _ = _
    rw [q1, q2]
    show outOf ((dMod (.int (c / 7)) (nd x.length)).calm) _ = _
    rw [q3]
    rfl
  have s3 : ∀ a6 : Option S, sSet 5 (eBin dMod (eBin dDiv (eVar 1) (eC (.int 97))) (eOoLen 2)) [some (.dat (parD x)), some (.dat (.int c)), ooN x, none, some (.dat (nd o)), none, a6, none] = .next [some (.dat (parD x)), some (.dat (.int c)), ooN x, none, some (.dat (nd o)), some (.dat (nd t)), a6, none] := by
    intro a6
    have q1 : dDiv (.int c) (.int 97) = .ok (.int (c / 97)) := y_div (by omega) (by omega)
    have q2 : eOoLen 2 [some (.dat (parD x)), some (.dat (.int c)), ooN x, none, some (.dat (nd o)), none, a6, none] = .ok (nd x.length) := by
      show Res.ok (D.int ((x.map fun l : List Nat => l.map nd).length : Nat)) = _
      rw [List.length_map]
    have q3 : dMod (.int (c / 97)) (nd x.length) = .ok (nd t) := by
      show dMod (.int (c / 97)) (.int (x.length : Int)) = _
      rw [y_mod hr, e3]
    rw [x_sSet, x_eBin, x_eBin]
    show outOf (((dDiv (.int c) (.int 97)).calm).bind fun x_1 => (eOoLen 2 [some (.dat (parD x)), some (.dat (.int c)), ooN x, none, some (.dat (nd o)), none, a6, none]).bind fun y => (dMod x_1 y).calm) _ = _
    rw [q1, q2]
    show outOf ((dMod (.int (c / 97)) (nd x.length)).calm) _ = _
    rw [q3]
    rfl
  have s4 : sSet 6 (eBin dMod (eVar 1) (eC (.int 7))) [some (.dat (parD x)), some (.dat (.int c)), ooN x, none, some (.dat (nd o)), some (.dat (nd t)), none, none] = .next [some (.dat (parD x)), some (.dat (.int c)), ooN x, none, some (.dat (nd o)), some (.dat (nd t)), some (.dat (.int (c % 7))), none] := by
    have q1 : dMod (.int c) (.int 7) = .ok (.int (c % 7)) := y_mod (by omega)
    rw [x_sSet, x_eBin]
    show outOf ((dMod (.int c) (.int 7)).calm) _ = _
    rw [q1]
    rfl
  have hrest : ∃ d, sp_rest [some (.dat (parD x)), some (.dat (.int c)), ooN x, none, some (.dat (nd o)), some (.dat (nd t)), some (.dat (.int (c % 7))), none] = .ret d ∧ Sp x d := by
    have h1 : 0 ≤ c % 7 := Int.emod_nonneg _ (by omega)
    have h2 : c % 7 < 7 := Int.emod_lt_of_pos _ (by omega)
    generalize c % 7 = w at h1 h2
    have hw : w = 0 ∨ w = 1 ∨ w = 2 ∨ w = 3 ∨ w = 4 ∨ w = 5 ∨ w = 6 := by omega
    rcases hw with rfl | rfl | rfl | rfl | rfl | rfl | rfl
    · exact way0 hx hf ho
    · exact way1 hx hf ho ht hne
    · exact way2 hx hf ho ht hne
    · exact way3 hx hf
    · exact way4 hx hf ho
    · exact way5 hx h0
    · exact way6 hx hf
  obtain ⟨d, hd, hs⟩ := hrest
  refine ⟨d, run_of (g := g_l_spoilt6) ?_, hs⟩
  show g_l_spoilt6 [some (.dat (parD x)), some (.dat (.int c)), none, none, none, none, none, none] = _
  rw [sp_split, x_sSeq, e1, andThen_next, x_sSeq, s2, andThen_next, x_sSeq, s3, andThen_next, x_sSeq, s4, andThen_next, hd]
end Bk
end
/-! BkOdd6 -/
section
set_option linter.all false
set_option autoImplicit false
set_option maxRecDepth 100000
/-! BkOdd6: values that are no parting -/
namespace Bk
theorem row_by_none {d : D} (h : φ_row_by_parting [d] = .raise .noRow) : φ_l_row_by [d] = .ok .none := by
  refine run_of (g := g_l_row_by) ?_
  show g_l_row_by [some (.dat d), none, none] = _
  simp [g_l_row_by, sTryAs, h]
theorem row_by_some {d : D} {s : List Nat} (h : φ_row_by_parting [d] = .ok (.str s)) : φ_l_row_by [d] = .ok (.str s) := by
  refine run_of (g := g_l_row_by) ?_
  show g_l_row_by [some (.dat d), none, none] = _
  simp [g_l_row_by, sTryAs, h]
theorem is_not {d : D} (h : bIs .tuple d = .ok (.bool false)) : φ_l_is_parting [d] = .ok (.bool false) := by
  refine run_of (g := g_l_is_parting) ?_
  show g_l_is_parting [some (.dat d), none, none, none, none, none] = _
  simp [g_l_is_parting, h]
def tupB : D → Bool
  | .tup ds => !ds.isEmpty
  | _ => false
theorem ne_compD {xs : List D} (hx : xs.length ≤ 450) (h : ∀ d, d ∈ xs → (∃ l, d = .tup l) ∨ ∃ l, d = .lst l) : c_l_is_parting_1 [some (.dat (.tup xs)), none, none, none, none, none] = .ok (.lst ((xs.map tupB).map D.bool)) := by
  refine eComp_of (ds := xs) rfl (limA (by omega)) ?_
  have := comp_list (g := gName 1) (t := tYes) (e := eAnd (eUn (bIs .tuple) (eVar 1)) (eBin dGt (eUn bLen (eVar 1)) (eC (.int 0)))) (η := wipes [some (.dat (.tup xs)), none, none, none, none, none] [1]) id (fun d => D.bool (tupB d)) xs fun d hd => by
    refine ⟨_, rfl, rfl, ?_⟩
    rcases h d hd with ⟨l, rfl⟩ | ⟨l, rfl⟩
    · have h1 : bIs .tuple (.tup l) = .ok (.bool true) := rfl
      have h2 : bLen (.tup l) = .ok (nd l.length) := rfl
      have h3 : dGt (nd l.length) (.int 0) = .ok (.bool (tupB (.tup l))) := by
        rw [y_gt]
        congr 2
        cases l with
        | nil => rfl
        | cons a b =>
          show decide ((0 : Int) < ((b.length + 1 : Nat) : Int)) = true
          exact decide_eq_true (by omega)
      generalize nd l.length = N at h2 h3
      generalize tupB (.tup l) = k at h3 ⊢
      show (eAnd (eUn (bIs .tuple) (eVar 1)) (eBin dGt (eUn bLen (eVar 1)) (eC (.int 0)))) [some (.dat (.tup xs)), some (.dat (.tup l)), none, none, none, none] = _
      generalize D.tup l = T at h1 h2 ⊢
      simp [h1, h2, h3]
    · rfl
  rw [List.map_id] at this
  rw [List.map_map]
  exact this
theorem is_bad1 {xs : List D} (hx : xs.length ≤ 450) (h : ∀ d, d ∈ xs → (∃ l, d = .tup l) ∨ ∃ l, d = .lst l) (hb : (xs.map tupB).all id = false) : φ_l_is_parting [.tup xs] = .ok (.bool false) := by
  have c1 := ne_compD hx h
  have t1 : bIs .tuple (.tup xs) = .ok (.bool true) := rfl
  have t2 := all_bools (xs.map tupB)
  rw [hb] at t2
  refine run_of (g := g_l_is_parting) ?_
  show g_l_is_parting [some (.dat (.tup xs)), none, none, none, none, none] = _
  generalize D.lst ((xs.map tupB).map D.bool) = BB at c1 t2
  generalize D.tup xs = T at c1 t1 ⊢
  simp [g_l_is_parting, t1, c1, t2]
theorem odd_mem {x : List (List Nat)} {e : D} (he : (∃ l, e = .tup l) ∨ ∃ l, e = .lst l) : ∀ d, d ∈ x.map tupN ++ [e] → (∃ l, d = .tup l) ∨ ∃ l, d = .lst l := by
  intro d hd
  rcases List.mem_append.mp hd with h | h
  · rw [List.mem_map] at h
    obtain ⟨X, _, rfl⟩ := h
    exact .inl ⟨_, rfl⟩
  · rw [List.mem_singleton] at h
    rw [h]
    exact he
/-- a part that is no tuple, or is empty -/
theorem is_odd {x : List (List Nat)} {e : D} (hx : x.length ≤ 400) (he : (∃ l, e = .tup l) ∨ ∃ l, e = .lst l) (hb : tupB e = false) : φ_l_is_parting [.tup (x.map tupN ++ [e])] = .ok (.bool false) := by
  refine is_bad1 (by rw [List.length_append, List.length_map, List.length_singleton]; omega) (odd_mem he) ?_
  rw [List.map_append, List.all_append]
  show (_ && (tupB e && true)) = false
  rw [hb]
  simp
/-- a part with a number that is no whole number -/
theorem is_odd3 {x : List (List Nat)} (hx : x.length ≤ 400) (hf : x.flatten.length ≤ 400) : φ_l_is_parting [.tup (x.map tupN ++ [.tup [.bool true]])] = .ok (.bool false) := by
  have hm := odd_mem (x := x) (e := .tup [.bool true]) (.inl ⟨_, rfl⟩)
  have hl : (x.map tupN ++ [D.tup [.bool true]]).length ≤ 450 := by
    rw [List.length_append, List.length_map, List.length_singleton]
    omega
  by_cases hb : ((x.map tupN ++ [D.tup [.bool true]]).map tupB).all id = true
  rotate_left
  · exact is_bad1 hl hm (by simpa using hb)
  · have c1 := ne_compD hl hm
    have t1 : bIs .tuple (.tup (x.map tupN ++ [.tup [.bool true]])) = .ok (.bool true) := rfl
    have t2 := all_bools ((x.map tupN ++ [D.tup [.bool true]]).map tupB)
    rw [hb] at t2
    have i1 : items (.tup (x.map tupN ++ [.tup [.bool true]])) = .ok (x.map tupN ++ [.tup [.bool true]]) := rfl
    have hloop : loop (gName 1) b_l_is_parting_1 (x.map tupN ++ [.tup [.bool true]]) [some (.dat (.tup (x.map tupN ++ [.tup [.bool true]]))), none, some (.own []), none, none, none] = .ret (.bool false) := by
      generalize D.tup (x.map tupN ++ [.tup [.bool true]]) = P
      obtain ⟨z1, z3, hloop⟩ := pts_loop (P := P) .none x [.tup [.bool true]] [] none none (by show 0 + x.flatten.length ≤ 400; omega)
      have hloop : loop (gName 1) b_l_is_parting_1 (x.map tupN ++ [.tup [.bool true]]) [some (.dat P), none, some (.own []), none, none, none] = _ := hloop
      rw [hloop, List.nil_append]
      generalize x.flatten.map nd = L
      refine loop_ret rfl ?_
      have c2 : c_l_is_parting_2 [some (.dat P), some (.dat (.tup [.bool true])), some (.own L), z3, none, none] = .ok (.lst [.bool false]) := rfl
      have c3 : bAll (.lst [.bool false]) = .ok (.bool false) := rfl
      show b_l_is_parting_1 [some (.dat P), some (.dat (.tup [.bool true])), some (.own L), z3, none, none] = _
      simp [b_l_is_parting_1, c2, c3]
    refine run_of (g := g_l_is_parting) ?_
    show g_l_is_parting [some (.dat (.tup (x.map tupN ++ [.tup [.bool true]]))), none, none, none, none, none] = _
    generalize D.lst (((x.map tupN ++ [D.tup [.bool true]]).map tupB).map D.bool) = BB at c1 t2
    generalize D.tup (x.map tupN ++ [.tup [.bool true]]) = T at c1 t1 i1 hloop ⊢
    generalize x.map tupN ++ [D.tup [.bool true]] = L4 at i1 hloop
    simp [g_l_is_parting, t1, c1, t2, i1, hloop]
theorem rbp_odd {x : List (List Nat)} {e : D} (hx : x.length ≤ 400) (hf : x.flatten.length ≤ 400) (he : φ_is_block [e] = .ok (.bool false)) : φ_row_by_parting [.tup (x.map tupN ++ [e])] = .raise .noRow := by
  refine rbp_bad (bs := x.map blkB ++ [false]) (by rw [List.length_append, List.length_map, List.length_singleton]; omega) ?_ (by rw [List.length_append, List.length_append, List.length_map, List.length_map]; rfl) ?_
  · intro i d hd
    by_cases hi : i < x.length
    · rw [List.getElem?_append_left (by rw [List.length_map]; exact hi), List.getElem?_map, Option.map_eq_some_iff] at hd
      obtain ⟨X, hX, rfl⟩ := hd
      have := mem_len (List.mem_of_getElem? hX)
      exact ⟨blkB X, by rw [List.getElem?_append_left (by rw [List.length_map]; exact hi), List.getElem?_map, hX]; rfl, is_block_nums (by omega)⟩
    · rw [List.getElem?_append_right (by rw [List.length_map]; omega), List.length_map] at hd
      cases k : i - x.length with
      | zero =>
        rw [k] at hd
        cases hd
        exact ⟨false, by rw [List.getElem?_append_right (by rw [List.length_map]; omega), List.length_map, k]; rfl, he⟩
      | succ j =>
        rw [k] at hd
        cases hd
  · rw [List.all_append]
    simp
theorem blk1 : φ_is_block [.tup []] = .ok (.bool false) := rfl
theorem blk2 : φ_is_block [.lst [.int 99]] = .ok (.bool false) := rfl
theorem blk3 : φ_is_block [.tup [.bool true]] = .ok (.bool false) := rfl
theorem blk4 : φ_is_block [.tup [.int 0, .bool true]] = .ok (.bool false) := rfl
theorem blk5 : φ_is_block [.lst [.int 0]] = .ok (.bool false) := rfl
theorem blk6 : φ_is_block [.lst [.int 1]] = .ok (.bool false) := rfl
theorem blk7 : φ_is_block [.int 0] = .ok (.bool false) := rfl
theorem blk8 : φ_is_block [.tup [.str [48]]] = .ok (.bool false) := rfl
/-- what is told of a spoilt parting -/
theorem told_of {x : List (List Nat)} {d : D} (h : Sp x d) (hx : x.length ≤ 200) (hf : x.flatten.length ≤ 200) :
    (φ_l_row_by [d] = .ok .none ∧ φ_l_is_parting [d] = .ok (.bool false)) ∨
    ∃ s, φ_l_row_by [d] = .ok (.str s) ∧ φ_l_is_parting [d] = .ok (.bool true) ∧ dEq (.str s) (.str [111, 116, 104, 101, 114]) = .ok (.bool false) ∧ φ_parting_of [.str s] = .ok d ∧ dNe d d = .ok (.bool false) := by
  cases h with
  | par y h1 h2 =>
    have r1 := rbp_of h1 h2
    have r2 := is_of h1 h2
    by_cases hg : Good y
    · obtain ⟨a, b⟩ := r1.1 hg
      refine .inr ⟨_, row_by_some a, r2.1 hg, ?_, b, ne_self (cmp_par y)⟩
      have hbr := rowC_brack (csOf y y.flatten.length)
      obtain ⟨F, hF⟩ := run_ok0 hg.1
      have hs := run_sum _ _ _ hF
      have hll : (csOf y y.flatten.length).length = y.flatten.length := by
        unfold csOf
        rw [List.length_map, List.length_range]
      have hle := rowC_len (csOf y y.flatten.length)
      rw [List.length_nil] at hs
      rw [y_eqS (brack_plain hbr) rfl (limA (by omega)) (limA (by decide))]
      congr 2
      refine decide_eq_false fun z => ?_
      rw [z] at hbr
      cases hbr
    · exact .inl ⟨row_by_none (r1.2 hg), r2.2 hg⟩
  | non => exact .inl ⟨row_by_none (rbp_not rfl), is_not rfl⟩
  | str => exact .inl ⟨row_by_none (rbp_not rfl), is_not rfl⟩
  | lst l => exact .inl ⟨row_by_none (rbp_not rfl), is_not rfl⟩
  | int => exact .inl ⟨row_by_none (rbp_not rfl), is_not rfl⟩
  | e1 => exact .inl ⟨row_by_none (rbp_odd (by omega) (by omega) blk1), is_odd (by omega) (.inl ⟨_, rfl⟩) rfl⟩
  | e2 => exact .inl ⟨row_by_none (rbp_odd (by omega) (by omega) blk2), is_odd (by omega) (.inr ⟨_, rfl⟩) rfl⟩
  | e3 => exact .inl ⟨row_by_none (rbp_odd (by omega) (by omega) blk3), is_odd3 (by omega) (by omega)⟩
end Bk
end
/-! T06 -/
section
set_option linter.all false
set_option autoImplicit false
set_option maxRecDepth 100000
namespace K06
open Bk
def b_law_1 : St := (sSeq (sSet 2 (eCall φ_l_row [(eVar 1), (eBin dIdx (eLst [(eCall φ_l_mix [(eVar 1), (eC (.int 9967)), (eC (.int 13))]), (eC (.int 20))]) (eUn bInt (eBin dEq (eBin dMod (eVar 1) (eC (.int 9))) (eC (.int 0)))))]))
  (sSeq (sSet 3 (eCall φ_parting_of [(eVar 2)]))
  (sSeq (sIf (tOr (tNot (tV (eCall φ_l_is_parting [(eVar 3)]))) (tOr (tE (eBin dNe (eVar 3) (eCall φ_l_parting [(eVar 2)]))) (tE (eBin dNe (eCall φ_row_by_parting [(eVar 3)]) (eVar 2))))) (sRet (eC (.bool false))) sSkip)
  (sIf (tV (eVar 2)) (sSeq (sSet 4 (eCall φ_l_spoilt6 [(eVar 3), (eVar 1)]))
  (sSeq (sSet 5 (eCall φ_l_row_by [(eVar 4)]))
  (sSeq (sIf (tE (eBin dNe (eBin dNotN (eVar 5) (eC .none)) (eCall φ_l_is_parting [(eVar 4)]))) (sRet (eC (.bool false))) sSkip)
  (sIf (tAnd (tE (eBin dNotN (eVar 5) (eC .none))) (tOr (tE (eBin dEq (eVar 5) (eC (.str [111, 116, 104, 101, 114])))) (tE (eBin dNe (eCall φ_parting_of [(eVar 5)]) (eVar 4))))) (sRet (eC (.bool false))) sSkip)))) sSkip))))
def b_law_2 : St := (sIf (tE (eBin dNotN (eCall φ_l_row_by [(eVar 4)]) (eC .none))) (sRet (eC (.bool false))) sSkip)
def g_law : St := (sSeq (sFor (iAny (eSlice (eVar 0) none (some (eC (.int 5))))) (gName 1) b_law_1)
  (sSeq (sFor (iAny (eLst [(eTup [(eTup [(eC (.int 0))]), (eTup [(eC (.bool true))])]), (eTup [(eTup [(eC (.int 0)), (eC (.bool true))])]), (eTup [(eLst [(eC (.int 0))])]), (eTup [(eTup [(eC (.int 0))]), (eLst [(eC (.int 1))])]), (eTup [(eC (.int 0))]), (eLst [(eTup [(eC (.int 0))])]), (eTup [(eTup [])]), (eTup [(eTup [(eC (.int 0))]), (eTup [])]), (eTup [(eTup [(eC (.str [48]))])])])) (gName 4) b_law_2)
  (sRet (eAnd (eBin dEq (eCall φ_parting_of [(eC (.str []))]) (eTup [])) (eBin dEq (eCall φ_row_by_parting [(eTup [])]) (eC (.str [])))))))
def φ_law : List D → Res D := runDef 6 g_law
end K06
end
/-! M06 -/
section
set_option linter.all false
set_option autoImplicit false
set_option maxRecDepth 100000
/-! M06: k06's mathematics -/
namespace K06
open Bk
def Sc (ns : List Int) (η : Env) : Prop := ∃ z1 z2 z3 z4 z5, η = [some (.dat (.lst (ns.map D.int))), z1, z2, z3, z4, z5]
/-- what is told of a drawn row -/
theorem row_facts {s : List Nat} {n : Nat} (hn : n ≤ 20) (hl : s.length = 2 * n) (hw : whole s = true) : ∃ x : List (List Nat),
    φ_parting_of [.str s] = .ok (parD x) ∧ φ_l_is_parting [parD x] = .ok (.bool true) ∧ φ_l_parting [.str s] = .ok (parD x) ∧ φ_row_by_parting [parD x] = .ok (.str s) ∧ (s ≠ [] → 0 < x.length) ∧ x.length ≤ 200 ∧ x.flatten.length ≤ 200 ∧ ∀ X, X ∈ x → X ≠ [] := by
  obtain ⟨cs, F, rfl, hF⟩ := whole_runs hw
  have hs := run_sum _ _ _ hF
  rw [List.length_nil] at hs
  have hle := rowC_len cs
  have hcl : cs.length = n := by omega
  have hp : (F.mergeSort leN).Perm F := List.mergeSort_perm _ _
  obtain ⟨h1, h2⟩ := nc_out hF hp
  have hb := cs_back hF hp
  have hfl : (F.mergeSort leN).flatten.length = cs.length := by
    have := h1.perm.length_eq
    rwa [List.length_range] at this
  have hxl : (F.mergeSort leN).length ≤ (F.mergeSort leN).flatten.length := by
    have hne := h1.ne
    generalize F.mergeSort leN = x at hne
    clear hfl hb h1 h2 hp
    induction x with
    | nil => exact Nat.zero_le _
    | cons X x ih =>
      have := ih fun Y hY => hne Y (List.mem_cons_of_mem _ hY)
      have h0 : 0 < X.length := List.length_pos_iff.mpr (hne X List.mem_cons_self)
      rw [List.length_cons, List.flatten_cons, List.length_append]
      omega
  have hg : Good (F.mergeSort leN) := ⟨by rw [hfl]; exact h1, h2, List.pairwise_mergeSort le_trans' le_total' F⟩
  have a1 := (rbp_of (x := F.mergeSort leN) (by omega) (by omega)).1 hg
  rw [hfl, hb] at a1
  refine ⟨F.mergeSort leN, a1.2, (is_of (by omega) (by omega)).1 hg, l_parting_of hF (by omega), a1.1, fun hne => ?_, by omega, by omega, h1.ne⟩
  have : 0 < (rowC cs).length := List.length_pos_iff.mpr hne
  cases hm : F.mergeSort leN with
  | nil =>
    rw [hm] at hfl
    have : ([] : List (List Nat)).flatten.length = 0 := rfl
    omega
  | cons a b =>
    rw [List.length_cons]
    omega
theorem turn1 {ns : List Int} {c : Int} {η : Env} (h : Sc ns η) : ∃ η1 η2, gName 1 (.int c) η = .ok η1 ∧ (b_law_1 η1 = .next η2 ∨ b_law_1 η1 = .ct η2) ∧ Sc ns η2 := by
  obtain ⟨z1, z2, z3, z4, z5, rfl⟩ := h
  obtain ⟨n, hn, hsz⟩ : ∃ n : Nat, n ≤ 20 ∧ at? [D.int (mix c 9967 13), D.int 20] (if c % 9 = 0 then 1 else 0) = some (nd n) := by
    by_cases h9 : c % 9 = 0
    · exact ⟨20, by omega, by rw [if_pos h9]; rfl⟩
    · obtain ⟨h1, h2⟩ := mix_range (c := c) (p := 9967) (m := 13) (by omega)
      refine ⟨(mix c 9967 13).toNat, by omega, ?_⟩
      rw [if_neg h9, ← nd_of h1]
      exact at_zero
  have m9 : ∀ z, dMod (.int z) (.int 9) = .ok (.int (z % 9)) := fun z => y_mod (by omega)
  have hmix := mix_of (c := c) (p := 9967) (m := 13) (by omega) (by omega)
  obtain ⟨s, hs, hls, hw⟩ := l_row_of c (n := n) (by omega)
  have hs : φ_l_row [.int c, nd n] = .ok (.str s) := hs
  obtain ⟨x, f1, f2, f3, f4, hpos, hx, hf, hne⟩ := row_facts hn hls hw
  have n1 : dNe (parD x) (parD x) = .ok (.bool false) := ne_self (cmp_par x)
  have pl := brack_plain (whole_iff.mp hw).1
  have n2 : dNe (.str s) (.str s) = .ok (.bool false) := by
    rw [y_neS pl pl (limA (by omega)) (limA (by omega))]
    simp
  have b1 : dNe (.bool false) (.bool false) = .ok (.bool false) := rfl
  have b2 : dNe (.bool true) (.bool true) = .ok (.bool false) := rfl
  have nn1 : dNotN .none .none = .ok (.bool false) := rfl
  have nn2 : dNotN (.str s) .none = .ok (.bool true) := rfl
  by_cases he : s = []
  · subst he
    refine ⟨_, [some (.dat (.lst (ns.map D.int))), some (.dat (.int c)), some (.dat (.str [])), some (.dat (parD x)), z4, z5], rfl, .inl ?_, ⟨_, _, _, _, _, rfl⟩⟩
    generalize nd n = NN at hsz hs
    generalize parD x = P at f1 f2 f3 f4 n1 ⊢
    generalize ns.map D.int = L
    show b_law_1 [some (.dat (.lst L)), some (.dat (.int c)), z2, z3, z4, z5] = _
    simp [b_law_1, hmix, m9, hsz, hs, f1, f2, f3, f4, n1, n2]
  · obtain ⟨d, hd, hsp⟩ := spoilt_of (hpos he) hx hf hne c
    obtain ⟨a, s', rfl⟩ : ∃ a s', s = a :: s' := by
      cases s with
      | nil => exact absurd rfl he
      | cons a s' => exact ⟨a, s', rfl⟩
    have hlim : s'.length + 1 ≤ lim := limA (by
      rw [List.length_cons] at hls
      omega)
    rcases told_of hsp hx hf with ⟨t1, t2⟩ | ⟨r, t1, t2, t3, t4, t5⟩
    · refine ⟨_, [some (.dat (.lst (ns.map D.int))), some (.dat (.int c)), some (.dat (.str (a :: s'))), some (.dat (parD x)), some (.dat d), some (.dat .none)], rfl, .inl ?_, ⟨_, _, _, _, _, rfl⟩⟩
      generalize nd n = NN at hsz hs
      generalize parD x = P at f1 f2 f3 f4 n1 hd ⊢
      generalize ns.map D.int = L
      show b_law_1 [some (.dat (.lst L)), some (.dat (.int c)), z2, z3, z4, z5] = _
      simp [b_law_1, hmix, m9, hsz, hs, f1, f2, f3, f4, n1, n2, hd, t1, t2, b1, b2, nn1, hlim]
    · have nn3 : dNotN (.str r) .none = .ok (.bool true) := rfl
      refine ⟨_, [some (.dat (.lst (ns.map D.int))), some (.dat (.int c)), some (.dat (.str (a :: s'))), some (.dat (parD x)), some (.dat d), some (.dat (.str r))], rfl, .inl ?_, ⟨_, _, _, _, _, rfl⟩⟩
      generalize nd n = NN at hsz hs
      generalize parD x = P at f1 f2 f3 f4 n1 hd ⊢
      generalize ns.map D.int = L
      show b_law_1 [some (.dat (.lst L)), some (.dat (.int c)), z2, z3, z4, z5] = _
      simp [b_law_1, hmix, m9, hsz, hs, f1, f2, f3, f4, n1, n2, hd, t1, t2, t3, t4, t5, b1, b2, nn3, hlim]
theorem turn2 {ns : List Int} {d : D} (hd : φ_row_by_parting [d] = .raise .noRow) {η : Env} (h : Sc ns η) : ∃ η1 η2, gName 4 d η = .ok η1 ∧ (b_law_2 η1 = .next η2 ∨ b_law_2 η1 = .ct η2) ∧ Sc ns η2 := by
  obtain ⟨z1, z2, z3, z4, z5, rfl⟩ := h
  have h := row_by_none hd
  have nn1 : dNotN .none .none = .ok (.bool false) := rfl
  refine ⟨_, [some (.dat (.lst (ns.map D.int))), z1, z2, z3, some (.dat d), z5], rfl, .inl ?_, ⟨_, _, _, _, _, rfl⟩⟩
  generalize ns.map D.int = L
  show b_law_2 [some (.dat (.lst L)), z1, z2, z3, some (.dat d), z5] = _
  simp [b_law_2, h, nn1]
def oddL : List D := [.tup [.tup [.int 0], .tup [.bool true]], .tup [.tup [.int 0, .bool true]], .tup [.lst [.int 0]], .tup [.tup [.int 0], .lst [.int 1]], .tup [.int 0], .lst [.tup [.int 0]], .tup [.tup []], .tup [.tup [.int 0], .tup []], .tup [.tup [.str [48]]]]
theorem odd_all : ∀ d, d ∈ oddL → φ_row_by_parting [d] = .raise .noRow := by
  intro d hd
  unfold oddL at hd
  simp only [List.mem_cons, List.not_mem_nil, or_false] at hd
  rcases hd with rfl | rfl | rfl | rfl | rfl | rfl | rfl | rfl | rfl
  · exact rbp_odd (x := [[0]]) (by decide) (by decide) blk3
  · exact rbp_odd (x := []) (by decide) (by decide) blk4
  · exact rbp_odd (x := []) (by decide) (by decide) blk5
  · exact rbp_odd (x := [[0]]) (by decide) (by decide) blk6
  · exact rbp_odd (x := []) (by decide) (by decide) blk7
  · exact rbp_not rfl
  · exact rbp_odd (x := []) (by decide) (by decide) blk1
  · exact rbp_odd (x := [[0]]) (by decide) (by decide) blk1
  · exact rbp_odd (x := []) (by decide) (by decide) blk8
theorem law_holds (ns : List Int) (hl : ns.length ≤ 63) (hb : ∀ z ∈ ns, z.natAbs.log2 ≤ 1048576) : φ_law [.lst (ns.map D.int)] = .ok (.bool true) := by
  refine run_of (g := g_law) ?_
  have hcut : cut (ns.map D.int) none (some 5) = (ns.take 5).map D.int := by
    have := cut_to (ns.map D.int) 5
    rw [← List.map_take] at this
    exact this
  obtain ⟨η1, e1, ⟨z1, z2, z3, z4, z5, rfl⟩⟩ := loop_all (g := gName 1) (b := b_law_1) (Sc ns) ((ns.take 5).map D.int) (η := [some (.dat (.lst (ns.map D.int))), none, none, none, none, none]) ⟨_, _, _, _, _, rfl⟩ (fun d hd η hη => by
    rw [List.mem_map] at hd
    obtain ⟨c, hc, rfl⟩ := hd
    exact turn1 hη)
  obtain ⟨η2, e2, ⟨y1, y2, y3, y4, y5, rfl⟩⟩ := loop_all (g := gName 4) (b := b_law_2) (Sc ns) oddL (η := [some (.dat (.lst (ns.map D.int))), z1, z2, z3, z4, z5]) ⟨_, _, _, _, _, rfl⟩ (fun d hd η hη => turn2 (odd_all d hd) hη)
  unfold oddL at e2
  have g0 : Good [] := ⟨⟨fun X hX => (nomatch hX), fun X hX => (nomatch hX), List.Perm.refl _⟩, fun X hX => (nomatch hX), List.Pairwise.nil⟩
  obtain ⟨a1, a2⟩ := (rbp_of (x := []) (by decide) (by decide)).1 g0
  have a1 : φ_row_by_parting [.tup []] = .ok (.str []) := a1
  have a2 : φ_parting_of [.str []] = .ok (.tup []) := a2
  have e6 : dEq (.tup []) (.tup []) = .ok (.bool true) := rfl
  have e8 : dEq (.str []) (.str []) = .ok (.bool true) := rfl
  generalize (ns.take 5).map D.int = L6 at hcut e1
  simp [g_law, hcut, e1, e2, a1, a2, e6, e8]
end K06
end
/-! W06 -/
set_option Elab.async false
set_option linter.all false
set_option autoImplicit false
set_option maxRecDepth 100000
set_option maxHeartbeats 4000000
namespace K06
open Bk PySem PySem.Spec PyProof.Rows L2
open Bk (pv pe_weak pt_weak)
def topS (i : Nat) : Stmt := PySem.Challenge.pw_bracketnumbers_k06_whole_partings.main.body.getD i (.Pass ⟨0, 0, 0, 0⟩)
abbrev s_parting_of : Stmt := topS 5
abbrev s_is_block : Stmt := topS 6
abbrev s_row_by_parting : Stmt := topS 7
abbrev s_l_cell : Stmt := topS 9
abbrev s_l_mix : Stmt := topS 10
abbrev s_l_row : Stmt := topS 11
abbrev s_l_whole : Stmt := topS 12
abbrev s_l_is_parting : Stmt := topS 13
abbrev s_l_crosses : Stmt := topS 14
abbrev s_l_parting : Stmt := topS 15
abbrev s_l_row_by : Stmt := topS 16
abbrev s_l_spoilt6 : Stmt := topS 17
abbrev s_law : Stmt := topS 18
theorem sc_parting_of : FnScope ["row", "found", "opened", "block", "many", "sign"] ["row"] (defScope s_parting_of) := ⟨rfl, rfl, rfl, by decide +kernel, rfl, by decide +kernel, by decide +kernel⟩
theorem sc_is_block : FnScope ["thing", "one"] ["thing"] (defScope s_is_block) := ⟨rfl, rfl, rfl, by decide +kernel, rfl, by decide +kernel, by decide +kernel⟩
theorem sc_row_by_parting : FnScope ["parting", "block", "sizes", "points", "row", "point"] ["parting"] (defScope s_row_by_parting) := ⟨rfl, rfl, rfl, by decide +kernel, rfl, by decide +kernel, by decide +kernel⟩
theorem sc_l_cell : FnScope ["_law_script", "_law_k"] ["_law_script", "_law_k"] (defScope s_l_cell) := ⟨rfl, rfl, rfl, by decide +kernel, rfl, by decide +kernel, by decide +kernel⟩
theorem sc_l_mix : FnScope ["_law_cell_here", "_law_prime", "_law_many"] ["_law_cell_here", "_law_prime", "_law_many"] (defScope s_l_mix) := ⟨rfl, rfl, rfl, by decide +kernel, rfl, by decide +kernel, by decide +kernel⟩
theorem sc_l_row : FnScope ["_law_cell_here", "_law_size", "_law_row_here", "_law_high", "_law_k", "_law_left"] ["_law_cell_here", "_law_size"] (defScope s_l_row) := ⟨rfl, rfl, rfl, by decide +kernel, rfl, by decide +kernel, by decide +kernel⟩
theorem sc_l_whole : FnScope ["_law_found"] ["_law_found"] (defScope s_l_whole) := ⟨rfl, rfl, rfl, by decide +kernel, rfl, by decide +kernel, by decide +kernel⟩
theorem sc_l_is_parting : FnScope ["_law_thing", "_law_block", "_law_points", "_law_point", "_law_home", "_law_k"] ["_law_thing"] (defScope s_l_is_parting) := ⟨rfl, rfl, rfl, by decide +kernel, rfl, by decide +kernel, by decide +kernel⟩
theorem sc_l_crosses : FnScope ["_law_home", "_law_many", "_law_b", "_law_c", "_law_ahead", "_law_behind", "_law_a", "_law_d"] ["_law_home", "_law_many"] (defScope s_l_crosses) := ⟨rfl, rfl, rfl, by decide +kernel, rfl, by decide +kernel, by decide +kernel⟩
theorem sc_l_parting : FnScope ["_law_row_here", "_law_opened", "_law_blocks", "_law_many", "_law_at", "_law_sign", "_law_block"] ["_law_row_here"] (defScope s_l_parting) := ⟨rfl, rfl, rfl, by decide +kernel, rfl, by decide +kernel, by decide +kernel⟩
theorem sc_l_row_by : FnScope ["_law_thing", "_law_found", "e"] ["_law_thing"] (defScope s_l_row_by) := ⟨rfl, rfl, rfl, by decide +kernel, rfl, by decide +kernel, by decide +kernel⟩
theorem sc_l_spoilt6 : FnScope ["_law_parting_here", "_law_cell_here", "_law_rows", "_law_block", "_law_one", "_law_other", "_law_way", "_law_point"] ["_law_parting_here", "_law_cell_here"] (defScope s_l_spoilt6) := ⟨rfl, rfl, rfl, by decide +kernel, rfl, by decide +kernel, by decide +kernel⟩
theorem sc_law : FnScope ["_law_script", "_law_cell_here", "_law_row_here", "_law_found", "_law_bad", "_law_told"] ["_law_script"] (defScope s_law) := ⟨rfl, rfl, rfl, by decide +kernel, rfl, by decide +kernel, by decide +kernel⟩
section
variable {P : Program} {w : World} {K : PySem.W.Frag} {mg : Str → Option Value} {base : Heap} {cl : Cls → Addr} {k : Nat} (M : Bi mg)
include M
theorem ok_parting_of (F : Has K mg "parting_of" s_parting_of ["row"]) : DefOk P w K mg base cl (k + 1) "parting_of" 1 φ_parting_of :=
  F.ok sc_parting_of rfl fun cdv A outer s H E G fa hr hu hu1 hu12 => (ss_cons (s_new 1 sc_parting_of.nd pas_nil)
  (ss_cons (s_new 2 sc_parting_of.nd pas_nil)
  (ss_cons (s_new 3 sc_parting_of.nd pas_nil)
  (ss_cons (s_set 4 sc_parting_of.nd pv_int)
  (ss_cons (s_for (passes_of rfl) rfl (pi_any (pv_add (pv 0) (pv_str [40]))) (pg_n 5 [5] sc_parting_of.nd)
  (ss_one (s_if (tv_cmp (od_eq hu) (pv 5) (pv_str [40])) (ss_cons (s_if (tv_own 3) (ss_cons (s_app 1 (pv_t1 cu_tuple M.m_tuple (pv_b1O 3 (cu_sorted hu12) M.m_sorted)))
  (ss_one (s_new 3 sc_parting_of.nd pas_nil))) ss_nil)
  (ss_cons (s_app 2 (pv 4))
  (ss_one (s_set 4 sc_parting_of.nd (pv_add (pv 4) pv_int))))) (ss_one (s_appPop 3 2)))))
  (ss_one (s_ret (pv_t1 cu_tuple M.m_tuple (pv_b1O 1 (cu_sorted hu12) M.m_sorted)))))))))
theorem ok_is_block (F : Has K mg "is_block" s_is_block ["thing"]) : DefOk P w K mg base cl (k + 1) "is_block" 1 φ_is_block :=
  F.ok sc_is_block rfl fun cdv A outer s H E G fa hr hu hu1 hu12 => (ss_cons (s_if (tw_pt (tw_or (tv_not (tv_truth (pv_isi .tuple M.m_isinstance M.m_tuple (pv 0)))) (tw_one0 (tv_cmp (od_eq hu) (pv_b1 cu_len M.m_len (pv 0)) pv_int)))) (ss_one (s_ret pv_bl)) ss_nil)
  (ss_cons (s_if (tv_not (tv_truth (pv_b1 (cu_all rfl) M.m_all (pv_lc [("one", 1)] rfl sc_is_block.nd (pi_any (pv 0)) (blkOk_by (N := ["thing", "one"]) (sc := defScope s_is_block) (by decide +kernel)) (fun _ _ _ _ _ => (pg_n 1 [1] sc_is_block.nd)) (fun _ _ _ _ _ => pts_y) (fun _ _ _ _ _ => (pv_and (pv_isi .int M.m_isinstance M.m_int (pv 1)) (pv_and (pv_not (pv_isi .bool M.m_isinstance M.m_bool (pv 1))) (pv_last (pv_cmp od_ge (pv 1) pv_int))))))))) (ss_one (s_ret pv_bl)) ss_nil)
  (ss_one (s_ret (pv_cmp (od_eq hu) (pv_t1 cu_list M.m_list (pv 0)) (pv_b1 (cu_sorted hu12) M.m_sorted (pv 0)))))))
theorem ok_row_by_parting (XE : Errs K mg cl) (F : Has K mg "row_by_parting" s_row_by_parting ["parting"]) (c_is_block : DefOk P w K mg base cl k "is_block" 1 φ_is_block) (c_parting_of : DefOk P w K mg base cl k "parting_of" 1 φ_parting_of) : DefOk P w K mg base cl (k + 1) "row_by_parting" 1 φ_row_by_parting :=
  F.ok sc_row_by_parting rfl fun cdv A outer s H E G fa hr hu hu1 hu12 => (ss_cons (s_if (tw_pt (tw_or (tv_not (tv_truth (pv_isi .tuple M.m_isinstance M.m_tuple (pv 0)))) (tw_one0 (tv_not (tv_truth (pv_b1 (cu_all rfl) M.m_all (pv_lc [("block", 1)] rfl sc_row_by_parting.nd (pi_any (pv 0)) (blkOk_by (N := ["parting", "block", "sizes", "points", "row", "point"]) (sc := defScope s_row_by_parting) (by decide +kernel)) (fun _ _ _ _ _ => (pg_n 1 [1] sc_row_by_parting.nd)) (fun _ _ _ _ _ => pts_y) (fun _ _ _ _ _ => (pv_call c_is_block hr passL (pas_cons (pv 1) pas_nil)))))))))) (ss_one (s_raise (c := .noRow) XE.r (takes_of rfl rfl rfl rfl))) ss_nil)
  (ss_cons (s_newD 2 sc_row_by_parting.nd)
  (ss_cons (s_new 3 sc_row_by_parting.nd pas_nil)
  (ss_cons (s_for (passes_of rfl) rfl (pi_any (pv 0)) (pg_n 1 [1] sc_row_by_parting.nd)
  (ss_cons (s_ext 3 (pv 1))
  (ss_one (s_put 2 hu1 (pv_ix (pv 1) (pv_neg pv_int)) (pv_b1 cu_len M.m_len (pv 1))))))
  (ss_cons (s_if (tv_cmp (od_ne hu) (pv_b1O 3 (cu_sorted hu12) M.m_sorted) (pv_listRange M.m_list M.m_range (pv_b1O 3 cu_len M.m_len))) (ss_one (s_raise (c := .noRow) XE.r (takes_of rfl rfl rfl rfl))) ss_nil)
  (ss_cons (s_set 4 sc_row_by_parting.nd (pv_join (pv_str []) (pv_lc [("point", 5)] rfl sc_row_by_parting.nd (pi_rng1 M.m_range (pv_b1O 3 cu_len M.m_len)) (blkOk_by (N := ["parting", "block", "sizes", "points", "row", "point"]) (sc := defScope s_row_by_parting) (by decide +kernel)) (fun _ _ _ _ _ => (pg_n 5 [5] sc_row_by_parting.nd)) (fun _ _ _ _ _ => pts_y) (fun _ _ _ _ _ => (pv_add (pv_str [40]) (pv_mul (pv_str [41]) (pv_dget2 2 hu1 (pv 5) pv_int)))))))
  (ss_cons (s_if (tv_cmp (od_ne hu) (pv_call c_parting_of hr pass1 (pas_cons (pv 4) pas_nil)) (pv 0)) (ss_one (s_raise (c := .noRow) XE.r (takes_of rfl rfl rfl rfl))) ss_nil)
  (ss_one (s_ret (pv 4))))))))))
theorem ok_l_cell (F : Has K mg "_law_cell" s_l_cell ["_law_script", "_law_k"]) : DefOk P w K mg base cl (k + 1) "_law_cell" 2 φ_l_cell :=
  F.ok sc_l_cell rfl fun cdv A outer s H E G fa hr hu hu1 hu12 => (ss_cons (s_if (tv_cmp od_lt (pv 1) (pv_b1 cu_len M.m_len (pv 0))) (ss_one (s_ret (pv_ix (pv 0) (pv 1)))) ss_nil)
  (ss_one (s_ret pv_int)))
theorem ok_l_mix (F : Has K mg "_law_mix" s_l_mix ["_law_cell_here", "_law_prime", "_law_many"]) : DefOk P w K mg base cl (k + 1) "_law_mix" 3 φ_l_mix :=
  F.ok sc_l_mix rfl fun cdv A outer s H E G fa hr hu hu1 hu12 => (ss_one (s_ret (pv_mod (pv_mod (pv_mul (pv 0) pv_int) (pv 1)) (pv 2))))
theorem ok_l_row (F : Has K mg "_law_row" s_l_row ["_law_cell_here", "_law_size"]) (c_l_mix : DefOk P w K mg base cl k "_law_mix" 3 φ_l_mix) : DefOk P w K mg base cl (k + 1) "_law_row" 2 φ_l_row :=
  F.ok sc_l_row rfl fun cdv A outer s H E G fa hr hu hu1 hu12 => (ss_cons (s_set 2 sc_l_row.nd (pv_str []))
  (ss_cons (s_set 3 sc_l_row.nd pv_int)
  (ss_cons (s_for (passes_of rfl) rfl (pi_rng1 M.m_range (pv_mul pv_int (pv 1))) (pg_n 4 [4] sc_l_row.nd)
  (ss_cons (s_set 5 sc_l_row.nd (pv_sub (pv_mul pv_int (pv 1)) (pv 4)))
  (ss_one (s_if (tw_pt (tw_or (tv_cmp (od_eq hu) (pv 3) pv_int) (tw_one0 (tw_pt (tw_and (tv_cmp od_lt (pv 3) (pv 5)) (tw_one1 (tv_cmp od_lt (pv_call c_l_mix hr pass1 (pas_cons (pv_add (pv 0) (pv_mul pv_int (pv 4))) (pas_cons pv_int (pas_cons pv_int pas_nil)))) pv_int))))))) (ss_cons (s_set 2 sc_l_row.nd (pv_add (pv 2) (pv_str [40])))
  (ss_one (s_set 3 sc_l_row.nd (pv_add (pv 3) pv_int)))) (ss_cons (s_set 2 sc_l_row.nd (pv_add (pv 2) (pv_str [41])))
  (ss_one (s_set 3 sc_l_row.nd (pv_sub (pv 3) pv_int))))))))
  (ss_one (s_ret (pv 2))))))
theorem ok_l_whole (F : Has K mg "_law_whole" s_l_whole ["_law_found"]) : DefOk P w K mg base cl (k + 1) "_law_whole" 1 φ_l_whole :=
  F.ok sc_l_whole rfl fun cdv A outer s H E G fa hr hu hu1 hu12 => (ss_one (s_ret (pv_and (pv_isi .int M.m_isinstance M.m_int (pv 0)) (pv_last (pv_not (pv_isi .bool M.m_isinstance M.m_bool (pv 0)))))))
theorem ok_l_is_parting (F : Has K mg "_law_is_parting" s_l_is_parting ["_law_thing"]) (c_l_whole : DefOk P w K mg base cl k "_law_whole" 1 φ_l_whole) (c_l_crosses : DefOk P w K mg base cl k "_law_crosses" 2 φ_l_crosses) : DefOk P w K mg base cl (k + 1) "_law_is_parting" 1 φ_l_is_parting :=
  F.ok sc_l_is_parting rfl fun cdv A outer s H E G fa hr hu hu1 hu12 => (ss_cons (s_if (tw_pt (tw_or (tv_not (tv_truth (pv_isi .tuple M.m_isinstance M.m_tuple (pv 0)))) (tw_one0 (tv_not (tv_truth (pv_b1 (cu_all rfl) M.m_all (pv_lc [("_law_block", 1)] rfl sc_l_is_parting.nd (pi_any (pv 0)) (blkOk_by (N := ["_law_thing", "_law_block", "_law_points", "_law_point", "_law_home", "_law_k"]) (sc := defScope s_l_is_parting) (by decide +kernel)) (fun _ _ _ _ _ => (pg_n 1 [1] sc_l_is_parting.nd)) (fun _ _ _ _ _ => pts_y) (fun _ _ _ _ _ => (pv_and (pv_isi .tuple M.m_isinstance M.m_tuple (pv 1)) (pv_last (pv_cmp od_gt (pv_b1 cu_len M.m_len (pv 1)) pv_int))))))))))) (ss_one (s_ret pv_bl)) ss_nil)
  (ss_cons (s_new 2 sc_l_is_parting.nd pas_nil)
  (ss_cons (s_for (passes_of rfl) rfl (pi_any (pv 0)) (pg_n 1 [1] sc_l_is_parting.nd)
  (ss_cons (s_if (tv_not (tv_truth (pv_b1 (cu_all rfl) M.m_all (pv_lc [("_law_point", 3)] rfl sc_l_is_parting.nd (pi_any (pv 1)) (blkOk_by (N := ["_law_thing", "_law_block", "_law_points", "_law_point", "_law_home", "_law_k"]) (sc := defScope s_l_is_parting) (by decide +kernel)) (fun _ _ _ _ _ => (pg_n 3 [3] sc_l_is_parting.nd)) (fun _ _ _ _ _ => pts_y) (fun _ _ _ _ _ => (pv_call c_l_whole hr passL (pas_cons (pv 3) pas_nil))))))) (ss_one (s_ret pv_bl)) ss_nil)
  (ss_one (s_ext 2 (pv_t1 cu_list M.m_list (pv 1))))))
  (ss_cons (s_if (tw_pt (tw_or (tv_cmp (od_ne hu) (pv_b1O 2 (cu_sorted hu12) M.m_sorted) (pv_listRange M.m_list M.m_range (pv_b1O 2 cu_len M.m_len))) (tw_one0 (tv_cmp (od_ne hu) (pv_t1 cu_list M.m_list (pv 0)) (pv_b1 (cu_sorted hu12) M.m_sorted (pv 0)))))) (ss_one (s_ret pv_bl)) ss_nil)
  (ss_cons (s_newD 4 sc_l_is_parting.nd)
  (ss_cons (s_for (passes_of rfl) rfl (pi_enumT M.m_enumerate (pv 0)) (pg_2 [5, 1] rfl (pg_name (i := 5) sc_l_is_parting.nd rfl (by first | exact .inl rfl | exact .inr rfl) (by first | exact .inl rfl | exact .inr rfl)) (pg_name (i := 1) sc_l_is_parting.nd rfl (by first | exact .inl rfl | exact .inr rfl) (by first | exact .inl rfl | exact .inr rfl)))
  (ss_cons (s_if (tv_cmp (od_ne hu) (pv_t1 cu_list M.m_list (pv 1)) (pv_b1 (cu_sorted hu12) M.m_sorted (pv 1))) (ss_one (s_ret pv_bl)) ss_nil)
  (ss_one (s_for (passes_of rfl) rfl (pi_any (pv 1)) (pg_n 3 [3] sc_l_is_parting.nd)
  (ss_one (s_put 4 hu1 (pv 3) (pv 5)))))))
  (ss_one (s_frz 4 (s_ret (pv_not (pv_call c_l_crosses hr pass1 (pas_cons (pv 4) (pas_cons (pv_b1O 2 cu_len M.m_len) pas_nil)))))))))))))
theorem ok_l_crosses (F : Has K mg "_law_crosses" s_l_crosses ["_law_home", "_law_many"]) : DefOk P w K mg base cl (k + 1) "_law_crosses" 2 φ_l_crosses :=
  F.ok sc_l_crosses rfl fun cdv A outer s H E G fa hr hu hu1 hu12 => (ss_cons (s_for (passes_of rfl) rfl (pi_rng1 M.m_range (pv 1)) (pg_n 2 [2] sc_l_crosses.nd)
  (ss_one (s_for (passes_of rfl) rfl (pi_rng2 M.m_range (pv_add (pv 2) pv_int) (pv 1)) (pg_n 3 [3] sc_l_crosses.nd)
  (ss_one (s_if (tv_cmp (od_ne hu) (pv_didx hu1 (pv 0) (pv 2)) (pv_didx hu1 (pv 0) (pv 3))) (ss_cons (s_setLc 4 [("_law_a", 6)] rfl sc_l_crosses.nd (pi_rng1 M.m_range (pv 2)) (blkOk_by (N := ["_law_home", "_law_many", "_law_b", "_law_c", "_law_ahead", "_law_behind", "_law_a", "_law_d"]) (sc := defScope s_l_crosses) (by decide +kernel)) (fun _ _ _ _ _ => (pg_n 6 [6] sc_l_crosses.nd)) (fun _ _ _ _ _ => (pts_1 (tv_cmp (od_eq hu) (pv_didx hu1 (pv 0) (pv 6)) (pv_didx hu1 (pv 0) (pv 3))))) (fun _ _ _ _ _ => (pv 6)))
  (ss_cons (s_setLc 5 [("_law_d", 7)] rfl sc_l_crosses.nd (pi_rng2 M.m_range (pv_add (pv 3) pv_int) (pv 1)) (blkOk_by (N := ["_law_home", "_law_many", "_law_b", "_law_c", "_law_ahead", "_law_behind", "_law_a", "_law_d"]) (sc := defScope s_l_crosses) (by decide +kernel)) (fun _ _ _ _ _ => (pg_n 7 [7] sc_l_crosses.nd)) (fun _ _ _ _ _ => (pts_1 (tv_cmp (od_eq hu) (pv_didx hu1 (pv 0) (pv 7)) (pv_didx hu1 (pv 0) (pv 2))))) (fun _ _ _ _ _ => (pv 7)))
  (ss_one (s_if (tw_pt (tw_and (tv_truth (pv 4)) (tw_one1 (tv_truth (pv 5))))) (ss_one (s_ret pv_bl)) ss_nil)))) ss_nil)))))
  (ss_one (s_ret pv_bl)))
theorem ok_l_parting (F : Has K mg "_law_parting" s_l_parting ["_law_row_here"]) : DefOk P w K mg base cl (k + 1) "_law_parting" 1 φ_l_parting :=
  F.ok sc_l_parting rfl fun cdv A outer s H E G fa hr hu hu1 hu12 => (ss_cons (s_new 1 sc_l_parting.nd pas_nil)
  (ss_cons (s_new 2 sc_l_parting.nd pas_nil)
  (ss_cons (s_set 3 sc_l_parting.nd pv_int)
  (ss_cons (s_for (passes_of rfl) rfl (pi_enumS M.m_enumerate (pv 0)) (pg_2 [4, 5] rfl (pg_name (i := 4) sc_l_parting.nd rfl (by first | exact .inl rfl | exact .inr rfl) (by first | exact .inl rfl | exact .inr rfl)) (pg_name (i := 5) sc_l_parting.nd rfl (by first | exact .inl rfl | exact .inr rfl) (by first | exact .inl rfl | exact .inr rfl)))
  (ss_one (s_if (tv_cmp (od_eq hu) (pv 5) (pv_str [40])) (ss_cons (s_app 1 (pv 3))
  (ss_one (s_set 3 sc_l_parting.nd (pv_add (pv 3) pv_int)))) (ss_one (s_if (tv_cmp (od_eq hu) (pv_ix (pv 0) (pv_sub (pv 4) pv_int)) (pv_str [40])) (ss_one (s_ooNew 2 1)) (ss_one (s_ooApp 2 1 (hi := pv_neg pv_int))))))))
  (ss_one (s_frz 2 (s_ret (pv_t1 cu_tuple M.m_tuple (pv_b1 (cu_sorted hu12) M.m_sorted (pv_lc [("_law_block", 6)] rfl sc_l_parting.nd (pi_any (pv 2)) (blkOk_by (N := ["_law_row_here", "_law_opened", "_law_blocks", "_law_many", "_law_at", "_law_sign", "_law_block"]) (sc := defScope s_l_parting) (by decide +kernel)) (fun _ _ _ _ _ => (pg_n 6 [6] sc_l_parting.nd)) (fun _ _ _ _ _ => pts_y) (fun _ _ _ _ _ => (pv_t1 cu_tuple M.m_tuple (pv_b1 (cu_sorted hu12) M.m_sorted (pv 6))))))))))))))
theorem ok_l_row_by {BE : Addr} (XI : ErrI K mg cl BE) (F : Has K mg "_law_row_by" s_l_row_by ["_law_thing"]) (c_row_by_parting : DefOk P w K mg base cl k "row_by_parting" 1 φ_row_by_parting) : DefOk P w K mg base cl (k + 1) "_law_row_by" 1 φ_l_row_by :=
  F.ok sc_l_row_by rfl fun cdv A outer s H E G fa hr hu hu1 hu12 => (ss_cons (s_set 1 sc_l_row_by.nd (pv_str [111, 116, 104, 101, 114]))
  (ss_cons (s_tryAs XI sc_l_row_by.nd takes0 (fun W pn xe tk => ss_oneW (s_setW 1 sc_l_row_by.nd (pv_callW c_row_by_parting hr tk (pas_cons (pv 0) pas_nil)))) (fun c a oe pn hz hf => match c, a, oe, pn, hz, hf with | .noPlace, a, oe, pn, hz, hf => su_if 1 sc_l_row_by.nd (rT_and (rT_of (pe_isO (XI.c .noPlace) hz hf M.m_isinstance XI.r XI.pr)) (rT_of (pe_isO (XI.c .noPlace) hz hf M.m_isinstance XI.p XI.pp)) (rT_of (pe_isV (XI.c .noPlace) hz hf M.m_isinstance XI.ve (XI.v _)))) | .noRow, a, oe, pn, hz, hf => su_if 1 sc_l_row_by.nd (rT_and (rT_of (pe_isO (XI.c .noRow) hz hf M.m_isinstance XI.r XI.rr)) (rT_of (pe_isO (XI.c .noRow) hz hf M.m_isinstance XI.p XI.rp)) (rT_of (pe_isV (XI.c .noRow) hz hf M.m_isinstance XI.ve (XI.v _))))))
  (ss_one (s_ret (pv 1)))))
theorem ok_l_spoilt6 (F : Has K mg "_law_spoilt" s_l_spoilt6 ["_law_parting_here", "_law_cell_here"]) : DefOk P w K mg base cl (k + 1) "_law_spoilt" 2 φ_l_spoilt6 :=
  F.ok sc_l_spoilt6 rfl fun cdv A outer s H E G fa hr hu hu1 hu12 => (ss_cons (s_ooLists 2 3 rfl sc_l_spoilt6.nd (pi_any (pv 0)) (blkOk_by (N := ["_law_parting_here", "_law_cell_here", "_law_rows", "_law_block", "_law_one", "_law_other", "_law_way", "_law_point"]) (sc := defScope s_l_spoilt6) (by decide +kernel)) (fun _ _ _ _ _ => (pg_n 3 [3] sc_l_spoilt6.nd)) (fun _ _ _ _ _ => pe_listVar 3 M.m_list))
  (ss_cons (s_set 4 sc_l_spoilt6.nd (pv_mod (pv_div (pv 1) pv_int) (pv_ooLen 2 M.m_len)))
  (ss_cons (s_set 5 sc_l_spoilt6.nd (pv_mod (pv_div (pv 1) pv_int) (pv_ooLen 2 M.m_len)))
  (ss_cons (s_set 6 sc_l_spoilt6.nd (pv_mod (pv 1) pv_int))
  (ss_cons (s_if (tv_cmp (od_eq hu) (pv 6) pv_int) (ss_one (s_ret (pv_addA (pv_sl (pv 0) ps0 (ps1 (pv 4))) (pv_sl (pv 0) (ps1 (pv_add (pv 4) pv_int)) ps0)))) ss_nil)
  (ss_cons (s_if (tv_cmp (od_eq hu) (pv 6) pv_int) (ss_one (s_ooSwap 2 4 5 (hm1 := pv_neg pv_int) (hm2 := pv_neg pv_int) (h01 := pv_int) (h02 := pv_int))) ss_nil)
  (ss_cons (s_if (tv_cmp (od_eq hu) (pv 6) pv_int) (ss_one (s_ooMove 2 4 5)) ss_nil)
  (ss_cons (s_if (tv_cmp (od_eq hu) (pv 6) pv_int) (ss_one (s_ret (pv_tupRev M.m_tuple M.m_reversed (pv 0)))) ss_nil)
  (ss_cons (s_if (tv_cmp (od_eq hu) (pv 6) pv_int) (ss_one (s_ooRev 2 4)) ss_nil)
  (ss_cons (s_if (tv_cmp (od_eq hu) (pv 6) pv_int) (ss_one (s_ret (pv_ix (pv_lst (pas_cons pv_non (pas_cons (pv_str [48, 49]) (pas_cons (pv_t1 cu_list M.m_list (pv 0)) (pas_cons (pv_add (pv 0) (pv_tup (pas_cons (pv_tup pas_nil) pas_nil))) (pas_cons (pv_add (pv 0) (pv_tup (pas_cons (pv_lst (pas_cons pv_int pas_nil)) pas_nil))) (pas_cons (pv_add (pv 0) (pv_tup (pas_cons (pv_tup (pas_cons pv_bl pas_nil)) pas_nil))) (pas_cons pv_int pas_nil)))))))) (pv_mod (pv 4) pv_int)))) ss_nil)
  (ss_cons (s_if (tv_cmp (od_eq hu) (pv 6) pv_int) (ss_one (s_frz 2 (s_ret (pv_t1 cu_tuple M.m_tuple (pv_lc [("_law_point", 7)] rfl sc_l_spoilt6.nd (pi_rng1 M.m_range (pv_b1 (cu_sum rfl) M.m_sum (pv_lc [("_law_block", 3)] rfl sc_l_spoilt6.nd (pi_any (pv 2)) (blkOk_by (N := ["_law_parting_here", "_law_cell_here", "_law_rows", "_law_block", "_law_one", "_law_other", "_law_way", "_law_point"]) (sc := defScope s_l_spoilt6) (by decide +kernel)) (fun _ _ _ _ _ => (pg_n 3 [3] sc_l_spoilt6.nd)) (fun _ _ _ _ _ => pts_y) (fun _ _ _ _ _ => (pv_b1 cu_len M.m_len (pv 3)))))) (blkOk_by (N := ["_law_parting_here", "_law_cell_here", "_law_rows", "_law_block", "_law_one", "_law_other", "_law_way", "_law_point"]) (sc := defScope s_l_spoilt6) (by decide +kernel)) (fun _ _ _ _ _ => (pg_n 7 [7] sc_l_spoilt6.nd)) (fun _ _ _ _ _ => pts_y) (fun _ _ _ _ _ => (pv_tup (pas_cons (pv 7) pas_nil)))))))) ss_nil)
  (ss_cons (s_if (tv_cmp od_lt (pv 6) pv_int) (ss_one (s_frz 2 (s_set 2 sc_l_spoilt6.nd (pv_b1 (cu_sorted hu12) M.m_sorted (pv_lc [("_law_block", 3)] rfl sc_l_spoilt6.nd (pi_any (pv 2)) (blkOk_by (N := ["_law_parting_here", "_law_cell_here", "_law_rows", "_law_block", "_law_one", "_law_other", "_law_way", "_law_point"]) (sc := defScope s_l_spoilt6) (by decide +kernel)) (fun _ _ _ _ _ => (pg_n 3 [3] sc_l_spoilt6.nd)) (fun _ _ _ _ _ => (pts_1 (tv_truth (pv 3)))) (fun _ _ _ _ _ => (pv_b1 (cu_sorted hu12) M.m_sorted (pv 3)))))))) ss_nil)
  (ss_one (s_frz 2 (s_ret (pv_t1 cu_tuple M.m_tuple (pv_lc [("_law_block", 3)] rfl sc_l_spoilt6.nd (pi_any (pv 2)) (blkOk_by (N := ["_law_parting_here", "_law_cell_here", "_law_rows", "_law_block", "_law_one", "_law_other", "_law_way", "_law_point"]) (sc := defScope s_l_spoilt6) (by decide +kernel)) (fun _ _ _ _ _ => (pg_n 3 [3] sc_l_spoilt6.nd)) (fun _ _ _ _ _ => pts_y) (fun _ _ _ _ _ => (pv_t1 cu_tuple M.m_tuple (pv 3))))))))))))))))))))
theorem fn_law {fa : Addr} {fd : FuncData} (cl : Cls → Addr) (F : Fun K "law" "law" s_law fa fd) (c_l_row : DefOk P w K mg base cl k "_law_row" 2 φ_l_row) (c_l_mix : DefOk P w K mg base cl k "_law_mix" 3 φ_l_mix) (c_parting_of : DefOk P w K mg base cl k "parting_of" 1 φ_parting_of) (c_l_is_parting : DefOk P w K mg base cl k "_law_is_parting" 1 φ_l_is_parting) (c_l_parting : DefOk P w K mg base cl k "_law_parting" 1 φ_l_parting) (c_row_by_parting : DefOk P w K mg base cl k "row_by_parting" 1 φ_row_by_parting) (c_l_spoilt6 : DefOk P w K mg base cl k "_law_spoilt" 2 φ_l_spoilt6) (c_l_row_by : DefOk P w K mg base cl k "_law_row_by" 1 φ_l_row_by) : FnOk P w K mg base (L2.CX P w) (k + 1) fa fd ["_law_script"] (spL K φ_law) :=
  fn_okL cl F sc_law rfl fun cdv A outer s H E G hr hu hu1 hu12 => (ss_cons (s_for (passes_of rfl) rfl (pi_any (pv_sl (pv 0) ps0 (ps1 pv_int))) (pg_n 1 [1] sc_law.nd)
  (ss_cons (s_set 2 sc_law.nd (pv_call c_l_row hr pass1 (pas_cons (pv 1) (pas_cons (pv_ix (pv_lst (pas_cons (pv_call c_l_mix hr pass1 (pas_cons (pv 1) (pas_cons pv_int (pas_cons pv_int pas_nil)))) (pas_cons pv_int pas_nil))) (pv_t1 cu_int M.m_int (pv_cmp (od_eq hu) (pv_mod (pv 1) pv_int) pv_int))) pas_nil))))
  (ss_cons (s_set 3 sc_law.nd (pv_call c_parting_of hr pass1 (pas_cons (pv 2) pas_nil)))
  (ss_cons (s_if (tw_pt (tw_or (tv_not (tv_truth (pv_call c_l_is_parting hr pass1 (pas_cons (pv 3) pas_nil)))) (tw_or (tv_cmp (od_ne hu) (pv 3) (pv_call c_l_parting hr pass1 (pas_cons (pv 2) pas_nil))) (tw_one0 (tv_cmp (od_ne hu) (pv_call c_row_by_parting hr pass1 (pas_cons (pv 3) pas_nil)) (pv 2)))))) (ss_one (s_ret pv_bl)) ss_nil)
  (ss_one (s_if (tv_truth (pv 2)) (ss_cons (s_set 4 sc_law.nd (pv_call c_l_spoilt6 hr pass1 (pas_cons (pv 3) (pas_cons (pv 1) pas_nil))))
  (ss_cons (s_set 5 sc_law.nd (pv_call c_l_row_by hr pass1 (pas_cons (pv 4) pas_nil)))
  (ss_cons (s_if (tv_cmp (od_ne hu) (pv_cmp od_notN (pv 5) pv_non) (pv_call c_l_is_parting hr pass1 (pas_cons (pv 4) pas_nil))) (ss_one (s_ret pv_bl)) ss_nil)
  (ss_one (s_if (tw_pt (tw_and (tv_cmp od_notN (pv 5) pv_non) (tw_one1 (tw_pt (tw_or (tv_cmp (od_eq hu) (pv 5) (pv_str [111, 116, 104, 101, 114])) (tw_one0 (tv_cmp (od_ne hu) (pv_call c_parting_of hr pass1 (pas_cons (pv 5) pas_nil)) (pv 4)))))))) (ss_one (s_ret pv_bl)) ss_nil))))) ss_nil))))))
  (ss_cons (s_for (passes_of rfl) rfl (pi_any (pv_lst (pas_cons (pv_tup (pas_cons (pv_tup (pas_cons pv_int pas_nil)) (pas_cons (pv_tup (pas_cons pv_bl pas_nil)) pas_nil))) (pas_cons (pv_tup (pas_cons (pv_tup (pas_cons pv_int (pas_cons pv_bl pas_nil))) pas_nil)) (pas_cons (pv_tup (pas_cons (pv_lst (pas_cons pv_int pas_nil)) pas_nil)) (pas_cons (pv_tup (pas_cons (pv_tup (pas_cons pv_int pas_nil)) (pas_cons (pv_lst (pas_cons pv_int pas_nil)) pas_nil))) (pas_cons (pv_tup (pas_cons pv_int pas_nil)) (pas_cons (pv_lst (pas_cons (pv_tup (pas_cons pv_int pas_nil)) pas_nil)) (pas_cons (pv_tup (pas_cons (pv_tup pas_nil) pas_nil)) (pas_cons (pv_tup (pas_cons (pv_tup (pas_cons pv_int pas_nil)) (pas_cons (pv_tup pas_nil) pas_nil))) (pas_cons (pv_tup (pas_cons (pv_tup (pas_cons (pv_str [48]) pas_nil)) pas_nil)) pas_nil))))))))))) (pg_n 4 [4] sc_law.nd)
  (ss_one (s_if (tv_cmp od_notN (pv_call c_l_row_by hr pass1 (pas_cons (pv 4) pas_nil)) pv_non) (ss_one (s_ret pv_bl)) ss_nil)))
  (ss_one (s_ret (pv_and (pv_cmp (od_eq hu) (pv_call c_parting_of hr pass1 (pas_cons (pv_str []) pas_nil)) (pv_tup pas_nil)) (pv_last (pv_cmp (od_eq hu) (pv_call c_row_by_parting hr pass1 (pas_cons (pv_tup pas_nil) pas_nil)) (pv_str []))))))))
end
theorem all_mk {l : PySem.W.OpenLaw} {w : World} {K : PySem.W.Frag} {h : Heap} {mg : Str → Option Value} {fa : Addr} (X : K.In h) (G : h.Ns mainGlobals mg) (hfa : mg "law" = some (.ref fa))
    {f0 : Addr} {od0 an0 : Option Addr} {sl0 : Array (Option Value)} {oc0 kV0 dc0 pm0 cd0 ct0 : Value}
    {f1 : Addr} {od1 an1 : Option Addr} {sl1 : Array (Option Value)} {oc1 kV1 dc1 pm1 cd1 ct1 : Value}
    {f2 : Addr} {od2 an2 : Option Addr} {sl2 : Array (Option Value)} {oc2 kV2 dc2 pm2 cd2 ct2 : Value}
    {f3 : Addr} {od3 an3 : Option Addr} {sl3 : Array (Option Value)} {oc3 kV3 dc3 pm3 cd3 ct3 : Value}
    {f4 : Addr} {od4 an4 : Option Addr} {sl4 : Array (Option Value)} {oc4 kV4 dc4 pm4 cd4 ct4 : Value}
    {f5 : Addr} {od5 an5 : Option Addr} {sl5 : Array (Option Value)} {oc5 kV5 dc5 pm5 cd5 ct5 : Value}
    {f6 : Addr} {od6 an6 : Option Addr} {sl6 : Array (Option Value)} {oc6 kV6 dc6 pm6 cd6 ct6 : Value}
    {f7 : Addr} {od7 an7 : Option Addr} {sl7 : Array (Option Value)} {oc7 kV7 dc7 pm7 cd7 ct7 : Value}
    {f8 : Addr} {od8 an8 : Option Addr} {sl8 : Array (Option Value)} {oc8 kV8 dc8 pm8 cd8 ct8 : Value}
    {f9 : Addr} {od9 an9 : Option Addr} {sl9 : Array (Option Value)} {oc9 kV9 dc9 pm9 cd9 ct9 : Value}
    {f10 : Addr} {od10 an10 : Option Addr} {sl10 : Array (Option Value)} {oc10 kV10 dc10 pm10 cd10 ct10 : Value}
    {f11 : Addr} {od11 an11 : Option Addr} {sl11 : Array (Option Value)} {oc11 kV11 dc11 pm11 cd11 ct11 : Value}
    {CR CP : Addr}
    {BE : Addr}
    (a0 : PySem.W.nsIn K mainGlobals "_law_mix" = some (some (.ref f0)))
    (l0 : K.lookup f0 = some ⟨oc0, od0, .func (PySem.W.fnOf "_law_mix" "_law_mix" (defArgs s_l_mix) (defBody s_l_mix) (defScope s_l_mix) .none kV0 dc0 pm0 an0 cd0 ct0), sl0⟩)
    (c0 : PySem.W.codeIn K cd0 "_law_mix" = true)
    (k0 : PySem.W.keepIn K (.ref f0) = true)
    (a1 : PySem.W.nsIn K mainGlobals "_law_row" = some (some (.ref f1)))
    (l1 : K.lookup f1 = some ⟨oc1, od1, .func (PySem.W.fnOf "_law_row" "_law_row" (defArgs s_l_row) (defBody s_l_row) (defScope s_l_row) .none kV1 dc1 pm1 an1 cd1 ct1), sl1⟩)
    (c1 : PySem.W.codeIn K cd1 "_law_row" = true)
    (k1 : PySem.W.keepIn K (.ref f1) = true)
    (a2 : PySem.W.nsIn K mainGlobals "parting_of" = some (some (.ref f2)))
    (l2 : K.lookup f2 = some ⟨oc2, od2, .func (PySem.W.fnOf "parting_of" "parting_of" (defArgs s_parting_of) (defBody s_parting_of) (defScope s_parting_of) .none kV2 dc2 pm2 an2 cd2 ct2), sl2⟩)
    (c2 : PySem.W.codeIn K cd2 "parting_of" = true)
    (k2 : PySem.W.keepIn K (.ref f2) = true)
    (a3 : PySem.W.nsIn K mainGlobals "_law_whole" = some (some (.ref f3)))
    (l3 : K.lookup f3 = some ⟨oc3, od3, .func (PySem.W.fnOf "_law_whole" "_law_whole" (defArgs s_l_whole) (defBody s_l_whole) (defScope s_l_whole) .none kV3 dc3 pm3 an3 cd3 ct3), sl3⟩)
    (c3 : PySem.W.codeIn K cd3 "_law_whole" = true)
    (k3 : PySem.W.keepIn K (.ref f3) = true)
    (a4 : PySem.W.nsIn K mainGlobals "_law_crosses" = some (some (.ref f4)))
    (l4 : K.lookup f4 = some ⟨oc4, od4, .func (PySem.W.fnOf "_law_crosses" "_law_crosses" (defArgs s_l_crosses) (defBody s_l_crosses) (defScope s_l_crosses) .none kV4 dc4 pm4 an4 cd4 ct4), sl4⟩)
    (c4 : PySem.W.codeIn K cd4 "_law_crosses" = true)
    (k4 : PySem.W.keepIn K (.ref f4) = true)
    (a5 : PySem.W.nsIn K mainGlobals "_law_is_parting" = some (some (.ref f5)))
    (l5 : K.lookup f5 = some ⟨oc5, od5, .func (PySem.W.fnOf "_law_is_parting" "_law_is_parting" (defArgs s_l_is_parting) (defBody s_l_is_parting) (defScope s_l_is_parting) .none kV5 dc5 pm5 an5 cd5 ct5), sl5⟩)
    (c5 : PySem.W.codeIn K cd5 "_law_is_parting" = true)
    (k5 : PySem.W.keepIn K (.ref f5) = true)
    (a6 : PySem.W.nsIn K mainGlobals "_law_parting" = some (some (.ref f6)))
    (l6 : K.lookup f6 = some ⟨oc6, od6, .func (PySem.W.fnOf "_law_parting" "_law_parting" (defArgs s_l_parting) (defBody s_l_parting) (defScope s_l_parting) .none kV6 dc6 pm6 an6 cd6 ct6), sl6⟩)
    (c6 : PySem.W.codeIn K cd6 "_law_parting" = true)
    (k6 : PySem.W.keepIn K (.ref f6) = true)
    (a7 : PySem.W.nsIn K mainGlobals "is_block" = some (some (.ref f7)))
    (l7 : K.lookup f7 = some ⟨oc7, od7, .func (PySem.W.fnOf "is_block" "is_block" (defArgs s_is_block) (defBody s_is_block) (defScope s_is_block) .none kV7 dc7 pm7 an7 cd7 ct7), sl7⟩)
    (c7 : PySem.W.codeIn K cd7 "is_block" = true)
    (k7 : PySem.W.keepIn K (.ref f7) = true)
    (a8 : PySem.W.nsIn K mainGlobals "row_by_parting" = some (some (.ref f8)))
    (l8 : K.lookup f8 = some ⟨oc8, od8, .func (PySem.W.fnOf "row_by_parting" "row_by_parting" (defArgs s_row_by_parting) (defBody s_row_by_parting) (defScope s_row_by_parting) .none kV8 dc8 pm8 an8 cd8 ct8), sl8⟩)
    (c8 : PySem.W.codeIn K cd8 "row_by_parting" = true)
    (k8 : PySem.W.keepIn K (.ref f8) = true)
    (a9 : PySem.W.nsIn K mainGlobals "_law_spoilt" = some (some (.ref f9)))
    (l9 : K.lookup f9 = some ⟨oc9, od9, .func (PySem.W.fnOf "_law_spoilt" "_law_spoilt" (defArgs s_l_spoilt6) (defBody s_l_spoilt6) (defScope s_l_spoilt6) .none kV9 dc9 pm9 an9 cd9 ct9), sl9⟩)
    (c9 : PySem.W.codeIn K cd9 "_law_spoilt" = true)
    (k9 : PySem.W.keepIn K (.ref f9) = true)
    (a10 : PySem.W.nsIn K mainGlobals "_law_row_by" = some (some (.ref f10)))
    (l10 : K.lookup f10 = some ⟨oc10, od10, .func (PySem.W.fnOf "_law_row_by" "_law_row_by" (defArgs s_l_row_by) (defBody s_l_row_by) (defScope s_l_row_by) .none kV10 dc10 pm10 an10 cd10 ct10), sl10⟩)
    (c10 : PySem.W.codeIn K cd10 "_law_row_by" = true)
    (k10 : PySem.W.keepIn K (.ref f10) = true)
    (a11 : PySem.W.nsIn K mainGlobals "law" = some (some (.ref f11)))
    (l11 : K.lookup f11 = some ⟨oc11, od11, .func (PySem.W.fnOf "law" "law" (defArgs s_law) (defBody s_law) (defScope s_law) .none kV11 dc11 pm11 an11 cd11 ct11), sl11⟩)
    (c11 : PySem.W.codeIn K cd11 "law" = true)
    (k11 : PySem.W.keepIn K (.ref f11) = true)
    (z_len : PySem.W.nsIn K mainGlobals "len" = some none)
    (z_int : PySem.W.nsIn K mainGlobals "int" = some none)
    (z_min : PySem.W.nsIn K mainGlobals "min" = some none)
    (z_max : PySem.W.nsIn K mainGlobals "max" = some none)
    (z_sum : PySem.W.nsIn K mainGlobals "sum" = some none)
    (z_all : PySem.W.nsIn K mainGlobals "all" = some none)
    (z_list : PySem.W.nsIn K mainGlobals "list" = some none)
    (z_tuple : PySem.W.nsIn K mainGlobals "tuple" = some none)
    (z_sorted : PySem.W.nsIn K mainGlobals "sorted" = some none)
    (z_isinstance : PySem.W.nsIn K mainGlobals "isinstance" = some none)
    (z_str : PySem.W.nsIn K mainGlobals "str" = some none)
    (z_bool : PySem.W.nsIn K mainGlobals "bool" = some none)
    (z_range : PySem.W.nsIn K mainGlobals "range" = some none)
    (z_enumerate : PySem.W.nsIn K mainGlobals "enumerate" = some none)
    (z_reversed : PySem.W.nsIn K mainGlobals "reversed" = some none)
    (z_zip : PySem.W.nsIn K mainGlobals "zip" = some none)
    (z_ValueError : PySem.W.nsIn K mainGlobals "ValueError" = some none)
    (erg : PySem.W.nsIn K mainGlobals "NoRow" = some (some (.ref CR)))
    (erx : PySem.W.excIn K CR [.type "ValueError", .type "Exception", .type "BaseException", .type "object"] "ValueError.__new__" = true)
    (erk : PySem.W.keepIn K (.ref CR) = true)
    (erb : PySem.W.subIn K (.ref CR) (.type "BaseException") = some true)
    (ert : PySem.W.typeIn K (.ref CR) = some (.type "type"))
    (epg : PySem.W.nsIn K mainGlobals "NoPlace" = some (some (.ref CP)))
    (epx : PySem.W.excIn K CP [.type "ValueError", .type "Exception", .type "BaseException", .type "object"] "ValueError.__new__" = true)
    (epk : PySem.W.keepIn K (.ref CP) = true)
    (epb : PySem.W.subIn K (.ref CP) (.type "BaseException") = some true)
    (ept : PySem.W.typeIn K (.ref CP) = some (.type "type"))
    (ibe : PySem.W.nsIn K mainGlobals "BracketError" = some (some (.ref BE)))
    (ir1 : PySem.W.findIn K (.ref CR) "__getattribute__" = some (some (.builtin "BaseException.__getattribute__")))
    (ir2 : PySem.W.findIn K (.ref CR) "__getattr__" = some none)
    (ir3 : PySem.W.hasDictIn K CR = true)
    (ir4 : PySem.W.findIn K (.ref CR) "__class__" = some (some (.builtin "object.__class__")))
    (ir5 : PySem.W.mroIn K CR (.type "object") = some true)
    (ir6 : PySem.W.subIn K (.ref CR) (.ref BE) = some true)
    (ir7 : PySem.W.subIn K (.ref CR) (.type "ValueError") = some true)
    (ip1 : PySem.W.findIn K (.ref CP) "__getattribute__" = some (some (.builtin "BaseException.__getattribute__")))
    (ip2 : PySem.W.findIn K (.ref CP) "__getattr__" = some none)
    (ip3 : PySem.W.hasDictIn K CP = true)
    (ip4 : PySem.W.findIn K (.ref CP) "__class__" = some (some (.builtin "object.__class__")))
    (ip5 : PySem.W.mroIn K CP (.type "object") = some true)
    (ip6 : PySem.W.subIn K (.ref CP) (.ref BE) = some true)
    (ip7 : PySem.W.subIn K (.ref CP) (.type "ValueError") = some true)
    (i8 : PySem.W.specialIn K (.builtin "object.__class__") "__get__" = some (some (.builtin "getset_descriptor.__get__")))
    (i9 : PySem.W.takesIn K (.builtin "object.__class__") = some true)
    (ib1 : PySem.W.subIn K (.ref BE) (.type "BaseException") = some true)
    (ib2 : PySem.W.hasDictIn K BE = true)
    (ib3 : PySem.W.typeIn K (.ref BE) = some (.type "type"))
    (irp : PySem.W.subIn K (.ref CR) (.ref CP) = some false)
    (ipr : PySem.W.subIn K (.ref CP) (.ref CR) = some false)
    (inn : CR ≠ CP) :
    ∃ fd : FuncData, (∀ (s : Shared) (v : Value), BindsTo s fd ⟨[v], []⟩ [("_law_script", v)]) ∧ ∀ base : Heap, K.In base → base.Ns mainGlobals mg → FnOk l.prog w K mg base (L2.CX l.prog w) 4 fa fd ["_law_script"] (spL K φ_law) := by
  have e := hfa.symm.trans (PySem.W.mg_of X G a11)
  cases e
  have M : Bi mg := ⟨PySem.W.mg_none_of X G z_len, PySem.W.mg_none_of X G z_int, PySem.W.mg_none_of X G z_min, PySem.W.mg_none_of X G z_max, PySem.W.mg_none_of X G z_sum, PySem.W.mg_none_of X G z_all, PySem.W.mg_none_of X G z_list, PySem.W.mg_none_of X G z_tuple, PySem.W.mg_none_of X G z_sorted, PySem.W.mg_none_of X G z_isinstance, PySem.W.mg_none_of X G z_str, PySem.W.mg_none_of X G z_bool, PySem.W.mg_none_of X G z_range, PySem.W.mg_none_of X G z_enumerate, PySem.W.mg_none_of X G z_reversed, PySem.W.mg_none_of X G z_zip, PySem.W.mg_none_of X G z_ValueError⟩
  have XE : Errs K mg (fun c => match c with | .noRow => CR | .noPlace => CP) := ⟨⟨PySem.W.mg_of X G erg, erx, erk, erb, ert⟩, ⟨PySem.W.mg_of X G epg, epx, epk, epb, ept⟩⟩
  have XI : ErrI K mg (fun c => match c with | .noRow => CR | .noPlace => CP) BE := ⟨PySem.W.mg_of X G ibe, PySem.W.mg_of X G erg, PySem.W.mg_of X G epg, PySem.W.mg_none_of X G z_ValueError, fun c => match c with | .noRow => ⟨ir1, ir2, erb, ir3, ir4, i8, i9, ir5⟩ | .noPlace => ⟨ip1, ip2, epb, ip3, ip4, i8, i9, ip5⟩, fun c => match c with | .noRow => PySem.W.exm_ref ib1 ib2 ib3 ir6 | .noPlace => PySem.W.exm_ref ib1 ib2 ib3 ip6, kit_self, kit_ref ip3 ept irp inn, kit_ref ir3 ert ipr (Ne.symm inn), kit_self, fun c => match c with | .noRow => kit_ve ir7 | .noPlace => kit_ve ip7⟩
  have F0 : Has K mg "_law_mix" s_l_mix ["_law_cell_here", "_law_prime", "_law_many"] := .mk' (PySem.W.mg_of X G a0) l0 c0 k0 fun _ _ _ _ _ _ us hl => match us, hl with | [_, _, _], _ => rfl
  have F1 : Has K mg "_law_row" s_l_row ["_law_cell_here", "_law_size"] := .mk' (PySem.W.mg_of X G a1) l1 c1 k1 fun _ _ _ _ _ _ us hl => match us, hl with | [_, _], _ => rfl
  have F2 : Has K mg "parting_of" s_parting_of ["row"] := .mk' (PySem.W.mg_of X G a2) l2 c2 k2 fun _ _ _ _ _ _ us hl => match us, hl with | [_], _ => rfl
  have F3 : Has K mg "_law_whole" s_l_whole ["_law_found"] := .mk' (PySem.W.mg_of X G a3) l3 c3 k3 fun _ _ _ _ _ _ us hl => match us, hl with | [_], _ => rfl
  have F4 : Has K mg "_law_crosses" s_l_crosses ["_law_home", "_law_many"] := .mk' (PySem.W.mg_of X G a4) l4 c4 k4 fun _ _ _ _ _ _ us hl => match us, hl with | [_, _], _ => rfl
  have F5 : Has K mg "_law_is_parting" s_l_is_parting ["_law_thing"] := .mk' (PySem.W.mg_of X G a5) l5 c5 k5 fun _ _ _ _ _ _ us hl => match us, hl with | [_], _ => rfl
  have F6 : Has K mg "_law_parting" s_l_parting ["_law_row_here"] := .mk' (PySem.W.mg_of X G a6) l6 c6 k6 fun _ _ _ _ _ _ us hl => match us, hl with | [_], _ => rfl
  have F7 : Has K mg "is_block" s_is_block ["thing"] := .mk' (PySem.W.mg_of X G a7) l7 c7 k7 fun _ _ _ _ _ _ us hl => match us, hl with | [_], _ => rfl
  have F8 : Has K mg "row_by_parting" s_row_by_parting ["parting"] := .mk' (PySem.W.mg_of X G a8) l8 c8 k8 fun _ _ _ _ _ _ us hl => match us, hl with | [_], _ => rfl
  have F9 : Has K mg "_law_spoilt" s_l_spoilt6 ["_law_parting_here", "_law_cell_here"] := .mk' (PySem.W.mg_of X G a9) l9 c9 k9 fun _ _ _ _ _ _ us hl => match us, hl with | [_, _], _ => rfl
  have F10 : Has K mg "_law_row_by" s_l_row_by ["_law_thing"] := .mk' (PySem.W.mg_of X G a10) l10 c10 k10 fun _ _ _ _ _ _ us hl => match us, hl with | [_], _ => rfl
  have FL := fun_mk (st := s_law) l11 c11 k11
  refine ⟨PySem.W.fnOf "law" "law" (defArgs s_law) (defBody s_law) (defScope s_law) .none kV11 dc11 pm11 an11 cd11 ct11, fun s v => .of_eq rfl, fun base _ _ => ?_⟩
  have C0 := ok_l_mix (P := l.prog) (w := w) (base := base) (cl := (fun c => match c with | .noRow => CR | .noPlace => CP)) (k := 0) M F0
  have C1 := ok_l_row (P := l.prog) (w := w) (base := base) (cl := (fun c => match c with | .noRow => CR | .noPlace => CP)) (k := 1) M F1 (C0.mono (by decide))
  have C2 := ok_parting_of (P := l.prog) (w := w) (base := base) (cl := (fun c => match c with | .noRow => CR | .noPlace => CP)) (k := 0) M F2
  have C3 := ok_l_whole (P := l.prog) (w := w) (base := base) (cl := (fun c => match c with | .noRow => CR | .noPlace => CP)) (k := 0) M F3
  have C4 := ok_l_crosses (P := l.prog) (w := w) (base := base) (cl := (fun c => match c with | .noRow => CR | .noPlace => CP)) (k := 0) M F4
  have C5 := ok_l_is_parting (P := l.prog) (w := w) (base := base) (cl := (fun c => match c with | .noRow => CR | .noPlace => CP)) (k := 1) M F5 (C3.mono (by decide)) (C4.mono (by decide))
  have C6 := ok_l_parting (P := l.prog) (w := w) (base := base) (cl := (fun c => match c with | .noRow => CR | .noPlace => CP)) (k := 0) M F6
  have C7 := ok_is_block (P := l.prog) (w := w) (base := base) (cl := (fun c => match c with | .noRow => CR | .noPlace => CP)) (k := 0) M F7
  have C8 := ok_row_by_parting (P := l.prog) (w := w) (base := base) (cl := (fun c => match c with | .noRow => CR | .noPlace => CP)) (k := 1) M XE F8 (C7.mono (by decide)) (C2.mono (by decide))
  have C9 := ok_l_spoilt6 (P := l.prog) (w := w) (base := base) (cl := (fun c => match c with | .noRow => CR | .noPlace => CP)) (k := 0) M F9
  have C10 := ok_l_row_by (P := l.prog) (w := w) (base := base) (cl := (fun c => match c with | .noRow => CR | .noPlace => CP)) (k := 2) M XI F10 (C8.mono (by decide))
  exact fn_law (k := 3) M (fun c => match c with | .noRow => CR | .noPlace => CP) FL (C1.mono (by decide)) (C0.mono (by decide)) (C2.mono (by decide)) (C5.mono (by decide)) (C6.mono (by decide)) (C8.mono (by decide)) (C9.mono (by decide)) (C10.mono (by decide))
end K06
open PySem PySem.W PyProof.Rows
set_option maxHeartbeats 0 in
theorem PySem.Challenge.cw_bracketnumbers_k06_whole_partings_holds : PySem.Challenge.rw_bracketnumbers_k06_whole_partings.Holds := by
  w_on; o_law; k_head; (case hw => w_witness2)
  k_fill
  refine L2.walk_ofB (l := PySem.Challenge.rw_bracketnumbers_k06_whole_partings) (n := 63) (k := 4) (x := "_law_script") (CX := fun w => L2.CX PySem.Challenge.rw_bracketnumbers_k06_whole_partings.prog w) (sp := fun w => Bk.spL _ K06.φ_law) rfl (by decide) rfl ⟨rfl, by decide, by decide⟩ (fun w h Y => PySem.W.kIn_of Y) ?F (fun _ _ a ns hl hb _ hS => Bk.spL_start hS (K06.law_holds ns hl fun z hz => Bk.bits_log (hb z hz))) (fun _ _ _ _ _ h => Bk.cx_end h)
  case F =>
    intro w mg fa h KX G hmg
    refine' K06.all_mk KX G hmg ?a0 ?l0 ?c0 ?k0 ?a1 ?l1 ?c1 ?k1 ?a2 ?l2 ?c2 ?k2 ?a3 ?l3 ?c3 ?k3 ?a4 ?l4 ?c4 ?k4 ?a5 ?l5 ?c5 ?k5 ?a6 ?l6 ?c6 ?k6 ?a7 ?l7 ?c7 ?k7 ?a8 ?l8 ?c8 ?k8 ?a9 ?l9 ?c9 ?k9 ?a10 ?l10 ?c10 ?k10 ?a11 ?l11 ?c11 ?k11 ?z_len ?z_int ?z_min ?z_max ?z_sum ?z_all ?z_list ?z_tuple ?z_sorted ?z_isinstance ?z_str ?z_bool ?z_range ?z_enumerate ?z_reversed ?z_zip ?z_ValueError ?erg ?erx ?erk ?erb ?ert ?epg ?epx ?epk ?epb ?ept ?ibe ?ir1 ?ir2 ?ir3 ?ir4 ?ir5 ?ir6 ?ir7 ?ip1 ?ip2 ?ip3 ?ip4 ?ip5 ?ip6 ?ip7 ?i8 ?i9 ?ib1 ?ib2 ?ib3 ?irp ?ipr ?inn
    (case a0 => k_is); (case l0 => k_is); (case c0 => k_is); (case k0 => k_is); (case a1 => k_is); (case l1 => k_is); (case c1 => k_is); (case k1 => k_is); (case a2 => k_is); (case l2 => k_is); (case c2 => k_is); (case k2 => k_is); (case a3 => k_is); (case l3 => k_is); (case c3 => k_is); (case k3 => k_is); (case a4 => k_is); (case l4 => k_is); (case c4 => k_is); (case k4 => k_is); (case a5 => k_is); (case l5 => k_is); (case c5 => k_is); (case k5 => k_is); (case a6 => k_is); (case l6 => k_is); (case c6 => k_is); (case k6 => k_is); (case a7 => k_is); (case l7 => k_is); (case c7 => k_is); (case k7 => k_is); (case a8 => k_is); (case l8 => k_is); (case c8 => k_is); (case k8 => k_is); (case a9 => k_is); (case l9 => k_is); (case c9 => k_is); (case k9 => k_is); (case a10 => k_is); (case l10 => k_is); (case c10 => k_is); (case k10 => k_is); (case a11 => k_is); (case l11 => k_is); (case c11 => k_is); (case k11 => k_is); (case z_len => k_is); (case z_int => k_is); (case z_min => k_is); (case z_max => k_is); (case z_sum => k_is); (case z_all => k_is); (case z_list => k_is); (case z_tuple => k_is); (case z_sorted => k_is); (case z_isinstance => k_is); (case z_str => k_is); (case z_bool => k_is); (case z_range => k_is); (case z_enumerate => k_is); (case z_reversed => k_is); (case z_zip => k_is); (case z_ValueError => k_is); (case erg => k_is); (case erx => k_exc); (case erk => k_is); (case erb => k_is); (case ert => k_is); (case epg => k_is); (case epx => k_exc); (case epk => k_is); (case epb => k_is); (case ept => k_is); (case ibe => first | rfl | k_is); (case ir1 => first | rfl | k_is); (case ir2 => first | rfl | k_is); (case ir3 => first | rfl | k_is); (case ir4 => first | rfl | k_is); (case ir5 => first | rfl | k_is); (case ir6 => first | rfl | k_is); (case ir7 => first | rfl | k_is); (case ip1 => first | rfl | k_is); (case ip2 => first | rfl | k_is); (case ip3 => first | rfl | k_is); (case ip4 => first | rfl | k_is); (case ip5 => first | rfl | k_is); (case ip6 => first | rfl | k_is); (case ip7 => first | rfl | k_is); (case i8 => first | rfl | k_is); (case i9 => first | rfl | k_is); (case ib1 => first | rfl | k_is); (case ib2 => first | rfl | k_is); (case ib3 => first | rfl | k_is); (case irp => first | rfl | k_is); (case ipr => first | rfl | k_is); (case inn => decide)
