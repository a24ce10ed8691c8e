import PyProof.Rows.All
import PySem.Str
import PyProof.Rows.Walk
import Wide.All
import OpenK.AllK
import Wide.FinOn
import KE.GoesEnum
import HandS.ForMost
import HandS.IsInst
import HandS.Codes
import HandS.Wide
import HandS.Flow
import HandS.Style
import HandS.Conv
import HandS.TupAny
import HandS.DeepEq
import KE.KStateDown
import HandS.More
import HandS.WordsExc
import HandS.Defaults
import HandS.Head0
import HandS.Head1
import HandS.Head2
import HandS.HeadEnd
import HandS.HeadHook1
import HandS.HeadHook2
import KE.SortData
import HandS.Star
import HandS.Property
import HandS.Set
import HandS.Strs
import HandS.SetFor
import HandS.DictComp
import HandS.Finally
import HandS.TupLen
import KE.KDictCopyH
import HandS.Walk
import KE.KDictKeyed
import OpenK.KMeth
import HandS.Text
import PySem.Challenge.RW_slipstold_k03_moves_by_index
section
set_option linter.all false
set_option autoImplicit false
/-! S0: values as trees; steps over slots that hold trees. Plain Lean. -/
namespace TL
open PySem
inductive T where
  | non | bl (b : Bool) | int (i : Int) | str (x : Str) | tup (xs : List T) | lst (xs : List T) | dct (kvs : List (T × T)) | set (xs : List T) | ins (c : Str) (fs : List (Str × T))
  deriving Inhabited
structure Exn where
  c : Str
  fs : List (Str × T)
abbrev Tau := List (Option T)
inductive RE (α : Type) where
  | ok (a : α) (τ : Tau) | exc (x : Exn) (τ : Tau) | stuck
def RE.next {α β : Type} (r : RE α) (f : α → Tau → RE β) : RE β := match r with
  | .ok a τ => f a τ
  | .exc x τ => .exc x τ
  | .stuck => .stuck
/-- a step: over the slots -/
abbrev M (α : Type) := Tau → RE α
namespace M
def pure {α : Type} (a : α) : M α := fun τ => .ok a τ
def bind {α β : Type} (m : M α) (f : α → M β) : M β := fun τ => (m τ).next f
def stuck {α : Type} : M α := fun _ => .stuck
def of {α : Type} : Option α → M α
  | some a => pure a
  | none => stuck
instance : Monad M where
  pure := M.pure
  bind := M.bind
end M
def get (i : Nat) : M T := fun τ => match τ[i]? with
  | some (some t) => .ok t τ
  | _ => .stuck
def put (i : Nat) (t : T) : M Unit := fun τ => .ok () (τ.set i (some t))
/-- take the tree out of slot i -/
def mv (i : Nat) : M T := fun τ => match τ[i]? with
  | some (some t) => .ok t (τ.set i none)
  | _ => .stuck
/-- how a statement ends -/
inductive Ctl where
  | nx | rt (w : T) | bk | ct
mutual
/-- no list, dict, set in it; an instance counts as fixed -/
def imm : T → Bool
  | .non => true
  | .bl _ => true
  | .int _ => true
  | .str _ => true
  | .tup xs => imms xs
  | .lst _ => false
  | .dct _ => false
  | .set _ => false
  | .ins _ _ => true
def imms : List T → Bool
  | [] => true
  | x :: xs => imm x && imms xs
end
def immC (w : T) : M T := if imm w = true then M.pure w else M.stuck
def immsC (ws : List T) : M (List T) := if imms ws = true then M.pure ws else M.stuck
def isScal : T → Bool
  | .non => true
  | .bl _ => true
  | .int _ => true
  | .str _ => true
  | _ => false
def scalC (w : T) : M T := if isScal w = true then M.pure w else M.stuck
def asB : T → M Bool
  | .bl b => M.pure b
  | _ => M.stuck
/-! ### statements -/
def sNx : M Ctl := M.pure .nx
def sSeq (a b : M Ctl) : M Ctl := a >>= fun c => match c with
  | .nx => b
  | c => M.pure c
def sRet (e : M T) : M Ctl := e >>= fun w => M.pure (.rt w)
def sDrop (e : M T) : M Ctl := e >>= fun _ => M.pure .nx
def sSet (i : Nat) (e : M T) : M Ctl := e >>= fun w => put i w >>= fun _ => M.pure .nx
def sIf (c : M Bool) (a b : M Ctl) : M Ctl := c >>= fun x => if x = true then a else b
/-- behind one turn of a loop -/
def turn (k : M Ctl) : Ctl → M Ctl
  | .nx => k
  | .ct => k
  | .bk => M.pure .nx
  | .rt w => M.pure (.rt w)
def sWhile (c : M Bool) (b : M Ctl) : Nat → M Ctl
  | 0 => M.stuck
  | n + 1 => c >>= fun x => if x = true then b >>= turn (sWhile c b n) else M.pure .nx
def sFor (g : T → M Unit) (b : M Ctl) : List T → M Ctl
  | [] => M.pure .nx
  | x :: xs => g x >>= fun _ => b >>= turn (sFor g b xs)
/-! ### calls -/
def pad : Nat → Tau → Tau
  | 0, _ => []
  | n + 1, [] => none :: pad n []
  | n + 1, t :: τ => t :: pad n τ
theorem pad_len : ∀ (n : Nat) (τ : Tau), (pad n τ).length = n
  | 0, _ => rfl
  | n + 1, [] => by simp [pad, pad_len n []]
  | n + 1, t :: τ => by simp [pad, pad_len n τ]
theorem pad_take : ∀ {n : Nat} {τ : Tau}, n ≤ τ.length → pad n τ = τ.take n
  | 0, _, _ => by simp [pad]
  | n + 1, [], h => by simp at h
  | n + 1, t :: τ, h => by
    have := pad_take (n := n) (τ := τ) (by simpa using h)
    simp [pad, this]
/-- a def's body over its arguments; behind it what it left of them -/
def runF (s : M Ctl) (np N : Nat) (ts : List T) : RE T := match s (ts.map some ++ List.replicate (N - np) none) with
  | .ok .nx τ => .ok .non (pad np τ)
  | .ok (.rt w) τ => .ok w (pad np τ)
  | .exc x τ => .exc x (pad np τ)
  | _ => .stuck
def call0 (m : List T → RE T) (ts : List T) : M T := fun τ => match m ts with
  | .ok w _ => .ok w τ
  | .exc x _ => .exc x τ
  | .stuck => .stuck
/-- slot i is lent as argument j -/
def call1 (m : List T → RE T) (i j : Nat) (ts : List T) : M T := fun τ => match τ[i]? with
  | some (some t) => match m (ts.set j t) with
    | .ok w ps => match ps[j]? with
      | some (some t') => .ok w (τ.set i (some t'))
      | _ => .stuck
    | .exc x ps => match ps[j]? with
      | some (some t') => .exc x (τ.set i (some t'))
      | _ => .stuck
    | .stuck => .stuck
  | _ => .stuck
/-- errors are not let out -/
def noX (m : List T → RE T) (ts : List T) : RE T := match m ts with
  | .exc _ _ => .stuck
  | r => r
theorem runF_ok {s : M Ctl} {np N : Nat} {ts : List T} {w : T} {τ : Tau} (h : noX (runF s np N) ts = .ok w τ) : τ.length = np := by
  unfold noX runF at h
  split at h
  · cases h
  · split at h
    · cases h; exact pad_len _ _
    · cases h; exact pad_len _ _
    · cases h
    · cases h
theorem runF_exc {s : M Ctl} {np N : Nat} {ts : List T} {x : Exn} {τ : Tau} (h : noX (runF s np N) ts = .exc x τ) : τ.length = np := by
  unfold noX at h
  split at h
  · cases h
  · rename_i r hr
    rw [h] at hr
    exact (hr x τ rfl).elim
/-! ### values: == and keys -/
def b2i (b : Bool) : Int := if b = true then 1 else 0
mutual
/-- == of data -/
def tEq : T → T → Bool
  | .non, .non => true
  | .bl a, .bl b => a == b
  | .bl a, .int j => b2i a == j
  | .int i, .bl b => i == b2i b
  | .int i, .int j => i == j
  | .str x, .str y => x == y
  | .lst xs, .lst ys => tEqs xs ys
  | .tup xs, .tup ys => tEqs xs ys
  | _, _ => false
def tEqs : List T → List T → Bool
  | [], [] => true
  | x :: xs, y :: ys => tEq x y && tEqs xs ys
  | _, _ => false
end
mutual
/-- data without dicts, sets, instances -/
def plain : T → Bool
  | .non => true
  | .bl _ => true
  | .int _ => true
  | .str x => x.cps.all (· < 0x110000)
  | .tup xs => plains xs
  | .lst xs => plains xs
  | .dct _ => false
  | .set _ => false
  | .ins _ _ => false
def plains : List T → Bool
  | [] => true
  | x :: xs => plain x && plains xs
end
mutual
def dep : T → Nat
  | .tup xs => deps xs + 1
  | .lst xs => deps xs + 1
  | _ => 0
def deps : List T → Nat
  | [] => 0
  | x :: xs => max (dep x) (deps xs)
end
def eqOk (x : T) : Bool := plain x && decide (dep x ≤ 60)
/-- scalars that are not a number against a truth value -/
def scP : T → T → Bool
  | .bl _, .int _ => false
  | .int _, .bl _ => false
  | x, y => isScal x && isScal y
def cmpOk (x y : T) : Bool := scP x y || (eqOk x && eqOk y)
def oEq (x y : T) : Option T := if cmpOk x y = true then some (.bl (tEq x y)) else none
def oNe (x y : T) : Option T := if cmpOk x y = true then some (.bl (!tEq x y)) else none
def knd : T → Nat
  | .tup _ => 0
  | .str _ => 1
  | _ => 2
mutual
def isKey : T → Bool
  | .non => true
  | .bl _ => true
  | .int _ => true
  | .str _ => true
  | .tup xs => isKeys xs
  | _ => false
def isKeys : List T → Bool
  | [] => true
  | x :: xs => isKey x && isKeys xs
end
/-- the dict may be asked for k -/
def askOk (kvs : List (T × T)) (k : T) : Bool := isKey k && decide (dep k ≤ 8) && decide (knd k ≤ 1) && kvs.all fun e => decide (knd e.1 = knd k) && decide (dep e.1 ≤ 8)
def look (kvs : List (T × T)) (k : T) : Option T := (kvs.find? fun e => tEq e.1 k).map (·.2)
def store (kvs : List (T × T)) (k v : T) : List (T × T) := if (look kvs k).isSome = true then kvs.map (fun e => if tEq e.1 k = true then (e.1, v) else e) else kvs ++ [(k, v)]
/-! ### operators -/
def szL : Nat := 16777216
def pyIx (n : Nat) (i : Int) : Option Nat := if 0 ≤ i then (if i < n then some i.toNat else none) else if -(n : Int) ≤ i then some (i + n).toNat else none
def pyAt {α : Type} (xs : List α) (i : Int) : Option α := (pyIx xs.length i).bind fun j => xs[j]?
def oGet : T → T → Option T
  | .lst xs, .int i => pyAt xs i
  | .tup xs, .int i => pyAt xs i
  | .str z, .int i => if z.length ≤ szL then (pyAt z.cps.toList i).map fun c => .str ⟨#[c]⟩ else none
  | .dct kvs, k => if askOk kvs k = true then look kvs k else none
  | _, _ => none
def oLen : T → Option T
  | .str z => if z.length ≤ szL then some (.int z.length) else none
  | .lst xs => some (.int xs.length)
  | .tup xs => some (.int xs.length)
  | .dct kvs => some (.int kvs.length)
  | _ => none
def inB : T → T → Option Bool
  | .str x, .str y => if x.cps.size = 1 then some (decide (x.cps.toList.headD 0 ∈ y.cps.toList)) else none
  | x, .lst ys => if isScal x = true ∧ ys.all isScal = true then some (ys.any fun y => tEq y x) else none
  | x, .tup ys => if isScal x = true ∧ ys.all isScal = true then some (ys.any fun y => tEq y x) else none
  | x, .dct kvs => if askOk kvs x = true then some (look kvs x).isSome else none
  | _, _ => none
def oIn (x y : T) : Option T := (inB x y).map .bl
def oNotIn (x y : T) : Option T := (inB x y).map fun b => .bl (!b)
def oAdd : T → T → Option T
  | .int i, .int j => some (.int (i + j))
  | .str x, .str y => if x.length + y.length ≤ szL then some (.str (x ++ y)) else none
  | _, _ => none
def oI (f : Int → Int → Option T) : T → T → Option T
  | .int i, .int j => f i j
  | _, _ => none
def oSub : T → T → Option T := oI fun i j => some (.int (i - j))
def oMul : T → T → Option T := oI fun i j => if (-(2 ^ 64) < i ∧ i < 2 ^ 64) ∨ (-(2 ^ 64) < j ∧ j < 2 ^ 64) then some (.int (i * j)) else none
def oDiv : T → T → Option T := oI fun i j => if 0 < j ∧ j < 1073741824 then some (.int (i / j)) else none
def oMod : T → T → Option T := oI fun i j => if 0 < j then some (.int (i % j)) else none
def oPow : T → T → Option T := oI fun i j => if 0 ≤ j ∧ j ≤ 1000000 ∧ i.natAbs < 2 ^ 64 then some (.int (i ^ j.toNat)) else none
def oLt : T → T → Option T := oI fun i j => some (.bl (decide (i < j)))
def oLe : T → T → Option T := oI fun i j => some (.bl (decide (i ≤ j)))
def oGt : T → T → Option T := oI fun i j => some (.bl (decide (j < i)))
def oGe : T → T → Option T := oI fun i j => some (.bl (decide (j ≤ i)))
def isNon : T → Bool
  | .non => true
  | _ => false
def oIsN (x y : T) : Option T := if isNon y = true then some (.bl (isNon x)) else none
def oNotN (x y : T) : Option T := if isNon y = true then some (.bl (!isNon x)) else none
def oNeg : T → Option T
  | .int i => some (.int (-i))
  | _ => none
/-- the built-in type's name -/
def tyName : T → Option String
  | .non => some "NoneType"
  | .bl _ => some "bool"
  | .int _ => some "int"
  | .str _ => some "str"
  | .tup _ => some "tuple"
  | .lst _ => some "list"
  | .dct _ => some "dict"
  | _ => none
def isA1 (n : String) (t : String) : Bool := n == t || (n == "bool" && t == "int")
def oIsA (x : T) (ts : List String) : Option T := (tyName x).map fun n => .bl (ts.any (isA1 n))
/-! ### displays, comprehensions, changes -/
def oTup (ts : List T) : Option T := if ts.length ≤ szL then some (.tup ts) else none
def oLst (ts : List T) : Option T := if ts.length ≤ szL then some (.lst ts) else none
def asL : T → M (List T)
  | .lst xs => M.pure xs
  | _ => M.stuck
def wipeT (τ : Tau) : List Nat → Tau
  | [] => τ
  | v :: vs => (wipeT τ vs).set v none
def wipeM (vs : List Nat) : M Unit := fun τ => .ok () (wipeT τ vs)
/-- the turns of a list comprehension -/
def lcM (vs : List Nat) (bg : T → M Unit) (et : M Bool) (ee : M T) : List T → List T → M (List T)
  | [], acc => M.pure acc
  | x :: xs, acc => wipeM vs >>= fun _ => bg x >>= fun _ => et >>= fun b => if b = true then ee >>= fun w => (if acc.length < szL then M.pure () else M.stuck) >>= fun _ => wipeM vs >>= fun _ => lcM vs bg et ee xs (acc ++ [w]) else wipeM vs >>= fun _ => lcM vs bg et ee xs acc
/-- x.append(..) at slot i -/
def appM (i : Nat) (w : T) : M T := get i >>= fun x => asL x >>= fun xs => (if xs.length < szL then M.pure () else M.stuck) >>= fun _ => put i (.lst (xs ++ [w])) >>= fun _ => M.pure .non
/-- xs[k] = w -/
def setL (xs : List T) (k w : T) : Option (List T) := match k with
  | .int k => (pyIx xs.length k).map fun j => xs.set j w
  | _ => none
def setC (x k w : T) : Option T := match x with
  | .lst xs => (setL xs k w).map .lst
  | .dct kvs => if askOk kvs k = true ∧ kvs.length < szL then some (.dct (store kvs k w)) else none
  | _ => none
def setM (i : Nat) (w k : T) : M Unit := get i >>= fun x => M.of (setC x k w) >>= fun y => put i y
/-- slot i [j][k] = w, lists -/
def setM2 (i : Nat) (w j k : T) : M Unit := get i >>= fun x => asL x >>= fun xs => M.of (oGet (.lst xs) j) >>= fun y => asL y >>= fun ys => M.of (setL ys k w) >>= fun zs => M.of (setL xs j (.lst zs)) >>= fun us => put i (.lst us)
def setML (i : Nat) (w k : T) : M Unit := get i >>= fun x => asL x >>= fun xs => M.of (setL xs k w) >>= fun ys => put i (.lst ys)
def sSetI (i : Nat) (e ek : M T) : M Ctl := e >>= fun w => get i >>= fun _ => ek >>= fun k => setM i w k >>= fun _ => M.pure .nx
def sSetL (i : Nat) (e ek : M T) : M Ctl := e >>= fun w => get i >>= fun _ => ek >>= fun k => setML i w k >>= fun _ => M.pure .nx
/-! ### what is walked, and to which names -/
def oElems : T → Option (List T)
  | .lst xs => some xs
  | .tup xs => some xs
  | .str z => some (z.cps.toList.map fun c => .str ⟨#[c]⟩)
  | .dct kvs => some (kvs.map (·.1))
  | _ => none
def intsL (lo : Int) (n : Nat) : List T := (List.range n).map fun (i : Nat) => .int (lo + (i : Int))
def fRange1 : List T → Option (List T)
  | [.int j] => if -(2 ^ 62) ≤ j ∧ j < 2 ^ 62 then some (intsL 0 j.toNat) else none
  | _ => none
def fRange2 : List T → Option (List T)
  | [.int i, .int j] => if (-(2 ^ 62) ≤ i ∧ i < 2 ^ 62) ∧ (-(2 ^ 62) ≤ j ∧ j < 2 ^ 62) then some (intsL i (j - i).toNat) else none
  | _ => none
def numberedF : Nat → List T → List T
  | _, [] => []
  | i, x :: xs => .tup [.int (i : Int), x] :: numberedF (i + 1) xs
def numbered (xs : List T) : List T := numberedF 0 xs
def fEnum : List T → Option (List T)
  | [.lst xs] => some (numbered xs)
  | [.tup xs] => some (numbered xs)
  | _ => none
def puts : List Nat → List T → M Unit
  | [], [] => M.pure ()
  | i :: is, x :: xs => put i x >>= fun _ => puts is xs
  | _, _ => M.stuck
def putT (is : List Nat) : T → M Unit
  | .tup xs => puts is xs
  | _ => M.stuck
def sLc (vs : List Nat) (ei : M (List T)) (bg : T → M Unit) (et : M Bool) (ee : M T) : M T := ei >>= fun xs => lcM vs bg et ee xs [] >>= fun ws => M.pure (.lst ws)
def fLen : List T → Option T
  | [x] => oLen x
  | _ => none
def fAbs : List T → Option T
  | [.int i] => some (.int (if i < 0 then -i else i))
  | _ => none
def fInt : List T → Option T
  | [.int i] => some (.int i)
  | [.bl b] => some (.int (if b then 1 else 0))
  | _ => none
end TL
end
section
set_option linter.all false
set_option autoImplicit false
/-! S0b: more steps over trees. Plain Lean. -/
namespace TL
open PySem
/-- errors of a block are not let out -/
def noE {α : Type} (m : M α) : M α := fun τ => match m τ with
  | .ok a τ' => .ok a τ'
  | .exc _ _ => .stuck
  | .stuck => .stuck
theorem noE_ne {α : Type} (m : M α) : ∀ τ y τ', noE m τ ≠ .exc y τ' := fun τ y τ' h => by
  unfold noE at h
  split at h <;> cases h
/-! ### order -/
mutual
def tok : T → List (Int ⊕ List Nat)
  | .non => []
  | .bl b => [.inl (if b = true then 1 else 0)]
  | .int n => [.inl n]
  | .str x => [.inr x.cps.toList]
  | .lst xs => toks xs
  | .tup xs => toks xs
  | .dct _ => []
  | .set _ => []
  | .ins _ _ => []
def toks : List T → List (Int ⊕ List Nat)
  | [] => [.inl 0]
  | x :: xs => .inl 1 :: (tok x ++ toks xs)
end
def itLt : Int ⊕ List Nat → Int ⊕ List Nat → Bool
  | .inl a, .inl b => decide (a < b)
  | .inl _, .inr _ => true
  | .inr _, .inl _ => false
  | .inr a, .inr b => decide (a < b)
def lexT : List (Int ⊕ List Nat) → List (Int ⊕ List Nat) → Bool
  | [], [] => false
  | [], _ :: _ => true
  | _ :: _, [] => false
  | x :: r, y :: t => itLt x y || (!itLt y x && lexT r t)
def tLt (x y : T) : Bool := lexT (tok x) (tok y)
def tLe (x y : T) : Bool := !tLt y x
def tSort (xs : List T) : List T := xs.mergeSort tLe
mutual
def alikeT : T → T → Bool
  | .non, .non => true
  | .bl _, .bl _ => true
  | .int _, .int _ => true
  | .str _, .str _ => true
  | .lst xs, .lst ys => alikesT xs ys
  | .tup xs, .tup ys => alikesT xs ys
  | _, _ => false
def alikesT : List T → List T → Bool
  | x :: xs, y :: ys => alikeT x y && alikesT xs ys
  | [], _ => true
  | _ :: _, [] => true
end
def fullTup : T → Bool
  | .tup (_ :: _) => true
  | _ => false
def noTup : T → Bool
  | .tup _ => false
  | .non => false
  | _ => true
def sortOk (xs : List T) : Bool := xs.all (fun x => plain x && decide (dep x ≤ 50)) && xs.all (fun x => xs.all (alikeT x)) && (xs.all fullTup || xs.all noTup)
def fSorted : List T → Option (List T)
  | [.lst xs] => if sortOk xs = true then some (tSort xs) else none
  | _ => none
def fList : List T → Option (List T)
  | [.lst xs] => some xs
  | [.tup xs] => some xs
  | [.dct kvs] => some (kvs.map (·.1))
  | _ => none
def asBs : List T → Option (List Bool)
  | [] => some []
  | .bl b :: xs => (asBs xs).map (b :: ·)
  | _ => none
def fAll : List T → Option T
  | [.lst xs] => (asBs xs).map fun bs => .bl (bs.all id)
  | _ => none
/-! ### slices -/
def ixS (n d : Nat) : Option Int → Nat
  | none => d
  | some v => if v < 0 then (v + (n : Int)).toNat else min v.toNat n
def cut (xs : List T) (lo hi : Option Int) : List T := (xs.drop (ixS xs.length 0 lo)).take (ixS xs.length xs.length hi - ixS xs.length 0 lo)
def asI : T → M Int
  | .int i => M.pure i
  | _ => M.stuck
def oCut (x : T) (lo hi : Option Int) : Option T := match x with
  | .lst xs => some (.lst (cut xs lo hi))
  | .tup xs => some (.tup (cut xs lo hi))
  | _ => none
def oCutL (x : T) (lo hi : Option Int) : Option (List T) := match x with
  | .lst xs => some (cut xs lo hi)
  | _ => none
def newC (f : Option (List T)) : M T := M.of f >>= fun ws => immsC ws >>= fun ws => M.pure (.lst ws)
end TL
end
section
set_option linter.all false
set_option autoImplicit false
/-! S0c: instances. Plain Lean. -/
namespace TL
open PySem
def oFld (c f : Str) : T → Option T
  | .ins c' fs => if c' = c then fs.lookup f else none
  | _ => none
/-- an instance of the class, with no attribute m of its own -/
def oIns (c m : Str) : T → Option T
  | .ins c' fs => if c' = c ∧ fs.lookup m = none then some (.ins c' fs) else none
  | _ => none
def oCls (c : Str) : T → Option T
  | .ins c' fs => if c' = c then some (.ins c' fs) else none
  | _ => none
def putFT (f : Str) (x : T) : List (Str × T) → List (Str × T)
  | [] => [(f, x)]
  | (g, y) :: r => if g = f then (g, x) :: r else (g, y) :: putFT f x r
def setFT (c f : Str) (w : T) : T → Option T
  | .ins c' fs => if c' = c ∧ fs.length < 1000 then some (.ins c' (putFT f w fs)) else none
  | _ => none
/-- slot i .f = e -/
def sFldM (c : Str) (i : Nat) (f : Str) (e : M T) : M Ctl := e >>= fun w => get i >>= fun x => M.of (setFT c f w x) >>= fun y => put i y >>= fun _ => M.pure .nx
/-- C(..) -/
def makeM (c : Str) (m : List T → RE T) (ts : List T) : M T := fun τ => match m (.ins c [] :: ts) with
  | .ok .non ps => match ps[0]? with
    | some (some t) => .ok t τ
    | _ => .stuck
  | .exc x _ => .exc x τ
  | _ => .stuck
/-! ### dicts asked, emptied; chains; stars -/
def asD : T → M Unit
  | .dct _ => M.pure ()
  | _ => M.stuck
def oGet1 : T → T → Option T
  | .dct kvs, k => if askOk kvs k = true then some ((look kvs k).getD .non) else none
  | _, _ => none
def oGet2 : T → T → T → Option T
  | .dct kvs, k, z => if askOk kvs k = true then some ((look kvs k).getD z) else none
  | _, _, _ => none
def oClear : T → Option T
  | .lst _ => some (.lst [])
  | .dct _ => some (.dct [])
  | _ => none
def clearM (i : Nat) : M T := get i >>= fun x => M.of (oClear x) >>= fun y => put i y >>= fun _ => M.pure .non
/-- a op b op' c -/
def chainM (f g : T → T → Option T) (ea eb ec : M T) : M T := ea >>= fun x => eb >>= fun y => M.of (f x y) >>= fun z => asB z >>= fun b => if b = true then ec >>= fun u => M.of (g y u) else M.pure (.bl false)
def oSeq : T → Option (List T)
  | .lst xs => some xs
  | .tup xs => some xs
  | _ => none
def starM (e : M T) (f : M (List T)) : M (List T) := e >>= fun x => M.of (oSeq x) >>= fun xs => immsC xs >>= fun xs => f >>= fun ys => M.pure (xs ++ ys)
/-! ### a list or dict inside slot i's list -/
def at2 : T → T → Option T
  | .lst xs, .int j => pyAt xs j
  | _, _ => none
def put2 : T → T → T → Option T
  | .lst xs, .int j, y => (pyIx xs.length j).map fun j => .lst (xs.set j y)
  | _, _, _ => none
def setIn (y k w : T) : Option T := match y with
  | .lst ys => (setL ys k w).map .lst
  | _ => none
def appIn (y w : T) : Option T := match y with
  | .lst ys => if ys.length < szL then some (.lst (ys ++ [w])) else none
  | _ => none
def isL : T → M Unit
  | .lst _ => M.pure ()
  | _ => M.stuck
/-- slot i [ej][ek] = e -/
def sSet2 (i : Nat) (e ej ek : M T) : M Ctl := e >>= fun w => get i >>= fun _ => ej >>= fun j => get i >>= fun x => M.of (at2 x j) >>= fun y => ek >>= fun k => M.of (setIn y k w) >>= fun z => M.of (put2 x j z) >>= fun x' => put i x' >>= fun _ => M.pure .nx
/-- slot i [ej].append(e) -/
def sApp2 (i : Nat) (ej e : M T) : M T := get i >>= fun _ => ej >>= fun j => get i >>= fun x => M.of (at2 x j) >>= fun y => isL y >>= fun _ => e >>= fun w => M.of (appIn y w) >>= fun z => M.of (put2 x j z) >>= fun x' => put i x' >>= fun _ => M.pure .non
/-- slot i [ej].clear() -/
def sClear2 (i : Nat) (ej : M T) : M T := get i >>= fun _ => ej >>= fun j => get i >>= fun x => M.of (at2 x j) >>= fun y => M.of (oClear y) >>= fun z => M.of (put2 x j z) >>= fun x' => put i x' >>= fun _ => M.pure .non
/-- the turns of a dict comprehension -/
def dcM (vs : List Nat) (bg : T → M Unit) (et : M Bool) (ek ev : M T) : List T → List (T × T) → M (List (T × T))
  | [], acc => M.pure acc
  | x :: xs, acc => wipeM vs >>= fun _ => bg x >>= fun _ => et >>= fun b => if b = true then ek >>= fun k => ev >>= fun w => (if askOk acc k = true ∧ acc.length < szL then M.pure () else M.stuck) >>= fun _ => wipeM vs >>= fun _ => dcM vs bg et ek ev xs (store acc k w) else wipeM vs >>= fun _ => dcM vs bg et ek ev xs acc
def sDc (vs : List Nat) (ei : M (List T)) (bg : T → M Unit) (et : M Bool) (ek ev : M T) : M T := ei >>= fun xs => dcM vs bg et ek ev xs [] >>= fun ws => M.pure (.dct ws)
/-! ### small expressions -/
def andM (ea eb : M T) : M T := ea >>= fun x => asB x >>= fun c => if c = true then eb else M.pure (.bl false)
def orM (ea eb : M T) : M T := ea >>= fun x => asB x >>= fun c => if c = true then M.pure (.bl true) else eb
def notM (ea : M T) : M T := ea >>= fun x => asB x >>= fun c => M.pure (.bl (!c))
/-- slot i op= e -/
def augM (f : T → T → Option T) (i : Nat) (e : M T) : M Ctl := get i >>= fun x => e >>= fun y => M.of (f x y) >>= fun z => put i z >>= fun _ => M.pure .nx
def oRev : T → Option (List T)
  | .lst xs => some xs.reverse
  | _ => none
def asStrs : List T → Option (List Str)
  | [] => some []
  | .str x :: xs => (asStrs xs).map (x :: ·)
  | _ => none
def addS (ks : List Str) (k : Str) : List Str := if k ∈ ks then ks else ks ++ [k]
def fSortSet : T → Option T
  | .lst xs => (asStrs xs).bind fun ks => if ks.length ≤ 1000 then some (.lst (tSort ((ks.foldl addS []).map .str))) else none
  | _ => none
def oTru : T → Option Bool
  | .non => some false
  | .bl b => some b
  | .int i => some (i != 0)
  | .lst xs => some (!xs.isEmpty)
  | .tup xs => some (!xs.isEmpty)
  | _ => none
def starFM (e : M T) (f : M (List T)) : M (List T) := e >>= fun x => M.of (oSeq x) >>= fun xs => f >>= fun ys => M.pure (xs ++ ys)
end TL
end
section
set_option linter.all false
set_option autoImplicit false
/-! S0d: names for the steps that the script prints. Plain Lean. -/
namespace TL
open PySem
def op2 (f : T → T → Option T) (ea eb : M T) : M T := ea >>= fun x => eb >>= fun y => M.of (f x y)
def op1 (f : T → Option T) (ea : M T) : M T := ea >>= fun x => M.of (f x)
def con (t : T) : M T := M.pure t
def nilA : M (List T) := M.pure []
def consA (e : M T) (f : M (List T)) : M (List T) := e >>= fun x => f >>= fun xs => M.pure (x :: xs)
def fnA (f : List T → Option T) (a : M (List T)) : M T := a >>= fun ts => M.of (f ts)
def newA (f : List T → Option (List T)) (a : M (List T)) : M T := a >>= fun ts => M.of ((f ts).map .lst)
def newI (f : List T → Option (List T)) (a : M (List T)) : M T := a >>= fun ts => newC (f ts)
def toI (e : M T) : M T := e >>= immC
def toS (e : M T) : M T := e >>= scalC
def tst (e : M T) : M Bool := e >>= asB
def andT (e f : M Bool) : M Bool := e >>= fun b => if b = true then f else M.pure false
def orT (e f : M Bool) : M Bool := e >>= fun b => if b = true then M.pure true else f
def notT (e : M Bool) : M Bool := e >>= fun b => M.pure (!b)
def truT (e : M T) : M Bool := e >>= fun x => M.of (oTru x)
def ifE (e : M Bool) (ea eb : M T) : M T := e >>= fun b => if b = true then ea else eb
def callA (m : List T → RE T) (a : M (List T)) : M T := a >>= call0 m
def callL (m : List T → RE T) (i j : Nat) (a : M (List T)) : M T := a >>= call1 m i j
def makeA (c : Str) (m : List T → RE T) (a : M (List T)) : M T := a >>= makeM c m
def elems (e : M T) : M (List T) := e >>= fun x => M.of (oElems x)
def rng1 (a : M (List T)) : M (List T) := a >>= fun ts => M.of (fRange1 ts)
def rng2 (a : M (List T)) : M (List T) := a >>= fun ts => M.of (fRange2 ts)
def enumM (e : M T) : M (List T) := e >>= fun x => M.of (fEnum [x])
def forS (e : M (List T)) (bg : T → M Unit) (b : M Ctl) : M Ctl := e >>= sFor bg b
def appS (i : Nat) (e : M T) : M T := get i >>= fun x => asL x >>= fun _ => e >>= fun w => appM i w
def get1D (ed ek : M T) : M T := ed >>= fun x => asD x >>= fun _ => ek >>= fun k => M.of (oGet1 x k)
def cutN (e : M T) (el eh : M (Option Int)) : M T := e >>= fun x => el >>= fun lo => eh >>= fun hi => M.of (oCut x lo hi)
def cutI (e : M T) (el eh : M (Option Int)) : M T := e >>= fun x => el >>= fun lo => eh >>= fun hi => newC (oCutL x lo hi)
def noPart : M (Option Int) := M.pure none
def part (e : M T) : M (Option Int) := e >>= fun x => asI x >>= fun i => M.pure (some i)
def revI (e : M T) : M T := e >>= fun x => newC (oRev x)
def isaM (ts : List String) (e : M T) : M T := e >>= fun x => M.of (oIsA x ts)
def unpM (bg : T → M Unit) (e : M T) : M Ctl := e >>= fun w => bg w >>= fun _ => M.pure .nx
def oFldM (c f : Str) (e : M T) : M T := e >>= fun x => M.of (oFld c f x)
def selfA (c m : Str) (ea : M T) (e : M (List T)) : M (List T) := (ea >>= fun x => M.of (oIns c m x)) >>= fun x => e >>= fun xs => M.pure (x :: xs)
def propA (c : Str) (ea : M T) : M (List T) := (ea >>= fun x => M.of (oCls c x)) >>= fun x => M.pure [] >>= fun xs => M.pure (x :: xs)
/-- a list comprehension over slot i's own list, read anew at each turn -/
def lcO (vs : List Nat) (i : Nat) (bg : T → M Unit) (et : M Bool) (ee : M T) : Nat → Nat → List T → M (List T)
  | 0, _, _ => M.stuck
  | n + 1, k, acc => get i >>= fun x => asL x >>= fun xs => match xs[k]? with
    | none => M.pure acc
    | some t => immC t >>= fun t => wipeM vs >>= fun _ => bg t >>= fun _ => et >>= fun b => if b = true then ee >>= fun w => (if acc.length < szL then M.pure () else M.stuck) >>= fun _ => wipeM vs >>= fun _ => lcO vs i bg et ee n (k + 1) (acc ++ [w]) else wipeM vs >>= fun _ => lcO vs i bg et ee n (k + 1) acc
def sLcO (vs : List Nat) (i : Nat) (bg : T → M Unit) (et : M Bool) (ee : M T) : M T := get i >>= fun x => asL x >>= fun xs => lcO vs i bg et ee (xs.length + 1) 0 [] >>= fun ws => M.pure (.lst ws)
end TL
end
section
set_option linter.all false
set_option autoImplicit false
/-! S0e: more steps. Plain Lean. -/
namespace TL
open PySem
def fTup : List T → Option (List T)
  | [.lst xs] => some xs
  | [.tup xs] => some xs
  | _ => none
/-- tuple(..) of fixed things -/
def tupA (a : M (List T)) : M T := a >>= fun ts => M.of (fTup ts) >>= fun ws => immsC ws >>= fun ws => M.pure (.tup ws)
def fCat : List T → Option (List T)
  | [.lst xs, .lst ys] => if xs.length + ys.length ≤ szL then some (xs ++ ys) else none
  | _ => none
def fCatT : List T → Option (List T)
  | [.tup xs, .tup ys] => if xs.length + ys.length ≤ szL then some (xs ++ ys) else none
  | _ => none
/-- t + u of tuples of fixed things -/
def catTA (a : M (List T)) : M T := a >>= fun ts => M.of (fCatT ts) >>= fun ws => immsC ws >>= fun ws => M.pure (.tup ws)
/-- x in o by an own def -/
def inO (c : Str) (neg : Bool) (m : List T → RE T) (ea eb : M T) : M T := (ea >>= fun x => eb >>= fun y => M.of (oCls c y) >>= fun y => M.pure [y, x]) >>= call0 m >>= fun w => asB w >>= fun b => M.pure (.bl (if neg = true then !b else b))
/-- o[i] by an own def -/
def ixO (c : Str) (m : List T → RE T) (ea eb : M T) : M T := (ea >>= fun x => eb >>= fun y => M.of (oCls c x) >>= fun x => M.pure [x, y]) >>= call0 m
/-- xs * n of a list of one's own -/
def repM (ea eb : M T) : M T := ea >>= fun x => eb >>= fun y => asL x >>= fun xs => asI y >>= fun k => if 0 ≤ k ∧ k ≤ 1000000 ∧ xs.length * k.toNat ≤ szL then M.pure (.lst (List.replicate k.toNat xs).flatten) else M.stuck
end TL
end
section
set_option linter.all false
set_option autoImplicit false
/-! S0f: more steps. Plain Lean. -/
namespace TL
open PySem
/-! ### texts -/
def asS : T → M Unit
  | .str _ => M.pure ()
  | _ => M.stuck
/-- s.m(e) of a text -/
def strM (f : List T → Option T) (ea eb : M T) : M T := ea >>= fun x => asS x >>= fun _ => eb >>= fun y => M.of (f [x, y])
def joinOk (a : Str) (ys : List Str) : Bool := decide ((ys.map (·.length)).sum + ys.length * a.length ≤ 16777216)
def fJoin : List T → Option T
  | [.str a, .lst ys] => (asStrs ys).bind fun zs => if joinOk a zs = true then some (.str (Str.join a zs)) else none
  | [.str a, .tup ys] => (asStrs ys).bind fun zs => if joinOk a zs = true then some (.str (Str.join a zs)) else none
  | _ => none
end TL
end
section
set_option linter.all false
set_option autoImplicit false
/-! S0g: isinstance over instances. Plain Lean. -/
namespace TL
open PySem
/-- isinstance(x, built-in types), x perhaps an instance of one of the classes cs -/
def oIsAI (cs : List Str) : T → List String → Option T
  | .ins c _, _ => if c ∈ cs then some (.bl false) else none
  | x, ts => oIsA x ts
def isaI (cs : List Str) (ts : List String) (e : M T) : M T := e >>= fun x => M.of (oIsAI cs x ts)
/-- isinstance(x, own class c) -/
def oIsO (cs : List Str) (c : Str) : T → Option T
  | .ins c' _ => if c' ∈ cs then some (.bl (decide (c' = c))) else none
  | x => (tyName x).map fun _ => .bl false
def isaO (cs : List Str) (c : Str) (e : M T) : M T := e >>= fun x => M.of (oIsO cs c x)
end TL
end
section
set_option linter.all false
set_option autoImplicit false
/-! L0: steps reasoned about from behind. Plain Lean. -/
namespace TL
open PySem
/-- the step goes well, and Q holds behind it -/
def Ok {α : Type} (m : M α) (τ : Tau) (Q : α → Tau → Prop) : Prop := ∃ a τ', m τ = .ok a τ' ∧ Q a τ'
/-- the def goes well -/
def Fok (f : List T → RE T) (ts : List T) (Q : T → Tau → Prop) : Prop := ∃ w ps, f ts = .ok w ps ∧ Q w ps
section
variable {α β : Type} {τ : Tau} {Q : T → Tau → Prop} {QB : Bool → Tau → Prop} {QC : Ctl → Tau → Prop} {QL : List T → Tau → Prop} {QU : Unit → Tau → Prop}
theorem ok_imp {m : M α} {Q Q' : α → Tau → Prop} (h : Ok m τ Q) (i : ∀ a τ', Q a τ' → Q' a τ') : Ok m τ Q' := by
  obtain ⟨a, τ', e, q⟩ := h; exact ⟨a, τ', e, i _ _ q⟩
theorem fok_imp {f : List T → RE T} {ts : List T} {Q Q' : T → Tau → Prop} (h : Fok f ts Q) (i : ∀ a τ', Q a τ' → Q' a τ') : Fok f ts Q' := by
  obtain ⟨a, τ', e, q⟩ := h; exact ⟨a, τ', e, i _ _ q⟩
theorem ok_bind {m : M α} {f : α → M β} {Q : β → Tau → Prop} (h : Ok m τ fun a τ' => Ok (f a) τ' Q) : Ok (m >>= f) τ Q := by
  obtain ⟨a, τ', e, b, τ2, e2, q⟩ := h
  refine ⟨b, τ2, ?_, q⟩
  show (m τ).next f = _
  rw [e]; exact e2
theorem ok_pure {a : α} {Q : α → Tau → Prop} (h : Q a τ) : Ok (M.pure a) τ Q := ⟨a, τ, rfl, h⟩
theorem ok_of {o : Option α} {a : α} {Q : α → Tau → Prop} (e : o = some a) (h : Q a τ) : Ok (M.of o) τ Q := by subst e; exact ⟨a, τ, rfl, h⟩
theorem ok_get {i : Nat} {t : T} (e : τ[i]? = some (some t)) (h : Q t τ) : Ok (get i) τ Q := ⟨t, τ, by unfold get; rw [e], h⟩
theorem ok_mv {i : Nat} {t : T} (e : τ[i]? = some (some t)) (h : Q t (τ.set i none)) : Ok (mv i) τ Q := ⟨t, _, by unfold mv; rw [e], h⟩
theorem ok_put {i : Nat} {t : T} {Q : Unit → Tau → Prop} (h : Q () (τ.set i (some t))) : Ok (put i t) τ Q := ⟨(), _, rfl, h⟩
theorem ok_con {t : T} (h : Q t τ) : Ok (con t) τ Q := ⟨t, τ, rfl, h⟩
/-! expressions -/
theorem ok_op2 {f : T → T → Option T} {ea eb : M T} (h : Ok ea τ fun x τ1 => Ok eb τ1 fun y τ2 => ∃ w, f x y = some w ∧ Q w τ2) : Ok (op2 f ea eb) τ Q := ok_bind (ok_imp h fun x τ1 h => ok_bind (ok_imp h fun y τ2 ⟨w, e, q⟩ => ok_of e q))
theorem ok_op1 {f : T → Option T} {ea : M T} (h : Ok ea τ fun x τ1 => ∃ w, f x = some w ∧ Q w τ1) : Ok (op1 f ea) τ Q := ok_bind (ok_imp h fun x τ1 ⟨w, e, q⟩ => ok_of e q)
theorem ok_nil (h : QL [] τ) : Ok nilA τ QL := ok_pure h
theorem ok_cons {e : M T} {f : M (List T)} (h : Ok e τ fun x τ1 => Ok f τ1 fun xs τ2 => QL (x :: xs) τ2) : Ok (consA e f) τ QL := ok_bind (ok_imp h fun x τ1 h => ok_bind (ok_imp h fun xs τ2 h => ok_pure h))
theorem ok_fnA {f : List T → Option T} {a : M (List T)} (h : Ok a τ fun ts τ1 => ∃ w, f ts = some w ∧ Q w τ1) : Ok (fnA f a) τ Q := ok_bind (ok_imp h fun x τ1 ⟨w, e, q⟩ => ok_of e q)
theorem ok_newA {f : List T → Option (List T)} {a : M (List T)} (h : Ok a τ fun ts τ1 => ∃ w, f ts = some w ∧ Q (.lst w) τ1) : Ok (newA f a) τ Q := ok_bind (ok_imp h fun x τ1 ⟨w, e, q⟩ => ok_of (by rw [e]; rfl) q)
theorem ok_newC {o : Option (List T)} {w : List T} (e : o = some w) (hi : imms w = true) (h : Q (.lst w) τ) : Ok (newC o) τ Q := by
  subst e
  exact ok_bind (ok_pure (ok_bind (by unfold immsC; rw [if_pos hi]; exact ok_pure (ok_pure h))))
theorem ok_newI {f : List T → Option (List T)} {a : M (List T)} (h : Ok a τ fun ts τ1 => ∃ w, f ts = some w ∧ imms w = true ∧ Q (.lst w) τ1) : Ok (newI f a) τ Q := ok_bind (ok_imp h fun x τ1 ⟨w, e, hi, q⟩ => ok_newC e hi q)
theorem ok_toI {e : M T} (h : Ok e τ fun w τ1 => imm w = true ∧ Q w τ1) : Ok (toI e) τ Q := ok_bind (ok_imp h fun w τ1 ⟨hi, q⟩ => by unfold immC; rw [if_pos hi]; exact ok_pure q)
theorem ok_toS {e : M T} (h : Ok e τ fun w τ1 => isScal w = true ∧ Q w τ1) : Ok (toS e) τ Q := ok_bind (ok_imp h fun w τ1 ⟨hi, q⟩ => by unfold scalC; rw [if_pos hi]; exact ok_pure q)
theorem ok_isa {ts : List String} {e : M T} (h : Ok e τ fun x τ1 => ∃ w, oIsA x ts = some w ∧ Q w τ1) : Ok (isaM ts e) τ Q := ok_bind (ok_imp h fun x τ1 ⟨w, e, q⟩ => ok_of e q)
theorem ok_fld {c f : Str} {e : M T} (h : Ok e τ fun x τ1 => ∃ w, oFld c f x = some w ∧ Q w τ1) : Ok (oFldM c f e) τ Q := ok_bind (ok_imp h fun x τ1 ⟨w, e, q⟩ => ok_of e q)
theorem ok_chain {f g : T → T → Option T} {ea eb ec : M T} (h : Ok ea τ fun x τ1 => Ok eb τ1 fun y τ2 => ∃ b, f x y = some (.bl b) ∧ if b = true then Ok ec τ2 fun u τ3 => ∃ w, g y u = some w ∧ Q w τ3 else Q (.bl false) τ2) : Ok (chainM f g ea eb ec) τ Q :=
  ok_bind (ok_imp h fun x τ1 h => ok_bind (ok_imp h fun y τ2 ⟨b, e, h⟩ => ok_bind (ok_of e (ok_bind (by
    cases b with
    | true => exact ok_pure (ok_bind (ok_imp h fun u τ3 ⟨w, e, q⟩ => ok_of e q))
    | false => exact ok_pure (ok_pure h))))))
theorem ok_andM {ea eb : M T} (h : Ok ea τ fun x τ1 => ∃ b, x = .bl b ∧ if b = true then Ok eb τ1 Q else Q (.bl false) τ1) : Ok (andM ea eb) τ Q := ok_bind (ok_imp h fun x τ1 ⟨b, e, h⟩ => by
  subst e
  refine ok_bind (ok_pure ?_)
  cases b with
  | true => exact h
  | false => exact ok_pure h)
theorem ok_orM {ea eb : M T} (h : Ok ea τ fun x τ1 => ∃ b, x = .bl b ∧ if b = true then Q (.bl true) τ1 else Ok eb τ1 Q) : Ok (orM ea eb) τ Q := ok_bind (ok_imp h fun x τ1 ⟨b, e, h⟩ => by
  subst e
  refine ok_bind (ok_pure ?_)
  cases b with
  | true => exact ok_pure h
  | false => exact h)
theorem ok_notM {ea : M T} (h : Ok ea τ fun x τ1 => ∃ b, x = .bl b ∧ Q (.bl (!b)) τ1) : Ok (notM ea) τ Q := ok_bind (ok_imp h fun x τ1 ⟨b, e, h⟩ => by subst e; exact ok_bind (ok_pure (ok_pure h)))
theorem ok_callA {f : List T → RE T} {a : M (List T)} (h : Ok a τ fun ts τ1 => Fok f ts fun w _ => Q w τ1) : Ok (callA f a) τ Q := ok_bind (ok_imp h fun ts τ1 ⟨w, ps, e, q⟩ => ⟨w, τ1, by unfold call0; rw [e], q⟩)
theorem ok_callL {f : List T → RE T} {i j : Nat} {a : M (List T)} (h : Ok a τ fun ts τ1 => ∃ t, τ1[i]? = some (some t) ∧ Fok f (ts.set j t) fun w ps => ∃ t', ps[j]? = some (some t') ∧ Q w (τ1.set i (some t'))) : Ok (callL f i j a) τ Q :=
  ok_bind (ok_imp h fun ts τ1 ⟨t, e1, w, ps, e2, t', e3, q⟩ => ⟨w, τ1.set i (some t'), by unfold call1; rw [e1]; dsimp only; rw [e2]; dsimp only; rw [e3], q⟩)
theorem ok_makeA {c : Str} {f : List T → RE T} {a : M (List T)} (h : Ok a τ fun ts τ1 => Fok f (.ins c [] :: ts) fun w ps => w = .non ∧ ∃ t', ps[0]? = some (some t') ∧ Q t' τ1) : Ok (makeA c f a) τ Q :=
  ok_bind (ok_imp h fun ts τ1 ⟨w, ps, e2, e, t', e3, q⟩ => ⟨t', τ1, by subst e; unfold makeM; rw [e2]; dsimp only; rw [e3], q⟩)
theorem ok_selfA {c m : Str} {ea : M T} {e : M (List T)} (h : Ok ea τ fun x τ1 => ∃ y, oIns c m x = some y ∧ Ok e τ1 fun xs τ2 => QL (y :: xs) τ2) : Ok (selfA c m ea e) τ QL := ok_bind (ok_bind (ok_imp h fun x τ1 ⟨y, e, h⟩ => ok_of e (ok_bind (ok_imp h fun xs τ2 h => ok_pure h))))
theorem ok_propA {c : Str} {ea : M T} (h : Ok ea τ fun x τ1 => ∃ y, oCls c x = some y ∧ QL [y] τ1) : Ok (propA c ea) τ QL := ok_bind (ok_bind (ok_imp h fun x τ1 ⟨y, e, h⟩ => ok_of e (ok_bind (ok_pure (ok_pure h)))))
theorem ok_cutN {e : M T} {el eh : M (Option Int)} (h : Ok e τ fun x τ1 => Ok el τ1 fun lo τ2 => Ok eh τ2 fun hi τ3 => ∃ w, oCut x lo hi = some w ∧ Q w τ3) : Ok (cutN e el eh) τ Q := ok_bind (ok_imp h fun x τ1 h => ok_bind (ok_imp h fun lo τ2 h => ok_bind (ok_imp h fun hi τ3 ⟨w, e, q⟩ => ok_of e q)))
theorem ok_cutI {e : M T} {el eh : M (Option Int)} (h : Ok e τ fun x τ1 => Ok el τ1 fun lo τ2 => Ok eh τ2 fun hi τ3 => ∃ w, oCutL x lo hi = some w ∧ imms w = true ∧ Q (.lst w) τ3) : Ok (cutI e el eh) τ Q := ok_bind (ok_imp h fun x τ1 h => ok_bind (ok_imp h fun lo τ2 h => ok_bind (ok_imp h fun hi τ3 ⟨w, e, hi, q⟩ => ok_newC e hi q)))
theorem ok_noPart {Q : Option Int → Tau → Prop} (h : Q none τ) : Ok noPart τ Q := ok_pure h
theorem ok_part {e : M T} {Q : Option Int → Tau → Prop} (h : Ok e τ fun x τ1 => ∃ i, x = .int i ∧ Q (some i) τ1) : Ok (part e) τ Q := ok_bind (ok_imp h fun x τ1 ⟨i, e, h⟩ => by subst e; exact ok_bind (ok_pure (ok_pure h)))
theorem ok_get1D {ed ek : M T} (h : Ok ed τ fun x τ1 => ∃ kvs, x = .dct kvs ∧ Ok ek τ1 fun k τ2 => askOk kvs k = true ∧ Q ((look kvs k).getD .non) τ2) : Ok (get1D ed ek) τ Q := ok_bind (ok_imp h fun x τ1 ⟨kvs, e, h⟩ => by
  subst e
  refine ok_bind (ok_pure (ok_bind (ok_imp h fun k τ2 ⟨ha, q⟩ => ok_of ?_ q)))
  show (if askOk kvs k = true then _ else _) = _
  rw [if_pos ha])
theorem ok_ifE {c : M Bool} {ea eb : M T} (h : Ok c τ fun b τ1 => if b = true then Ok ea τ1 Q else Ok eb τ1 Q) : Ok (ifE c ea eb) τ Q := ok_bind (ok_imp h fun b τ1 h => by cases b <;> exact h)
/-! tests -/
theorem ok_tst {e : M T} (h : Ok e τ fun x τ1 => ∃ b, x = .bl b ∧ QB b τ1) : Ok (tst e) τ QB := ok_bind (ok_imp h fun x τ1 ⟨b, e, h⟩ => by subst e; exact ok_pure h)
theorem ok_andT {e f : M Bool} (h : Ok e τ fun b τ1 => if b = true then Ok f τ1 QB else QB false τ1) : Ok (andT e f) τ QB := ok_bind (ok_imp h fun b τ1 h => by
  cases b with
  | true => exact h
  | false => exact ok_pure h)
theorem ok_orT {e f : M Bool} (h : Ok e τ fun b τ1 => if b = true then QB true τ1 else Ok f τ1 QB) : Ok (orT e f) τ QB := ok_bind (ok_imp h fun b τ1 h => by
  cases b with
  | true => exact ok_pure h
  | false => exact h)
theorem ok_notT {e : M Bool} (h : Ok e τ fun b τ1 => QB (!b) τ1) : Ok (notT e) τ QB := ok_bind (ok_imp h fun b τ1 h => ok_pure h)
theorem ok_truT {e : M T} (h : Ok e τ fun x τ1 => ∃ b, oTru x = some b ∧ QB b τ1) : Ok (truT e) τ QB := ok_bind (ok_imp h fun x τ1 ⟨w, e, q⟩ => ok_of e q)
/-! statements -/
theorem ok_nx (h : QC .nx τ) : Ok sNx τ QC := ok_pure h
theorem ok_seq {a b : M Ctl} (h : Ok a τ fun c τ1 => match c with
    | .nx => Ok b τ1 QC
    | c => QC c τ1) : Ok (sSeq a b) τ QC := ok_bind (ok_imp h fun c τ1 h => by
  cases c with
  | nx => exact h
  | bk => exact ok_pure h
  | ct => exact ok_pure h
  | rt w => exact ok_pure h)
theorem ok_ret {e : M T} (h : Ok e τ fun w τ1 => QC (.rt w) τ1) : Ok (sRet e) τ QC := ok_bind (ok_imp h fun w τ1 h => ok_pure h)
theorem ok_drop {e : M T} (h : Ok e τ fun _ τ1 => QC .nx τ1) : Ok (sDrop e) τ QC := ok_bind (ok_imp h fun w τ1 h => ok_pure h)
theorem ok_set {i : Nat} {e : M T} (h : Ok e τ fun w τ1 => QC .nx (τ1.set i (some w))) : Ok (sSet i e) τ QC := ok_bind (ok_imp h fun w τ1 h => ok_bind (ok_put (ok_pure h)))
theorem ok_if {c : M Bool} {a b : M Ctl} (h : Ok c τ fun x τ1 => if x = true then Ok a τ1 QC else Ok b τ1 QC) : Ok (sIf c a b) τ QC := ok_bind (ok_imp h fun b τ1 h => by cases b <;> exact h)
theorem ok_sSetL {i : Nat} {e ek : M T} (h : Ok e τ fun w τ1 => (∃ x, τ1[i]? = some (some x)) ∧ Ok ek τ1 fun k τ2 => ∃ xs ys, τ2[i]? = some (some (.lst xs)) ∧ setL xs k w = some ys ∧ QC .nx (τ2.set i (some (.lst ys)))) : Ok (sSetL i e ek) τ QC :=
  ok_bind (ok_imp h fun w τ1 ⟨⟨x, ex⟩, h⟩ => ok_bind (ok_get ex (ok_bind (ok_imp h fun k τ2 ⟨xs, ys, e1, e2, q⟩ => ok_bind (ok_bind (ok_get e1 (ok_bind (ok_pure (ok_bind (ok_of e2 (ok_put (ok_pure q))))))))))))
theorem ok_sSetI {i : Nat} {e ek : M T} (h : Ok e τ fun w τ1 => (∃ x, τ1[i]? = some (some x)) ∧ Ok ek τ1 fun k τ2 => ∃ x y, τ2[i]? = some (some x) ∧ setC x k w = some y ∧ QC .nx (τ2.set i (some y))) : Ok (sSetI i e ek) τ QC :=
  ok_bind (ok_imp h fun w τ1 ⟨⟨x, ex⟩, h⟩ => ok_bind (ok_get ex (ok_bind (ok_imp h fun k τ2 ⟨x, y, e1, e2, q⟩ => ok_bind (ok_bind (ok_get e1 (ok_bind (ok_of e2 (ok_put (ok_pure q))))))))))
theorem ok_sSet2 {i : Nat} {e ej ek : M T} (h : Ok e τ fun w τ1 => (∃ x, τ1[i]? = some (some x)) ∧ Ok ej τ1 fun j τ2 => ∃ x y, τ2[i]? = some (some x) ∧ at2 x j = some y ∧ Ok ek τ2 fun k τ3 => ∃ z x', setIn y k w = some z ∧ put2 x j z = some x' ∧ QC .nx (τ3.set i (some x'))) : Ok (sSet2 i e ej ek) τ QC :=
  ok_bind (ok_imp h fun w τ1 ⟨⟨x, ex⟩, h⟩ => ok_bind (ok_get ex (ok_bind (ok_imp h fun j τ2 ⟨x, y, e1, e2, h⟩ => ok_bind (ok_get e1 (ok_bind (ok_of e2 (ok_bind (ok_imp h fun k τ3 ⟨z, x', e3, e4, q⟩ => ok_bind (ok_of e3 (ok_bind (ok_of e4 (ok_bind (ok_put (ok_pure q)))))))))))))))
theorem ok_appS {i : Nat} {e : M T} (h : (∃ xs, τ[i]? = some (some (.lst xs))) ∧ Ok e τ fun w τ1 => ∃ xs, τ1[i]? = some (some (.lst xs)) ∧ xs.length < szL ∧ Q .non (τ1.set i (some (.lst (xs ++ [w]))))) : Ok (appS i e) τ Q := by
  obtain ⟨⟨xs, e0⟩, h⟩ := h
  refine ok_bind (ok_get e0 (ok_bind (ok_pure (ok_bind (ok_imp h fun w τ1 ⟨xs, e1, hl, q⟩ => ok_bind (ok_get e1 (ok_bind (ok_pure (ok_bind ?_)))))))))
  rw [if_pos hl]
  exact ok_pure (ok_bind (ok_put (ok_pure q)))
/-! walks -/
theorem ok_for {es : M (List T)} {bg : T → M Unit} {b : M Ctl} (h : Ok es τ fun xs τ1 => Ok (sFor bg b xs) τ1 QC) : Ok (forS es bg b) τ QC := ok_bind h
theorem ok_elems {e : M T} (h : Ok e τ fun x τ1 => ∃ xs, oElems x = some xs ∧ QL xs τ1) : Ok (elems e) τ QL := ok_bind (ok_imp h fun x τ1 ⟨w, e, q⟩ => ok_of e q)
theorem ok_rng1 {a : M (List T)} (h : Ok a τ fun x τ1 => ∃ xs, fRange1 x = some xs ∧ QL xs τ1) : Ok (rng1 a) τ QL := ok_bind (ok_imp h fun x τ1 ⟨w, e, q⟩ => ok_of e q)
theorem ok_rng2 {a : M (List T)} (h : Ok a τ fun x τ1 => ∃ xs, fRange2 x = some xs ∧ QL xs τ1) : Ok (rng2 a) τ QL := ok_bind (ok_imp h fun x τ1 ⟨w, e, q⟩ => ok_of e q)
theorem ok_enum {e : M T} (h : Ok e τ fun x τ1 => ∃ xs, fEnum [x] = some xs ∧ QL xs τ1) : Ok (enumM e) τ QL := ok_bind (ok_imp h fun x τ1 ⟨w, e, q⟩ => ok_of e q)
/-- a walk: Inv of what is left -/
theorem ok_sFor {bg : T → M Unit} {b : M Ctl} (Inv : List T → Tau → Prop) (step : ∀ x r τ, Inv (x :: r) τ → Ok (bg x) τ fun _ τ1 => Ok b τ1 fun c τ2 => match c with
    | .nx => Inv r τ2
    | .ct => Inv r τ2
    | .bk => QC .nx τ2
    | .rt w => QC (.rt w) τ2) (fin : ∀ τ, Inv [] τ → QC .nx τ) : ∀ (xs : List T) (τ : Tau), Inv xs τ → Ok (sFor bg b xs) τ QC
  | [], τ, h => ok_pure (fin τ h)
  | x :: r, τ, h => ok_bind (ok_imp (step x r τ h) fun _ τ1 h1 => ok_bind (ok_imp h1 fun c τ2 h2 => by
    cases c with
    | nx => exact ok_sFor Inv step fin r τ2 h2
    | ct => exact ok_sFor Inv step fin r τ2 h2
    | bk => exact ok_pure h2
    | rt w => exact ok_pure h2))
/-- a while: Inv with a measure below the fuel -/
theorem ok_while {c : M Bool} {b : M Ctl} (Inv : Nat → Tau → Prop) (step : ∀ m τ, Inv m τ → Ok c τ fun x τ1 => if x = true then 0 < m ∧ Ok b τ1 fun c τ2 => match c with
    | .nx => ∃ m', m' < m ∧ Inv m' τ2
    | .ct => ∃ m', m' < m ∧ Inv m' τ2
    | .bk => QC .nx τ2
    | .rt w => QC (.rt w) τ2 else QC .nx τ1) : ∀ (n m : Nat) (τ : Tau), m < n → Inv m τ → Ok (sWhile c b n) τ QC
  | 0, m, τ, hm, h => by omega
  | n + 1, m, τ, hm, h => ok_bind (ok_imp (step m τ h) fun x τ1 h1 => by
    cases x with
    | false => exact ok_pure h1
    | true =>
      obtain ⟨hp, h1⟩ := h1
      refine ok_bind (ok_imp h1 fun c τ2 h2 => ?_)
      cases c with
      | nx => obtain ⟨m', hl, hi⟩ := h2; exact ok_while Inv step n m' τ2 (by omega) hi
      | ct => obtain ⟨m', hl, hi⟩ := h2; exact ok_while Inv step n m' τ2 (by omega) hi
      | bk => exact ok_pure h2
      | rt w => exact ok_pure h2)
/-! defs -/
theorem fok_of {s : M Ctl} {np N : Nat} {ts : List T} (h : Ok s (ts.map some ++ List.replicate (N - np) none) fun c τ => match c with
    | .nx => Q .non (pad np τ)
    | .rt w => Q w (pad np τ)
    | _ => False) : Fok (noX (runF s np N)) ts Q := by
  obtain ⟨c, τ', e, q⟩ := h
  cases c with
  | nx => exact ⟨.non, pad np τ', by unfold noX runF; rw [e], q⟩
  | rt w => exact ⟨w, pad np τ', by unfold noX runF; rw [e], q⟩
  | bk => exact q.elim
  | ct => exact q.elim
end
end TL
end
section
set_option linter.all false
set_option autoImplicit false
/-! L1: the walk through a step; lists. Plain Lean. -/
namespace TL
open PySem
theorem fok_at {Q : T → Tau → Prop} {s : M Ctl} {np N : Nat} {ts : List T} {τ0 : Tau} (e : ts.map some ++ List.replicate (N - np) none = τ0) (h : Ok s τ0 fun c τ => match c with
    | .nx => Q .non (pad np τ)
    | .rt w => Q w (pad np τ)
    | _ => False) : Fok (noX (runF s np N)) ts Q := fok_of (by rw [e]; exact h)
theorem w1 {α : Type} {P : α → Prop} {o : Option α} {a : α} (e : o = some a) (h : P a) : ∃ w, o = some w ∧ P w := ⟨a, e, h⟩
theorem ok_noE {α : Type} {m : M α} {τ : Tau} {Q : α → Tau → Prop} (h : Ok m τ Q) : Ok (noE m) τ Q := by
  obtain ⟨a, τ', e, q⟩ := h
  exact ⟨a, τ', by unfold noE; rw [e], q⟩
theorem ok_wipe {vs : List Nat} {τ : Tau} {Q : Unit → Tau → Prop} (h : Q () (wipeT τ vs)) : Ok (wipeM vs) τ Q := ⟨(), _, rfl, h⟩
section
variable {vs : List Nat} {bg : T → M Unit} {et : M Bool} {ee ek : M T} {QL : List T → Tau → Prop} {QD : List (T × T) → Tau → Prop} {Q : T → Tau → Prop}
theorem ok_lcM (Inv : List T → List T → Tau → Prop) (step : ∀ x r acc τ, Inv (x :: r) acc τ → Ok (bg x) (wipeT τ vs) fun _ τ1 => Ok et τ1 fun b τ2 => if b = true then Ok ee τ2 fun w τ3 => acc.length < szL ∧ Inv r (acc ++ [w]) (wipeT τ3 vs) else Inv r acc (wipeT τ2 vs))
    (fin : ∀ acc τ, Inv [] acc τ → QL acc τ) : ∀ (xs acc : List T) (τ : Tau), Inv xs acc τ → Ok (lcM vs bg et ee xs acc) τ QL
  | [], acc, τ, h => ok_pure (fin acc τ h)
  | x :: r, acc, τ, h => ok_bind (ok_wipe (ok_bind (ok_imp (step x r acc τ h) fun _ τ1 h1 => ok_bind (ok_imp h1 fun b τ2 h2 => by
    cases b with
    | false => exact ok_bind (ok_wipe (ok_lcM Inv step fin r acc _ h2))
    | true =>
      refine ok_bind (ok_imp (show Ok ee τ2 _ from h2) fun w τ3 ⟨hl, h3⟩ => ok_bind ?_)
      rw [if_pos hl]
      exact ok_pure (ok_bind (ok_wipe (ok_lcM Inv step fin r _ _ h3)))))))
theorem ok_sLc {τ : Tau} {ei : M (List T)} (h : Ok ei τ fun xs τ1 => Ok (lcM vs bg et ee xs []) τ1 fun ws τ2 => Q (.lst ws) τ2) : Ok (sLc vs ei bg et ee) τ Q := ok_bind (ok_imp h fun xs τ1 h => ok_bind (ok_imp h fun ws τ2 h => ok_pure h))
theorem ok_lcO {i : Nat} (xs : List T) (Inv : Nat → List T → Tau → Prop) (at_ : ∀ k acc τ, Inv k acc τ → τ[i]? = some (some (.lst xs))) (step : ∀ k x acc τ, xs[k]? = some x → Inv k acc τ → imm x = true ∧ Ok (bg x) (wipeT τ vs) fun _ τ1 => Ok et τ1 fun b τ2 => if b = true then Ok ee τ2 fun w τ3 => acc.length < szL ∧ Inv (k + 1) (acc ++ [w]) (wipeT τ3 vs) else Inv (k + 1) acc (wipeT τ2 vs))
    (fin : ∀ acc τ, Inv xs.length acc τ → QL acc τ) : ∀ (n k : Nat) (acc : List T) (τ : Tau), k ≤ xs.length → xs.length < n + k → Inv k acc τ → Ok (lcO vs i bg et ee n k acc) τ QL
  | 0, k, acc, τ, h1, h2, h => by omega
  | n + 1, k, acc, τ, h1, h2, h => by
    refine ok_bind (ok_get (at_ k acc τ h) (ok_bind (ok_pure ?_)))
    cases hk : xs[k]? with
    | none =>
      have : xs.length ≤ k := List.getElem?_eq_none_iff.mp hk
      have e : k = xs.length := by omega
      subst e
      exact ok_pure (fin acc τ h)
    | some x =>
      obtain ⟨hl, _⟩ := List.getElem?_eq_some_iff.mp hk
      obtain ⟨hi, hs⟩ := step k x acc τ hk h
      refine ok_bind ?_
      unfold immC
      rw [if_pos hi]
      refine ok_pure (ok_bind (ok_wipe (ok_bind (ok_imp hs fun _ τ1 h1 => ok_bind (ok_imp h1 fun b τ2 h2 => ?_)))))
      cases b with
      | false => exact ok_bind (ok_wipe (ok_lcO xs Inv at_ step fin n (k + 1) acc _ (by omega) (by omega) h2))
      | true =>
        refine ok_bind (ok_imp (show Ok ee τ2 _ from h2) fun w τ3 ⟨hl, h3⟩ => ok_bind ?_)
        rw [if_pos hl]
        exact ok_pure (ok_bind (ok_wipe (ok_lcO xs Inv at_ step fin n (k + 1) _ _ (by omega) (by omega) h3)))
theorem ok_sLcO {τ : Tau} {i : Nat} {xs : List T} (e : τ[i]? = some (some (.lst xs))) (h : Ok (lcO vs i bg et ee (xs.length + 1) 0 []) τ fun ws τ2 => Q (.lst ws) τ2) : Ok (sLcO vs i bg et ee) τ Q := ok_bind (ok_get e (ok_bind (ok_pure (ok_bind (ok_imp h fun ws τ2 h => ok_pure h)))))
theorem ok_dcM (Inv : List T → List (T × T) → Tau → Prop) (step : ∀ x r acc τ, Inv (x :: r) acc τ → Ok (bg x) (wipeT τ vs) fun _ τ1 => Ok et τ1 fun b τ2 => if b = true then Ok ek τ2 fun k τ3 => Ok ee τ3 fun w τ4 => (askOk acc k = true ∧ acc.length < szL) ∧ Inv r (store acc k w) (wipeT τ4 vs) else Inv r acc (wipeT τ2 vs))
    (fin : ∀ acc τ, Inv [] acc τ → QD acc τ) : ∀ (xs : List T) (acc : List (T × T)) (τ : Tau), Inv xs acc τ → Ok (dcM vs bg et ek ee xs acc) τ QD
  | [], acc, τ, h => ok_pure (fin acc τ h)
  | x :: r, acc, τ, h => ok_bind (ok_wipe (ok_bind (ok_imp (step x r acc τ h) fun _ τ1 h1 => ok_bind (ok_imp h1 fun b τ2 h2 => by
    cases b with
    | false => exact ok_bind (ok_wipe (ok_dcM Inv step fin r acc _ h2))
    | true =>
      refine ok_bind (ok_imp (show Ok ek τ2 _ from h2) fun k τ3 h3 => ok_bind (ok_imp h3 fun w τ4 ⟨hl, h4⟩ => ok_bind ?_))
      rw [if_pos hl]
      exact ok_pure (ok_bind (ok_wipe (ok_dcM Inv step fin r _ _ h4)))))))
theorem ok_sDc {τ : Tau} {ei : M (List T)} (h : Ok ei τ fun xs τ1 => Ok (dcM vs bg et ek ee xs []) τ1 fun ws τ2 => Q (.dct ws) τ2) : Ok (sDc vs ei bg et ek ee) τ Q := ok_bind (ok_imp h fun xs τ1 h => ok_bind (ok_imp h fun ws τ2 h => ok_pure h))
end
theorem ok_aug {f : T → T → Option T} {i : Nat} {e : M T} {τ : Tau} {x : T} {QC : Ctl → Tau → Prop} (ex : τ[i]? = some (some x)) (h : Ok e τ fun y τ1 => ∃ z, f x y = some z ∧ QC .nx (τ1.set i (some z))) : Ok (augM f i e) τ QC :=
  ok_bind (ok_get ex (ok_bind (ok_imp h fun y τ1 ⟨z, e, q⟩ => ok_bind (ok_of e (ok_bind (ok_put (ok_pure q)))))))
theorem ok_sFldM {c f : Str} {i : Nat} {e : M T} {τ : Tau} {QC : Ctl → Tau → Prop} (h : Ok e τ fun w τ1 => ∃ x y, τ1[i]? = some (some x) ∧ setFT c f w x = some y ∧ QC .nx (τ1.set i (some y))) : Ok (sFldM c i f e) τ QC :=
  ok_bind (ok_imp h fun w τ1 ⟨x, y, e1, e2, q⟩ => ok_bind (ok_get e1 (ok_bind (ok_of e2 (ok_bind (ok_put (ok_pure q)))))))
theorem ok_starM {e : M T} {f : M (List T)} {τ : Tau} {QL : List T → Tau → Prop} (h : Ok e τ fun x τ1 => ∃ xs, oSeq x = some xs ∧ imms xs = true ∧ Ok f τ1 fun ys τ2 => QL (xs ++ ys) τ2) : Ok (starM e f) τ QL :=
  ok_bind (ok_imp h fun x τ1 ⟨xs, e1, hi, h⟩ => ok_bind (ok_of e1 (ok_bind (by unfold immsC; rw [if_pos hi]; exact ok_pure (ok_bind (ok_imp h fun ys τ2 q => ok_pure q))))))
theorem fRange1_nat {n : Nat} (h : n < 4611686018427387904) : fRange1 [.int (n : Int)] = some (intsL 0 n) := by
  unfold fRange1
  dsimp only
  rw [if_pos ⟨by omega, by omega⟩, Int.toNat_natCast]
theorem oMod_pos {i j : Int} (h : 0 < j) : oMod (.int i) (.int j) = some (.int (i % j)) := by
  show (if 0 < j then some (T.int (i % j)) else none) = _
  rw [if_pos h]
theorem oDiv_pos {i j : Int} (h : 0 < j) (h' : j < 1073741824) : oDiv (.int i) (.int j) = some (.int (i / j)) := by
  show (if 0 < j ∧ j < 1073741824 then some (T.int (i / j)) else none) = _
  rw [if_pos ⟨h, h'⟩]
theorem oMul_r {i j : Int} (h : -(2 ^ 64) < j ∧ j < 2 ^ 64) : oMul (.int i) (.int j) = some (.int (i * j)) := by
  show (if (-(2 ^ 64) < i ∧ i < 2 ^ 64) ∨ (-(2 ^ 64) < j ∧ j < 2 ^ 64) then some (T.int (i * j)) else none) = _
  rw [if_pos (.inr h)]
theorem oMul_l {i j : Int} (h : -(2 ^ 64) < i ∧ i < 2 ^ 64) : oMul (.int i) (.int j) = some (.int (i * j)) := by
  show (if (-(2 ^ 64) < i ∧ i < 2 ^ 64) ∨ (-(2 ^ 64) < j ∧ j < 2 ^ 64) then some (T.int (i * j)) else none) = _
  rw [if_pos (.inl h)]
theorem pyIx_nat {n k : Nat} (h : k < n) : pyIx n (k : Int) = some k := by
  unfold pyIx
  rw [if_pos (by omega), if_pos (by omega)]
  rfl
theorem pyAt_nat {α : Type} {xs : List α} {k : Nat} {x : α} (h : xs[k]? = some x) : pyAt xs (k : Int) = some x := by
  obtain ⟨hl, _⟩ := List.getElem?_eq_some_iff.mp h
  unfold pyAt
  rw [pyIx_nat hl]; exact h
end TL
end
section
set_option linter.all false
set_option autoImplicit false
/-! L2: sorting texts. Plain Lean. -/
namespace TL.Pl
open PySem TL
theorem tLe_str (x y : Str) : tLe (.str x) (.str y) = !decide (y.cps.toList < x.cps.toList) := by
  unfold tLe tLt
  simp only [tok, lexT, itLt, Bool.and_false, Bool.or_false]
theorem sLe_iff (x y : Str) : tLe (.str x) (.str y) = true ↔ x.cps.toList ≤ y.cps.toList := by
  rw [tLe_str]
  simp [List.not_lt]
theorem sLe_trans (x y z : Str) (h1 : tLe (.str x) (.str y) = true) (h2 : tLe (.str y) (.str z) = true) : tLe (.str x) (.str z) = true := by
  rw [sLe_iff] at *
  exact List.le_trans h1 h2
theorem sLe_total (x y : Str) : (tLe (.str x) (.str y) || tLe (.str y) (.str x)) = true := by
  rw [Bool.or_eq_true, sLe_iff, sLe_iff]
  exact List.le_total _ _
theorem sLe_anti (x y : Str) (h1 : tLe (.str x) (.str y) = true) (h2 : tLe (.str y) (.str x) = true) : x = y := by
  rw [sLe_iff] at *
  have := List.le_antisymm h1 h2
  cases x; cases y
  simp only at this
  congr 1
  exact Array.toList_inj.mp this
def sSort (ks : List Str) : List Str := ks.mergeSort fun a b => tLe (.str a) (.str b)
theorem sSort_perm {ks ks' : List Str} (h : ks'.Perm ks) : sSort ks' = sSort ks := by
  have h1 : (sSort ks').Perm (sSort ks) := (List.mergeSort_perm _ _).trans (h.trans (List.mergeSort_perm _ _).symm)
  have p1 : (sSort ks').Pairwise fun a b => tLe (.str a) (.str b) = true := List.pairwise_mergeSort sLe_trans sLe_total ks'
  have p2 : (sSort ks).Pairwise fun a b => tLe (.str a) (.str b) = true := List.pairwise_mergeSort sLe_trans sLe_total ks
  exact List.Perm.eq_of_pairwise (le := fun a b => tLe (.str a) (.str b) = true) (fun a b _ _ h1 h2 => sLe_anti a b h1 h2) p1 p2 h1
theorem sSort_map (ks : List Str) : tSort (ks.map .str) = (sSort ks).map .str := by
  unfold tSort sSort
  rw [List.map_mergeSort (r := fun a b => tLe (T.str a) (.str b)) (s := tLe) (f := T.str) (fun a _ b _ => rfl)]
theorem sSort_mem {ks : List Str} {k : Str} : k ∈ sSort ks ↔ k ∈ ks := (List.mergeSort_perm _ _).mem_iff
theorem sSort_len (ks : List Str) : (sSort ks).length = ks.length := (List.mergeSort_perm _ _).length_eq
theorem sSort_nodup {ks : List Str} (h : ks.Nodup) : (sSort ks).Nodup := (List.mergeSort_perm _ _).nodup_iff.mpr h
end TL.Pl
end
section
set_option linter.all false
set_option autoImplicit false
/-! L3: fSorted of lists of texts. Plain Lean. -/
namespace TL.Pl
open PySem TL
def goodS (z : Str) : Prop := ∀ c ∈ z.cps.toList, c < 123
theorem plain_str {z : Str} (h : goodS z) : plain (.str z) = true := by
  show z.cps.all (· < 0x110000) = true
  rw [Array.all_eq_true_iff_forall_mem]
  intro c hc
  have := h c (by simpa using hc)
  simp; omega
theorem sortOk_strs {zs : List Str} (h : ∀ z ∈ zs, goodS z) : sortOk (zs.map .str) = true := by
  unfold sortOk
  simp only [Bool.and_eq_true, Bool.or_eq_true, List.all_eq_true, List.mem_map, forall_exists_index, and_imp, forall_apply_eq_imp_iff₂]
  refine ⟨⟨fun z hz => ⟨plain_str (h z hz), rfl⟩, fun z hz y hy => rfl⟩, .inr fun z hz => rfl⟩
theorem fSorted_strs {zs : List Str} (h : ∀ z ∈ zs, goodS z) : fSorted [.lst (zs.map .str)] = some ((sSort zs).map .str) := by
  show (if sortOk (zs.map T.str) = true then some (tSort (zs.map T.str)) else none) = _
  rw [if_pos (sortOk_strs h), sSort_map]
end TL.Pl
end
section
set_option linter.all false
set_option autoImplicit false
/-! L4: more rules. Plain Lean. -/
namespace TL
open PySem
section
variable {τ : Tau} {Q : T → Tau → Prop}
theorem ok_clearM {i : Nat} (h : ∃ x y, τ[i]? = some (some x) ∧ oClear x = some y ∧ Q .non (τ.set i (some y))) : Ok (clearM i) τ Q := by
  obtain ⟨x, y, e1, e2, q⟩ := h
  exact ok_bind (ok_get e1 (ok_bind (ok_of e2 (ok_bind (ok_put (ok_pure q))))))
theorem ok_sApp2 {i : Nat} {ej e : M T} (h : (∃ x, τ[i]? = some (some x)) ∧ Ok ej τ fun j τ1 => ∃ x ys, τ1[i]? = some (some x) ∧ at2 x j = some (.lst ys) ∧ Ok e τ1 fun w τ2 => ∃ x', ys.length < szL ∧ put2 x j (.lst (ys ++ [w])) = some x' ∧ Q .non (τ2.set i (some x'))) : Ok (sApp2 i ej e) τ Q := by
  obtain ⟨⟨x0, e0⟩, h⟩ := h
  refine ok_bind (ok_get e0 (ok_bind (ok_imp h fun j τ1 ⟨x, ys, e1, e2, h⟩ => ok_bind (ok_get e1 (ok_bind (ok_of e2 (ok_bind (ok_pure (ok_bind (ok_imp h fun w τ2 ⟨x', hl, e3, q⟩ => ok_bind (ok_of (a := .lst (ys ++ [w])) ?_ (ok_bind (ok_of e3 (ok_bind (ok_put (ok_pure q))))))))))))))))
  show (if ys.length < szL then some (T.lst (ys ++ [w])) else none) = _
  rw [if_pos hl]
theorem ok_sClear2 {i : Nat} {ej : M T} (h : (∃ x, τ[i]? = some (some x)) ∧ Ok ej τ fun j τ1 => ∃ x y z x', τ1[i]? = some (some x) ∧ at2 x j = some y ∧ oClear y = some z ∧ put2 x j z = some x' ∧ Q .non (τ1.set i (some x'))) : Ok (sClear2 i ej) τ Q := by
  obtain ⟨⟨x0, e0⟩, h⟩ := h
  exact ok_bind (ok_get e0 (ok_bind (ok_imp h fun j τ1 ⟨x, y, z, x', e1, e2, e3, e4, q⟩ => ok_bind (ok_get e1 (ok_bind (ok_of e2 (ok_bind (ok_of e3 (ok_bind (ok_of e4 (ok_bind (ok_put (ok_pure q)))))))))))))
end
end TL
end
section
set_option linter.all false
set_option autoImplicit false
/-! L5: more rules; walks over lists of known form. Plain Lean. -/
namespace TL
open PySem
section
variable {τ : Tau} {Q : T → Tau → Prop} {QC : Ctl → Tau → Prop} {QL : List T → Tau → Prop} {QD : List (T × T) → Tau → Prop}
theorem ok_immsC {ws : List T} {Q : List T → Tau → Prop} (hi : imms ws = true) (h : Q ws τ) : Ok (immsC ws) τ Q := by unfold immsC; rw [if_pos hi]; exact ok_pure h
theorem ok_tupA {a : M (List T)} (h : Ok a τ fun ts τ1 => ∃ ws, fTup ts = some ws ∧ imms ws = true ∧ Q (.tup ws) τ1) : Ok (tupA a) τ Q := ok_bind (ok_imp h fun ts τ1 ⟨ws, e, hi, q⟩ => ok_bind (ok_of e (ok_bind (ok_immsC hi (ok_pure q)))))
theorem ok_catTA {a : M (List T)} (h : Ok a τ fun ts τ1 => ∃ ws, fCatT ts = some ws ∧ imms ws = true ∧ Q (.tup ws) τ1) : Ok (catTA a) τ Q := ok_bind (ok_imp h fun ts τ1 ⟨ws, e, hi, q⟩ => ok_bind (ok_of e (ok_bind (ok_immsC hi (ok_pure q)))))
theorem ok_revI {e : M T} (h : Ok e τ fun x τ1 => ∃ ws, oRev x = some ws ∧ imms ws = true ∧ Q (.lst ws) τ1) : Ok (revI e) τ Q := ok_bind (ok_imp h fun x τ1 ⟨ws, e, hi, q⟩ => ok_newC e hi q)
theorem ok_inO {c : Str} {neg : Bool} {m : List T → RE T} {ea eb : M T} (h : Ok ea τ fun x τ1 => Ok eb τ1 fun y τ2 => ∃ y', oCls c y = some y' ∧ Fok m [y', x] fun w _ => ∃ b, w = .bl b ∧ Q (.bl (if neg = true then !b else b)) τ2) : Ok (inO c neg m ea eb) τ Q :=
  ok_bind (ok_bind (ok_bind (ok_imp h fun x τ1 h => ok_bind (ok_imp h fun y τ2 ⟨y', e, w, ps, e2, b, e3, q⟩ => ok_bind (ok_of e (ok_pure ⟨w, τ2, by unfold call0; rw [e2], by subst e3; exact ok_bind (ok_pure (ok_pure q))⟩))))))
theorem ok_ixO {c : Str} {m : List T → RE T} {ea eb : M T} (h : Ok ea τ fun x τ1 => Ok eb τ1 fun y τ2 => ∃ x', oCls c x = some x' ∧ Fok m [x', y] fun w _ => Q w τ2) : Ok (ixO c m ea eb) τ Q :=
  ok_bind (ok_bind (ok_imp h fun x τ1 h => ok_bind (ok_imp h fun y τ2 ⟨y', e, w, ps, e2, q⟩ => ok_bind (ok_of e (ok_pure ⟨w, τ2, by unfold call0; rw [e2], q⟩)))))
theorem ok_repM {ea eb : M T} (h : Ok ea τ fun x τ1 => Ok eb τ1 fun y τ2 => ∃ xs k, x = .lst xs ∧ y = .int k ∧ (0 ≤ k ∧ k ≤ 1000000 ∧ xs.length * k.toNat ≤ szL) ∧ Q (.lst (List.replicate k.toNat xs).flatten) τ2) : Ok (repM ea eb) τ Q :=
  ok_bind (ok_imp h fun x τ1 h => ok_bind (ok_imp h fun y τ2 ⟨xs, k, e1, e2, hc, q⟩ => by subst e1 e2; exact ok_bind (ok_pure (ok_bind (ok_pure (by rw [if_pos hc]; exact ok_pure q))))))
theorem ok_unp {bg : T → M Unit} {e : M T} (h : Ok e τ fun w τ1 => Ok (bg w) τ1 fun _ τ2 => QC .nx τ2) : Ok (unpM bg e) τ QC := ok_bind (ok_imp h fun w τ1 h => ok_bind (ok_imp h fun _ τ2 q => ok_pure q))
theorem ok_putT2 {i j : Nat} {x y : T} {Q : Unit → Tau → Prop} (h : Q () ((τ.set i (some x)).set j (some y))) : Ok (putT [i, j] (.tup [x, y])) τ Q := ok_bind (ok_put (ok_bind (ok_put (ok_pure h))))
theorem ok_putT3 {i j k : Nat} {x y z : T} {Q : Unit → Tau → Prop} (h : Q () (((τ.set i (some x)).set j (some y)).set k (some z))) : Ok (putT [i, j, k] (.tup [x, y, z])) τ Q := ok_bind (ok_put (ok_bind (ok_put (ok_bind (ok_put (ok_pure h))))))
theorem ok_starFM {e : M T} {f : M (List T)} (h : Ok e τ fun x τ1 => ∃ xs, oSeq x = some xs ∧ Ok f τ1 fun ys τ2 => QL (xs ++ ys) τ2) : Ok (starFM e f) τ QL := ok_bind (ok_imp h fun x τ1 ⟨xs, e1, h⟩ => ok_bind (ok_of e1 (ok_bind (ok_imp h fun ys τ2 q => ok_pure q))))
theorem wb {c : Bool} {P : Bool → Prop} (h : P c) : ∃ b, T.bl c = T.bl b ∧ P b := ⟨c, rfl, h⟩
theorem iT {c : Bool} {A B : Prop} (hc : c = true) (h : A) : if c = true then A else B := by rw [if_pos hc]; exact h
theorem iF {c : Bool} {A B : Prop} (hc : c = false) (h : B) : if c = true then A else B := by rw [if_neg (by rw [hc]; exact Bool.false_ne_true)]; exact h
theorem iB {c : Bool} {A B : Prop} (ht : c = true → A) (hf : c = false → B) : if c = true then A else B := by
  cases c with
  | true => exact ht rfl
  | false => exact hf rfl
/-! ### walks -/
theorem ok_walk {α : Type} {enc : α → T} {bg : T → M Unit} {b : M Ctl} (Inv : List α → Tau → Prop) {xs : List α} (h0 : Inv [] τ)
    (step : ∀ done x r τ, done ++ x :: r = xs → Inv done τ → Ok (bg (enc x)) τ fun _ τ1 => Ok b τ1 fun c τ2 => match c with
      | .nx => Inv (done ++ [x]) τ2
      | .ct => Inv (done ++ [x]) τ2
      | .bk => QC .nx τ2
      | .rt w => QC (.rt w) τ2) (fin : ∀ τ, Inv xs τ → QC .nx τ) : Ok (sFor bg b (xs.map enc)) τ QC := by
  have go : ∀ (r done : List α) (τ : Tau), done ++ r = xs → Inv done τ → Ok (sFor bg b (r.map enc)) τ QC := by
    intro r
    induction r with
    | nil => intro done τ e h; rw [List.append_nil] at e; subst e; exact ok_pure (fin τ h)
    | cons x r ih =>
      intro done τ e h
      refine ok_bind (ok_imp (step done x r τ e h) fun _ τ1 h1 => ok_bind (ok_imp h1 fun c τ2 h2 => ?_))
      have e' : (done ++ [x]) ++ r = xs := by rw [← e]; simp
      cases c with
      | nx => exact ih _ τ2 e' h2
      | ct => exact ih _ τ2 e' h2
      | bk => exact ok_pure h2
      | rt w => exact ok_pure h2
  exact go xs [] τ rfl h0
variable {vs : List Nat} {bg : T → M Unit} {et : M Bool} {ee ek : M T}
theorem ok_lcW {α : Type} {enc : α → T} (Inv : List α → List T → Tau → Prop) {xs : List α} (h0 : Inv [] [] τ)
    (step : ∀ done x r acc τ, done ++ x :: r = xs → Inv done acc τ → Ok (bg (enc x)) (wipeT τ vs) fun _ τ1 => Ok et τ1 fun b τ2 => if b = true then Ok ee τ2 fun w τ3 => acc.length < szL ∧ Inv (done ++ [x]) (acc ++ [w]) (wipeT τ3 vs) else Inv (done ++ [x]) acc (wipeT τ2 vs))
    (fin : ∀ acc τ, Inv xs acc τ → QL acc τ) : Ok (lcM vs bg et ee (xs.map enc) []) τ QL := by
  refine ok_lcM (fun rest acc τ => ∃ done r, done ++ r = xs ∧ rest = r.map enc ∧ Inv done acc τ) ?_ ?_ _ _ _ ⟨[], xs, rfl, rfl, h0⟩
  · rintro x rest acc τ ⟨done, r, e, e1, h⟩
    cases r with
    | nil => cases e1
    | cons y r =>
      cases e1
      have e' : (done ++ [y]) ++ r = xs := by rw [← e]; simp
      refine ok_imp (step done y r acc τ e h) fun _ τ1 h1 => ok_imp h1 fun b τ2 h2 => ?_
      cases b with
      | true => exact ok_imp (show Ok ee τ2 _ from h2) fun w τ3 ⟨hl, h3⟩ => ⟨hl, _, r, e', rfl, h3⟩
      | false => exact ⟨_, r, e', rfl, h2⟩
  · rintro acc τ ⟨done, r, e, e1, h⟩
    cases r with
    | nil => rw [List.append_nil] at e; subst e; exact fin acc τ h
    | cons y r => cases e1
/-- a comprehension that changes nothing -/
theorem ok_lcP {α : Type} {enc : α → T} {xs : List α} (p : α → Bool) (f : α → T) (hw : wipeT τ vs = τ) (hl : xs.length < szL)
    (step : ∀ x ∈ xs, Ok (bg (enc x)) τ fun _ τ1 => Ok et τ1 fun b τ2 => b = p x ∧ if b = true then Ok ee τ2 fun w τ3 => w = f x ∧ wipeT τ3 vs = τ else wipeT τ2 vs = τ)
    (fin : QL ((xs.filter p).map f) τ) : Ok (lcM vs bg et ee (xs.map enc) []) τ QL := by
  refine ok_lcW (fun done acc τ' => acc = (done.filter p).map f ∧ τ' = τ) ⟨rfl, rfl⟩ ?_ ?_
  · rintro done x r acc τ' e ⟨rfl, rfl⟩
    rw [hw]
    have hd : done.length < xs.length := by rw [← e]; simp
    have hf : (done.filter p).length ≤ done.length := List.length_filter_le _ _
    refine ok_imp (step x (by rw [← e]; simp)) fun _ τ1 h1 => ok_imp h1 fun b τ2 ⟨hb, h2⟩ => ?_
    subst hb
    cases hp : p x with
    | true =>
      rw [if_pos rfl]
      rw [hp] at h2
      refine ok_imp (show Ok ee τ2 _ from h2) fun w τ3 ⟨hw', h3⟩ => ⟨by rw [List.length_map]; omega, ?_, h3⟩
      rw [List.filter_append, List.map_append, hw']
      simp [hp]
    | false =>
      rw [if_neg Bool.false_ne_true]
      rw [hp] at h2
      refine ⟨?_, h2⟩
      rw [List.filter_append]
      simp [hp]
  · rintro acc τ' ⟨rfl, rfl⟩
    exact fin
theorem ok_dcW {α : Type} {enc : α → T} (Inv : List α → List (T × T) → Tau → Prop) {xs : List α} (h0 : Inv [] [] τ)
    (step : ∀ done x r acc τ, done ++ x :: r = xs → Inv done acc τ → Ok (bg (enc x)) (wipeT τ vs) fun _ τ1 => Ok et τ1 fun b τ2 => if b = true then Ok ek τ2 fun k τ3 => Ok ee τ3 fun w τ4 => (askOk acc k = true ∧ acc.length < szL) ∧ Inv (done ++ [x]) (store acc k w) (wipeT τ4 vs) else Inv (done ++ [x]) acc (wipeT τ2 vs))
    (fin : ∀ acc τ, Inv xs acc τ → QD acc τ) : Ok (dcM vs bg et ek ee (xs.map enc) []) τ QD := by
  refine ok_dcM (fun rest acc τ => ∃ done r, done ++ r = xs ∧ rest = r.map enc ∧ Inv done acc τ) ?_ ?_ _ _ _ ⟨[], xs, rfl, rfl, h0⟩
  · rintro x rest acc τ ⟨done, r, e, e1, h⟩
    cases r with
    | nil => cases e1
    | cons y r =>
      cases e1
      have e' : (done ++ [y]) ++ r = xs := by rw [← e]; simp
      refine ok_imp (step done y r acc τ e h) fun _ τ1 h1 => ok_imp h1 fun b τ2 h2 => ?_
      cases b with
      | true => exact ok_imp (show Ok ek τ2 _ from h2) fun k τ3 h3 => ok_imp h3 fun w τ4 ⟨hl, h4⟩ => ⟨hl, _, r, e', rfl, h4⟩
      | false => exact ⟨_, r, e', rfl, h2⟩
  · rintro acc τ ⟨done, r, e, e1, h⟩
    cases r with
    | nil => rw [List.append_nil] at e; subst e; exact fin acc τ h
    | cons y r => cases e1
end
end TL
end
section
set_option linter.all false
set_option autoImplicit false
/-! L6: the order of trees; sorting. Plain Lean. -/
namespace TL
open PySem
theorem itLt_irrefl : ∀ x : Int ⊕ List Nat, itLt x x = false
  | .inl a => by simp [itLt]
  | .inr a => by simp [itLt, List.lt_irrefl]
theorem itLt_trans : ∀ {x y z : Int ⊕ List Nat}, itLt x y = true → itLt y z = true → itLt x z = true
  | .inl a, .inl b, .inl c, h, h' => by simp [itLt] at *; omega
  | .inl a, .inl b, .inr c, h, h' => rfl
  | .inl a, .inr b, .inl c, h, h' => by simp [itLt] at h'
  | .inl a, .inr b, .inr c, h, h' => rfl
  | .inr a, .inl b, z, h, h' => by simp [itLt] at h
  | .inr a, .inr b, .inl c, h, h' => by simp [itLt] at h'
  | .inr a, .inr b, .inr c, h, h' => by simp [itLt] at *; exact List.lt_trans h h'
theorem itLt_conn : ∀ {x y : Int ⊕ List Nat}, itLt x y = false → itLt y x = false → x = y
  | .inl a, .inl b, h, h' => by simp [itLt] at h h'; congr 1; omega
  | .inl a, .inr b, h, h' => by simp [itLt] at h
  | .inr a, .inl b, h, h' => by simp [itLt] at h'
  | .inr a, .inr b, h, h' => by
    simp [itLt] at h h'
    congr 1
    exact List.le_antisymm (List.not_lt.mp (by simpa using h')) (List.not_lt.mp (by simpa using h))
theorem lex_irrefl : ∀ a : List (Int ⊕ List Nat), lexT a a = false
  | [] => rfl
  | x :: r => by simp [lexT, itLt_irrefl, lex_irrefl r]
theorem lex_cons {x y : Int ⊕ List Nat} {r t : List (Int ⊕ List Nat)} : lexT (x :: r) (y :: t) = true ↔ itLt x y = true ∨ (x = y ∧ lexT r t = true) := by
  show (itLt x y || (!itLt y x && lexT r t)) = true ↔ _
  rw [Bool.or_eq_true, Bool.and_eq_true]
  constructor
  · rintro (h | ⟨h1, h2⟩)
    · exact .inl h
    · cases hx : itLt x y with
      | true => exact .inl rfl
      | false => exact .inr ⟨itLt_conn hx (by simpa using h1), h2⟩
  · rintro (h | ⟨rfl, h⟩)
    · exact .inl h
    · exact .inr ⟨by rw [itLt_irrefl]; rfl, h⟩
theorem lex_trans : ∀ {a b c : List (Int ⊕ List Nat)}, lexT a b = true → lexT b c = true → lexT a c = true
  | _, [], [], h, h' => by simp [lexT] at h'
  | [], [], _ :: _, h, h' => rfl
  | _ :: _, [], _ :: _, h, h' => by simp [lexT] at h
  | _, _ :: _, [], h, h' => by simp [lexT] at h'
  | [], _ :: _, _ :: _, h, h' => rfl
  | x :: r, y :: t, z :: u, h, h' => by
    rw [lex_cons] at *
    rcases h with h | ⟨rfl, h⟩
    · rcases h' with h' | ⟨rfl, h'⟩
      · exact .inl (itLt_trans h h')
      · exact .inl h
    · rcases h' with h' | ⟨rfl, h'⟩
      · exact .inl h'
      · exact .inr ⟨rfl, lex_trans h h'⟩
theorem lex_conn : ∀ {a b : List (Int ⊕ List Nat)}, lexT a b = false → lexT b a = false → a = b
  | [], [], _, _ => rfl
  | [], _ :: _, h, _ => by simp [lexT] at h
  | _ :: _, [], _, h => by simp [lexT] at h
  | x :: r, y :: t, h, h' => by
    have n1 : ¬ lexT (x :: r) (y :: t) = true := by rw [h]; exact Bool.false_ne_true
    have n2 : ¬ lexT (y :: t) (x :: r) = true := by rw [h']; exact Bool.false_ne_true
    rw [lex_cons] at n1 n2
    have e : x = y := itLt_conn (by cases hx : itLt x y with | true => exact (n1 (.inl hx)).elim | false => rfl) (by cases hx : itLt y x with | true => exact (n2 (.inl hx)).elim | false => rfl)
    subst e
    congr 1
    exact lex_conn (by cases hx : lexT r t with | true => exact (n1 (.inr ⟨rfl, hx⟩)).elim | false => rfl) (by cases hx : lexT t r with | true => exact (n2 (.inr ⟨rfl, hx⟩)).elim | false => rfl)
theorem tLe_iff {x y : T} : tLe x y = true ↔ lexT (tok y) (tok x) = false := by unfold tLe tLt; cases lexT (tok y) (tok x) <;> simp
theorem tLe_trans (x y z : T) (h : tLe x y = true) (h' : tLe y z = true) : tLe x z = true := by
  rw [tLe_iff] at *
  cases hz : lexT (tok z) (tok x) with
  | false => rfl
  | true =>
    exfalso
    cases hy : lexT (tok y) (tok z) with
    | true => have := lex_trans hy hz; rw [h] at this; cases this
    | false =>
      have e := lex_conn hy h'
      rw [e] at h; rw [h] at hz; cases hz
theorem tLe_total (x y : T) : (tLe x y || tLe y x) = true := by
  cases h : tLe x y with
  | true => rfl
  | false =>
    rw [Bool.false_or]
    have h1 : lexT (tok y) (tok x) = true := by
      cases hz : lexT (tok y) (tok x) with
      | true => rfl
      | false => rw [tLe_iff.mpr hz] at h; cases h
    rw [tLe_iff]
    cases hz : lexT (tok x) (tok y) with
    | false => rfl
    | true => have := lex_trans h1 hz; rw [lex_irrefl] at this; cases this
theorem tLe_anti {x y : T} (h : tLe x y = true) (h' : tLe y x = true) : tok x = tok y := lex_conn (tLe_iff.mp h') (tLe_iff.mp h)
theorem tSort_p (xs : List T) : (tSort xs).Perm xs := List.mergeSort_perm _ _
theorem tSort_pw (xs : List T) : (tSort xs).Pairwise fun a b => tLe a b = true := List.pairwise_mergeSort tLe_trans tLe_total xs
/-- two lists in order with the same things -/
theorem sorted_eq {xs ys : List T} (px : xs.Pairwise fun a b => tLe a b = true) (py : ys.Pairwise fun a b => tLe a b = true) (h : xs.Perm ys) (inj : ∀ a ∈ xs, ∀ b ∈ ys, tok a = tok b → a = b) : xs = ys :=
  List.Perm.eq_of_pairwise (le := fun a b => tLe a b = true) (fun a b ha hb h1 h2 => inj a ha b hb (tLe_anti h1 h2)) px py h
theorem tSort_perm {xs ys : List T} (h : xs.Perm ys) (inj : ∀ a ∈ xs, ∀ b ∈ xs, tok a = tok b → a = b) : tSort xs = tSort ys :=
  sorted_eq (tSort_pw xs) (tSort_pw ys) ((tSort_p xs).trans (h.trans (tSort_p ys).symm)) fun a ha b hb => inj a ((tSort_p xs).mem_iff.mp ha) b (h.mem_iff.mpr ((tSort_p ys).mem_iff.mp hb))
theorem tSort_id {xs : List T} (p : xs.Pairwise fun a b => tLe a b = true) (inj : ∀ a ∈ xs, ∀ b ∈ xs, tok a = tok b → a = b) : tSort xs = xs :=
  sorted_eq (tSort_pw xs) p (tSort_p xs) fun a ha b hb => inj a ((tSort_p xs).mem_iff.mp ha) b hb
section
variable {τ : Tau} {Q : T → Tau → Prop}
theorem ok_strM {f : List T → Option T} {ea eb : M T} (h : Ok ea τ fun x τ1 => ∃ z, x = .str z ∧ Ok eb τ1 fun y τ2 => ∃ w, f [.str z, y] = some w ∧ Q w τ2) : Ok (strM f ea eb) τ Q :=
  ok_bind (ok_imp h fun x τ1 ⟨z, e, h⟩ => by subst e; exact ok_bind (ok_pure (ok_bind (ok_imp h fun y τ2 ⟨w, e, q⟩ => ok_of e q))))
theorem wstr {z : Str} {P : Str → Prop} (h : P z) : ∃ z', T.str z = T.str z' ∧ P z' := ⟨z, rfl, h⟩
end
end TL
end
section
set_option linter.all false
set_option autoImplicit false
/-! L7: more rules. Plain Lean. -/
namespace TL
open PySem
section
variable {τ : Tau} {Q : T → Tau → Prop}
theorem ok_isaI {cs : List Str} {ts : List String} {e : M T} (h : Ok e τ fun x τ1 => ∃ w, oIsAI cs x ts = some w ∧ Q w τ1) : Ok (isaI cs ts e) τ Q := ok_bind (ok_imp h fun x τ1 ⟨w, e, q⟩ => ok_of e q)
theorem ok_isaO {cs : List Str} {c : Str} {e : M T} (h : Ok e τ fun x τ1 => ∃ w, oIsO cs c x = some w ∧ Q w τ1) : Ok (isaO cs c e) τ Q := ok_bind (ok_imp h fun x τ1 ⟨w, e, q⟩ => ok_of e q)
theorem iTrue {A B : Prop} {inst : Decidable True} (h : A) : @ite Prop True inst A B := by rw [if_pos trivial]; exact h
theorem iFalse {A B : Prop} {inst : Decidable False} (h : B) : @ite Prop False inst A B := by rw [if_neg id]; exact h
end
end TL
end
section
set_option Elab.async false
set_option linter.all false
set_option autoImplicit false
set_option maxRecDepth 100000
set_option maxHeartbeats 4000000
namespace My
open PySem TL
/-! _law_purse -/
def st__law_purse : M Ctl :=
  (sSeq (sSet 1 (sLc [4] (elems (cutI (get 0) noPart (part (con (.int 63))))) (put 4) (noE (M.pure true)) (noE (fnA fInt (consA (get 4) nilA)))))
    (sSeq (sIf (tst (op2 oEq (fnA fLen (consA (get 1) nilA)) (con (.int 0))))
    (sSet 1 (fnA oLst (consA (con (.int 0)) nilA)))
    sNx)
    (sSeq (sSet 2 (sLcO [4] 1 (put 4) (noE (M.pure true)) (noE (fnA fAbs (consA (get 4) nilA)))))
    (sSeq (forS (rng1 (consA (fnA fLen (consA (get 2) nilA)) nilA)) (put 3)
    (sIf (tst (op2 oLt (op2 oGet (get 2) (get 3)) (op2 oPow (con (.int 10)) (con (.int 18)))))
    (sSetI 2 (con (.int 0)) (get 3))
    sNx))
    (sRet (fnA oLst (consA (mv 1) (consA (mv 2) (consA (toS (con (.int 0))) nilA)))))))))
def f__law_purse : List T → RE T := noX (runF st__law_purse 1 5)
/-! _law_draw -/
def st__law_draw : M Ctl :=
  (sSeq (sSetL 0 (toS (op2 oAdd (op2 oGet (get 0) (con (.int 2))) (con (.int 1)))) (con (.int 2)))
    (sSeq (sSet 2 (op2 oMod (fnA fInt (consA (op2 oGet (get 0) (con (.int 2))) nilA)) (fnA fLen (consA (op2 oGet (get 0) (con (.int 0))) nilA))))
    (sSeq (sSet 3 (toI (op2 oGet (op2 oGet (get 0) (con (.int 1))) (get 2))))
    (sSeq (sIf (tst (op2 oGt (get 3) (con (.int 0))))
    (sSeq (sSet2 0 (op2 oDiv (get 3) (get 1)) (con (.int 1)) (get 2))
    (sRet (op2 oMod (fnA fInt (consA (get 3) nilA)) (get 1))))
    sNx)
    (sSeq (sSet 4 (op2 oAdd (op2 oAdd (op2 oMod (fnA fInt (consA (op2 oGet (op2 oGet (get 0) (con (.int 0))) (get 2)) nilA)) (con (.int 2147483629))) (op2 oMul (con (.int 7919)) (op2 oGet (get 0) (con (.int 2))))) (con (.int 1))))
    (sSeq (sSet 4 (op2 oMod (fnA fInt (consA (op2 oMul (get 4) (con (.int 48271))) nilA)) (con (.int 2147483647))))
    (sSeq (sSet 4 (op2 oMod (fnA fInt (consA (op2 oMul (get 4) (op2 oAdd (op2 oDiv (get 4) (con (.int 1009))) (con (.int 69621)))) nilA)) (con (.int 2147483647))))
    (sSeq (sSet 4 (op2 oMod (fnA fInt (consA (op2 oMul (get 4) (op2 oAdd (op2 oDiv (get 4) (con (.int 2003))) (con (.int 40692)))) nilA)) (con (.int 2147483399))))
    (sRet (op2 oMod (fnA fInt (consA (op2 oDiv (get 4) (con (.int 16))) nilA)) (get 1)))))))))))
def f__law_draw : List T → RE T := noX (runF st__law_draw 2 5)
/-! _law_name -/
def st__law_name : M Ctl :=
  (sSeq (sSet 1 (con (.str (PySem.Str.ofString ""))))
    (sSeq (forS (rng1 (consA (op2 oAdd (con (.int 1)) (callL f__law_draw 0 0 (consA (get 0) (consA (con (.int 8)) nilA)))) nilA)) (put 2)
    (sSet 1 (op2 oAdd (get 1) (op2 oGet (con (.str (PySem.Str.ofString "abcdefghijklmnopqrstuvwxyz"))) (callL f__law_draw 0 0 (consA (get 0) (consA (con (.int 26)) nilA)))))))
    (sRet (get 1))))
def f__law_name : List T → RE T := noX (runF st__law_name 1 3)
/-! _law_names -/
def st__law_names : M Ctl :=
  (sSeq (sSet 2 (fnA oLst (consA (con (.str (PySem.Str.ofString "a"))) (consA (con (.str (PySem.Str.ofString "b"))) (consA (con (.str (PySem.Str.ofString "c"))) (consA (con (.str (PySem.Str.ofString "d"))) (consA (con (.str (PySem.Str.ofString "e"))) (consA (con (.str (PySem.Str.ofString "f"))) (consA (con (.str (PySem.Str.ofString "g"))) (consA (con (.str (PySem.Str.ofString "h"))) (consA (con (.str (PySem.Str.ofString "i"))) (consA (con (.str (PySem.Str.ofString "j"))) nilA))))))))))))
    (sSeq (sSet 3 (op2 oEq (callL f__law_draw 0 0 (consA (get 0) (consA (con (.int 3)) nilA))) (con (.int 0))))
    (sSeq (sSet 4 (fnA oLst nilA))
    (sSeq (forS (rng1 (consA (get 1) nilA)) (put 5)
    (sSeq (sSet 6 (op2 oGet (get 2) (callL f__law_draw 0 0 (consA (get 0) (consA (con (.int 10)) nilA)))))
    (sSeq (sIf (tst (get 3))
    (sSet 6 (callL f__law_name 0 0 (consA (get 0) nilA)))
    sNx)
    (sSeq (sIf (tst (op2 oIn (get 6) (get 4)))
    (sSet 6 (op2 oGet (sLc [7] (elems (get 2)) (put 7) (noE (tst (op2 oNotIn (get 7) (get 4)))) (noE (get 7))) (con (.int 0))))
    sNx)
    (sDrop (appS 4 (get 6)))))))
    (sRet (mv 4))))))
def f__law_names : List T → RE T := noX (runF st__law_names 2 8)
/-! _law_reached -/
def st__law_reached : M Ctl :=
  (sSeq (sSet 2 (fnA oLst (consA (toI (get 0)) nilA)))
    (sSeq (forS (rng1 (consA (con (.int 6)) nilA)) (put 3)
    (forS (elems (get 1)) (put 4)
    (sIf (andT (tst (op2 oIn (op2 oGet (get 4) (con (.int 0))) (get 2))) (tst (op2 oNotIn (op2 oGet (get 1) (get 4)) (get 2))))
    (sDrop (appS 2 (toI (op2 oGet (get 1) (get 4)))))
    sNx)))
    (sRet (mv 2))))
def f__law_reached : List T → RE T := noX (runF st__law_reached 2 5)
/-! _law_parts -/
def st__law_parts : M Ctl :=
  (sSeq (sSet 3 (callL f__law_names 0 0 (consA (get 0) (consA (op2 oAdd (con (.int 1)) (callL f__law_draw 0 0 (consA (get 0) (consA (get 2) nilA)))) nilA))))
    (sSeq (sSet 4 (callL f__law_names 0 0 (consA (get 0) (consA (op2 oAdd (con (.int 1)) (callL f__law_draw 0 0 (consA (get 0) (consA (get 1) nilA)))) nilA))))
    (sSeq (sSet 5 (op2 oAdd (con (.int 2)) (callL f__law_draw 0 0 (consA (get 0) (consA (con (.int 3)) nilA)))))
    (sSeq (sSet 6 (con (.dct [])))
    (sSeq (forS (elems (get 4)) (put 7)
    (forS (elems (get 3)) (put 8)
    (sIf (tst (op2 oGt (callL f__law_draw 0 0 (consA (get 0) (consA (get 5) nilA))) (con (.int 0))))
    (sSetI 6 (op2 oGet (get 4) (callL f__law_draw 0 0 (consA (get 0) (consA (fnA fLen (consA (get 4) nilA)) nilA)))) (fnA oTup (consA (get 7) (consA (get 8) nilA))))
    sNx)))
    (sSeq (sSet 9 (sLc [7] (elems (get 4)) (put 7) (noE (tst (op2 oEq (callL f__law_draw 0 0 (consA (get 0) (consA (con (.int 3)) nilA))) (con (.int 0))))) (noE (get 7))))
    (sSeq (sSet 10 (callA f__law_reached (consA (op2 oGet (get 4) (con (.int 0))) (consA (get 6) nilA))))
    (sSeq (sSet 11 (op2 oGet (get 10) (callL f__law_draw 0 0 (consA (get 0) (consA (fnA fLen (consA (get 10) nilA)) nilA)))))
    (sSeq (sIf (tst (op2 oNotIn (get 11) (get 9)))
    (sDrop (appS 9 (get 11)))
    sNx)
    (sRet (fnA oTup (consA (get 3) (consA (op2 oGet (get 4) (con (.int 0))) (consA (mv 6) (consA (mv 9) nilA)))))))))))))))
def f__law_parts : List T → RE T := noX (runF st__law_parts 3 12)
/-! _law_states -/
def st__law_states : M Ctl :=
  (sSeq (sSet 1 (fnA oLst (consA (toI (op2 oGet (get 0) (con (.int 1)))) nilA)))
    (sSeq (forS (elems (op2 oGet (get 0) (con (.int 3)))) (put 2)
    (sIf (tst (op2 oNotIn (get 2) (get 1)))
    (sDrop (appS 1 (toI (get 2))))
    sNx))
    (sSeq (forS (elems (op2 oGet (get 0) (con (.int 2)))) (put 3)
    (sSeq (sIf (tst (op2 oNotIn (op2 oGet (get 3) (con (.int 0))) (get 1)))
    (sDrop (appS 1 (toI (op2 oGet (get 3) (con (.int 0))))))
    sNx)
    (sIf (tst (op2 oNotIn (op2 oGet (op2 oGet (get 0) (con (.int 2))) (get 3)) (get 1)))
    (sDrop (appS 1 (toI (op2 oGet (op2 oGet (get 0) (con (.int 2))) (get 3)))))
    sNx)))
    (sRet (newI fSorted (consA (get 1) nilA))))))
def f__law_states : List T → RE T := noX (runF st__law_states 1 4)
/-! is_items -/
def st_is_items : M Ctl :=
  (sRet (isaI [(PySem.Str.ofString "Machine")] ["list", "tuple"] (get 0)))
def f_is_items : List T → RE T := noX (runF st_is_items 1 1)
/-! is_name -/
def st_is_name : M Ctl :=
  (sSeq (sIf (orT (notT (tst (isaI [(PySem.Str.ofString "Machine")] ["str"] (get 0)))) (notT (tst (chainM oLe oLe (con (.int 1)) (fnA fLen (consA (get 0) nilA)) (con (.int 8))))))
    (sRet (con (.bl false)))
    sNx)
    (sSeq (forS (elems (get 0)) (put 1)
    (sIf (tst (op2 oNotIn (get 1) (con (.str (PySem.Str.ofString "abcdefghijklmnopqrstuvwxyz")))))
    (sRet (con (.bl false)))
    sNx))
    (sRet (con (.bl true)))))
def f_is_name : List T → RE T := noX (runF st_is_name 1 2)
/-! are_names -/
def st_are_names : M Ctl :=
  (sSeq (sIf (orT (notT (tst (callA f_is_items (consA (get 0) nilA)))) (notT (tst (chainM oLe oLe (con (.int 1)) (fnA fLen (consA (get 0) nilA)) (get 1)))))
    (sRet (con (.bl false)))
    sNx)
    (sSeq (forS (enumM (get 0)) (putT [2, 3])
    (sIf (orT (notT (tst (callA f_is_name (consA (get 3) nilA)))) (tst (op2 oIn (get 3) (cutN (get 0) noPart (part (get 2))))))
    (sRet (con (.bl false)))
    sNx))
    (sRet (con (.bl true)))))
def f_are_names : List T → RE T := noX (runF st_are_names 2 4)
/-! are_moves -/
def st_are_moves : M Ctl :=
  (sSeq (sIf (notT (tst (isaM ["dict"] (get 0))))
    (sRet (con (.bl false)))
    sNx)
    (sSeq (forS (elems (get 0)) (put 2)
    (sSeq (sIf (orT (notT (tst (isaM ["tuple"] (get 2)))) (tst (op2 oNe (fnA fLen (consA (get 2) nilA)) (con (.int 2)))))
    (sRet (con (.bl false)))
    sNx)
    (sSeq (sIf (orT (notT (tst (callA f_is_name (consA (op2 oGet (get 2) (con (.int 0))) nilA)))) (orT (notT (tst (callA f_is_name (consA (op2 oGet (get 2) (con (.int 1))) nilA)))) (tst (op2 oNotIn (op2 oGet (get 2) (con (.int 1))) (get 1)))))
    (sRet (con (.bl false)))
    sNx)
    (sIf (notT (tst (callA f_is_name (consA (op2 oGet (get 0) (get 2)) nilA))))
    (sRet (con (.bl false)))
    sNx))))
    (sRet (con (.bl true)))))
def f_are_moves : List T → RE T := noX (runF st_are_moves 2 3)
/-! leading -/
def st_leading : M Ctl :=
  (sSeq (sSet 2 (newI fList (consA (get 0) nilA)))
    (sSeq (sSet 3 (con (.int 0)))
    (sSeq (sWhile (tst (op2 oLt (get 3) (fnA fLen (consA (get 2) nilA))))
    (sSeq (forS (elems (get 1)) (put 4)
    (sIf (andT (tst (op2 oEq (op2 oGet (get 1) (get 4)) (op2 oGet (get 2) (get 3)))) (tst (op2 oNotIn (op2 oGet (get 4) (con (.int 0))) (get 2))))
    (sDrop (appS 2 (toI (op2 oGet (get 4) (con (.int 0))))))
    sNx))
    (augM (oI fun i j => some (.int (i + j))) 3 (con (.int 1)))) 100000)
    (sRet (mv 2)))))
def f_leading : List T → RE T := noX (runF st_leading 2 5)
/-! Machine.__init__ -/
def st_Machine___init__ : M Ctl :=
  (sSeq (sIf (notT (tst (callA f_are_names (consA (get 1) (consA (con (.int 4)) nilA)))))
    M.stuck
    sNx)
    (sSeq (sIf (notT (tst (callA f_is_name (consA (get 2) nilA))))
    M.stuck
    sNx)
    (sSeq (sIf (notT (tst (callA f_are_moves (consA (get 3) (consA (get 1) nilA)))))
    M.stuck
    sNx)
    (sSeq (sIf (notT (tst (callA f_are_names (consA (get 4) (consA (con (.int 6)) nilA)))))
    M.stuck
    sNx)
    (sSeq (sFldM (PySem.Str.ofString "Machine") 0 (PySem.Str.ofString "alphabet") (newA fSorted (consA (newI fList (consA (get 1) nilA)) nilA)))
    (sSeq (sFldM (PySem.Str.ofString "Machine") 0 (PySem.Str.ofString "origin") (toI (get 2)))
    (sSeq (sFldM (PySem.Str.ofString "Machine") 0 (PySem.Str.ofString "edges") (sDc [5] (elems (newA fSorted (consA (newI fList (consA (get 3) nilA)) nilA))) (put 5) (noE (M.pure true)) (noE (get 5)) (noE (toI (op2 oGet (get 3) (get 5))))))
    (sSeq (sFldM (PySem.Str.ofString "Machine") 0 (PySem.Str.ofString "ending") (newA fSorted (consA (newI fList (consA (get 4) nilA)) nilA)))
    (sSeq (sIf (tst (op2 oNotIn (get 2) (callA f_leading (consA (oFldM (PySem.Str.ofString "Machine") (PySem.Str.ofString "ending") (get 0)) (consA (oFldM (PySem.Str.ofString "Machine") (PySem.Str.ofString "edges") (get 0)) nilA)))))
    M.stuck
    sNx)
    (sSeq (sSet 6 (fnA oLst (consA (toI (get 2)) (starM (get 4) nilA))))
    (sSeq (forS (elems (oFldM (PySem.Str.ofString "Machine") (PySem.Str.ofString "edges") (get 0))) (put 5)
    (sSeq (sDrop (appS 6 (op2 oGet (get 5) (con (.int 0)))))
    (sDrop (appS 6 (op2 oGet (oFldM (PySem.Str.ofString "Machine") (PySem.Str.ofString "edges") (get 0)) (get 5))))))
    (sSeq (sFldM (PySem.Str.ofString "Machine") 0 (PySem.Str.ofString "places") (op1 fSortSet (get 6)))
    (sIf (tst (op2 oGt (fnA fLen (consA (oFldM (PySem.Str.ofString "Machine") (PySem.Str.ofString "places") (get 0)) nilA)) (con (.int 6))))
    M.stuck
    sNx)))))))))))))
def f_Machine___init__ : List T → RE T := noX (runF st_Machine___init__ 5 7)
/-! _law_copy -/
def st__law_copy : M Ctl :=
  (sSeq (sSet 1 (con (.dct [])))
    (sSeq (forS (elems (get 0)) (put 2)
    (sSetI 1 (toI (op2 oGet (get 0) (get 2))) (get 2)))
    (sRet (mv 1))))
def f__law_copy : List T → RE T := noX (runF st__law_copy 1 3)
/-! _law_fresh -/
def st__law_fresh : M Ctl :=
  (sSeq (sSet 1 (fnA oLst (consA (con (.str (PySem.Str.ofString "qa"))) (consA (con (.str (PySem.Str.ofString "qb"))) (consA (con (.str (PySem.Str.ofString "qc"))) (consA (con (.str (PySem.Str.ofString "qd"))) (consA (con (.str (PySem.Str.ofString "qe"))) (consA (con (.str (PySem.Str.ofString "qf"))) (consA (con (.str (PySem.Str.ofString "qg"))) (consA (con (.str (PySem.Str.ofString "qh"))) (consA (con (.str (PySem.Str.ofString "qi"))) (consA (con (.str (PySem.Str.ofString "qj"))) (consA (con (.str (PySem.Str.ofString "qk"))) (consA (con (.str (PySem.Str.ofString "ql"))) (consA (con (.str (PySem.Str.ofString "qm"))) (consA (con (.str (PySem.Str.ofString "qn"))) (consA (con (.str (PySem.Str.ofString "qo"))) nilA)))))))))))))))))
    (sRet (op2 oGet (sLc [2] (elems (get 1)) (put 2) (noE (tst (op2 oNotIn (get 2) (get 0)))) (noE (get 2))) (con (.int 0)))))
def f__law_fresh : List T → RE T := noX (runF st__law_fresh 1 3)
/-! _law_same -/
def st__law_same (self : List T → RE T) : M Ctl :=
  (sSeq (sIf (tst (op2 oIsN (get 1) (con (.non))))
    (sRet (op2 oIsN (get 0) (con (.non))))
    sNx)
    (sSeq (sIf (tst (isaM ["bool"] (get 1)))
    (sRet (andM (isaM ["bool"] (get 0)) (op2 oEq (get 0) (get 1))))
    sNx)
    (sSeq (sIf (tst (isaM ["int"] (get 1)))
    (sRet (andM (isaM ["int"] (get 0)) (andM (notM (isaM ["bool"] (get 0))) (op2 oEq (get 0) (get 1)))))
    sNx)
    (sSeq (sIf (tst (isaM ["str"] (get 1)))
    (sRet (andM (isaM ["str"] (get 0)) (op2 oEq (get 0) (get 1))))
    sNx)
    (sSeq (sIf (tst (isaM ["dict"] (get 1)))
    (sSeq (sIf (orT (notT (tst (isaM ["dict"] (get 0)))) (tst (op2 oNe (fnA fLen (consA (get 0) nilA)) (fnA fLen (consA (get 1) nilA)))))
    (sRet (con (.bl false)))
    sNx)
    (sRet (fnA fAll (consA (sLc [3] (elems (get 1)) (put 3) (noE (M.pure true)) (noE (andM (op2 oIn (get 3) (get 0)) (callA self (consA (op2 oGet (get 0) (get 3)) (consA (op2 oGet (get 1) (get 3)) nilA)))))) nilA))))
    sNx)
    (sSeq (sIf (andT (tst (isaM ["tuple"] (get 1))) (notT (tst (isaM ["tuple"] (get 0)))))
    (sRet (con (.bl false)))
    sNx)
    (sSeq (sIf (andT (tst (isaM ["list"] (get 1))) (notT (tst (isaM ["list"] (get 0)))))
    (sRet (con (.bl false)))
    sNx)
    (sSeq (sIf (tst (op2 oNe (fnA fLen (consA (get 0) nilA)) (fnA fLen (consA (get 1) nilA))))
    (sRet (con (.bl false)))
    sNx)
    (sSeq (forS (rng1 (consA (fnA fLen (consA (get 1) nilA)) nilA)) (put 2)
    (sIf (notT (tst (callA self (consA (op2 oGet (get 0) (get 2)) (consA (op2 oGet (get 1) (get 2)) nilA)))))
    (sRet (con (.bl false)))
    sNx))
    (sRet (con (.bl true))))))))))))
def f__law_same : Nat → List T → RE T
  | 0 => fun _ => .stuck
  | n + 1 => noX (runF (st__law_same (f__law_same n)) 2 4)
/-! Machine.__getitem__ -/
def st_Machine___getitem__ : M Ctl :=
  (sSeq (sIf (orT (notT (tst (isaI [(PySem.Str.ofString "Machine")] ["tuple"] (get 1)))) (tst (op2 oNe (fnA fLen (consA (get 1) nilA)) (con (.int 2)))))
    (sRet (con (.non)))
    sNx)
    (sSeq (sIf (orT (notT (tst (callA f_is_name (consA (op2 oGet (get 1) (con (.int 0))) nilA)))) (notT (tst (callA f_is_name (consA (op2 oGet (get 1) (con (.int 1))) nilA)))))
    (sRet (con (.non)))
    sNx)
    (sRet (get1D (oFldM (PySem.Str.ofString "Machine") (PySem.Str.ofString "edges") (get 0)) (get 1)))))
def f_Machine___getitem__ : List T → RE T := noX (runF st_Machine___getitem__ 2 2)
/-! _law_strange -/
def st__law_strange : M Ctl :=
  (sSeq (sSet 2 (fnA oLst (consA (toI (get 1)) nilA)))
    (sSeq (forS (rng1 (consA (con (.int 80)) nilA)) (put 3)
    (sSet 2 (fnA oLst (consA (get 2) nilA))))
    (sSeq (sSet 4 (fnA oLst (consA (con (.non)) (consA (con (.bl true)) (consA (con (.int 0)) (consA (con (.str (PySem.Str.ofString ""))) (consA (con (.str (PySem.Str.ofString "A"))) (consA (con (.str (PySem.Str.ofString "a1"))) (consA (con (.str (PySem.Str.ofString "abcdefghi"))) (consA (con (.str (PySem.Str.ofString " a"))) (consA (op1 oNeg (con (.int 7))) nilA)))))))))))
    (sSeq (sSet 4 (newA fCat (consA (get 4) (consA (fnA oLst (consA (fnA oLst (consA (toI (get 1)) nilA)) (consA (fnA oTup (consA (toI (get 1)) nilA)) (consA (fnA oLst nilA) (consA (con (.dct [])) (consA (op2 oAdd (get 1) (con (.str (PySem.Str.ofString " ")))) (consA (op2 oPow (con (.int 10)) (con (.int 30))) (consA (get 2) nilA)))))))) nilA))))
    (sRet (op2 oGet (get 4) (callL f__law_draw 0 0 (consA (get 0) (consA (fnA fLen (consA (get 4) nilA)) nilA)))))))))
def f__law_strange : List T → RE T := noX (runF st__law_strange 2 5)
/-! law -/
def st_law : M Ctl :=
  (sSeq (sSet 1 (callA f__law_purse (consA (get 0) nilA)))
    (sSeq (sSet 2 (callL f__law_parts 1 0 (consA (get 1) (consA (con (.int 6)) (consA (con (.int 4)) nilA)))))
    (sSeq (sSet 3 (callA f__law_states (consA (get 2) nilA)))
    (sSeq (sSet 4 (makeA (PySem.Str.ofString "Machine") f_Machine___init__ (consA (newA fList (consA (op2 oGet (get 2) (con (.int 0))) nilA)) (consA (op2 oGet (get 2) (con (.int 1))) (consA (callA f__law_copy (consA (op2 oGet (get 2) (con (.int 2))) nilA)) (consA (newA fList (consA (op2 oGet (get 2) (con (.int 3))) nilA)) nilA))))))
    (sSeq (forS (elems (newA fCat (consA (get 3) (consA (fnA oLst (consA (callA f__law_fresh (consA (get 3) nilA)) nilA)) nilA)))) (put 5)
    (forS (elems (newA fCat (consA (op2 oGet (get 2) (con (.int 0))) (consA (fnA oLst (consA (callA f__law_fresh (consA (op2 oGet (get 2) (con (.int 0))) nilA)) nilA)) nilA)))) (put 6)
    (sIf (notT (tst (callA (f__law_same 9) (consA (ixO (PySem.Str.ofString "Machine") f_Machine___getitem__ (get 4) (fnA oTup (consA (get 5) (consA (get 6) nilA)))) (consA (get1D (op2 oGet (get 2) (con (.int 2))) (fnA oTup (consA (get 5) (consA (get 6) nilA)))) nilA)))))
    (sRet (con (.bl false)))
    sNx)))
    (sSeq (forS (rng1 (consA (op2 oAdd (con (.int 1)) (callL f__law_draw 1 0 (consA (get 1) (consA (con (.int 6)) nilA)))) nilA)) (put 7)
    (sSeq (sSet 5 (op2 oGet (get 3) (callL f__law_draw 1 0 (consA (get 1) (consA (fnA fLen (consA (get 3) nilA)) nilA)))))
    (sSeq (sSet 8 (callL f__law_strange 1 0 (consA (get 1) (consA (get 5) nilA))))
    (sSeq (sIf (tst (op2 oEq (get 7) (con (.int 3))))
    (sSet 8 (get 4))
    sNx)
    (sSeq (sSet 6 (op2 oGet (op2 oGet (get 2) (con (.int 0))) (callL f__law_draw 1 0 (consA (get 1) (consA (fnA fLen (consA (op2 oGet (get 2) (con (.int 0))) nilA)) nilA)))))
    (forS (elems (fnA oLst (consA (get 8) (consA (fnA oTup (consA (get 5) nilA)) (consA (fnA oTup (consA (get 5) (consA (get 8) nilA))) (consA (fnA oTup (consA (get 8) (consA (get 6) nilA))) (consA (fnA oTup (consA (get 5) (consA (get 6) (consA (get 6) nilA)))) (consA (fnA oLst (consA (get 5) (consA (get 6) nilA))) (consA (get 5) nilA))))))))) (put 9)
    (sIf (tst (op2 oNotN (ixO (PySem.Str.ofString "Machine") f_Machine___getitem__ (get 4) (get 9)) (con (.non))))
    (sRet (con (.bl false)))
    sNx)))))))
    (sRet (con (.bl true)))))))))
def f_law : List T → RE T := noX (runF st_law 1 10)
end My
end
section
set_option linter.all false
set_option autoImplicit false
set_option maxHeartbeats 1000000
set_option maxRecDepth 100000
namespace My
open PySem TL TL.Pl
section
local macro_rules | `(tactic| walk_at "g1") => `(tactic| first
  | with_reducible refine ok_seq ?_ | with_reducible refine ok_set ?_ | with_reducible refine ok_ret ?_ | with_reducible refine ok_drop ?_ | with_reducible refine ok_if ?_ | with_reducible refine ok_nx ?_
  | with_reducible refine ok_op2 ?_ | with_reducible refine ok_op1 ?_ | with_reducible refine ok_con ?_ | with_reducible refine ok_get rfl ?_ | with_reducible refine ok_mv rfl ?_
  | with_reducible refine ok_nil ?_ | with_reducible refine ok_cons ?_ | with_reducible refine ok_fnA ?_ | with_reducible refine ok_newA ?_ | with_reducible refine ok_newI ?_ | with_reducible refine ok_toI ?_ | with_reducible refine ok_toS ?_
  | with_reducible refine ok_isa ?_ | with_reducible refine ok_isaI ?_ | with_reducible refine ok_isaO ?_ | with_reducible refine ok_fld ?_ | with_reducible refine ok_chain ?_ | with_reducible refine ok_andM ?_ | with_reducible refine ok_orM ?_ | with_reducible refine ok_notM ?_
  | with_reducible refine ok_callA ?_ | with_reducible refine ok_callL ?_ | with_reducible refine ok_makeA ?_ | with_reducible refine ok_selfA ?_ | with_reducible refine ok_propA ?_
  | with_reducible refine ok_cutN ?_ | with_reducible refine ok_cutI ?_ | with_reducible refine ok_noPart ?_ | with_reducible refine ok_part ?_ | with_reducible refine ok_get1D ?_ | with_reducible refine ok_ifE ?_
  | with_reducible refine ok_tst ?_ | with_reducible refine ok_andT ?_ | with_reducible refine ok_orT ?_ | with_reducible refine ok_notT ?_ | with_reducible refine ok_truT ?_
  | with_reducible refine ok_sSetL ?_ | with_reducible refine ok_sSetI ?_ | with_reducible refine ok_sSet2 ?_ | with_reducible refine ok_appS ?_
  | with_reducible refine ok_for ?_ | with_reducible refine ok_elems ?_ | with_reducible refine ok_rng1 ?_ | with_reducible refine ok_rng2 ?_ | with_reducible refine ok_enum ?_
  | simp only [List.set_cons_zero, List.set_cons_succ]
  | dsimp only)
local macro_rules | `(tactic| walk_at "go") => `(tactic| repeat walk_at "g1")
def intsT (xs : List Int) : T := .lst (xs.map .int)
def purseT (cells great : List Int) (c : Int) : T := .lst [intsT cells, intsT great, .int c]
structure Good (cells great : List Int) (c : Int) : Prop where
  len : great.length = cells.length
  pos : 0 < cells.length
  nn : ∀ g ∈ great, 0 ≤ g
  c0 : 0 ≤ c
theorem ints_get {xs : List Int} {i : Int} (h0 : 0 ≤ i) (h1 : i < xs.length) : ∃ v k, xs[k]? = some v ∧ i = (k : Nat) ∧ oGet (intsT xs) (.int i) = some (.int v) := by
  obtain ⟨k, rfl⟩ : ∃ k : Nat, i = k := ⟨i.toNat, by omega⟩
  have hk : k < xs.length := by omega
  exact ⟨xs[k], k, List.getElem?_eq_getElem hk, rfl, pyAt_nat (by rw [List.getElem?_map, List.getElem?_eq_getElem hk]; rfl)⟩
theorem draw_ok {cells great : List Int} {c many : Int} (h : Good cells great c) (h0 : 0 < many) (h1 : many < 1073741824) :
    Fok f__law_draw [purseT cells great c, .int many] fun w ps => ∃ r great', w = .int r ∧ 0 ≤ r ∧ r < many ∧ ps = [some (purseT cells great' (c + 1)), some (.int many)] ∧ Good cells great' (c + 1) := by
  have hp := h.pos
  have hlen : (0 : Int) < ((cells.map T.int).length : Int) := by rw [List.length_map]; omega
  have ha0 : 0 ≤ (c + 1) % ((cells.map T.int).length : Int) := Int.emod_nonneg _ (by omega)
  have ha1 : (c + 1) % ((cells.map T.int).length : Int) < cells.length := by
    have := Int.emod_lt_of_pos (c + 1) hlen
    rw [List.length_map] at this ⊢; exact this
  refine fok_at (τ0 := [some _, some _, none, none, none]) rfl ?_
  unfold st__law_draw
  walk_at "go"
  refine w1 rfl ?_
  walk_at "go"
  refine w1 rfl ⟨rfl, ⟨_, rfl⟩, ?_⟩
  walk_at "go"
  refine ⟨[intsT cells, intsT great, .int c], [intsT cells, intsT great, .int (c + 1)], rfl, rfl, ?_⟩
  walk_at "go"
  refine w1 (a := .int (c + 1)) rfl ?_
  walk_at "go"
  refine w1 (a := .int (c + 1)) rfl ?_
  walk_at "go"
  refine w1 (a := intsT cells) rfl ?_
  walk_at "go"
  refine w1 (a := .int ((cells.map T.int).length : Int)) rfl (w1 (oMod_pos hlen) ?_)
  generalize hat : (c + 1) % ((cells.map T.int).length : Int) = at_ at ha0 ha1
  walk_at "go"
  refine w1 (a := intsT great) rfl ?_
  walk_at "go"
  obtain ⟨v, k, hv, hk, eg⟩ := ints_get (xs := great) ha0 (by rw [h.len]; exact ha1)
  have hv0 : 0 ≤ v := h.nn v (List.mem_of_getElem? hv)
  refine w1 eg ⟨rfl, ?_⟩
  walk_at "go"
  refine w1 rfl ⟨_, rfl, ?_⟩
  by_cases hpos : 0 < v
  · rw [if_pos (by simpa using hpos)]
    walk_at "go"
    refine w1 (oDiv_pos h0 h1) ⟨⟨_, rfl⟩, ?_⟩
    walk_at "go"
    have hkl : k < great.length := (List.getElem?_eq_some_iff.mp hv).1
    refine ⟨.lst [intsT cells, intsT great, .int (c + 1)], intsT great, rfl, rfl, ?_⟩
    walk_at "go"
    refine ⟨intsT (great.set k (v / many)), .lst [intsT cells, intsT (great.set k (v / many)), .int (c + 1)], ?_, rfl, ?_⟩
    · show (setL (great.map T.int) (.int at_) (.int (v / many))).map T.lst = _
      rw [hk]
      show ((pyIx (great.map T.int).length (k : Int)).map fun j => (great.map T.int).set j (.int (v / many))).map T.lst = _
      rw [pyIx_nat (by rw [List.length_map]; exact hkl)]
      show some (T.lst ((great.map T.int).set k (T.int (v / many)))) = some (T.lst ((great.set k (v / many)).map T.int))
      rw [List.map_set]
    walk_at "go"
    refine w1 rfl ?_
    walk_at "go"
    refine w1 (oMod_pos h0) ⟨_, _, rfl, Int.emod_nonneg _ (by omega), Int.emod_lt_of_pos _ h0, rfl, ⟨by rw [List.length_set]; exact h.len, h.pos, fun g hg => ?_, by have := h.c0; omega⟩⟩
    rcases List.mem_or_eq_of_mem_set hg with hg | hg
    · exact h.nn g hg
    · rw [hg]; exact Int.ediv_nonneg hv0 (by omega)
  · rw [if_neg (by simpa using hpos)]
    obtain ⟨v2, k2, hv2, hk2, eg2⟩ := ints_get (xs := cells) ha0 ha1
    walk_at "go"
    refine w1 (a := intsT cells) rfl ?_
    walk_at "go"
    refine w1 eg2 ?_
    walk_at "go"
    refine w1 rfl ?_
    walk_at "go"
    refine w1 (oMod_pos (by omega)) ?_
    walk_at "go"
    refine w1 (a := .int (c + 1)) rfl (w1 (oMul_l (by omega)) (w1 rfl ?_))
    walk_at "go"
    refine w1 rfl ?_
    generalize v2 % 2147483629 + 7919 * (c + 1) + 1 = n1
    walk_at "go"
    refine w1 (oMul_r (by omega)) ?_
    walk_at "go"
    refine w1 rfl ?_
    walk_at "go"
    refine w1 (oMod_pos (by omega)) ?_
    have b1 := Int.emod_lt_of_pos (n1 * 48271) (show (0 : Int) < 2147483647 by omega)
    have b2 := Int.emod_nonneg (n1 * 48271) (show (2147483647 : Int) ≠ 0 by omega)
    generalize n1 * 48271 % 2147483647 = n2 at b1 b2
    walk_at "go"
    refine w1 (oDiv_pos (by omega) (by omega)) ?_
    walk_at "go"
    refine w1 rfl (w1 (oMul_l (by omega)) ?_)
    walk_at "go"
    refine w1 rfl ?_
    walk_at "go"
    refine w1 (oMod_pos (by omega)) ?_
    generalize hn3 : n2 * (n2 / 1009 + 69621) % 2147483647 = n3
    have b3 : n3 < 2147483647 := by rw [← hn3]; exact Int.emod_lt_of_pos _ (by omega)
    have b4 : 0 ≤ n3 := by rw [← hn3]; exact Int.emod_nonneg _ (by omega)
    walk_at "go"
    refine w1 (oDiv_pos (by omega) (by omega)) ?_
    walk_at "go"
    refine w1 rfl (w1 (oMul_l (by omega)) ?_)
    walk_at "go"
    refine w1 rfl ?_
    walk_at "go"
    refine w1 (oMod_pos (by omega)) ?_
    walk_at "go"
    refine w1 (oDiv_pos (by omega) (by omega)) ?_
    walk_at "go"
    refine w1 rfl ?_
    walk_at "go"
    exact w1 (oMod_pos h0) ⟨_, great, rfl, Int.emod_nonneg _ (by omega), Int.emod_lt_of_pos _ h0, rfl, ⟨h.len, h.pos, h.nn, by have := h.c0; omega⟩⟩
theorem imms_ints : ∀ xs : List Int, imms (xs.map T.int) = true
  | [] => rfl
  | x :: xs => by show (true && imms (xs.map T.int)) = true; rw [imms_ints xs]; rfl
theorem cut_take {xs : List T} {n : Nat} : cut xs none (some (n : Int)) = xs.take n := by
  unfold cut ixS
  simp only [show ¬ ((n : Int) < 0) by omega, if_false, List.drop_zero, Nat.sub_zero, Int.toNat_natCast]
  rw [← List.take_eq_take_min]
theorem szL_63 : (63 : Nat) < szL := by decide
theorem purse_ok (ns : List Int) : Fok f__law_purse [.lst (ns.map .int)] fun w _ => ∃ cells great, w = purseT cells great 0 ∧ Good cells great 0 := by
  refine fok_at (τ0 := [some _, none, none, none, none]) rfl ?_
  unfold st__law_purse
  walk_at "go"
  refine ok_sLc ?_
  walk_at "go"
  refine ⟨63, rfl, _, rfl, ?_⟩
  have ec : cut (ns.map T.int) none (some 63) = (ns.take 63).map T.int := (cut_take (xs := ns.map T.int) (n := 63)).trans (by rw [List.map_take])
  rw [ec]
  refine ⟨imms_ints _, ?_⟩
  generalize hcs : ns.take 63 = cs
  have hl : cs.length ≤ 63 := by rw [← hcs, List.length_take]; omega
  walk_at "go"
  refine ⟨_, rfl, ?_⟩
  refine ok_lcM (fun rest acc τ => ∃ done r : List Int, rest = r.map .int ∧ done ++ r = cs ∧ acc = done.map .int ∧ τ = [some (.lst (ns.map .int)), none, none, none, none]) ?_ ?_ _ _ _ ⟨[], cs, rfl, rfl, rfl, rfl⟩
  · rintro x r acc τ ⟨done, r', e1, e2, rfl, rfl⟩
    cases r' with
    | nil => cases e1
    | cons y r' =>
      cases e1
      refine ok_put (ok_noE (ok_pure ?_))
      rw [if_pos rfl]
      refine ok_noE ?_
      walk_at "go"
      refine w1 rfl ⟨?_, done ++ [y], r', rfl, by rw [← e2]; simp, by simp, rfl⟩
      have : done.length ≤ cs.length := by rw [← e2]; simp
      rw [List.length_map]
      have := szL_63
      omega
  · rintro acc τ ⟨done, r, e1, e2, rfl, rfl⟩
    cases r with
    | cons _ _ => cases e1
    | nil =>
    rw [List.append_nil] at e2
    subst e2
    walk_at "go"
    refine w1 rfl ?_
    walk_at "go"
    refine w1 rfl ⟨_, rfl, ?_⟩
    -- cells, not empty
    have key : ∀ cells : List Int, 0 < cells.length → cells.length ≤ 63 → Ok (sLcO [4] 1 (put 4) (noE (M.pure true)) (noE (fnA fAbs (consA (TL.get 4) nilA)))) [some (.lst (ns.map .int)), some (intsT cells), none, none, none] fun w τ1 => Ok
        (sSeq (forS (rng1 (consA (fnA fLen (consA (TL.get 2) nilA)) nilA)) (put 3)
        (sIf (tst (op2 oLt (op2 oGet (TL.get 2) (TL.get 3)) (op2 oPow (con (.int 10)) (con (.int 18)))))
        (sSetI 2 (con (.int 0)) (TL.get 3))
        sNx))
        (sRet (fnA oLst (consA (mv 1) (consA (mv 2) (consA (toS (con (.int 0))) nilA)))))) (List.set τ1 2 (some w)) fun c τ => match c with
          | .nx => ∃ cells great, T.non = purseT cells great 0 ∧ Good cells great 0
          | .rt w => ∃ cells great, w = purseT cells great 0 ∧ Good cells great 0
          | _ => False := by
      intro cells hc0 hc1
      refine ok_sLcO rfl ?_
      refine ok_lcO (cells.map T.int) (fun k acc τ => ∃ done : List Int, done.length = k ∧ (∀ g ∈ done, 0 ≤ g) ∧ acc = done.map .int ∧ τ = [some (.lst (ns.map .int)), some (intsT cells), none, none, none]) ?_ ?_ ?_ _ _ _ _ (Nat.zero_le _) (by omega) ⟨[], rfl, by simp, rfl, rfl⟩
      · rintro k acc τ ⟨done, _, _, _, rfl⟩; rfl
      · rintro k x acc τ hx ⟨done, e1, e2, rfl, rfl⟩
        rw [List.getElem?_map] at hx
        cases hy : cells[k]? with
        | none => rw [hy] at hx; cases hx
        | some y =>
          rw [hy] at hx; cases hx
          have hk : k < cells.length := (List.getElem?_eq_some_iff.mp hy).1
          refine ⟨rfl, ok_put (ok_noE (ok_pure ?_))⟩
          rw [if_pos rfl]
          refine ok_noE ?_
          walk_at "go"
          refine w1 rfl ⟨?_, done ++ [if y < 0 then -y else y], by simp [e1], ?_, by simp, rfl⟩
          · rw [List.length_map]
            have := szL_63
            omega
          · intro g hg
            rcases List.mem_append.mp hg with hg | hg
            · exact e2 g hg
            · rw [List.mem_singleton.mp hg]; split <;> omega
      · rintro acc τ ⟨great0, e1, e2, rfl, rfl⟩
        rw [List.length_map] at e1
        walk_at "go"
        refine w1 rfl ?_
        walk_at "go"
        refine ⟨intsL 0 great0.length, ?_, ?_⟩
        · rw [List.length_map]; exact fRange1_nat (by omega)
        refine ok_sFor (fun rest τ => ∃ (j : Nat) (great : List Int) (z : Option T), rest = (List.range' j (cells.length - j)).map (fun i : Nat => T.int (i : Int)) ∧ j ≤ cells.length ∧ great.length = cells.length ∧ (∀ g ∈ great, 0 ≤ g) ∧ τ = [some (.lst (ns.map .int)), some (intsT cells), some (intsT great), z, none]) ?_ ?_ _ _ ⟨0, great0, none, ?_, Nat.zero_le _, e1, e2, rfl⟩
        · rintro x r τ ⟨j, great, z, e3, hj, e4, e5, rfl⟩
          have hjl : j < cells.length := by
            rcases Nat.lt_or_ge j cells.length with h | h
            · exact h
            · rw [Nat.sub_eq_zero_of_le h] at e3; cases e3
          obtain ⟨d, hd⟩ : ∃ d, cells.length - j = d + 1 := ⟨cells.length - j - 1, by omega⟩
          rw [hd, List.range'_succ, List.map_cons] at e3
          cases e3
          obtain ⟨v, k, hv, hk, eg⟩ := ints_get (xs := great) (i := (j : Int)) (by omega) (by rw [e4]; omega)
          refine ok_put ?_
          walk_at "go"
          refine w1 eg ?_
          walk_at "go"
          refine w1 (a := .int (10 ^ 18)) rfl (w1 rfl ⟨_, rfl, ?_⟩)
          by_cases hlt : v < 10 ^ 18
          · rw [if_pos (by simpa using hlt)]
            walk_at "go"
            refine ⟨⟨_, rfl⟩, ?_⟩
            walk_at "go"
            refine ⟨intsT great, intsT (great.set j 0), rfl, ?_, j + 1, great.set j 0, _, ?_, by omega, by rw [List.length_set]; exact e4, ?_, rfl⟩
            · show (setL (great.map T.int) (.int (j : Int)) (.int 0)).map T.lst = _
              show ((pyIx (great.map T.int).length (j : Int)).map fun j => (great.map T.int).set j (.int 0)).map T.lst = _
              rw [pyIx_nat (by rw [List.length_map]; omega)]
              show some (T.lst ((great.map T.int).set j (T.int 0))) = some (T.lst ((great.set j 0).map T.int))
              rw [List.map_set]
            · rw [show cells.length - (j + 1) = d by omega]
            · intro g hg
              rcases List.mem_or_eq_of_mem_set hg with hg | hg
              · exact e5 g hg
              · omega
          · rw [if_neg (by simpa using hlt)]
            walk_at "go"
            exact ⟨j + 1, great, _, by rw [show cells.length - (j + 1) = d by omega], by omega, e4, e5, rfl⟩
        · rintro τ ⟨j, great, z, e3, hj, e4, e5, rfl⟩
          walk_at "go"
          refine ⟨rfl, ?_⟩
          walk_at "go"
          exact w1 rfl ⟨cells, great, rfl, e4, hc0, e5, by omega⟩
        · rw [e1]
          unfold intsL
          rw [List.range_eq_range', Nat.sub_zero]
          exact List.map_congr_left fun i _ => by simp
    cases hcl : done with
    | nil =>
      rw [if_pos (by rfl)]
      walk_at "go"
      refine w1 (a := intsT [0]) rfl ?_
      walk_at "go"
      exact key [0] (by simp) (by simp)
    | cons a b =>
      rw [if_neg (by simp [tEq]; omega)]
      walk_at "go"
      rw [hcl] at hl
      exact key (a :: b) (by simp) hl
/-! ### names -/
abbrev abcS : Str := PySem.Str.ofString "abcdefghijklmnopqrstuvwxyz"
theorem abc_list : abcS.cps.toList = List.range' 97 26 := by decide +kernel
structure NameOk (z : Str) : Prop where
  lo : 1 ≤ z.cps.toList.length
  hi : z.cps.toList.length ≤ 8
  abc : ∀ c ∈ z.cps.toList, 97 ≤ c ∧ c < 123
theorem abc_get {i : Int} (h0 : 0 ≤ i) (h1 : i < 26) : ∃ c : Nat, 97 ≤ c ∧ c < 123 ∧ oGet (.str abcS) (.int i) = some (.str ⟨#[c]⟩) := by
  obtain ⟨k, rfl⟩ : ∃ k : Nat, i = k := ⟨i.toNat, by omega⟩
  have hk : k < 26 := by omega
  refine ⟨97 + k, by omega, by omega, ?_⟩
  show (if abcS.length ≤ szL then (pyAt abcS.cps.toList (k : Int)).map fun c => T.str ⟨#[c]⟩ else none) = _
  rw [if_pos (by decide +kernel), abc_list, pyAt_nat (x := 97 + k) (by rw [List.getElem?_range' (by omega)]; simp)]
  rfl
theorem add_str {x y : Str} (h : x.length + y.length ≤ szL) : oAdd (.str x) (.str y) = some (.str (x ++ y)) := by
  show (if x.length + y.length ≤ szL then some (T.str (x ++ y)) else none) = _
  rw [if_pos h]
theorem app_list (x y : Str) : (x ++ y).cps.toList = x.cps.toList ++ y.cps.toList := by
  show (x.cps ++ y.cps).toList = _
  rw [Array.toList_append]
theorem intsL_range (m : Nat) : intsL 0 m = (List.range' 0 m).map (fun i : Nat => T.int (i : Int)) := by
  unfold intsL
  rw [List.range_eq_range']
  exact List.map_congr_left fun i _ => by simp
theorem name_ok {cells great : List Int} {c : Int} (h : Good cells great c) :
    Fok f__law_name [purseT cells great c] fun w ps => ∃ z great' c', w = .str z ∧ NameOk z ∧ ps = [some (purseT cells great' c')] ∧ Good cells great' c' := by
  refine fok_at (τ0 := [some _, none, none]) rfl ?_
  unfold st__law_name
  walk_at "go"
  refine ⟨_, rfl, fok_imp (draw_ok h (many := 8) (by omega) (by omega)) ?_⟩
  rintro _ _ ⟨r, g1, rfl, hr0, hr1, rfl, hg1⟩
  refine ⟨_, rfl, ?_⟩
  walk_at "go"
  refine w1 rfl ?_
  walk_at "go"
  obtain ⟨m, hm⟩ : ∃ m : Nat, 1 + r = m := ⟨(1 + r).toNat, by omega⟩
  rw [hm]
  refine ⟨_, fRange1_nat (by omega), ?_⟩
  rw [intsL_range]
  refine ok_sFor (fun rest τ => ∃ (j : Nat) (z : Str) (great : List Int) (c : Int) (y : Option T), rest = (List.range' j (m - j)).map (fun i : Nat => T.int (i : Int)) ∧ j ≤ m ∧ z.cps.toList.length = j ∧ (∀ c ∈ z.cps.toList, 97 ≤ c ∧ c < 123) ∧ Good cells great c ∧ τ = [some (purseT cells great c), some (.str z), y]) ?_ ?_ _ _ ⟨0, ⟨#[]⟩, g1, c + 1, none, rfl, Nat.zero_le _, rfl, by simp, hg1, rfl⟩
  · rintro x rest τ ⟨j, z, g2, c2, y, e1, hj, e2, e3, hg2, rfl⟩
    have hjl : j < m := by
      rcases Nat.lt_or_ge j m with h | h
      · exact h
      · rw [Nat.sub_eq_zero_of_le h] at e1; cases e1
    obtain ⟨d, hd⟩ : ∃ d, m - j = d + 1 := ⟨m - j - 1, by omega⟩
    rw [hd, List.range'_succ, List.map_cons] at e1
    cases e1
    refine ok_put ?_
    walk_at "go"
    refine ⟨_, rfl, fok_imp (draw_ok hg2 (many := 26) (by omega) (by omega)) ?_⟩
    rintro _ _ ⟨r2, g3, rfl, hs0, hs1, rfl, hg3⟩
    refine ⟨_, rfl, ?_⟩
    obtain ⟨a, ha0, ha1, ea⟩ := abc_get hs0 hs1
    have hsz : (100 : Nat) < szL := by decide
    refine w1 ea (w1 (add_str ?_) ?_)
    · show z.cps.size + 1 ≤ szL
      have : z.cps.size = j := by rw [← Array.length_toList]; exact e2
      omega
    walk_at "go"
    refine ⟨j + 1, z ++ ⟨#[a]⟩, g3, c2 + 1, _, by rw [show m - (j + 1) = d by omega], by omega, by rw [app_list, List.length_append, e2]; rfl, ?_, hg3, rfl⟩
    intro b hb
    rw [app_list] at hb
    rcases List.mem_append.mp hb with hb | hb
    · exact e3 b hb
    · simp at hb; subst hb; exact ⟨ha0, ha1⟩
  · rintro τ ⟨j, z, g2, c2, y, e1, hj, e2, e3, hg2, rfl⟩
    have ejm : j = m := by
      rcases Nat.lt_or_ge j m with h | h
      · obtain ⟨d, hd⟩ : ∃ d, m - j = d + 1 := ⟨m - j - 1, by omega⟩
        rw [hd, List.range'_succ] at e1; cases e1
      · omega
    walk_at "go"
    exact ⟨z, g2, c2, rfl, ⟨by omega, by omega, e3⟩, rfl, hg2⟩
def strsT (zs : List Str) : T := .lst (zs.map .str)
theorem all_scal : ∀ zs : List Str, (zs.map T.str).all isScal = true
  | [] => rfl
  | z :: zs => by simp only [List.map_cons, List.all_cons, all_scal zs]; rfl
theorem any_str (z : Str) : ∀ zs : List Str, ((zs.map T.str).any fun y => tEq y (.str z)) = decide (z ∈ zs)
  | [] => by simp
  | y :: zs => by
    simp only [List.map_cons, List.any_cons, any_str z zs]
    show ((y == z) || decide (z ∈ zs)) = decide (z ∈ y :: zs)
    by_cases h : y = z
    · subst h; simp
    · have h2 : ¬ z = y := fun e => h e.symm
      simp [h, h2]
theorem inB_strs (z : Str) (zs : List Str) : inB (.str z) (strsT zs) = some (decide (z ∈ zs)) := by
  show (if isScal (.str z) = true ∧ (zs.map T.str).all isScal = true then some ((zs.map T.str).any fun y => tEq y (.str z)) else none) = _
  rw [if_pos ⟨rfl, all_scal zs⟩, any_str]
theorem in_strs (z : Str) (zs : List Str) : oIn (.str z) (strsT zs) = some (.bl (decide (z ∈ zs))) := by
  unfold oIn; rw [inB_strs]; rfl
theorem notIn_strs (z : Str) (zs : List Str) : oNotIn (.str z) (strsT zs) = some (.bl (!decide (z ∈ zs))) := by
  unfold oNotIn; rw [inB_strs]; rfl
def plainS : List Str := ["a", "b", "c", "d", "e", "f", "g", "h", "i", "j"].map PySem.Str.ofString
theorem plain_nd : plainS.Nodup := by decide +kernel
theorem plain_ok : ∀ z ∈ plainS, NameOk z := by
  have : plainS.all (fun z => decide (1 ≤ z.cps.toList.length) && decide (z.cps.toList.length ≤ 8) && z.cps.toList.all fun c => decide (97 ≤ c) && decide (c < 123)) = true := by decide +kernel
  intro z hz
  have h := List.all_eq_true.mp this z hz
  simp only [Bool.and_eq_true, decide_eq_true_eq, List.all_eq_true] at h
  exact ⟨h.1.1, h.1.2, h.2⟩
theorem strs_get {zs : List Str} {i : Int} (h0 : 0 ≤ i) (h1 : i < zs.length) : ∃ z, z ∈ zs ∧ oGet (strsT zs) (.int i) = some (.str z) := by
  obtain ⟨k, rfl⟩ : ∃ k : Nat, i = k := ⟨i.toNat, by omega⟩
  have hk : k < zs.length := by omega
  exact ⟨zs[k], List.getElem_mem hk, pyAt_nat (by rw [List.getElem?_map, List.getElem?_eq_getElem hk]; rfl)⟩
theorem plain_left {zs : List Str} (h : zs.length < 10) : ∃ z r, plainS.filter (fun z => !decide (z ∈ zs)) = z :: r ∧ z ∈ plainS ∧ z ∉ zs := by
  cases e : plainS.filter (fun z => !decide (z ∈ zs)) with
  | nil =>
    exfalso
    have hs : ∀ z ∈ plainS, z ∈ zs := fun z hz => by
      have := List.filter_eq_nil_iff.mp e z hz
      simpa using this
    have := plain_nd.length_le_of_subset hs
    have h10 : plainS.length = 10 := by decide +kernel
    omega
  | cons z r =>
    have : z ∈ plainS.filter (fun z => !decide (z ∈ zs)) := by rw [e]; simp
    rw [List.mem_filter] at this
    exact ⟨z, r, rfl, this.1, by simpa using this.2⟩
theorem names_ok {cells great : List Int} {c : Int} {many : Nat} (h : Good cells great c) (hm : many ≤ 10) :
    Fok f__law_names [purseT cells great c, .int many] fun w ps => ∃ zs great' c', w = strsT zs ∧ zs.length = many ∧ zs.Nodup ∧ (∀ z ∈ zs, NameOk z) ∧ ps = [some (purseT cells great' c'), some (.int many)] ∧ Good cells great' c' := by
  refine fok_at (τ0 := [some _, some _, none, none, none, none, none, none]) rfl ?_
  unfold st__law_names
  walk_at "go"
  refine w1 (a := strsT plainS) rfl ?_
  walk_at "go"
  refine ⟨_, rfl, fok_imp (draw_ok h (many := 3) (by omega) (by omega)) ?_⟩
  rintro _ _ ⟨r, g1, rfl, hr0, hr1, rfl, hg1⟩
  refine ⟨_, rfl, ?_⟩
  walk_at "go"
  refine w1 (a := .bl (r == 0)) rfl ?_
  generalize (r == 0) = sp
  walk_at "go"
  refine w1 (a := strsT []) rfl ?_
  walk_at "go"
  refine ⟨_, fRange1_nat (by omega), ?_⟩
  rw [intsL_range]
  refine ok_sFor (fun rest τ => ∃ (j : Nat) (zs : List Str) (great : List Int) (c : Int) (y y2 : Option T), rest = (List.range' j (many - j)).map (fun i : Nat => T.int (i : Int)) ∧ j ≤ many ∧ zs.length = j ∧ zs.Nodup ∧ (∀ z ∈ zs, NameOk z) ∧ Good cells great c ∧ τ = [some (purseT cells great c), some (.int many), some (strsT plainS), some (.bl sp), some (strsT zs), y, y2, none]) ?_ ?_ _ _ ⟨0, [], g1, c + 1, none, none, rfl, Nat.zero_le _, rfl, by simp, by simp, hg1, rfl⟩
  · rintro x rest τ ⟨j, zs, g2, c2, y, y2, e1, hj, e2, nd, e3, hg2, rfl⟩
    have hjl : j < many := by
      rcases Nat.lt_or_ge j many with h | h
      · exact h
      · rw [Nat.sub_eq_zero_of_le h] at e1; cases e1
    obtain ⟨d, hd⟩ : ∃ d, many - j = d + 1 := ⟨many - j - 1, by omega⟩
    rw [hd, List.range'_succ, List.map_cons] at e1
    cases e1
    refine ok_put ?_
    walk_at "go"
    refine ⟨_, rfl, fok_imp (draw_ok hg2 (many := 10) (by omega) (by omega)) ?_⟩
    rintro _ _ ⟨r2, g3, rfl, hs0, hs1, rfl, hg3⟩
    refine ⟨_, rfl, ?_⟩
    obtain ⟨z0, hz0, ez⟩ := strs_get (zs := plainS) hs0 (by have : plainS.length = 10 := by decide +kernel
                                                            omega)
    refine w1 ez ?_
    -- behind the first choice
    have key : ∀ (z1 : Str) (g4 : List Int) (c4 : Int), NameOk z1 → Good cells g4 c4 → Ok (sSeq (sIf (tst (op2 oIn (TL.get 6) (TL.get 4)))
        (sSet 6 (op2 oGet (sLc [7] (elems (TL.get 2)) (put 7) (noE (tst (op2 oNotIn (TL.get 7) (TL.get 4)))) (noE (TL.get 7))) (con (.int 0))))
        sNx)
        (sDrop (appS 4 (TL.get 6)))) [some (purseT cells g4 c4), some (.int many), some (strsT plainS), some (.bl sp), some (strsT zs), some (.int j), some (.str z1), none] fun c τ => match c with
          | .nx => ∃ (j' : Nat) (zs : List Str) (great : List Int) (c : Int) (y y2 : Option T), (List.range' (j + 1) d).map (fun i : Nat => T.int (i : Int)) = (List.range' j' (many - j')).map (fun i : Nat => T.int (i : Int)) ∧ j' ≤ many ∧ zs.length = j' ∧ zs.Nodup ∧ (∀ z ∈ zs, NameOk z) ∧ Good cells great c ∧ τ = [some (purseT cells great c), some (.int many), some (strsT plainS), some (.bl sp), some (strsT zs), y, y2, none]
          | _ => False := by
      intro z1 g4 c4 hz1 hg4
      have fin : ∀ z2 : Str, NameOk z2 → z2 ∉ zs → Ok (sDrop (appS 4 (TL.get 6))) [some (purseT cells g4 c4), some (.int many), some (strsT plainS), some (.bl sp), some (strsT zs), some (.int j), some (.str z2), none] fun c τ => match c with
          | .nx => ∃ (j' : Nat) (zs : List Str) (great : List Int) (c : Int) (y y2 : Option T), (List.range' (j + 1) d).map (fun i : Nat => T.int (i : Int)) = (List.range' j' (many - j')).map (fun i : Nat => T.int (i : Int)) ∧ j' ≤ many ∧ zs.length = j' ∧ zs.Nodup ∧ (∀ z ∈ zs, NameOk z) ∧ Good cells great c ∧ τ = [some (purseT cells great c), some (.int many), some (strsT plainS), some (.bl sp), some (strsT zs), y, y2, none]
          | _ => False := by
        intro z2 h2 h3
        walk_at "go"
        refine ⟨⟨_, rfl⟩, ?_⟩
        walk_at "go"
        have hsz : (100 : Nat) < szL := by decide
        refine ⟨zs.map .str, rfl, by rw [List.length_map]; omega, j + 1, zs ++ [z2], g4, c4, some (.int j), some (.str z2), by rw [show many - (j + 1) = d by omega], by omega, by rw [List.length_append, e2]; rfl, ?_, ?_, hg4, by simp [strsT]⟩
        · rw [List.nodup_append]
          exact ⟨nd, by simp, fun a ha b hb e => h3 (by simp at hb; rw [← hb, ← e]; exact ha)⟩
        · intro z hz
          rcases List.mem_append.mp hz with hz | hz
          · exact e3 z hz
          · simp at hz; rw [hz]; exact h2
      walk_at "go"
      refine w1 (in_strs z1 zs) ⟨_, rfl, ?_⟩
      by_cases hin : z1 ∈ zs
      · rw [if_pos (by simpa using hin)]
        walk_at "go"
        refine ok_sLc ?_
        walk_at "go"
        refine ⟨_, rfl, ?_⟩
        obtain ⟨z2, r5, e5, hp, hn⟩ := plain_left (zs := zs) (by omega)
        refine ok_lcM (fun rest acc τ => ∃ done r : List Str, rest = r.map .str ∧ done ++ r = plainS ∧ acc = (done.filter fun z => !decide (z ∈ zs)).map .str ∧ τ = [some (purseT cells g4 c4), some (.int many), some (strsT plainS), some (.bl sp), some (strsT zs), some (.int j), some (.str z1), none]) ?_ ?_ _ _ _ ⟨[], plainS, rfl, rfl, rfl, rfl⟩
        · rintro x rest acc τ ⟨done, r, e6, e7, rfl, rfl⟩
          cases r with
          | nil => cases e6
          | cons z r =>
            cases e6
            refine ok_put (ok_noE ?_)
            walk_at "go"
            refine w1 (notIn_strs z zs) ⟨_, rfl, ?_⟩
            have e8 : (done ++ [z]) ++ r = plainS := by rw [← e7]; simp
            by_cases hz : z ∈ zs
            · rw [if_neg (by simpa using hz)]
              exact ⟨done ++ [z], r, rfl, e8, by simp [List.filter_append, hz], rfl⟩
            · rw [if_pos (by simpa using hz)]
              refine ok_noE ?_
              walk_at "go"
              refine ⟨?_, done ++ [z], r, rfl, e8, by simp [List.filter_append, hz], rfl⟩
              rw [List.length_map]
              have h1 := List.length_filter_le (fun z => !decide (z ∈ zs)) done
              have h2 : done.length ≤ plainS.length := by rw [← e7]; simp
              have h10 : plainS.length = 10 := by decide +kernel
              have hsz : (100 : Nat) < szL := by decide
              omega
        · rintro acc τ ⟨done, r, e6, e7, rfl, rfl⟩
          cases r with
          | cons _ _ => cases e6
          | nil =>
            rw [List.append_nil] at e7
            subst e7
            rw [e5]
            walk_at "go"
            refine w1 (a := .str z2) (pyAt_nat (k := 0) rfl) ?_
            exact fin z2 (plain_ok z2 hp) hn
      · rw [if_neg (by simpa using hin)]
        exact ok_nx (fin z1 hz1 hin)
    refine ok_seq (ok_if (ok_tst (ok_get rfl ⟨sp, rfl, ?_⟩)))
    by_cases hsp : sp = true
    · rw [if_pos hsp]
      refine ok_set (ok_callL (ok_cons (ok_get rfl (ok_nil ⟨_, rfl, fok_imp (name_ok hg3) ?_⟩))))
      rintro _ _ ⟨z1, g4, c4, rfl, hz1, rfl, hg4⟩
      exact ⟨_, rfl, ok_imp (key z1 g4 c4 hz1 hg4) (fun c τ h => by
        cases c with
        | nx => exact h
        | _ => exact h.elim)⟩
    · rw [if_neg hsp]
      exact ok_nx (ok_imp (key z0 g3 (c2 + 1) (plain_ok z0 hz0) hg3) (fun c τ h => by
        cases c with
        | nx => exact h
        | _ => exact h.elim))
  · rintro τ ⟨j, zs, g2, c2, y, y2, e1, hj, e2, nd, e3, hg2, rfl⟩
    have ejm : j = many := by
      rcases Nat.lt_or_ge j many with h | h
      · obtain ⟨d, hd⟩ : ∃ d, many - j = d + 1 := ⟨many - j - 1, by omega⟩
        rw [hd, List.range'_succ] at e1; cases e1
      · omega
    exact ok_ret (ok_mv rfl ⟨zs, g2, c2, rfl, by omega, nd, e3, rfl, hg2⟩)
end
section
local macro_rules | `(tactic| walk_at "g1") => `(tactic| first
  | with_reducible refine ok_seq ?_ | with_reducible refine ok_set ?_ | with_reducible refine ok_ret ?_ | with_reducible refine ok_drop ?_ | with_reducible refine ok_if ?_ | with_reducible refine ok_nx ?_
  | with_reducible refine ok_op2 ?_ | with_reducible refine ok_op1 ?_ | with_reducible refine ok_con ?_ | with_reducible refine ok_get rfl ?_ | with_reducible refine ok_mv rfl ?_
  | with_reducible refine ok_nil ?_ | with_reducible refine ok_cons ?_ | with_reducible refine ok_fnA ?_ | with_reducible refine ok_newA ?_ | with_reducible refine ok_newI ?_ | with_reducible refine ok_toI ?_ | with_reducible refine ok_toS ?_
  | with_reducible refine ok_isa ?_ | with_reducible refine ok_isaI ?_ | with_reducible refine ok_isaO ?_ | with_reducible refine ok_fld ?_ | with_reducible refine ok_chain ?_ | with_reducible refine ok_andM ?_ | with_reducible refine ok_orM ?_ | with_reducible refine ok_notM ?_
  | with_reducible refine ok_callA ?_ | with_reducible refine ok_callL ?_ | with_reducible refine ok_makeA ?_ | with_reducible refine ok_selfA ?_ | with_reducible refine ok_propA ?_
  | with_reducible refine ok_cutN ?_ | with_reducible refine ok_cutI ?_ | with_reducible refine ok_noPart ?_ | with_reducible refine ok_part ?_ | with_reducible refine ok_get1D ?_ | with_reducible refine ok_ifE ?_
  | with_reducible refine ok_tst ?_ | with_reducible refine ok_andT ?_ | with_reducible refine ok_orT ?_ | with_reducible refine ok_notT ?_ | with_reducible refine ok_truT ?_
  | with_reducible refine ok_sSetL ?_ | with_reducible refine ok_sSetI ?_ | with_reducible refine ok_sSet2 ?_ | with_reducible refine ok_appS ?_
  | with_reducible refine ok_sFldM ?_ | with_reducible refine ok_starM ?_
  | with_reducible refine ok_sLc ?_ | with_reducible refine ok_sDc ?_ | with_reducible refine ok_noE ?_
  | with_reducible refine ok_for ?_ | with_reducible refine ok_elems ?_ | with_reducible refine ok_rng1 ?_ | with_reducible refine ok_rng2 ?_ | with_reducible refine ok_enum ?_
  | with_reducible refine ok_clearM ?_ | with_reducible refine ok_sApp2 ?_ | with_reducible refine ok_sClear2 ?_
  | simp only [List.set_cons_zero, List.set_cons_succ]
  | dsimp only)
local macro_rules | `(tactic| walk_at "go") => `(tactic| repeat walk_at "g1")
/-! ### moves -/
abbrev Mv := (Str × Str) × Str
def keyT (k : Str × Str) : T := .tup [.str k.1, .str k.2]
def entT (e : Mv) : T × T := (keyT e.1, .str e.2)
def movesT (ms : List Mv) : T := .dct (ms.map entT)
theorem key_eq (k l : Str × Str) : tEq (keyT k) (keyT l) = decide (k = l) := by
  obtain ⟨a, b⟩ := k
  obtain ⟨c, d⟩ := l
  show ((a == c) && ((b == d) && true)) = decide ((a, b) = (c, d))
  by_cases h1 : a = c <;> by_cases h2 : b = d <;> simp [h1, h2]
theorem ask_moves (ms : List Mv) (k : Str × Str) : askOk (ms.map entT) (keyT k) = true := by
  unfold askOk
  simp only [Bool.and_eq_true, List.all_eq_true, decide_eq_true_eq]
  refine ⟨⟨⟨rfl, by show (1 : Nat) ≤ 8; omega⟩, by show (0 : Nat) ≤ 1; omega⟩, fun e he => ?_⟩
  obtain ⟨m, _, rfl⟩ := List.mem_map.mp he
  exact ⟨rfl, by show (1 : Nat) ≤ 8; omega⟩
def lookM (ms : List Mv) (k : Str × Str) : Option Str := (ms.find? fun e => decide (e.1 = k)).map (·.2)
theorem look_moves (k : Str × Str) : ∀ ms : List Mv, look (ms.map entT) (keyT k) = (lookM ms k).map .str
  | [] => rfl
  | e :: ms => by
    have ih := look_moves k ms
    unfold look lookM at ih ⊢
    simp only [List.map_cons, List.find?_cons]
    have : tEq (entT e).1 (keyT k) = decide (e.1 = k) := key_eq e.1 k
    rw [this]
    cases decide (e.1 = k) with
    | true => rfl
    | false => exact ih
theorem lookM_mem {ms : List Mv} (nd : (ms.map (·.1)).Nodup) {e : Mv} (he : e ∈ ms) : lookM ms e.1 = some e.2 := by
  induction ms with
  | nil => cases he
  | cons m ms ih =>
    unfold lookM
    rw [List.find?_cons]
    rw [List.map_cons, List.nodup_cons] at nd
    rcases List.mem_cons.mp he with rfl | he
    · simp
    · have hne : ¬ m.1 = e.1 := fun z => nd.1 (by rw [z]; exact List.mem_map_of_mem he)
      simp only [hne, decide_false]
      exact ih nd.2 he
theorem get_moves {ms : List Mv} (nd : (ms.map (·.1)).Nodup) {e : Mv} (he : e ∈ ms) : oGet (movesT ms) (keyT e.1) = some (.str e.2) := by
  show (if askOk (ms.map entT) (keyT e.1) = true then look (ms.map entT) (keyT e.1) else none) = _
  rw [if_pos (ask_moves ms e.1), look_moves, lookM_mem nd he]; rfl
theorem key_fst (k : Str × Str) : oGet (keyT k) (.int 0) = some (.str k.1) := rfl
theorem key_snd (k : Str × Str) : oGet (keyT k) (.int 1) = some (.str k.2) := rfl
theorem elems_moves (ms : List Mv) : oElems (movesT ms) = some (ms.map fun e => keyT e.1) := by
  show some ((ms.map entT).map (·.1)) = _
  rw [List.map_map]; rfl
/-- a way along the moves -/
inductive Way (ms : List Mv) : Str → Str → Prop where
  | refl (s : Str) : Way ms s s
  | step {s : Str} {e : Mv} (h : Way ms s e.1.1) (he : e ∈ ms) : Way ms s e.2
theorem reached_ok {s : Str} {ms : List Mv} (nd : (ms.map (·.1)).Nodup) (hl : ms.length ≤ 100) :
    Fok f__law_reached [.str s, movesT ms] fun w _ => ∃ zs : List Str, w = strsT zs ∧ 0 < zs.length ∧ zs.length ≤ 1000 ∧ ∀ z ∈ zs, Way ms s z := by
  refine fok_at (τ0 := [some _, some _, none, none, none]) rfl ?_
  unfold st__law_reached
  walk_at "go"
  refine ⟨rfl, ?_⟩
  walk_at "go"
  refine w1 (a := strsT [s]) rfl ?_
  walk_at "go"
  refine ⟨_, fRange1_nat (n := 6) (by omega), ?_⟩
  refine ok_sFor (fun rest τ => ∃ (zs : List Str) (y y2 : Option T), rest.length ≤ 6 ∧ 0 < zs.length ∧ zs.length ≤ 1 + 100 * (6 - rest.length) ∧ (∀ z ∈ zs, Way ms s z) ∧ τ = [some (.str s), some (movesT ms), some (strsT zs), y, y2]) ?_ ?_ _ _ ⟨[s], none, none, by decide, by simp, by simp, by intro z hz; simp at hz; rw [hz]; exact .refl s, rfl⟩
  · rintro x rest τ ⟨zs0, y, y2, hr, h1, h2, h3, rfl⟩
    rw [List.length_cons] at hr h2
    refine ok_put ?_
    walk_at "go"
    refine ⟨_, elems_moves ms, ?_⟩
    refine ok_sFor (fun rest2 τ => ∃ (done r : List Mv) (zs : List Str) (y2 : Option T), rest2 = r.map (fun e => keyT e.1) ∧ done ++ r = ms ∧ 0 < zs.length ∧ zs.length ≤ zs0.length + done.length ∧ (∀ z ∈ zs, Way ms s z) ∧ τ = [some (.str s), some (movesT ms), some (strsT zs), some x, y2]) ?_ ?_ _ _ ⟨[], ms, zs0, y2, rfl, rfl, h1, by simp, h3, rfl⟩
    · rintro x2 rest2 τ ⟨done, r, zs, y3, e1, e2, g1, g2, g3, rfl⟩
      cases r with
      | nil => cases e1
      | cons e r =>
        cases e1
        have he : e ∈ ms := by rw [← e2]; simp
        have e2' : (done ++ [e]) ++ r = ms := by rw [← e2]; simp
        have hdl : done.length < ms.length := by rw [← e2]; simp
        refine ok_put ?_
        walk_at "go"
        refine w1 (key_fst e.1) ?_
        walk_at "go"
        refine w1 (in_strs e.1.1 zs) ⟨_, rfl, ?_⟩
        by_cases hin : e.1.1 ∈ zs
        · rw [if_pos (by simpa using hin)]
          walk_at "go"
          refine w1 (get_moves nd he) ?_
          walk_at "go"
          refine w1 (notIn_strs e.2 zs) ⟨_, rfl, ?_⟩
          by_cases h4 : e.2 ∈ zs
          · rw [if_neg (by simpa using h4)]
            walk_at "go"
            exact ⟨done ++ [e], r, zs, _, rfl, e2', g1, by rw [List.length_append]; omega, g3, rfl⟩
          · rw [if_pos (by simpa using h4)]
            walk_at "go"
            refine ⟨⟨_, rfl⟩, ?_⟩
            walk_at "go"
            refine w1 (get_moves nd he) ⟨rfl, ?_⟩
            have hsz : (10000 : Nat) < szL := by decide
            refine ⟨zs.map .str, rfl, by rw [List.length_map]; omega, ?_⟩
            walk_at "go"
            refine ⟨done ++ [e], r, zs ++ [e.2], some (keyT e.1), rfl, e2', by simp, by simp; omega, ?_, by simp [strsT]⟩
            intro z hz
            rcases List.mem_append.mp hz with hz | hz
            · exact g3 z hz
            · simp at hz; rw [hz]; exact .step (g3 _ hin) he
        · rw [if_neg (by simpa using hin)]
          rw [if_neg (by simp)]
          walk_at "go"
          exact ⟨done ++ [e], r, zs, _, rfl, e2', g1, by rw [List.length_append]; omega, g3, rfl⟩
    · rintro τ ⟨done, r, zs, y3, e1, e2, g1, g2, g3, rfl⟩
      have hd : done.length ≤ ms.length := by rw [← e2]; simp
      exact ⟨zs, _, y3, by omega, g1, by omega, g3, rfl⟩
  · rintro τ ⟨zs, y, y2, hr, h1, h2, h3, rfl⟩
    exact ok_ret (ok_mv rfl ⟨zs, rfl, h1, by omega, h3⟩)
end
section
local macro_rules | `(tactic| walk_at "g1") => `(tactic| first
  | with_reducible refine ok_seq ?_ | with_reducible refine ok_set ?_ | with_reducible refine ok_ret ?_ | with_reducible refine ok_drop ?_ | with_reducible refine ok_if ?_ | with_reducible refine ok_nx ?_
  | with_reducible refine ok_op2 ?_ | with_reducible refine ok_op1 ?_ | with_reducible refine ok_con ?_ | with_reducible refine ok_get rfl ?_ | with_reducible refine ok_mv rfl ?_
  | with_reducible refine ok_nil ?_ | with_reducible refine ok_cons ?_ | with_reducible refine ok_fnA ?_ | with_reducible refine ok_newA ?_ | with_reducible refine ok_newI ?_ | with_reducible refine ok_toI ?_ | with_reducible refine ok_toS ?_
  | with_reducible refine ok_isa ?_ | with_reducible refine ok_isaI ?_ | with_reducible refine ok_isaO ?_ | with_reducible refine ok_fld ?_ | with_reducible refine ok_chain ?_ | with_reducible refine ok_andM ?_ | with_reducible refine ok_orM ?_ | with_reducible refine ok_notM ?_
  | with_reducible refine ok_callA ?_ | with_reducible refine ok_callL ?_ | with_reducible refine ok_makeA ?_ | with_reducible refine ok_selfA ?_ | with_reducible refine ok_propA ?_
  | with_reducible refine ok_cutN ?_ | with_reducible refine ok_cutI ?_ | with_reducible refine ok_noPart ?_ | with_reducible refine ok_part ?_ | with_reducible refine ok_get1D ?_ | with_reducible refine ok_ifE ?_
  | with_reducible refine ok_tst ?_ | with_reducible refine ok_andT ?_ | with_reducible refine ok_orT ?_ | with_reducible refine ok_notT ?_ | with_reducible refine ok_truT ?_
  | with_reducible refine ok_sSetL ?_ | with_reducible refine ok_sSetI ?_ | with_reducible refine ok_sSet2 ?_ | with_reducible refine ok_appS ?_
  | with_reducible refine ok_sFldM ?_ | with_reducible refine ok_starM ?_
  | with_reducible refine ok_sLc ?_ | with_reducible refine ok_sDc ?_ | with_reducible refine ok_noE ?_
  | with_reducible refine ok_for ?_ | with_reducible refine ok_elems ?_ | with_reducible refine ok_rng1 ?_ | with_reducible refine ok_rng2 ?_ | with_reducible refine ok_enum ?_
  | with_reducible refine ok_clearM ?_ | with_reducible refine ok_sApp2 ?_ | with_reducible refine ok_sClear2 ?_
  | simp only [List.set_cons_zero, List.set_cons_succ]
  | dsimp only)
local macro_rules | `(tactic| walk_at "go") => `(tactic| repeat walk_at "g1")
theorem imms_strs : ∀ xs : List Str, imms (xs.map T.str) = true
  | [] => rfl
  | x :: xs => by show (true && imms (xs.map T.str)) = true; rw [imms_strs xs]; rfl
theorem eq_strs (a b : Str) : oEq (.str a) (.str b) = some (.bl (decide (a = b))) := by
  show some (T.bl (a == b)) = _
  by_cases h : a = b <;> simp [h]
theorem strs_at {zs : List Str} {k : Nat} {z : Str} (h : zs[k]? = some z) : oGet (strsT zs) (.int (k : Int)) = some (.str z) := pyAt_nat (by rw [List.getElem?_map, h]; rfl)
theorem way_back {ms : List Mv} {zs : List Str} (cl : ∀ e ∈ ms, e.2 ∈ zs → e.1.1 ∈ zs) {z g : Str} (h : Way ms z g) : g ∈ zs → z ∈ zs := by
  induction h with
  | refl => exact id
  | step h he ih => exact fun hg => ih (cl _ he hg)
theorem leading_ok {goals : List Str} {ms : List Mv} (nd : (ms.map (·.1)).Nodup) (hl : ms.length ≤ 100) (hgl : goals.length ≤ 100) :
    Fok f_leading [strsT goals, movesT ms] fun w _ => ∃ zs : List Str, w = strsT zs ∧ ∀ z g, g ∈ goals → Way ms z g → z ∈ zs := by
  refine fok_at (τ0 := [some _, some _, none, none, none]) rfl ?_
  unfold st_leading
  walk_at "go"
  refine ⟨goals.map .str, rfl, imms_strs goals, ?_⟩
  walk_at "go"
  have bound : ∀ xs : List Str, xs.Nodup → (∀ x ∈ xs, x ∈ ms.map (fun e => e.1.1)) → xs.length ≤ ms.length := fun xs n h => by
    have := n.length_le_of_subset h
    rw [List.length_map] at this; exact this
  refine ok_while (fun m τ => ∃ (xs : List Str) (k : Nat) (y : Option T), xs.Nodup ∧ (∀ x ∈ xs, x ∈ ms.map (fun e => e.1.1)) ∧ k ≤ (goals ++ xs).length ∧ m = goals.length + ms.length - k ∧ (∀ i z, i < k → (goals ++ xs)[i]? = some z → ∀ e ∈ ms, e.2 = z → e.1.1 ∈ goals ++ xs) ∧ τ = [some (strsT goals), some (movesT ms), some (strsT (goals ++ xs)), some (.int k), y]) ?_ _ (goals.length + ms.length) _ (by omega) ⟨[], 0, none, by simp, by simp, Nat.zero_le _, rfl, fun i z h => by omega, by simp [strsT]⟩
  rintro m τ ⟨xs, k, y, h1, h2, h3, rfl, h4, rfl⟩
  have hb := bound xs h1 h2
  have hlen : (goals ++ xs).length = goals.length + xs.length := List.length_append
  walk_at "go"
  refine w1 rfl ?_
  walk_at "go"
  refine w1 rfl ⟨_, rfl, ?_⟩
  by_cases hk : k < (goals ++ xs).length
  · rw [if_pos (by simp [strsT]; simp at hk; omega)]
    refine ⟨by omega, ?_⟩
    obtain ⟨zk, hzk⟩ : ∃ z, (goals ++ xs)[k]? = some z := ⟨_, List.getElem?_eq_getElem hk⟩
    walk_at "go"
    refine ⟨_, elems_moves ms, ?_⟩
    refine ok_sFor (fun rest τ => ∃ (done r : List Mv) (ys : List Str) (y : Option T), rest = r.map (fun e => keyT e.1) ∧ done ++ r = ms ∧ (xs ++ ys).Nodup ∧ (∀ x ∈ xs ++ ys, x ∈ ms.map (fun e => e.1.1)) ∧ (∀ e ∈ done, e.2 = zk → e.1.1 ∈ goals ++ (xs ++ ys)) ∧ τ = [some (strsT goals), some (movesT ms), some (strsT (goals ++ (xs ++ ys))), some (.int k), y]) ?_ ?_ _ _ ⟨[], ms, [], y, rfl, rfl, by simpa using h1, by simpa using h2, by simp, by simp⟩
    · rintro x rest τ ⟨done, r, ys, y2, e1, e2, n1, n2, n3, rfl⟩
      cases r with
      | nil => cases e1
      | cons e r =>
        cases e1
        have he : e ∈ ms := by rw [← e2]; simp
        have e2' : (done ++ [e]) ++ r = ms := by rw [← e2]; simp
        have hzk2 : (goals ++ (xs ++ ys))[k]? = some zk := by
          rw [← List.append_assoc, List.getElem?_append_left hk]; exact hzk
        refine ok_put ?_
        walk_at "go"
        refine w1 (get_moves nd he) ?_
        walk_at "go"
        refine w1 (strs_at hzk2) (w1 (eq_strs _ _) ⟨_, rfl, ?_⟩)
        by_cases h5 : e.2 = zk
        · rw [if_pos (by simpa using h5)]
          walk_at "go"
          refine w1 (key_fst e.1) ?_
          walk_at "go"
          refine w1 (notIn_strs _ _) ⟨_, rfl, ?_⟩
          by_cases h6 : e.1.1 ∈ goals ++ (xs ++ ys)
          · rw [if_neg (by rw [decide_eq_true h6]; simp)]
            walk_at "go"
            refine ⟨done ++ [e], r, ys, _, rfl, e2', n1, n2, fun e' he' hz => ?_, rfl⟩
            rcases List.mem_append.mp he' with h | h
            · exact n3 e' h hz
            · simp at h; rw [h]; exact h6
          · rw [if_pos (by rw [decide_eq_false h6]; rfl)]
            walk_at "go"
            refine ⟨⟨_, rfl⟩, ?_⟩
            walk_at "go"
            refine w1 (key_fst e.1) ⟨rfl, ?_⟩
            have hsz : (10000 : Nat) < szL := by decide
            have hb2 := bound _ n1 n2
            refine ⟨(goals ++ (xs ++ ys)).map .str, rfl, by rw [List.length_map, List.length_append]; omega, ?_⟩
            walk_at "go"
            have n4 : (xs ++ (ys ++ [e.1.1])).Nodup := by
              rw [← List.append_assoc, List.nodup_append]
              exact ⟨n1, by simp, fun a ha b hb z => h6 (by simp at hb; subst hb; subst z; exact List.mem_append_right _ ha)⟩
            refine ⟨done ++ [e], r, ys ++ [e.1.1], some (keyT e.1), rfl, e2', n4, fun x hx => ?_, fun e' he' hz => ?_, by simp [strsT]⟩
            · rw [← List.append_assoc] at hx
              rcases List.mem_append.mp hx with h | h
              · exact n2 x h
              · simp at h; rw [h]; exact List.mem_map_of_mem (f := fun e : Mv => e.1.1) he
            · rcases List.mem_append.mp he' with h | h
              · have := n3 e' h hz
                simp only [List.mem_append] at this ⊢
                rcases this with h | h | h
                · exact .inl h
                · exact .inr (.inl h)
                · exact .inr (.inr (.inl h))
              · simp at h; rw [h]; simp
        · rw [if_neg (by simpa using h5)]
          rw [if_neg (by simp)]
          walk_at "go"
          refine ⟨done ++ [e], r, ys, _, rfl, e2', n1, n2, fun e' he' hz => ?_, rfl⟩
          rcases List.mem_append.mp he' with h | h
          · exact n3 e' h hz
          · simp at h; rw [h] at hz; exact (h5 hz).elim
    · rintro τ ⟨done, r, ys, y2, e1, e2, n1, n2, n3, rfl⟩
      have er : r = [] := by cases r with
        | nil => rfl
        | cons _ _ => cases e1
      subst er
      rw [List.append_nil] at e2
      subst e2
      have hb2 := bound _ n1 n2
      refine ok_aug rfl (ok_con (w1 rfl ⟨goals.length + done.length - (k + 1), ?_, xs ++ ys, k + 1, y2, n1, n2, ?_, rfl, ?_, rfl⟩))
      · omega
      · rw [List.length_append, List.length_append] ; omega
      · intro i z hi hz e he hez
        rcases Nat.lt_or_ge i k with h | h
        · rw [← List.append_assoc, List.getElem?_append_left (by omega)] at hz
          have := h4 i z h hz e he hez
          rw [← List.append_assoc]
          exact List.mem_append_left _ this
        · have : i = k := by omega
          subst this
          rw [← List.append_assoc, List.getElem?_append_left hk, hzk] at hz
          cases hz
          exact n3 e he hez
  · rw [if_neg (by simp [strsT]; simp at hk; omega)]
    refine ok_ret (ok_mv rfl ⟨goals ++ xs, rfl, fun z g hg hw => way_back (fun e he h => ?_) hw (List.mem_append_left _ hg)⟩)
    obtain ⟨i, hi, ei⟩ := List.getElem_of_mem h
    exact h4 i e.2 (by omega) (by rw [← ei]; exact List.getElem?_eq_getElem hi) e he rfl
end
section
local macro_rules | `(tactic| walk_at "g1") => `(tactic| first
  | with_reducible refine ok_seq ?_ | with_reducible refine ok_set ?_ | with_reducible refine ok_ret ?_ | with_reducible refine ok_drop ?_ | with_reducible refine ok_if ?_ | with_reducible refine ok_nx ?_
  | with_reducible refine ok_op2 ?_ | with_reducible refine ok_op1 ?_ | with_reducible refine ok_con ?_ | with_reducible refine ok_get rfl ?_ | with_reducible refine ok_mv rfl ?_
  | with_reducible refine ok_nil ?_ | with_reducible refine ok_cons ?_ | with_reducible refine ok_fnA ?_ | with_reducible refine ok_newA ?_ | with_reducible refine ok_newI ?_ | with_reducible refine ok_toI ?_ | with_reducible refine ok_toS ?_
  | with_reducible refine ok_isa ?_ | with_reducible refine ok_isaI ?_ | with_reducible refine ok_isaO ?_ | with_reducible refine ok_fld ?_ | with_reducible refine ok_chain ?_ | with_reducible refine ok_andM ?_ | with_reducible refine ok_orM ?_ | with_reducible refine ok_notM ?_
  | with_reducible refine ok_callA ?_ | with_reducible refine ok_callL ?_ | with_reducible refine ok_makeA ?_ | with_reducible refine ok_selfA ?_ | with_reducible refine ok_propA ?_
  | with_reducible refine ok_cutN ?_ | with_reducible refine ok_cutI ?_ | with_reducible refine ok_noPart ?_ | with_reducible refine ok_part ?_ | with_reducible refine ok_get1D ?_ | with_reducible refine ok_ifE ?_
  | with_reducible refine ok_tst ?_ | with_reducible refine ok_andT ?_ | with_reducible refine ok_orT ?_ | with_reducible refine ok_notT ?_ | with_reducible refine ok_truT ?_
  | with_reducible refine ok_sSetL ?_ | with_reducible refine ok_sSetI ?_ | with_reducible refine ok_sSet2 ?_ | with_reducible refine ok_appS ?_
  | with_reducible refine ok_sFldM ?_ | with_reducible refine ok_starM ?_
  | with_reducible refine ok_sLc ?_ | with_reducible refine ok_sDc ?_ | with_reducible refine ok_noE ?_
  | with_reducible refine ok_for ?_ | with_reducible refine ok_elems ?_ | with_reducible refine ok_rng1 ?_ | with_reducible refine ok_rng2 ?_ | with_reducible refine ok_enum ?_
  | with_reducible refine ok_clearM ?_ | with_reducible refine ok_sApp2 ?_ | with_reducible refine ok_sClear2 ?_
  | simp only [List.set_cons_zero, List.set_cons_succ]
  | dsimp only)
local macro_rules | `(tactic| walk_at "go") => `(tactic| repeat walk_at "g1")
theorem is_name_ok {z : Str} (h : NameOk z) : Fok f_is_name [.str z] fun w _ => w = .bl true := by
  refine fok_at (τ0 := [some _, none]) rfl ?_
  unfold st_is_name
  have hlo := h.lo
  have hhi := h.hi
  have hz : z.length = z.cps.toList.length := rfl
  have hsz : (100 : Nat) < szL := by decide
  walk_at "go"
  refine w1 rfl ⟨_, rfl, ?_⟩
  rw [if_neg (by decide)]
  walk_at "go"
  refine ⟨.int z.length, ?_, true, ?_, ?_⟩
  · show (if z.length ≤ szL then some (T.int z.length) else none) = _
    rw [if_pos (by omega)]
  · show some (T.bl (decide ((1 : Int) ≤ z.length))) = _
    rw [decide_eq_true (by omega)]
  rw [if_pos rfl]
  walk_at "go"
  refine w1 (a := .bl true) ?_ ⟨_, rfl, ?_⟩
  · show some (T.bl (decide ((z.length : Int) ≤ 8))) = _
    rw [decide_eq_true (by omega)]
  rw [if_neg (by decide)]
  walk_at "go"
  refine ⟨_, rfl, ?_⟩
  refine ok_sFor (fun rest τ => ∃ (r : List Nat) (y : Option T), rest = r.map (fun c => T.str ⟨#[c]⟩) ∧ (∀ c ∈ r, 97 ≤ c ∧ c < 123) ∧ τ = [some (.str z), y]) ?_ ?_ _ _ ⟨z.cps.toList, none, rfl, h.abc, rfl⟩
  · rintro x rest τ ⟨r, y, e1, e2, rfl⟩
    cases r with
    | nil => cases e1
    | cons c r =>
      cases e1
      refine ok_put ?_
      walk_at "go"
      refine w1 (a := .bl false) ?_ ⟨_, rfl, ?_⟩
      · show (some (decide (c ∈ abcS.cps.toList))).map (fun b => T.bl (!b)) = _
        have : c ∈ abcS.cps.toList := by
          rw [abc_list, List.mem_range'_1]
          have := e2 c (by simp)
          omega
        rw [decide_eq_true this]; rfl
      rw [if_neg (by decide)]
      walk_at "go"
      exact ⟨r, _, rfl, fun c hc => e2 c (by simp [hc]), rfl⟩
  · rintro τ ⟨r, y, e1, e2, rfl⟩
    walk_at "go"
theorem is_items_ok (zs : List T) : Fok f_is_items [.lst zs] fun w _ => w = .bl true := by
  refine fok_at (τ0 := [some _]) rfl ?_
  unfold st_is_items
  walk_at "go"
  exact w1 rfl rfl
theorem num_strs : ∀ (zs : List Str) (i : Nat), numberedF i (zs.map T.str) = (zs.zipIdx i).map fun p => T.tup [.int p.2, .str p.1]
  | [], _ => rfl
  | z :: zs, i => by
    simp only [List.map_cons, numberedF, List.zipIdx_cons, num_strs zs (i + 1)]
theorem are_names_ok {zs : List Str} {most : Int} (h0 : 1 ≤ zs.length) (h1 : (zs.length : Int) ≤ most) (nd : zs.Nodup) (hn : ∀ z ∈ zs, NameOk z) : Fok f_are_names [strsT zs, .int most] fun w _ => w = .bl true := by
  refine fok_at (τ0 := [some _, some _, none, none]) rfl ?_
  unfold st_are_names
  walk_at "go"
  refine fok_imp (is_items_ok _) ?_
  rintro _ _ rfl
  refine ⟨_, rfl, ?_⟩
  rw [if_neg (by decide)]
  walk_at "go"
  refine w1 rfl ⟨true, ?_, ?_⟩
  · show some (T.bl (decide ((1 : Int) ≤ ((zs.map T.str).length : Nat)))) = _
    rw [decide_eq_true (by rw [List.length_map]; omega)]
  rw [if_pos rfl]
  walk_at "go"
  refine w1 (a := .bl true) ?_ ⟨_, rfl, ?_⟩
  · show some (T.bl (decide ((((zs.map T.str).length : Nat) : Int) ≤ most))) = _
    rw [decide_eq_true (by rw [List.length_map]; omega)]
  rw [if_neg (by decide)]
  walk_at "go"
  refine ⟨_, rfl, ?_⟩
  refine ok_sFor (fun rest τ => ∃ (done r : List Str) (y y2 : Option T), rest = (r.zipIdx done.length).map (fun p => T.tup [.int p.2, .str p.1]) ∧ done ++ r = zs ∧ τ = [some (strsT zs), some (.int most), y, y2]) ?_ ?_ _ _ ⟨[], zs, none, none, num_strs zs 0, rfl, rfl⟩
  · rintro x rest τ ⟨done, r, y, y2, e1, e2, rfl⟩
    cases r with
    | nil => cases e1
    | cons z r =>
      rw [List.zipIdx_cons, List.map_cons] at e1
      cases e1
      have hz : z ∈ zs := by rw [← e2]; simp
      refine ok_bind (ok_put (ok_bind (ok_put (ok_pure ?_))))
      walk_at "go"
      refine fok_imp (is_name_ok (hn z hz)) ?_
      rintro _ _ rfl
      refine ⟨_, rfl, ?_⟩
      rw [if_neg (by decide)]
      walk_at "go"
      refine ⟨_, rfl, ?_⟩
      refine w1 (a := strsT (zs.take done.length)) ?_ (w1 (in_strs z _) ⟨_, rfl, ?_⟩)
      · show some (T.lst (cut (zs.map T.str) none (some (done.length : Int)))) = _
        rw [cut_take, ← List.map_take]; rfl
      have hnot : z ∉ zs.take done.length := by
        rw [← e2, List.take_left' rfl]
        rw [← e2, List.nodup_append] at nd
        exact fun h => nd.2.2 z h z (by simp) rfl
      rw [if_neg (by simpa using hnot)]
      walk_at "go"
      exact ⟨done ++ [z], r, _, _, by rw [List.length_append]; rfl, by rw [← e2]; simp, rfl⟩
  · rintro τ ⟨done, r, y, y2, e1, e2, rfl⟩
    walk_at "go"
end
section
local macro_rules | `(tactic| walk_at "g1") => `(tactic| first
  | with_reducible refine ok_seq ?_ | with_reducible refine ok_set ?_ | with_reducible refine ok_ret ?_ | with_reducible refine ok_drop ?_ | with_reducible refine ok_if ?_ | with_reducible refine ok_nx ?_
  | with_reducible refine ok_op2 ?_ | with_reducible refine ok_op1 ?_ | with_reducible refine ok_con ?_ | with_reducible refine ok_get rfl ?_ | with_reducible refine ok_mv rfl ?_
  | with_reducible refine ok_nil ?_ | with_reducible refine ok_cons ?_ | with_reducible refine ok_fnA ?_ | with_reducible refine ok_newA ?_ | with_reducible refine ok_newI ?_ | with_reducible refine ok_toI ?_ | with_reducible refine ok_toS ?_
  | with_reducible refine ok_isa ?_ | with_reducible refine ok_isaI ?_ | with_reducible refine ok_isaO ?_ | with_reducible refine ok_fld ?_ | with_reducible refine ok_chain ?_ | with_reducible refine ok_andM ?_ | with_reducible refine ok_orM ?_ | with_reducible refine ok_notM ?_
  | with_reducible refine ok_callA ?_ | with_reducible refine ok_callL ?_ | with_reducible refine ok_makeA ?_ | with_reducible refine ok_selfA ?_ | with_reducible refine ok_propA ?_
  | with_reducible refine ok_cutN ?_ | with_reducible refine ok_cutI ?_ | with_reducible refine ok_noPart ?_ | with_reducible refine ok_part ?_ | with_reducible refine ok_get1D ?_ | with_reducible refine ok_ifE ?_
  | with_reducible refine ok_tst ?_ | with_reducible refine ok_andT ?_ | with_reducible refine ok_orT ?_ | with_reducible refine ok_notT ?_ | with_reducible refine ok_truT ?_
  | with_reducible refine ok_sSetL ?_ | with_reducible refine ok_sSetI ?_ | with_reducible refine ok_sSet2 ?_ | with_reducible refine ok_appS ?_
  | with_reducible refine ok_sFldM ?_ | with_reducible refine ok_starM ?_
  | with_reducible refine ok_sLc ?_ | with_reducible refine ok_sDc ?_ | with_reducible refine ok_noE ?_
  | with_reducible refine ok_for ?_ | with_reducible refine ok_elems ?_ | with_reducible refine ok_rng1 ?_ | with_reducible refine ok_rng2 ?_ | with_reducible refine ok_enum ?_
  | with_reducible refine ok_clearM ?_ | with_reducible refine ok_sApp2 ?_ | with_reducible refine ok_sClear2 ?_
  | simp only [List.set_cons_zero, List.set_cons_succ]
  | dsimp only)
local macro_rules | `(tactic| walk_at "go") => `(tactic| repeat walk_at "g1")
structure MvOk (toks : List Str) (e : Mv) : Prop where
  s : NameOk e.1.1
  t : NameOk e.1.2
  u : NameOk e.2
  m : e.1.2 ∈ toks
theorem are_moves_ok {ms : List Mv} {toks : List Str} (nd : (ms.map (·.1)).Nodup) (h : ∀ e ∈ ms, MvOk toks e) : Fok f_are_moves [movesT ms, strsT toks] fun w _ => w = .bl true := by
  refine fok_at (τ0 := [some _, some _, none]) rfl ?_
  unfold st_are_moves
  walk_at "go"
  refine w1 rfl ⟨_, rfl, ?_⟩
  rw [if_neg (by decide)]
  walk_at "go"
  refine ⟨_, elems_moves ms, ?_⟩
  refine ok_sFor (fun rest τ => ∃ (r : List Mv) (y : Option T), rest = r.map (fun e => keyT e.1) ∧ (∀ e ∈ r, e ∈ ms) ∧ τ = [some (movesT ms), some (strsT toks), y]) ?_ ?_ _ _ ⟨ms, none, rfl, fun e h => h, rfl⟩
  · rintro x rest τ ⟨r, y, e1, e2, rfl⟩
    cases r with
    | nil => cases e1
    | cons e r =>
      cases e1
      have he : e ∈ ms := e2 e (by simp)
      have ho := h e he
      refine ok_put ?_
      walk_at "go"
      refine w1 rfl ⟨_, rfl, ?_⟩
      rw [if_neg (by decide)]
      walk_at "go"
      refine w1 (a := .int 2) rfl ?_
      walk_at "go"
      refine w1 (a := .bl false) rfl ⟨_, rfl, ?_⟩
      rw [if_neg (by decide)]
      walk_at "go"
      refine w1 (key_fst e.1) ?_
      walk_at "go"
      refine fok_imp (is_name_ok ho.s) ?_
      rintro _ _ rfl
      refine ⟨_, rfl, ?_⟩
      rw [if_neg (by decide)]
      walk_at "go"
      refine w1 (key_snd e.1) ?_
      walk_at "go"
      refine fok_imp (is_name_ok ho.t) ?_
      rintro _ _ rfl
      refine ⟨_, rfl, ?_⟩
      rw [if_neg (by decide)]
      walk_at "go"
      refine w1 (key_snd e.1) ?_
      walk_at "go"
      refine w1 (notIn_strs _ _) ⟨_, rfl, ?_⟩
      rw [if_neg (by rw [decide_eq_true ho.m]; decide)]
      walk_at "go"
      refine w1 (get_moves nd he) ?_
      walk_at "go"
      refine fok_imp (is_name_ok ho.u) ?_
      rintro _ _ rfl
      refine ⟨_, rfl, ?_⟩
      rw [if_neg (by decide)]
      walk_at "go"
      exact ⟨r, _, rfl, fun e h => e2 e (by simp [h]), rfl⟩
  · rintro τ ⟨r, y, e1, e2, rfl⟩
    walk_at "go"
end
section
local macro_rules | `(tactic| walk_at "g1") => `(tactic| first
  | with_reducible refine ok_seq ?_ | with_reducible refine ok_set ?_ | with_reducible refine ok_ret ?_ | with_reducible refine ok_drop ?_ | with_reducible refine ok_if ?_ | with_reducible refine ok_nx ?_
  | with_reducible refine ok_op2 ?_ | with_reducible refine ok_op1 ?_ | with_reducible refine ok_con ?_ | with_reducible refine ok_get rfl ?_ | with_reducible refine ok_mv rfl ?_
  | with_reducible refine ok_nil ?_ | with_reducible refine ok_cons ?_ | with_reducible refine ok_fnA ?_ | with_reducible refine ok_newA ?_ | with_reducible refine ok_newI ?_ | with_reducible refine ok_toI ?_ | with_reducible refine ok_toS ?_
  | with_reducible refine ok_isa ?_ | with_reducible refine ok_isaI ?_ | with_reducible refine ok_isaO ?_ | with_reducible refine ok_fld ?_ | with_reducible refine ok_chain ?_ | with_reducible refine ok_andM ?_ | with_reducible refine ok_orM ?_ | with_reducible refine ok_notM ?_
  | with_reducible refine ok_callA ?_ | with_reducible refine ok_callL ?_ | with_reducible refine ok_makeA ?_ | with_reducible refine ok_selfA ?_ | with_reducible refine ok_propA ?_
  | with_reducible refine ok_cutN ?_ | with_reducible refine ok_cutI ?_ | with_reducible refine ok_noPart ?_ | with_reducible refine ok_part ?_ | with_reducible refine ok_get1D ?_ | with_reducible refine ok_ifE ?_
  | with_reducible refine ok_tst ?_ | with_reducible refine ok_andT ?_ | with_reducible refine ok_orT ?_ | with_reducible refine ok_notT ?_ | with_reducible refine ok_truT ?_
  | with_reducible refine ok_sSetL ?_ | with_reducible refine ok_sSetI ?_ | with_reducible refine ok_sSet2 ?_ | with_reducible refine ok_appS ?_
  | with_reducible refine ok_sFldM ?_ | with_reducible refine ok_starM ?_
  | with_reducible refine ok_sLc ?_ | with_reducible refine ok_sDc ?_ | with_reducible refine ok_noE ?_
  | with_reducible refine ok_for ?_ | with_reducible refine ok_elems ?_ | with_reducible refine ok_rng1 ?_ | with_reducible refine ok_rng2 ?_ | with_reducible refine ok_enum ?_
  | with_reducible refine ok_clearM ?_ | with_reducible refine ok_sApp2 ?_ | with_reducible refine ok_sClear2 ?_
  | simp only [List.set_cons_zero, List.set_cons_succ]
  | dsimp only)
local macro_rules | `(tactic| walk_at "go") => `(tactic| repeat walk_at "g1")
theorem lookM_none {ms : List Mv} {k : Str × Str} (h : k ∉ ms.map (·.1)) : lookM ms k = none := by
  unfold lookM
  rw [Option.map_eq_none_iff, List.find?_eq_none]
  intro e he
  simp only [decide_eq_true_eq]
  exact fun z => h (by rw [← z]; exact List.mem_map_of_mem he)
theorem store_new {ms : List Mv} {k : Str × Str} {u : Str} (h : k ∉ ms.map (·.1)) : store (ms.map entT) (keyT k) (.str u) = (ms ++ [(k, u)]).map entT := by
  unfold store
  rw [look_moves, lookM_none h]
  simp [entT]
theorem setC_new {ms : List Mv} {k : Str × Str} {u : Str} (h : k ∉ ms.map (·.1)) (hl : ms.length < 1000) : setC (movesT ms) (keyT k) (.str u) = some (movesT (ms ++ [(k, u)])) := by
  show (if askOk (ms.map entT) (keyT k) = true ∧ (ms.map entT).length < szL then some (T.dct (store (ms.map entT) (keyT k) (.str u))) else none) = _
  have hsz : (10000 : Nat) < szL := by decide
  rw [if_pos ⟨ask_moves ms k, by rw [List.length_map]; omega⟩, store_new h]; rfl
theorem copy_ok {ms : List Mv} (nd : (ms.map (·.1)).Nodup) (hl : ms.length ≤ 100) : Fok f__law_copy [movesT ms] fun w _ => w = movesT ms := by
  refine fok_at (τ0 := [some _, none, none]) rfl ?_
  unfold st__law_copy
  walk_at "go"
  refine ⟨_, elems_moves ms, ?_⟩
  refine ok_sFor (fun rest τ => ∃ (done r : List Mv) (y : Option T), rest = r.map (fun e => keyT e.1) ∧ done ++ r = ms ∧ τ = [some (movesT ms), some (movesT done), y]) ?_ ?_ _ _ ⟨[], ms, none, rfl, rfl, rfl⟩
  · rintro x rest τ ⟨done, r, y, e1, e2, rfl⟩
    cases r with
    | nil => cases e1
    | cons e r =>
      cases e1
      have he : e ∈ ms := by rw [← e2]; simp
      have hdl : done.length < ms.length := by rw [← e2]; simp
      have hk : e.1 ∉ done.map (·.1) := by
        rw [← e2, List.map_append, List.nodup_append] at nd
        exact fun h => nd.2.2 _ h e.1 (by simp) rfl
      refine ok_put ?_
      walk_at "go"
      refine w1 (get_moves nd he) ⟨rfl, ⟨_, rfl⟩, ?_⟩
      walk_at "go"
      exact ⟨_, _, rfl, setC_new hk (by omega), done ++ [e], r, _, rfl, by rw [← e2]; simp, rfl⟩
  · rintro τ ⟨done, r, y, e1, e2, rfl⟩
    have er : r = [] := by cases r with
      | nil => rfl
      | cons _ _ => cases e1
    subst er
    rw [List.append_nil] at e2
    subst e2
    exact ok_ret (ok_mv rfl rfl)
end
section
local macro_rules | `(tactic| walk_at "g1") => `(tactic| first
  | with_reducible refine ok_seq ?_ | with_reducible refine ok_set ?_ | with_reducible refine ok_ret ?_ | with_reducible refine ok_drop ?_ | with_reducible refine ok_if ?_ | with_reducible refine ok_nx ?_
  | with_reducible refine ok_op2 ?_ | with_reducible refine ok_op1 ?_ | with_reducible refine ok_con ?_ | with_reducible refine ok_get rfl ?_ | with_reducible refine ok_mv rfl ?_
  | with_reducible refine ok_nil ?_ | with_reducible refine ok_cons ?_ | with_reducible refine ok_fnA ?_ | with_reducible refine ok_newA ?_ | with_reducible refine ok_newI ?_ | with_reducible refine ok_toI ?_ | with_reducible refine ok_toS ?_
  | with_reducible refine ok_isa ?_ | with_reducible refine ok_isaI ?_ | with_reducible refine ok_isaO ?_ | with_reducible refine ok_fld ?_ | with_reducible refine ok_chain ?_ | with_reducible refine ok_andM ?_ | with_reducible refine ok_orM ?_ | with_reducible refine ok_notM ?_
  | with_reducible refine ok_callA ?_ | with_reducible refine ok_callL ?_ | with_reducible refine ok_makeA ?_ | with_reducible refine ok_selfA ?_ | with_reducible refine ok_propA ?_
  | with_reducible refine ok_cutN ?_ | with_reducible refine ok_cutI ?_ | with_reducible refine ok_noPart ?_ | with_reducible refine ok_part ?_ | with_reducible refine ok_get1D ?_ | with_reducible refine ok_ifE ?_
  | with_reducible refine ok_tst ?_ | with_reducible refine ok_andT ?_ | with_reducible refine ok_orT ?_ | with_reducible refine ok_notT ?_ | with_reducible refine ok_truT ?_
  | with_reducible refine ok_sSetL ?_ | with_reducible refine ok_sSetI ?_ | with_reducible refine ok_sSet2 ?_ | with_reducible refine ok_appS ?_
  | with_reducible refine ok_sFldM ?_ | with_reducible refine ok_starM ?_
  | with_reducible refine ok_sLc ?_ | with_reducible refine ok_sDc ?_ | with_reducible refine ok_noE ?_
  | with_reducible refine ok_for ?_ | with_reducible refine ok_elems ?_ | with_reducible refine ok_rng1 ?_ | with_reducible refine ok_rng2 ?_ | with_reducible refine ok_enum ?_
  | with_reducible refine ok_clearM ?_ | with_reducible refine ok_sApp2 ?_ | with_reducible refine ok_sClear2 ?_
  | simp only [List.set_cons_zero, List.set_cons_succ]
  | dsimp only)
local macro_rules | `(tactic| walk_at "go") => `(tactic| repeat walk_at "g1")
structure Parts (most width : Nat) (toks sts : List Str) (start : Str) (ms : List Mv) (fins : List Str) : Prop where
  t0 : 1 ≤ toks.length
  t1 : toks.length ≤ width
  tn : toks.Nodup
  tk : ∀ z ∈ toks, NameOk z
  s0 : start ∈ sts
  s1 : sts.length ≤ most
  sk : ∀ z ∈ sts, NameOk z
  mn : (ms.map (·.1)).Nodup
  mo : ∀ e ∈ ms, MvOk toks e
  ma : ∀ e ∈ ms, e.1.1 ∈ sts ∧ e.2 ∈ sts
  ml : ms.length ≤ most * width
  fn : fins.Nodup
  fk : ∀ z ∈ fins, z ∈ sts
  fw : ∃ g ∈ fins, Way ms start g
def partsT (toks : List Str) (start : Str) (ms : List Mv) (fins : List Str) : T := .tup [strsT toks, .str start, movesT ms, strsT fins]
theorem way_in {ms : List Mv} {sts : List Str} (h : ∀ e ∈ ms, e.1.1 ∈ sts ∧ e.2 ∈ sts) {s z : Str} (hw : Way ms s z) : s ∈ sts → z ∈ sts := by
  induction hw with
  | refl => exact id
  | step _ he _ => exact fun _ => (h _ he).2
theorem parts_ok {cells great : List Int} {c : Int} {most width : Nat} (h : Good cells great c) (hm0 : 0 < most) (hm : most ≤ 8) (hw0 : 0 < width) (hw : width ≤ 8) :
    Fok f__law_parts [purseT cells great c, .int most, .int width] fun w ps => ∃ toks sts start ms fins great' c', w = partsT toks start ms fins ∧ Parts most width toks sts start ms fins ∧ ps = [some (purseT cells great' c'), some (.int most), some (.int width)] ∧ Good cells great' c' := by
  refine fok_at (τ0 := [some _, some _, some _, none, none, none, none, none, none, none, none, none]) rfl ?_
  unfold st__law_parts
  walk_at "go"
  refine ⟨_, rfl, fok_imp (draw_ok h (many := (width : Int)) (by omega) (by omega)) ?_⟩
  rintro _ _ ⟨r, g1, rfl, hr0, hr1, rfl, hg1⟩
  refine ⟨_, rfl, w1 rfl ?_⟩
  walk_at "go"
  obtain ⟨n1, hn1⟩ : ∃ n : Nat, 1 + r = n := ⟨(1 + r).toNat, by omega⟩
  rw [hn1]
  refine ⟨_, rfl, fok_imp (names_ok hg1 (many := n1) (by omega)) ?_⟩
  rintro _ _ ⟨toks, g2, c2, rfl, ht1, ht2, ht3, rfl, hg2⟩
  refine ⟨_, rfl, ?_⟩
  walk_at "go"
  refine ⟨_, rfl, fok_imp (draw_ok hg2 (many := (most : Int)) (by omega) (by omega)) ?_⟩
  rintro _ _ ⟨r2, g3, rfl, hs0, hs1, rfl, hg3⟩
  refine ⟨_, rfl, w1 rfl ?_⟩
  walk_at "go"
  obtain ⟨n2, hn2⟩ : ∃ n : Nat, 1 + r2 = n := ⟨(1 + r2).toNat, by omega⟩
  rw [hn2]
  refine ⟨_, rfl, fok_imp (names_ok hg3 (many := n2) (by omega)) ?_⟩
  rintro _ _ ⟨sts, g4, c4, rfl, hq1, hq2, hq3, rfl, hg4⟩
  refine ⟨_, rfl, ?_⟩
  walk_at "go"
  refine ⟨_, rfl, fok_imp (draw_ok hg4 (many := 3) (by omega) (by omega)) ?_⟩
  rintro _ _ ⟨r3, g5, rfl, hu0, hu1, rfl, hg5⟩
  refine ⟨_, rfl, w1 rfl ?_⟩
  walk_at "go"
  refine ⟨_, rfl, ?_⟩
  refine ok_sFor (fun rest τ => ∃ (done r : List Str) (ms : List Mv) (great : List Int) (c : Int) (y y2 : Option T), rest = r.map .str ∧ done ++ r = sts ∧ (ms.map (·.1)).Nodup ∧ (∀ e ∈ ms, MvOk toks e) ∧ (∀ e ∈ ms, e.1.1 ∈ sts ∧ e.2 ∈ sts) ∧ (∀ e ∈ ms, e.1.1 ∈ done) ∧ ms.length ≤ done.length * toks.length ∧ Good cells great c ∧ τ = [some (purseT cells great c), some (.int most), some (.int width), some (strsT toks), some (strsT sts), some (.int (2 + r3)), some (movesT ms), y, y2, none, none, none]) ?_ ?_ _ _ ⟨[], sts, [], g5, c4 + 1, none, none, rfl, rfl, by simp, by simp, by simp, by simp, by simp, hg5, rfl⟩
  · rintro x rest τ ⟨done, r, ms, g6, c6, y, y2, e1, e2, m1, m2, m3, m4, m5, hg6, rfl⟩
    cases r with
    | nil => cases e1
    | cons s r =>
      cases e1
      have hs : s ∈ sts := by rw [← e2]; simp
      have hsd : s ∉ done := by
        rw [← e2, List.nodup_append] at hq2
        exact fun h => hq2.2.2 s h s (by simp) rfl
      refine ok_put ?_
      walk_at "go"
      refine ⟨_, rfl, ?_⟩
      refine ok_sFor (fun rest τ => ∃ (dt rt : List Str) (ms : List Mv) (great : List Int) (c : Int) (y2 : Option T), rest = rt.map .str ∧ dt ++ rt = toks ∧ (ms.map (·.1)).Nodup ∧ (∀ e ∈ ms, MvOk toks e) ∧ (∀ e ∈ ms, e.1.1 ∈ sts ∧ e.2 ∈ sts) ∧ (∀ e ∈ ms, e.1.1 ∈ done ∨ (e.1.1 = s ∧ e.1.2 ∈ dt)) ∧ ms.length ≤ done.length * toks.length + dt.length ∧ Good cells great c ∧ τ = [some (purseT cells great c), some (.int most), some (.int width), some (strsT toks), some (strsT sts), some (.int (2 + r3)), some (movesT ms), some (.str s), y2, none, none, none]) ?_ ?_ _ _ ⟨[], toks, ms, g6, c6, y2, rfl, rfl, m1, m2, m3, fun e he => .inl (m4 e he), by simpa using m5, hg6, rfl⟩
      · rintro x2 rest2 τ ⟨dt, rt, ms2, g7, c7, y3, f1, f2, k1, k2, k3, k4, k5, hg7, rfl⟩
        cases rt with
        | nil => cases f1
        | cons t rt =>
          cases f1
          have ht : t ∈ toks := by rw [← f2]; simp
          have htd : t ∉ dt := by
            rw [← f2, List.nodup_append] at ht2
            exact fun h => ht2.2.2 t h t (by simp) rfl
          have f3 : (dt ++ [t]) ++ rt = toks := by rw [← f2]; simp
          have hdl : done.length < sts.length := by rw [← e2]; simp
          have hdt : dt.length < toks.length := by rw [← f2]; simp
          refine ok_put ?_
          walk_at "go"
          refine ⟨_, rfl, fok_imp (draw_ok hg7 (many := 2 + r3) (by omega) (by omega)) ?_⟩
          rintro _ _ ⟨r4, g8, rfl, _, _, rfl, hg8⟩
          refine ⟨_, rfl, ?_⟩
          walk_at "go"
          refine w1 rfl ⟨_, rfl, ?_⟩
          by_cases hd : 0 < r4
          · rw [if_pos (by simpa using hd)]
            walk_at "go"
            refine w1 (a := .int (sts.length : Int)) (by show some (T.int (((sts.map T.str).length : Nat) : Int)) = _; rw [List.length_map]) ?_
            walk_at "go"
            refine ⟨_, rfl, fok_imp (draw_ok hg8 (many := (sts.length : Int)) (by omega) (by omega)) ?_⟩
            rintro _ _ ⟨r5, g9, rfl, hv0, hv1, rfl, hg9⟩
            refine ⟨_, rfl, ?_⟩
            obtain ⟨u, hu, eu⟩ := strs_get (zs := sts) hv0 hv1
            refine w1 eu ⟨⟨_, rfl⟩, ?_⟩
            walk_at "go"
            refine w1 (a := keyT (s, t)) rfl ?_
            have hnew : (s, t) ∉ ms2.map (·.1) := by
              intro hh
              obtain ⟨e, he, ee⟩ := List.mem_map.mp hh
              rcases k4 e he with h | ⟨_, h⟩
              · rw [ee] at h; exact hsd h
              · rw [ee] at h; exact htd h
            have hmul : done.length * toks.length ≤ 8 * 8 := Nat.mul_le_mul (by omega) (by omega)
            refine ⟨_, _, rfl, setC_new hnew (by omega), dt ++ [t], rt, ms2 ++ [((s, t), u)], g9, _, _, rfl, f3, ?_, ?_, ?_, ?_, ?_, hg9, rfl⟩
            · rw [List.map_append, List.nodup_append]
              exact ⟨k1, by simp, fun a ha b hb z => hnew (by simp at hb; subst hb; subst z; exact ha)⟩
            · intro e he
              rcases List.mem_append.mp he with h | h
              · exact k2 e h
              · simp at h; subst h; exact ⟨hq3 s hs, ht3 t ht, hq3 u hu, ht⟩
            · intro e he
              rcases List.mem_append.mp he with h | h
              · exact k3 e h
              · simp at h; subst h; exact ⟨hs, hu⟩
            · intro e he
              rcases List.mem_append.mp he with h | h
              · rcases k4 e h with h | ⟨h, h'⟩
                · exact .inl h
                · exact .inr ⟨h, by simp [h']⟩
              · simp at h; subst h; exact .inr ⟨rfl, by simp⟩
            · rw [List.length_append, List.length_append]; simp; omega
          · rw [if_neg (by simpa using hd)]
            walk_at "go"
            refine ⟨dt ++ [t], rt, ms2, g8, _, _, rfl, f3, k1, k2, k3, fun e he => ?_, by rw [List.length_append]; simp; omega, hg8, rfl⟩
            rcases k4 e he with h | ⟨h, h'⟩
            · exact .inl h
            · exact .inr ⟨h, by simp [h']⟩
      · rintro τ ⟨dt, rt, ms2, g7, c7, y3, f1, f2, k1, k2, k3, k4, k5, hg7, rfl⟩
        have er : rt = [] := by cases rt with
          | nil => rfl
          | cons _ _ => cases f1
        subst er
        rw [List.append_nil] at f2
        subst f2
        refine ⟨done ++ [s], r, ms2, g7, c7, _, _, rfl, by rw [← e2]; simp, k1, k2, k3, fun e he => ?_, ?_, hg7, rfl⟩
        · rcases k4 e he with h | ⟨h, _⟩
          · simp [h]
          · simp [h]
        · rw [List.length_append, Nat.add_mul]; simpa using k5
  · rintro τ ⟨done, r, ms, g6, c6, y, y2, e1, e2, m1, m2, m3, m4, m5, hg6, rfl⟩
    have er : r = [] := by cases r with
      | nil => rfl
      | cons _ _ => cases e1
    subst er
    rw [List.append_nil] at e2
    subst e2
    have hsz : (10000 : Nat) < szL := by decide
    have hmul : done.length * toks.length ≤ most * width := Nat.mul_le_mul (by omega) (by omega)
    have hmul2 : most * width ≤ 8 * 8 := Nat.mul_le_mul hm hw
    obtain ⟨st, hst, est⟩ := strs_get (zs := done) (i := 0) (by omega) (by omega)
    walk_at "go"
    refine ⟨_, rfl, ?_⟩
    refine ok_lcM (fun rest acc τ => ∃ (d r fs : List Str) (great : List Int) (c : Int) (y7 : Option T), rest = r.map .str ∧ d ++ r = done ∧ acc = fs.map .str ∧ fs.Nodup ∧ (∀ z ∈ fs, z ∈ d) ∧ Good cells great c ∧ τ = [some (purseT cells great c), some (.int most), some (.int width), some (strsT toks), some (strsT done), some (.int (2 + r3)), some (movesT ms), y7, y2, none, none, none]) ?_ ?_ _ _ _ ?_
    · rintro x rest acc τ ⟨d, r, fs, g7, c7, y7, f1, f2, rfl, n1', n2', hg7, rfl⟩
      cases r with
      | nil => cases f1
      | cons z r =>
        cases f1
        have hzd : z ∉ d := by
          rw [← f2, List.nodup_append] at hq2
          exact fun h => hq2.2.2 z h z (by simp) rfl
        have f3 : (d ++ [z]) ++ r = done := by rw [← f2]; simp
        have hl1 : fs.length ≤ d.length := n1'.length_le_of_subset n2'
        have hl2 : d.length ≤ done.length := by rw [← f2]; simp
        refine ok_put (ok_noE ?_)
        walk_at "go"
        refine ⟨_, rfl, fok_imp (draw_ok hg7 (many := 3) (by omega) (by omega)) ?_⟩
        rintro _ _ ⟨r4, g8, rfl, _, _, rfl, hg8⟩
        refine ⟨_, rfl, ?_⟩
        walk_at "go"
        refine w1 (a := .bl (r4 == 0)) rfl ⟨_, rfl, ?_⟩
        by_cases hd : (r4 == 0) = true
        · rw [if_pos hd]
          refine ok_noE ?_
          walk_at "go"
          refine ⟨by rw [List.length_map]; omega, d ++ [z], r, fs ++ [z], g8, _, _, rfl, f3, by simp, ?_, ?_, hg8, rfl⟩
          · rw [List.nodup_append]
            exact ⟨n1', by simp, fun a ha b hb e => hzd (by simp at hb; subst hb; subst e; exact n2' _ ha)⟩
          · intro x hx
            rcases List.mem_append.mp hx with h | h
            · simp [n2' x h]
            · simp at h; simp [h]
        · rw [if_neg hd]
          exact ⟨d ++ [z], r, fs, g8, _, _, rfl, f3, rfl, n1', fun x hx => by simp [n2' x hx], hg8, rfl⟩
    · rintro acc τ ⟨d, r, fs, g7, c7, y7, f1, f2, rfl, n1', n2', hg7, rfl⟩
      have er : r = [] := by cases r with
        | nil => rfl
        | cons _ _ => cases f1
      subst er
      rw [List.append_nil] at f2
      subst f2
      have hl1 : fs.length ≤ d.length := n1'.length_le_of_subset n2'
      walk_at "go"
      refine w1 est ?_
      walk_at "go"
      refine fok_imp (reached_ok m1 (by omega)) ?_
      rintro _ _ ⟨zs, rfl, z0, z1, z2⟩
      walk_at "go"
      refine w1 (a := .int (zs.length : Int)) (by show some (T.int (((zs.map T.str).length : Nat) : Int)) = _; rw [List.length_map]) ?_
      walk_at "go"
      refine ⟨_, rfl, fok_imp (draw_ok hg7 (many := (zs.length : Int)) (by omega) (by omega)) ?_⟩
      rintro _ _ ⟨r5, g9, rfl, hv0, hv1, rfl, hg9⟩
      refine ⟨_, rfl, ?_⟩
      obtain ⟨goal, hgo, ego⟩ := strs_get (zs := zs) hv0 hv1
      refine w1 ego ?_
      have hway := z2 goal hgo
      have hgs : goal ∈ d := way_in m3 hway hst
      walk_at "go"
      refine w1 (notIn_strs goal fs) ⟨_, rfl, ?_⟩
      by_cases hin : goal ∈ fs
      · rw [if_neg (by simpa using hin)]
        walk_at "go"
        refine w1 est ?_
        walk_at "go"
        exact w1 rfl ⟨toks, d, st, ms, fs, g9, _, rfl, ⟨by omega, by omega, ht2, ht3, hst, by omega, hq3, m1, m2, m3, by omega, n1', n2', goal, hin, hway⟩, rfl, hg9⟩
      · rw [if_pos (by simpa using hin)]
        walk_at "go"
        refine ⟨⟨_, rfl⟩, ?_⟩
        walk_at "go"
        refine ⟨fs.map .str, rfl, by rw [List.length_map]; omega, ?_⟩
        walk_at "go"
        refine w1 est ?_
        walk_at "go"
        refine w1 rfl ⟨toks, d, st, ms, fs ++ [goal], g9, _, by simp [partsT, strsT], ⟨by omega, by omega, ht2, ht3, hst, by omega, hq3, m1, m2, m3, by omega, ?_, ?_, goal, by simp, hway⟩, rfl, hg9⟩
        · rw [List.nodup_append]
          exact ⟨n1', by simp, fun a ha b hb e => hin (by simp at hb; subst hb; subst e; exact ha)⟩
        · intro x hx
          rcases List.mem_append.mp hx with h | h
          · exact n2' x h
          · simp at h; rw [h]; exact hgs
    · exact ⟨[], done, [], g6, c6, _, rfl, rfl, rfl, by simp, by simp, hg6, rfl⟩
end
section
local macro_rules | `(tactic| walk_at "g1") => `(tactic| first
  | with_reducible refine ok_seq ?_ | with_reducible refine ok_set ?_ | with_reducible refine ok_ret ?_ | with_reducible refine ok_drop ?_ | with_reducible refine ok_if ?_ | with_reducible refine ok_nx ?_
  | with_reducible refine ok_op2 ?_ | with_reducible refine ok_op1 ?_ | with_reducible refine ok_con ?_ | with_reducible refine ok_get rfl ?_ | with_reducible refine ok_mv rfl ?_
  | with_reducible refine ok_nil ?_ | with_reducible refine ok_cons ?_ | with_reducible refine ok_fnA ?_ | with_reducible refine ok_newA ?_ | with_reducible refine ok_newI ?_ | with_reducible refine ok_toI ?_ | with_reducible refine ok_toS ?_
  | with_reducible refine ok_isa ?_ | with_reducible refine ok_isaI ?_ | with_reducible refine ok_isaO ?_ | with_reducible refine ok_fld ?_ | with_reducible refine ok_chain ?_ | with_reducible refine ok_andM ?_ | with_reducible refine ok_orM ?_ | with_reducible refine ok_notM ?_
  | with_reducible refine ok_callA ?_ | with_reducible refine ok_callL ?_ | with_reducible refine ok_makeA ?_ | with_reducible refine ok_selfA ?_ | with_reducible refine ok_propA ?_
  | with_reducible refine ok_cutN ?_ | with_reducible refine ok_cutI ?_ | with_reducible refine ok_noPart ?_ | with_reducible refine ok_part ?_ | with_reducible refine ok_get1D ?_ | with_reducible refine ok_ifE ?_
  | with_reducible refine ok_tst ?_ | with_reducible refine ok_andT ?_ | with_reducible refine ok_orT ?_ | with_reducible refine ok_notT ?_ | with_reducible refine ok_truT ?_
  | with_reducible refine ok_sSetL ?_ | with_reducible refine ok_sSetI ?_ | with_reducible refine ok_sSet2 ?_ | with_reducible refine ok_appS ?_
  | with_reducible refine ok_sFldM ?_ | with_reducible refine ok_starM ?_
  | with_reducible refine ok_sLc ?_ | with_reducible refine ok_sDc ?_ | with_reducible refine ok_noE ?_
  | with_reducible refine ok_for ?_ | with_reducible refine ok_elems ?_ | with_reducible refine ok_rng1 ?_ | with_reducible refine ok_rng2 ?_ | with_reducible refine ok_enum ?_
  | with_reducible refine ok_clearM ?_ | with_reducible refine ok_sApp2 ?_ | with_reducible refine ok_sClear2 ?_
  | simp only [List.set_cons_zero, List.set_cons_succ]
  | dsimp only)
local macro_rules | `(tactic| walk_at "go") => `(tactic| repeat walk_at "g1")
theorem same_str (n : Nat) (z : Str) : Fok (f__law_same (n + 1)) [.str z, .str z] fun w _ => w = .bl true := by
  refine fok_at (τ0 := [some _, some _, none, none]) rfl ?_
  unfold st__law_same
  walk_at "go"
  refine w1 (a := .bl false) rfl ⟨_, rfl, ?_⟩
  rw [if_neg (by decide)]
  walk_at "go"
  refine w1 (a := .bl false) rfl ⟨_, rfl, ?_⟩
  rw [if_neg (by decide)]
  walk_at "go"
  refine w1 (a := .bl false) rfl ⟨_, rfl, ?_⟩
  rw [if_neg (by decide)]
  walk_at "go"
  refine w1 (a := .bl true) rfl ⟨_, rfl, ?_⟩
  rw [if_pos rfl]
  walk_at "go"
  refine w1 (a := .bl true) rfl ⟨_, rfl, ?_⟩
  rw [if_pos rfl]
  walk_at "go"
  exact w1 (eq_strs z z) (by simp)
abbrev Sm (n : Nat) (x y : T) : Prop := Fok (f__law_same n) [x, y] fun w _ => w = .bl true
theorem same_lst {n : Nat} {xs ys : List T} (hl : xs.length = ys.length) (hz : ys.length < 10000) (h : ∀ (k : Nat) (x y : T), xs[k]? = some x → ys[k]? = some y → Sm n x y) : Sm (n + 1) (.lst xs) (.lst ys) := by
  refine fok_at (τ0 := [some _, some _, none, none]) rfl ?_
  unfold st__law_same
  walk_at "go"
  refine w1 (a := .bl false) rfl ⟨_, rfl, ?_⟩
  rw [if_neg (by decide)]
  walk_at "go"
  refine w1 (a := .bl false) rfl ⟨_, rfl, ?_⟩
  rw [if_neg (by decide)]
  walk_at "go"
  refine w1 (a := .bl false) rfl ⟨_, rfl, ?_⟩
  rw [if_neg (by decide)]
  walk_at "go"
  refine w1 (a := .bl false) rfl ⟨_, rfl, ?_⟩
  rw [if_neg (by decide)]
  walk_at "go"
  refine w1 (a := .bl false) rfl ⟨_, rfl, ?_⟩
  rw [if_neg (by decide)]
  walk_at "go"
  refine w1 (a := .bl false) rfl ⟨_, rfl, ?_⟩
  rw [if_neg (by decide), if_neg (by decide)]
  walk_at "go"
  refine w1 (a := .bl true) rfl ⟨_, rfl, ?_⟩
  rw [if_pos rfl]
  walk_at "go"
  refine w1 (a := .bl true) rfl ⟨_, rfl, ?_⟩
  rw [if_neg (by decide)]
  walk_at "go"
  refine w1 (a := .int xs.length) rfl ?_
  walk_at "go"
  refine w1 (a := .int ys.length) rfl (w1 (a := .bl false) ?_ ⟨_, rfl, ?_⟩)
  · show some (T.bl (!((xs.length : Int) == (ys.length : Int)))) = _
    rw [hl]; simp
  rw [if_neg (by decide)]
  walk_at "go"
  refine w1 (a := .int ys.length) rfl ?_
  walk_at "go"
  refine ⟨_, fRange1_nat (by omega), ?_⟩
  rw [intsL_range]
  refine ok_sFor (fun rest τ => ∃ (j : Nat) (y : Option T), rest = (List.range' j (ys.length - j)).map (fun i : Nat => T.int (i : Int)) ∧ j ≤ ys.length ∧ τ = [some (.lst xs), some (.lst ys), y, none]) ?_ ?_ _ _ ⟨0, none, rfl, Nat.zero_le _, rfl⟩
  · rintro x rest τ ⟨j, y, e1, hj, rfl⟩
    have hjl : j < ys.length := by
      rcases Nat.lt_or_ge j ys.length with h | h
      · exact h
      · rw [Nat.sub_eq_zero_of_le h] at e1; cases e1
    obtain ⟨d, hd⟩ : ∃ d, ys.length - j = d + 1 := ⟨ys.length - j - 1, by omega⟩
    rw [hd, List.range'_succ, List.map_cons] at e1
    cases e1
    have hx : xs[j]? = some (xs[j]'(by omega)) := List.getElem?_eq_getElem _
    have hy : ys[j]? = some (ys[j]'(by omega)) := List.getElem?_eq_getElem _
    refine ok_put ?_
    walk_at "go"
    refine w1 (pyAt_nat hx) ?_
    walk_at "go"
    refine w1 (pyAt_nat hy) ?_
    walk_at "go"
    refine fok_imp (h j _ _ hx hy) ?_
    rintro _ _ rfl
    refine ⟨_, rfl, ?_⟩
    rw [if_neg (by decide)]
    walk_at "go"
    exact ⟨j + 1, _, by rw [show ys.length - (j + 1) = d by omega], by omega, rfl⟩
  · rintro τ ⟨j, y, e1, hj, rfl⟩
    walk_at "go"
theorem same_strs (n : Nat) {zs : List Str} (hz : zs.length < 10000) : Sm (n + 2) (strsT zs) (strsT zs) := by
  refine same_lst rfl (by rw [List.length_map]; exact hz) fun k x y hx hy => ?_
  rw [hx] at hy
  cases hy
  rw [List.getElem?_map] at hx
  cases e : zs[k]? with
  | none => rw [e] at hx; cases hx
  | some z => rw [e] at hx; cases hx; exact same_str n z
end
section
local macro_rules | `(tactic| walk_at "g1") => `(tactic| first
  | with_reducible refine ok_seq ?_ | with_reducible refine ok_set ?_ | with_reducible refine ok_ret ?_ | with_reducible refine ok_drop ?_ | with_reducible refine ok_if ?_ | with_reducible refine ok_nx ?_
  | with_reducible refine ok_op2 ?_ | with_reducible refine ok_op1 ?_ | with_reducible refine ok_con ?_ | with_reducible refine ok_get rfl ?_ | with_reducible refine ok_mv rfl ?_
  | with_reducible refine ok_nil ?_ | with_reducible refine ok_cons ?_ | with_reducible refine ok_fnA ?_ | with_reducible refine ok_newA ?_ | with_reducible refine ok_newI ?_ | with_reducible refine ok_toI ?_ | with_reducible refine ok_toS ?_
  | with_reducible refine ok_isa ?_ | with_reducible refine ok_isaI ?_ | with_reducible refine ok_isaO ?_ | with_reducible refine ok_fld ?_ | with_reducible refine ok_chain ?_ | with_reducible refine ok_andM ?_ | with_reducible refine ok_orM ?_ | with_reducible refine ok_notM ?_
  | with_reducible refine ok_callA ?_ | with_reducible refine ok_callL ?_ | with_reducible refine ok_makeA ?_ | with_reducible refine ok_selfA ?_ | with_reducible refine ok_propA ?_
  | with_reducible refine ok_cutN ?_ | with_reducible refine ok_cutI ?_ | with_reducible refine ok_noPart ?_ | with_reducible refine ok_part ?_ | with_reducible refine ok_get1D ?_ | with_reducible refine ok_ifE ?_
  | with_reducible refine ok_tst ?_ | with_reducible refine ok_andT ?_ | with_reducible refine ok_orT ?_ | with_reducible refine ok_notT ?_ | with_reducible refine ok_truT ?_
  | with_reducible refine ok_sSetL ?_ | with_reducible refine ok_sSetI ?_ | with_reducible refine ok_sSet2 ?_ | with_reducible refine ok_appS ?_
  | with_reducible refine ok_sFldM ?_ | with_reducible refine ok_starM ?_
  | with_reducible refine ok_sLc ?_ | with_reducible refine ok_sDc ?_ | with_reducible refine ok_noE ?_
  | with_reducible refine ok_for ?_ | with_reducible refine ok_elems ?_ | with_reducible refine ok_rng1 ?_ | with_reducible refine ok_rng2 ?_ | with_reducible refine ok_enum ?_
  | with_reducible refine ok_clearM ?_ | with_reducible refine ok_sApp2 ?_ | with_reducible refine ok_sClear2 ?_
  | simp only [List.set_cons_zero, List.set_cons_succ]
  | dsimp only)
local macro_rules | `(tactic| walk_at "go") => `(tactic| repeat walk_at "g1")
theorem asBs_true : ∀ n : Nat, asBs (List.replicate n (.bl true)) = some (List.replicate n true)
  | 0 => rfl
  | n + 1 => by
    show (asBs (List.replicate n (.bl true))).map (true :: ·) = _
    rw [asBs_true n]; rfl
theorem in_moves {ms : List Mv} {k : Str × Str} {u : Str} (h : lookM ms k = some u) : oIn (keyT k) (movesT ms) = some (.bl true) := by
  show ((if askOk (ms.map entT) (keyT k) = true then some (look (ms.map entT) (keyT k)).isSome else none)).map T.bl = _
  rw [if_pos (ask_moves ms k), look_moves, h]; rfl
theorem get_moves2 {ms : List Mv} {k : Str × Str} {u : Str} (h : lookM ms k = some u) : oGet (movesT ms) (keyT k) = some (.str u) := by
  show (if askOk (ms.map entT) (keyT k) = true then look (ms.map entT) (keyT k) else none) = _
  rw [if_pos (ask_moves ms k), look_moves, h]; rfl
theorem same_dct (n : Nat) {as ds : List Mv} (hl : as.length = ds.length) (hz : ds.length < 1000) (h : ∀ e ∈ ds, lookM as e.1 = some e.2 ∧ lookM ds e.1 = some e.2) : Sm (n + 2) (movesT as) (movesT ds) := by
  refine fok_at (τ0 := [some _, some _, none, none]) rfl ?_
  unfold st__law_same
  walk_at "go"
  refine w1 (a := .bl false) rfl ⟨_, rfl, ?_⟩
  rw [if_neg (by decide)]
  walk_at "go"
  refine w1 (a := .bl false) rfl ⟨_, rfl, ?_⟩
  rw [if_neg (by decide)]
  walk_at "go"
  refine w1 (a := .bl false) rfl ⟨_, rfl, ?_⟩
  rw [if_neg (by decide)]
  walk_at "go"
  refine w1 (a := .bl false) rfl ⟨_, rfl, ?_⟩
  rw [if_neg (by decide)]
  walk_at "go"
  refine w1 (a := .bl true) rfl ⟨_, rfl, ?_⟩
  rw [if_pos rfl]
  walk_at "go"
  refine w1 (a := .bl true) rfl ⟨_, rfl, ?_⟩
  rw [if_neg (by decide)]
  walk_at "go"
  refine w1 (a := .int as.length) (by show some (T.int ((as.map entT).length : Nat)) = _; rw [List.length_map]) ?_
  walk_at "go"
  refine w1 (a := .int ds.length) (by show some (T.int ((ds.map entT).length : Nat)) = _; rw [List.length_map]) (w1 (a := .bl false) ?_ ⟨_, rfl, ?_⟩)
  · show some (T.bl (!((as.length : Int) == (ds.length : Int)))) = _
    rw [hl]; simp
  rw [if_neg (by decide)]
  walk_at "go"
  refine ⟨_, elems_moves ds, ?_⟩
  refine ok_lcM (fun rest acc τ => ∃ (done r : List Mv), rest = r.map (fun e => keyT e.1) ∧ done ++ r = ds ∧ acc = List.replicate done.length (.bl true) ∧ τ = [some (movesT as), some (movesT ds), none, none]) ?_ ?_ _ _ _ ⟨[], ds, rfl, rfl, rfl, rfl⟩
  · rintro x rest acc τ ⟨done, r, e1, e2, rfl, rfl⟩
    cases r with
    | nil => cases e1
    | cons e r =>
      cases e1
      have he : e ∈ ds := by rw [← e2]; simp
      have hdl : done.length < ds.length := by rw [← e2]; simp
      obtain ⟨l1, l2⟩ := h e he
      refine ok_put (ok_noE (ok_pure ?_))
      rw [if_pos rfl]
      refine ok_noE ?_
      walk_at "go"
      refine w1 (in_moves l1) ⟨_, rfl, ?_⟩
      rw [if_pos rfl]
      walk_at "go"
      refine w1 (get_moves2 l1) ?_
      walk_at "go"
      refine w1 (get_moves2 l2) ?_
      walk_at "go"
      refine fok_imp (same_str n e.2) ?_
      rintro _ _ rfl
      have hsz : (10000 : Nat) < szL := by decide
      exact ⟨by rw [List.length_replicate]; omega, done ++ [e], r, rfl, by rw [← e2]; simp, by rw [List.length_append, List.length_singleton, List.replicate_succ'], rfl⟩
  · rintro acc τ ⟨done, r, e1, e2, rfl, rfl⟩
    walk_at "go"
    refine w1 (a := .bl true) ?_ rfl
    show (asBs (List.replicate done.length (.bl true))).map (fun bs => T.bl (bs.all id)) = _
    rw [asBs_true]
    simp
end
section
local macro_rules | `(tactic| walk_at "g1") => `(tactic| first
  | with_reducible refine ok_seq ?_ | with_reducible refine ok_set ?_ | with_reducible refine ok_ret ?_ | with_reducible refine ok_drop ?_ | with_reducible refine ok_if ?_ | with_reducible refine ok_nx ?_
  | with_reducible refine ok_op2 ?_ | with_reducible refine ok_op1 ?_ | with_reducible refine ok_con ?_ | with_reducible refine ok_get rfl ?_ | with_reducible refine ok_mv rfl ?_
  | with_reducible refine ok_nil ?_ | with_reducible refine ok_cons ?_ | with_reducible refine ok_fnA ?_ | with_reducible refine ok_newA ?_ | with_reducible refine ok_newI ?_ | with_reducible refine ok_toI ?_ | with_reducible refine ok_toS ?_
  | with_reducible refine ok_isa ?_ | with_reducible refine ok_isaI ?_ | with_reducible refine ok_isaO ?_ | with_reducible refine ok_fld ?_ | with_reducible refine ok_chain ?_ | with_reducible refine ok_andM ?_ | with_reducible refine ok_orM ?_ | with_reducible refine ok_notM ?_
  | with_reducible refine ok_callA ?_ | with_reducible refine ok_callL ?_ | with_reducible refine ok_makeA ?_ | with_reducible refine ok_selfA ?_ | with_reducible refine ok_propA ?_
  | with_reducible refine ok_cutN ?_ | with_reducible refine ok_cutI ?_ | with_reducible refine ok_noPart ?_ | with_reducible refine ok_part ?_ | with_reducible refine ok_get1D ?_ | with_reducible refine ok_ifE ?_
  | with_reducible refine ok_tst ?_ | with_reducible refine ok_andT ?_ | with_reducible refine ok_orT ?_ | with_reducible refine ok_notT ?_ | with_reducible refine ok_truT ?_
  | with_reducible refine ok_sSetL ?_ | with_reducible refine ok_sSetI ?_ | with_reducible refine ok_sSet2 ?_ | with_reducible refine ok_appS ?_
  | with_reducible refine ok_sFldM ?_ | with_reducible refine ok_starM ?_
  | with_reducible refine ok_sLc ?_ | with_reducible refine ok_sDc ?_ | with_reducible refine ok_noE ?_
  | with_reducible refine ok_for ?_ | with_reducible refine ok_elems ?_ | with_reducible refine ok_rng1 ?_ | with_reducible refine ok_rng2 ?_ | with_reducible refine ok_enum ?_
  | with_reducible refine ok_clearM ?_ | with_reducible refine ok_sApp2 ?_ | with_reducible refine ok_sClear2 ?_
  | simp only [List.set_cons_zero, List.set_cons_succ]
  | dsimp only)
local macro_rules | `(tactic| walk_at "go") => `(tactic| repeat walk_at "g1")
theorem NameOk.good {z : Str} (h : NameOk z) : goodS z := fun c hc => (h.abc c hc).2
/-- x joins, unless it is there -/
theorem join_mem {zs : List Str} {z : Str} : (if z ∈ zs then zs else zs ++ [z]).Nodup ↔ zs.Nodup := by
  by_cases h : z ∈ zs
  · rw [if_pos h]
  · rw [if_neg h, List.nodup_append]
    exact ⟨fun a => a.1, fun a => ⟨a, by simp, fun x hx y hy e => h (by simp at hy; subst hy; subst e; exact hx)⟩⟩
theorem put_one {zs : List Str} {z : Str} (n : zs.Nodup) : ∃ zs' : List Str, zs'.Nodup ∧ (∀ x, x ∈ zs' ↔ x ∈ zs ∨ x = z) ∧ zs'.length ≤ zs.length + 1 ∧ ((z ∈ zs ∧ zs' = zs) ∨ (z ∉ zs ∧ zs' = zs ++ [z])) := by
  by_cases h : z ∈ zs
  · exact ⟨zs, n, fun x => ⟨.inl, fun a => a.elim id fun e => e ▸ h⟩, by omega, .inl ⟨h, rfl⟩⟩
  · exact ⟨zs ++ [z], by rw [List.nodup_append]; exact ⟨n, by simp, fun x hx y hy e => h (by simp at hy; subst hy; subst e; exact hx)⟩, fun x => by simp, by simp, .inr ⟨h, rfl⟩⟩
theorem states_ok {most width : Nat} {toks sts : List Str} {start : Str} {ms : List Mv} {fins : List Str} (h : Parts most width toks sts start ms fins) (hm : most ≤ 8) (hw : width ≤ 8) :
    Fok f__law_states [partsT toks start ms fins] fun w _ => ∃ found : List Str, w = strsT (sSort found) ∧ found.Nodup ∧ ∀ z, z ∈ found ↔ z = start ∨ z ∈ fins ∨ ∃ e ∈ ms, z = e.1.1 ∨ z = e.2 := by
  have hsz : (10000 : Nat) < szL := by decide
  have hmul2 : most * width ≤ 8 * 8 := Nat.mul_le_mul hm hw
  have hml := h.ml
  have hfl : fins.length ≤ sts.length := h.fn.length_le_of_subset h.fk
  have hs1 := h.s1
  refine fok_at (τ0 := [some _, none, none, none]) rfl ?_
  unfold st__law_states
  walk_at "go"
  refine w1 (a := .str start) rfl ⟨rfl, ?_⟩
  walk_at "go"
  refine w1 (a := strsT [start]) rfl ?_
  walk_at "go"
  refine w1 (a := strsT fins) rfl ⟨_, rfl, ?_⟩
  refine ok_sFor (fun rest τ => ∃ (d r zs : List Str) (y : Option T), rest = r.map .str ∧ d ++ r = fins ∧ zs.Nodup ∧ (∀ z, z ∈ zs ↔ z = start ∨ z ∈ d) ∧ zs.length ≤ 1 + d.length ∧ τ = [some (partsT toks start ms fins), some (strsT zs), y, none]) ?_ ?_ _ _ ⟨[], fins, [start], none, rfl, rfl, by simp, by simp, by simp, rfl⟩
  · rintro x rest τ ⟨d, r, zs, y, e1, e2, n1, n2, n3, rfl⟩
    cases r with
    | nil => cases e1
    | cons z r =>
      cases e1
      have hdl : d.length < fins.length := by rw [← e2]; simp
      obtain ⟨zs', a1, a2, a3, a4⟩ := put_one (z := z) n1
      refine ok_put ?_
      walk_at "go"
      refine w1 (notIn_strs z zs) ⟨_, rfl, ?_⟩
      have fin : ∃ (d' r' zs'' : List Str) (y : Option T), r.map T.str = r'.map .str ∧ d' ++ r' = fins ∧ zs''.Nodup ∧ (∀ z, z ∈ zs'' ↔ z = start ∨ z ∈ d') ∧ zs''.length ≤ 1 + d'.length ∧ [some (partsT toks start ms fins), some (strsT zs'), some (.str z), none] = [some (partsT toks start ms fins), some (strsT zs''), y, none] := by
        refine ⟨d ++ [z], r, zs', _, rfl, by rw [← e2]; simp, a1, fun x => ?_, by rw [List.length_append]; simp; omega, rfl⟩
        rw [a2, n2]; simp [or_assoc]
      rcases a4 with ⟨hin, rfl⟩ | ⟨hin, rfl⟩
      · rw [if_neg (by simpa using hin)]
        exact ok_nx fin
      · rw [if_pos (by simpa using hin)]
        walk_at "go"
        refine ⟨⟨_, rfl⟩, ?_⟩
        walk_at "go"
        refine ⟨rfl, zs.map .str, rfl, by rw [List.length_map]; omega, ?_⟩
        simpa [strsT] using fin
  · rintro τ ⟨d, r, zs, y, e1, e2, n1, n2, n3, rfl⟩
    have er : r = [] := by cases r with
      | nil => rfl
      | cons _ _ => cases e1
    subst er
    rw [List.append_nil] at e2
    subst e2
    walk_at "go"
    refine w1 (a := movesT ms) rfl ⟨_, elems_moves ms, ?_⟩
    refine ok_sFor (fun rest τ => ∃ (dm rm : List Mv) (zs : List Str) (y2 : Option T), rest = rm.map (fun e => keyT e.1) ∧ dm ++ rm = ms ∧ zs.Nodup ∧ (∀ z, z ∈ zs ↔ z = start ∨ z ∈ d ∨ ∃ e ∈ dm, z = e.1.1 ∨ z = e.2) ∧ zs.length ≤ 1 + d.length + 2 * dm.length ∧ τ = [some (partsT toks start ms d), some (strsT zs), y, y2]) ?_ ?_ _ _ ⟨[], ms, zs, none, rfl, rfl, n1, by simpa using n2, by simpa using n3, rfl⟩
    · rintro x rest τ ⟨dm, rm, zs1, y2, f1, f2, k1, k2, k3, rfl⟩
      cases rm with
      | nil => cases f1
      | cons e rm =>
        cases f1
        have he : e ∈ ms := by rw [← f2]; simp
        have hdl : dm.length < ms.length := by rw [← f2]; simp
        obtain ⟨zs2, a1, a2, a3, a4⟩ := put_one (z := e.1.1) k1
        obtain ⟨zs3, b1, b2, b3, b4⟩ := put_one (z := e.2) a1
        have key : Ok (sIf (tst (op2 oNotIn (op2 oGet (op2 oGet (TL.get 0) (con (.int 2))) (TL.get 3)) (TL.get 1)))
            (sDrop (appS 1 (toI (op2 oGet (op2 oGet (TL.get 0) (con (.int 2))) (TL.get 3))))) sNx) [some (partsT toks start ms d), some (strsT zs2), y, some (keyT e.1)] fun c τ => c = .nx ∧ τ = [some (partsT toks start ms d), some (strsT zs3), y, some (keyT e.1)] := by
          walk_at "go"
          refine w1 (a := movesT ms) rfl ?_
          walk_at "go"
          refine w1 (get_moves h.mn he) ?_
          walk_at "go"
          refine w1 (notIn_strs e.2 zs2) ⟨_, rfl, ?_⟩
          rcases b4 with ⟨hin, rfl⟩ | ⟨hin, rfl⟩
          · rw [if_neg (by simpa using hin)]
            exact ok_nx ⟨rfl, rfl⟩
          · rw [if_pos (by simpa using hin)]
            walk_at "go"
            refine ⟨⟨_, rfl⟩, ?_⟩
            walk_at "go"
            refine w1 (a := movesT ms) rfl ?_
            walk_at "go"
            refine w1 (get_moves h.mn he) ⟨rfl, zs2.map .str, rfl, by rw [List.length_map]; omega, by simp [strsT]⟩
        have fin : Ok (sIf (tst (op2 oNotIn (op2 oGet (op2 oGet (TL.get 0) (con (.int 2))) (TL.get 3)) (TL.get 1)))
            (sDrop (appS 1 (toI (op2 oGet (op2 oGet (TL.get 0) (con (.int 2))) (TL.get 3))))) sNx) [some (partsT toks start ms d), some (strsT zs2), y, some (keyT e.1)] fun c τ => c = .nx ∧ ∃ (dm' rm' : List Mv) (zs : List Str) (y2 : Option T), rm.map (fun e => keyT e.1) = rm'.map (fun e => keyT e.1) ∧ dm' ++ rm' = ms ∧ zs.Nodup ∧ (∀ z, z ∈ zs ↔ z = start ∨ z ∈ d ∨ ∃ e ∈ dm', z = e.1.1 ∨ z = e.2) ∧ zs.length ≤ 1 + d.length + 2 * dm'.length ∧ τ = [some (partsT toks start ms d), some (strsT zs), y, y2] := by
          refine ok_imp key ?_
          rintro c τ ⟨rfl, rfl⟩
          refine ⟨rfl, dm ++ [e], rm, zs3, _, rfl, by rw [← f2]; simp, b1, fun z => ?_, by rw [List.length_append]; simp; omega, rfl⟩
          rw [b2, a2, k2]
          constructor
          · rintro ((( h | h | ⟨e', h, h'⟩) | h) | h)
            · exact .inl h
            · exact .inr (.inl h)
            · exact .inr (.inr ⟨e', by simp [h], h'⟩)
            · exact .inr (.inr ⟨e, by simp, .inl h⟩)
            · exact .inr (.inr ⟨e, by simp, .inr h⟩)
          · rintro (h | h | ⟨e', h, h'⟩)
            · exact .inl (.inl (.inl h))
            · exact .inl (.inl (.inr (.inl h)))
            · rcases List.mem_append.mp h with h | h
              · exact .inl (.inl (.inr (.inr ⟨e', h, h'⟩)))
              · simp at h; subst h
                rcases h' with h' | h'
                · exact .inl (.inr h')
                · exact .inr h'
        refine ok_put ?_
        refine ok_seq ?_
        have nxt : Ok (sIf (tst (op2 oNotIn (op2 oGet (TL.get 3) (con (.int 0))) (TL.get 1))) (sDrop (appS 1 (toI (op2 oGet (TL.get 3) (con (.int 0)))))) sNx) [some (partsT toks start ms d), some (strsT zs1), y, some (keyT e.1)] fun c τ => c = .nx ∧ τ = [some (partsT toks start ms d), some (strsT zs2), y, some (keyT e.1)] := by
          walk_at "go"
          refine w1 (key_fst e.1) ?_
          walk_at "go"
          refine w1 (notIn_strs e.1.1 zs1) ⟨_, rfl, ?_⟩
          rcases a4 with ⟨hin, rfl⟩ | ⟨hin, rfl⟩
          · rw [if_neg (by simpa using hin)]
            exact ok_nx ⟨rfl, rfl⟩
          · rw [if_pos (by simpa using hin)]
            walk_at "go"
            refine ⟨⟨_, rfl⟩, ?_⟩
            walk_at "go"
            refine w1 (key_fst e.1) ⟨rfl, zs1.map .str, rfl, by rw [List.length_map]; omega, by simp [strsT]⟩
        refine ok_imp nxt ?_
        rintro c τ ⟨rfl, rfl⟩
        refine ok_imp fin ?_
        rintro c τ ⟨rfl, q⟩
        exact q
    · rintro τ ⟨dm, rm, zs1, y2, f1, f2, k1, k2, k3, rfl⟩
      have er : rm = [] := by cases rm with
        | nil => rfl
        | cons _ _ => cases f1
      subst er
      rw [List.append_nil] at f2
      subst f2
      have hgood : ∀ z ∈ zs1, z ∈ sts := fun z hz => by
        rcases (k2 z).mp hz with h' | h' | ⟨e, he, h' | h'⟩
        · rw [h']; exact h.s0
        · exact h.fk z h'
        · rw [h']; exact (h.ma e he).1
        · rw [h']; exact (h.ma e he).2
      refine ok_ret (ok_newI (ok_cons (ok_get rfl (ok_nil ⟨_, fSorted_strs (fun z hz => (h.sk z (hgood z hz)).good), imms_strs _, zs1, rfl, k1, k2⟩))))
end
section
local macro_rules | `(tactic| walk_at "g1") => `(tactic| first
  | with_reducible refine ok_seq ?_ | with_reducible refine ok_set ?_ | with_reducible refine ok_ret ?_ | with_reducible refine ok_drop ?_ | with_reducible refine ok_if ?_ | with_reducible refine ok_nx ?_
  | with_reducible refine ok_op2 ?_ | with_reducible refine ok_op1 ?_ | with_reducible refine ok_con ?_ | with_reducible refine ok_get rfl ?_ | with_reducible refine ok_mv rfl ?_
  | with_reducible refine ok_nil ?_ | with_reducible refine ok_cons ?_ | with_reducible refine ok_fnA ?_ | with_reducible refine ok_newA ?_ | with_reducible refine ok_newI ?_ | with_reducible refine ok_toI ?_ | with_reducible refine ok_toS ?_
  | with_reducible refine ok_isa ?_ | with_reducible refine ok_isaI ?_ | with_reducible refine ok_isaO ?_ | with_reducible refine ok_fld ?_ | with_reducible refine ok_chain ?_ | with_reducible refine ok_andM ?_ | with_reducible refine ok_orM ?_ | with_reducible refine ok_notM ?_
  | with_reducible refine ok_callA ?_ | with_reducible refine ok_callL ?_ | with_reducible refine ok_makeA ?_ | with_reducible refine ok_selfA ?_ | with_reducible refine ok_propA ?_
  | with_reducible refine ok_cutN ?_ | with_reducible refine ok_cutI ?_ | with_reducible refine ok_noPart ?_ | with_reducible refine ok_part ?_ | with_reducible refine ok_get1D ?_ | with_reducible refine ok_ifE ?_
  | with_reducible refine ok_tst ?_ | with_reducible refine ok_andT ?_ | with_reducible refine ok_orT ?_ | with_reducible refine ok_notT ?_ | with_reducible refine ok_truT ?_
  | with_reducible refine ok_sSetL ?_ | with_reducible refine ok_sSetI ?_ | with_reducible refine ok_sSet2 ?_ | with_reducible refine ok_appS ?_
  | with_reducible refine ok_sFldM ?_ | with_reducible refine ok_starM ?_
  | with_reducible refine ok_sLc ?_ | with_reducible refine ok_sDc ?_ | with_reducible refine ok_noE ?_
  | with_reducible refine ok_for ?_ | with_reducible refine ok_elems ?_ | with_reducible refine ok_rng1 ?_ | with_reducible refine ok_rng2 ?_ | with_reducible refine ok_enum ?_
  | with_reducible refine ok_clearM ?_ | with_reducible refine ok_sApp2 ?_ | with_reducible refine ok_sClear2 ?_
  | simp only [List.set_cons_zero, List.set_cons_succ]
  | dsimp only)
local macro_rules | `(tactic| walk_at "go") => `(tactic| repeat walk_at "g1")
/-- a machine -/
def machT (al : List Str) (o : Str) (ed : List Mv) (en pl : List Str) : T := .ins (PySem.Str.ofString "Machine") [(PySem.Str.ofString "alphabet", strsT al), (PySem.Str.ofString "origin", .str o), (PySem.Str.ofString "edges", movesT ed), (PySem.Str.ofString "ending", strsT en), (PySem.Str.ofString "places", strsT pl)]
end
section
local macro_rules | `(tactic| walk_at "g1") => `(tactic| first
  | with_reducible refine ok_seq ?_ | with_reducible refine ok_set ?_ | with_reducible refine ok_ret ?_ | with_reducible refine ok_drop ?_ | with_reducible refine ok_if ?_ | with_reducible refine ok_nx ?_
  | with_reducible refine ok_op2 ?_ | with_reducible refine ok_op1 ?_ | with_reducible refine ok_con ?_ | with_reducible refine ok_get rfl ?_ | with_reducible refine ok_mv rfl ?_
  | with_reducible refine ok_nil ?_ | with_reducible refine ok_cons ?_ | with_reducible refine ok_fnA ?_ | with_reducible refine ok_newA ?_ | with_reducible refine ok_newI ?_ | with_reducible refine ok_toI ?_ | with_reducible refine ok_toS ?_
  | with_reducible refine ok_isa ?_ | with_reducible refine ok_isaI ?_ | with_reducible refine ok_isaO ?_ | with_reducible refine ok_fld ?_ | with_reducible refine ok_chain ?_ | with_reducible refine ok_andM ?_ | with_reducible refine ok_orM ?_ | with_reducible refine ok_notM ?_
  | with_reducible refine ok_callA ?_ | with_reducible refine ok_callL ?_ | with_reducible refine ok_makeA ?_ | with_reducible refine ok_selfA ?_ | with_reducible refine ok_propA ?_
  | with_reducible refine ok_cutN ?_ | with_reducible refine ok_cutI ?_ | with_reducible refine ok_noPart ?_ | with_reducible refine ok_part ?_ | with_reducible refine ok_get1D ?_ | with_reducible refine ok_ifE ?_
  | with_reducible refine ok_tst ?_ | with_reducible refine ok_andT ?_ | with_reducible refine ok_orT ?_ | with_reducible refine ok_notT ?_ | with_reducible refine ok_truT ?_
  | with_reducible refine ok_sSetL ?_ | with_reducible refine ok_sSetI ?_ | with_reducible refine ok_sSet2 ?_ | with_reducible refine ok_appS ?_
  | with_reducible refine ok_sFldM ?_ | with_reducible refine ok_starM ?_
  | with_reducible refine ok_sLc ?_ | with_reducible refine ok_sDc ?_ | with_reducible refine ok_noE ?_
  | with_reducible refine ok_for ?_ | with_reducible refine ok_elems ?_ | with_reducible refine ok_rng1 ?_ | with_reducible refine ok_rng2 ?_ | with_reducible refine ok_enum ?_
  | with_reducible refine ok_clearM ?_ | with_reducible refine ok_sApp2 ?_ | with_reducible refine ok_sClear2 ?_
  | simp only [List.set_cons_zero, List.set_cons_succ]
  | dsimp only)
local macro_rules | `(tactic| walk_at "go") => `(tactic| repeat walk_at "g1")
theorem plain_keyT {k : Str × Str} (h1 : goodS k.1) (h2 : goodS k.2) : plain (keyT k) = true := by
  show (plain (.str k.1) && (plain (.str k.2) && true)) = true
  rw [plain_str h1, plain_str h2]; rfl
theorem sortOk_keys {ks : List (Str × Str)} (h : ∀ k ∈ ks, goodS k.1 ∧ goodS k.2) : sortOk (ks.map keyT) = true := by
  unfold sortOk
  simp only [Bool.and_eq_true, Bool.or_eq_true, List.all_eq_true, List.mem_map, forall_exists_index, and_imp, forall_apply_eq_imp_iff₂]
  refine ⟨⟨fun k hk => ⟨plain_keyT (h k hk).1 (h k hk).2, rfl⟩, fun z hz y hy => rfl⟩, .inl fun z hz => rfl⟩
theorem sort_keys (ks : List (Str × Str)) : ∃ ks' : List (Str × Str), ks'.Perm ks ∧ tSort (ks.map keyT) = ks'.map keyT := by
  refine ⟨ks.mergeSort fun a b => tLe (keyT a) (keyT b), List.mergeSort_perm _ _, ?_⟩
  unfold tSort
  rw [List.map_mergeSort (r := fun a b => tLe (keyT a) (keyT b)) (s := tLe) (f := keyT) (fun a _ b _ => rfl)]
theorem asStrs_map : ∀ zs : List Str, asStrs (zs.map .str) = some zs
  | [] => rfl
  | z :: zs => by show (asStrs (zs.map .str)).map (z :: ·) = _; rw [asStrs_map zs]; rfl
theorem addS_all (zs : List Str) : ∀ (acc : List Str), acc.Nodup → (zs.foldl addS acc).Nodup ∧ ∀ z, z ∈ zs.foldl addS acc ↔ z ∈ acc ∨ z ∈ zs := by
  induction zs with
  | nil => intro acc h; exact ⟨h, fun z => by simp⟩
  | cons y zs ih =>
    intro acc h
    have hn : (addS acc y).Nodup := by
      unfold addS
      by_cases hy : y ∈ acc
      · rw [if_pos hy]; exact h
      · rw [if_neg hy, List.nodup_append]; exact ⟨h, by simp, fun a ha b hb e => hy (by simp at hb; subst hb; subst e; exact ha)⟩
    obtain ⟨i1, i2⟩ := ih (addS acc y) hn
    refine ⟨i1, fun z => ?_⟩
    rw [List.foldl_cons, i2]
    have : z ∈ addS acc y ↔ z ∈ acc ∨ z = y := by
      unfold addS
      by_cases hy : y ∈ acc
      · rw [if_pos hy]; exact ⟨.inl, fun a => a.elim id fun e => e ▸ hy⟩
      · rw [if_neg hy]; simp
    rw [this, List.mem_cons, or_assoc]
theorem sortset_strs {zs : List Str} (h : zs.length ≤ 1000) : ∃ found : List Str, found.Nodup ∧ (∀ z, z ∈ found ↔ z ∈ zs) ∧ fSortSet (strsT zs) = some (strsT (sSort found)) := by
  obtain ⟨i1, i2⟩ := addS_all zs [] (by simp)
  refine ⟨zs.foldl addS [], i1, fun z => by rw [i2]; simp, ?_⟩
  show (asStrs (zs.map .str)).bind _ = _
  rw [asStrs_map]
  show (if zs.length ≤ 1000 then some (T.lst (tSort ((zs.foldl addS []).map .str))) else none) = _
  rw [if_pos h, sSort_map]; rfl
theorem sSort_same {a b : List Str} (ha : a.Nodup) (hb : b.Nodup) (h : ∀ z, z ∈ a ↔ z ∈ b) : sSort a = sSort b := sSort_perm ((List.perm_ext_iff_of_nodup ha hb).mpr h)
end
section
local macro_rules | `(tactic| walk_at "g1") => `(tactic| first
  | with_reducible refine ok_seq ?_ | with_reducible refine ok_set ?_ | with_reducible refine ok_ret ?_ | with_reducible refine ok_drop ?_ | with_reducible refine ok_if ?_ | with_reducible refine ok_nx ?_
  | with_reducible refine ok_op2 ?_ | with_reducible refine ok_op1 ?_ | with_reducible refine ok_con ?_ | with_reducible refine ok_get rfl ?_ | with_reducible refine ok_mv rfl ?_
  | with_reducible refine ok_nil ?_ | with_reducible refine ok_cons ?_ | with_reducible refine ok_fnA ?_ | with_reducible refine ok_newA ?_ | with_reducible refine ok_newI ?_ | with_reducible refine ok_toI ?_ | with_reducible refine ok_toS ?_
  | with_reducible refine ok_isa ?_ | with_reducible refine ok_isaI ?_ | with_reducible refine ok_isaO ?_ | with_reducible refine ok_fld ?_ | with_reducible refine ok_chain ?_ | with_reducible refine ok_andM ?_ | with_reducible refine ok_orM ?_ | with_reducible refine ok_notM ?_
  | with_reducible refine ok_callA ?_ | with_reducible refine ok_callL ?_ | with_reducible refine ok_makeA ?_ | with_reducible refine ok_selfA ?_ | with_reducible refine ok_propA ?_
  | with_reducible refine ok_cutN ?_ | with_reducible refine ok_cutI ?_ | with_reducible refine ok_noPart ?_ | with_reducible refine ok_part ?_ | with_reducible refine ok_get1D ?_ | with_reducible refine ok_ifE ?_
  | with_reducible refine ok_tst ?_ | with_reducible refine ok_andT ?_ | with_reducible refine ok_orT ?_ | with_reducible refine ok_notT ?_ | with_reducible refine ok_truT ?_
  | with_reducible refine ok_sSetL ?_ | with_reducible refine ok_sSetI ?_ | with_reducible refine ok_sSet2 ?_ | with_reducible refine ok_appS ?_
  | with_reducible refine ok_sFldM ?_ | with_reducible refine ok_starM ?_
  | with_reducible refine ok_sLc ?_ | with_reducible refine ok_sDc ?_ | with_reducible refine ok_noE ?_
  | with_reducible refine ok_for ?_ | with_reducible refine ok_elems ?_ | with_reducible refine ok_rng1 ?_ | with_reducible refine ok_rng2 ?_ | with_reducible refine ok_enum ?_
  | with_reducible refine ok_clearM ?_ | with_reducible refine ok_sApp2 ?_ | with_reducible refine ok_sClear2 ?_
  | simp only [List.set_cons_zero, List.set_cons_succ]
  | dsimp only)
local macro_rules | `(tactic| walk_at "go") => `(tactic| repeat walk_at "g1")
def edOf (ms : List Mv) (ks : List (Str × Str)) : List Mv := ks.map fun k => (k, (lookM ms k).getD ⟨#[]⟩)
theorem edOf_keys (ms : List Mv) (ks : List (Str × Str)) : (edOf ms ks).map (·.1) = ks := by
  unfold edOf
  rw [List.map_map]
  exact (List.map_congr_left fun k _ => rfl).trans (List.map_id ks)
theorem edOf_of {ms : List Mv} (nd : (ms.map (·.1)).Nodup) {ks : List (Str × Str)} (hp : ks.Perm (ms.map (·.1))) : ∀ e, e ∈ edOf ms ks ↔ e ∈ ms := by
  intro e
  unfold edOf
  rw [List.mem_map]
  constructor
  · rintro ⟨k, hk, rfl⟩
    obtain ⟨e, he, rfl⟩ := List.mem_map.mp (hp.mem_iff.mp hk)
    rw [lookM_mem nd he]
    exact he
  · intro he
    exact ⟨e.1, hp.mem_iff.mpr (List.mem_map_of_mem he), by rw [lookM_mem nd he]; rfl⟩
theorem way_mono {a b : List Mv} (h : ∀ e ∈ a, e ∈ b) {s z : Str} (hw : Way a s z) : Way b s z := by
  induction hw with
  | refl => exact .refl _
  | step _ he ih => exact .step ih (h _ he)
abbrev nM : Str := PySem.Str.ofString "Machine"
structure IsMach (toks : List Str) (start : Str) (ms : List Mv) (fins : List Str) (t : T) (ed : List Mv) (found : List Str) : Prop where
  eq : t = machT (sSort toks) start ed (sSort fins) (sSort found)
  nd : (ed.map (·.1)).Nodup
  mem : ∀ e, e ∈ ed ↔ e ∈ ms
  len : ed.length = ms.length
  fn : found.Nodup
  fm : ∀ z, z ∈ found ↔ z = start ∨ z ∈ fins ∨ ∃ e ∈ ms, z = e.1.1 ∨ z = e.2
theorem init_ok {most width : Nat} {toks sts : List Str} {start : Str} {ms : List Mv} {fins : List Str} (h : Parts most width toks sts start ms fins) (hm : most ≤ 6) (hw : width ≤ 4) :
    Fok f_Machine___init__ [.ins nM [], strsT toks, .str start, movesT ms, strsT fins] fun w ps => w = .non ∧ ∃ t ed found, ps[0]? = some (some t) ∧ IsMach toks start ms fins t ed found := by
  have hsz : (10000 : Nat) < szL := by decide
  have hmul2 : most * width ≤ 6 * 4 := Nat.mul_le_mul hm hw
  have hml := h.ml
  have hfl : fins.length ≤ sts.length := h.fn.length_le_of_subset h.fk
  have hs1 := h.s1
  have ht0 := h.t0
  have ht1 := h.t1
  obtain ⟨gl, hgl, hway⟩ := h.fw
  have hf1 : 1 ≤ fins.length := List.length_pos_of_mem hgl
  refine fok_at (τ0 := [some _, some _, some _, some _, some _, none, none]) rfl ?_
  unfold st_Machine___init__
  walk_at "go"
  refine fok_imp (are_names_ok (most := 4) h.t0 (by omega) h.tn h.tk) ?_
  rintro _ _ rfl
  refine ⟨_, rfl, ?_⟩
  rw [if_neg (by decide)]
  walk_at "go"
  refine fok_imp (is_name_ok (h.sk start h.s0)) ?_
  rintro _ _ rfl
  refine ⟨_, rfl, ?_⟩
  rw [if_neg (by decide)]
  walk_at "go"
  refine fok_imp (are_moves_ok h.mn h.mo) ?_
  rintro _ _ rfl
  refine ⟨_, rfl, ?_⟩
  rw [if_neg (by decide)]
  walk_at "go"
  refine fok_imp (are_names_ok (most := 6) hf1 (by omega) h.fn (fun z hz => h.sk z (h.fk z hz))) ?_
  rintro _ _ rfl
  refine ⟨_, rfl, ?_⟩
  rw [if_neg (by decide)]
  walk_at "go"
  refine ⟨toks.map .str, rfl, imms_strs toks, ?_⟩
  walk_at "go"
  refine ⟨_, fSorted_strs (fun z hz => (h.tk z hz).good), ?_⟩
  refine ⟨_, .ins nM [(PySem.Str.ofString "alphabet", strsT (sSort toks))], rfl, rfl, ?_⟩
  walk_at "go"
  refine ⟨rfl, _, .ins nM [(PySem.Str.ofString "alphabet", strsT (sSort toks)), (PySem.Str.ofString "origin", .str start)], rfl, rfl, ?_⟩
  walk_at "go"
  refine ⟨ms.map (fun e => keyT e.1), ?_, ?_⟩
  · show some ((ms.map entT).map (·.1)) = _
    rw [List.map_map]; rfl
  have ek : ms.map (fun e => keyT e.1) = (ms.map (·.1)).map keyT := by rw [List.map_map]; rfl
  rw [ek]
  have immk : ∀ ks : List (Str × Str), imms (ks.map keyT) = true := by
    intro ks
    induction ks with
    | nil => rfl
    | cons k ks ih => show (true && imms (ks.map keyT)) = true; rw [ih]; rfl
  refine ⟨immk _, ?_⟩
  walk_at "go"
  obtain ⟨ks, hks, eks⟩ := sort_keys (ms.map (·.1))
  have hgk : ∀ k ∈ ms.map (·.1), goodS k.1 ∧ goodS k.2 := fun k hk => by
    obtain ⟨e, he, rfl⟩ := List.mem_map.mp hk
    exact ⟨(h.mo e he).s.good, (h.mo e he).t.good⟩
  refine ⟨ks.map keyT, by show (if sortOk ((ms.map (·.1)).map keyT) = true then some (tSort ((ms.map (·.1)).map keyT)) else none) = _; rw [if_pos (sortOk_keys hgk), eks], ?_⟩
  refine ⟨_, rfl, ?_⟩
  have ksn : ks.Nodup := hks.nodup_iff.mpr h.mn
  have ksl : ks.length = ms.length := by rw [hks.length_eq, List.length_map]
  refine ok_dcM (fun rest acc τ => ∃ (done r : List (Str × Str)), rest = r.map keyT ∧ done ++ r = ks ∧ acc = (edOf ms done).map entT ∧ τ = [some (.ins nM [(PySem.Str.ofString "alphabet", strsT (sSort toks)), (PySem.Str.ofString "origin", .str start)]), some (strsT toks), some (.str start), some (movesT ms), some (strsT fins), none, none]) ?_ ?_ _ _ _ ⟨[], ks, rfl, rfl, rfl, rfl⟩
  · rintro x rest acc τ ⟨done, r, e1, e2, rfl, rfl⟩
    cases r with
    | nil => cases e1
    | cons k r =>
      cases e1
      have hk : k ∈ ks := by rw [← e2]; simp
      obtain ⟨e, he, rfl⟩ := List.mem_map.mp (hks.mem_iff.mp hk)
      have hdl : done.length < ks.length := by rw [← e2]; simp
      have hkd : e.1 ∉ (edOf ms done).map (·.1) := by
        rw [edOf_keys]
        rw [← e2, List.nodup_append] at ksn
        exact fun h => ksn.2.2 _ h e.1 (by simp) rfl
      refine ok_put (ok_noE (ok_pure ?_))
      rw [if_pos rfl]
      refine ok_noE (ok_get rfl (ok_noE ?_))
      walk_at "go"
      refine w1 (get_moves h.mn he) ⟨rfl, ⟨ask_moves _ _, by rw [List.length_map]; unfold edOf; rw [List.length_map]; omega⟩, done ++ [e.1], r, rfl, by rw [← e2]; simp, ?_, rfl⟩
      rw [store_new hkd]
      unfold edOf
      rw [List.map_append, List.map_append]
      congr 1
      simp [lookM_mem h.mn he]
  · rintro acc τ ⟨done, r, e1, e2, rfl, rfl⟩
    have er : r = [] := by cases r with
      | nil => rfl
      | cons _ _ => cases e1
    subst er
    rw [List.append_nil] at e2
    subst e2
    have hmem := edOf_of h.mn hks
    have hed : ((edOf ms done).map (·.1)).Nodup := by rw [edOf_keys]; exact ksn
    have hel : (edOf ms done).length = ms.length := by unfold edOf; rw [List.length_map]; exact ksl
    generalize edOf ms done = ed at hmem hed hel
    refine ⟨_, .ins nM [(PySem.Str.ofString "alphabet", strsT (sSort toks)), (PySem.Str.ofString "origin", .str start), (PySem.Str.ofString "edges", movesT ed)], rfl, rfl, ?_⟩
    walk_at "go"
    refine ⟨fins.map .str, rfl, imms_strs fins, ?_⟩
    walk_at "go"
    refine ⟨_, fSorted_strs (fun z hz => (h.sk z (h.fk z hz)).good), ?_⟩
    refine ⟨_, .ins nM [(PySem.Str.ofString "alphabet", strsT (sSort toks)), (PySem.Str.ofString "origin", .str start), (PySem.Str.ofString "edges", movesT ed), (PySem.Str.ofString "ending", strsT (sSort fins))], rfl, rfl, ?_⟩
    walk_at "go"
    refine w1 (a := strsT (sSort fins)) rfl ?_
    walk_at "go"
    refine w1 (a := movesT ed) rfl ?_
    walk_at "go"
    refine fok_imp (leading_ok hed (by omega) (by rw [sSort_len]; omega)) ?_
    rintro _ _ ⟨zs, rfl, hzs⟩
    have hst : start ∈ zs := hzs start gl (sSort_mem.mpr hgl) (way_mono (fun e he => (hmem e).mpr he) hway)
    refine w1 (notIn_strs start zs) ⟨_, rfl, ?_⟩
    rw [if_neg (by simpa using hst)]
    walk_at "go"
    refine ⟨rfl, ?_⟩
    walk_at "go"
    refine ⟨fins.map .str, rfl, imms_strs fins, ?_⟩
    walk_at "go"
    refine w1 (a := strsT (start :: fins)) (by simp [strsT, oLst]; omega) ?_
    walk_at "go"
    refine w1 (a := movesT ed) rfl ⟨_, elems_moves ed, ?_⟩
    refine ok_sFor (fun rest τ => ∃ (dm rm : List Mv) (zs : List Str) (y : Option T), rest = rm.map (fun e => keyT e.1) ∧ dm ++ rm = ed ∧ (∀ z, z ∈ zs ↔ z = start ∨ z ∈ fins ∨ ∃ e ∈ dm, z = e.1.1 ∨ z = e.2) ∧ zs.length = 1 + fins.length + 2 * dm.length ∧ τ = [some (.ins nM [(PySem.Str.ofString "alphabet", strsT (sSort toks)), (PySem.Str.ofString "origin", .str start), (PySem.Str.ofString "edges", movesT ed), (PySem.Str.ofString "ending", strsT (sSort fins))]), some (strsT toks), some (.str start), some (movesT ms), some (strsT fins), y, some (strsT zs)]) ?_ ?_ _ _ ⟨[], ed, start :: fins, none, rfl, rfl, by simp, by simp; omega, rfl⟩
    · rintro x rest τ ⟨dm, rm, zs1, y, f1, f2, k2, k3, rfl⟩
      cases rm with
      | nil => cases f1
      | cons e rm =>
        cases f1
        have he : e ∈ ed := by rw [← f2]; simp
        have hdl : dm.length < ed.length := by rw [← f2]; simp
        refine ok_put ?_
        walk_at "go"
        refine ⟨⟨_, rfl⟩, ?_⟩
        walk_at "go"
        refine w1 (key_fst e.1) ⟨zs1.map .str, rfl, by rw [List.length_map]; omega, ?_⟩
        walk_at "go"
        refine ⟨⟨_, rfl⟩, ?_⟩
        walk_at "go"
        refine w1 (a := movesT ed) rfl ?_
        walk_at "go"
        refine w1 (get_moves hed he) ⟨(zs1 ++ [e.1.1]).map .str, by simp, by rw [List.length_map, List.length_append]; simp; omega, ?_⟩
        refine ⟨dm ++ [e], rm, zs1 ++ [e.1.1] ++ [e.2], some (keyT e.1), rfl, by rw [← f2]; simp, fun z => ?_, by simp; omega, by simp [strsT]⟩
        simp only [List.mem_append, List.mem_singleton, k2]
        constructor
        · rintro ((( h | h | ⟨e', h, h'⟩) | h) | h)
          · exact .inl h
          · exact .inr (.inl h)
          · exact .inr (.inr ⟨e', .inl h, h'⟩)
          · exact .inr (.inr ⟨e, .inr rfl, .inl h⟩)
          · exact .inr (.inr ⟨e, .inr rfl, .inr h⟩)
        · rintro (h | h | ⟨e', h | h, h'⟩)
          · exact .inl (.inl (.inl h))
          · exact .inl (.inl (.inr (.inl h)))
          · exact .inl (.inl (.inr (.inr ⟨e', h, h'⟩)))
          · subst h
            rcases h' with h' | h'
            · exact .inl (.inr h')
            · exact .inr h'
    · rintro τ ⟨dm, rm, zs1, y, f1, f2, k2, k3, rfl⟩
      have er : rm = [] := by cases rm with
        | nil => rfl
        | cons _ _ => cases f1
      subst er
      rw [List.append_nil] at f2
      subst f2
      obtain ⟨found, q1, q2, q3⟩ := sortset_strs (zs := zs1) (by omega)
      have hfm : ∀ z, z ∈ found ↔ z = start ∨ z ∈ fins ∨ ∃ e ∈ ms, z = e.1.1 ∨ z = e.2 := fun z => by
        rw [q2, k2]
        constructor
        · rintro (h | h | ⟨e, h, h'⟩)
          · exact .inl h
          · exact .inr (.inl h)
          · exact .inr (.inr ⟨e, (hmem e).mp h, h'⟩)
        · rintro (h | h | ⟨e, h, h'⟩)
          · exact .inl h
          · exact .inr (.inl h)
          · exact .inr (.inr ⟨e, (hmem e).mpr h, h'⟩)
      have hsub : ∀ z ∈ found, z ∈ sts := fun z hz => by
        rcases (hfm z).mp hz with h' | h' | ⟨e, he, h' | h'⟩
        · rw [h']; exact h.s0
        · exact h.fk z h'
        · rw [h']; exact (h.ma e he).1
        · rw [h']; exact (h.ma e he).2
      have hfl2 : found.length ≤ sts.length := q1.length_le_of_subset hsub
      walk_at "go"
      refine w1 q3 ⟨_, machT (sSort toks) start dm (sSort fins) (sSort found), rfl, rfl, ?_⟩
      walk_at "go"
      refine w1 (a := strsT (sSort found)) rfl ?_
      walk_at "go"
      refine w1 (a := .int (found.length : Int)) (by show some (T.int (((sSort found).map T.str).length : Nat)) = _; rw [List.length_map, sSort_len]) ?_
      walk_at "go"
      refine w1 (a := .bl false) (by show some (T.bl (decide ((6 : Int) < found.length))) = _; rw [decide_eq_false (by omega)]) ⟨_, rfl, ?_⟩
      rw [if_neg (by decide)]
      exact ok_nx ⟨True.intro, _, dm, found, rfl, rfl, hed, hmem, hel, q1, hfm⟩
end
section
local macro_rules | `(tactic| walk_at "g1") => `(tactic| first
  | with_reducible refine ok_seq ?_ | with_reducible refine ok_set ?_ | with_reducible refine ok_ret ?_ | with_reducible refine ok_drop ?_ | with_reducible refine ok_if ?_ | with_reducible refine ok_nx ?_
  | with_reducible refine ok_op2 ?_ | with_reducible refine ok_op1 ?_ | with_reducible refine ok_con ?_ | with_reducible refine ok_get rfl ?_ | with_reducible refine ok_mv rfl ?_
  | with_reducible refine ok_nil ?_ | with_reducible refine ok_cons ?_ | with_reducible refine ok_fnA ?_ | with_reducible refine ok_newA ?_ | with_reducible refine ok_newI ?_ | with_reducible refine ok_toI ?_ | with_reducible refine ok_toS ?_
  | with_reducible refine ok_isa ?_ | with_reducible refine ok_isaI ?_ | with_reducible refine ok_isaO ?_ | with_reducible refine ok_fld ?_ | with_reducible refine ok_chain ?_ | with_reducible refine ok_andM ?_ | with_reducible refine ok_orM ?_ | with_reducible refine ok_notM ?_
  | with_reducible refine ok_callA ?_ | with_reducible refine ok_callL ?_ | with_reducible refine ok_makeA ?_ | with_reducible refine ok_selfA ?_ | with_reducible refine ok_propA ?_
  | with_reducible refine ok_cutN ?_ | with_reducible refine ok_cutI ?_ | with_reducible refine ok_noPart ?_ | with_reducible refine ok_part ?_ | with_reducible refine ok_get1D ?_ | with_reducible refine ok_ifE ?_
  | with_reducible refine ok_tst ?_ | with_reducible refine ok_andT ?_ | with_reducible refine ok_orT ?_ | with_reducible refine ok_notT ?_ | with_reducible refine ok_truT ?_
  | with_reducible refine ok_sSetL ?_ | with_reducible refine ok_sSetI ?_ | with_reducible refine ok_sSet2 ?_ | with_reducible refine ok_appS ?_
  | with_reducible refine ok_sFldM ?_ | with_reducible refine ok_starM ?_
  | with_reducible refine ok_sLc ?_ | with_reducible refine ok_sDc ?_ | with_reducible refine ok_noE ?_
  | with_reducible refine ok_for ?_ | with_reducible refine ok_elems ?_ | with_reducible refine ok_rng1 ?_ | with_reducible refine ok_rng2 ?_ | with_reducible refine ok_enum ?_
  | with_reducible refine ok_clearM ?_ | with_reducible refine ok_sApp2 ?_ | with_reducible refine ok_sClear2 ?_
  | simp only [List.set_cons_zero, List.set_cons_succ]
  | dsimp only)
local macro_rules | `(tactic| walk_at "go") => `(tactic| repeat walk_at "g1")
theorem same_dct_of (n : Nat) {as ds : List Mv} (nd : (as.map (·.1)).Nodup) (nd' : (ds.map (·.1)).Nodup) (hl : as.length = ds.length) (hz : ds.length < 1000) (h : ∀ e, e ∈ as ↔ e ∈ ds) : Sm (n + 2) (movesT as) (movesT ds) :=
  same_dct n hl hz fun e he => ⟨lookM_mem nd ((h e).mpr he), lookM_mem nd' he⟩
end
section
local macro_rules | `(tactic| walk_at "g1") => `(tactic| first
  | with_reducible refine ok_seq ?_ | with_reducible refine ok_set ?_ | with_reducible refine ok_ret ?_ | with_reducible refine ok_drop ?_ | with_reducible refine ok_if ?_ | with_reducible refine ok_nx ?_
  | with_reducible refine ok_op2 ?_ | with_reducible refine ok_op1 ?_ | with_reducible refine ok_con ?_ | with_reducible refine ok_get rfl ?_ | with_reducible refine ok_mv rfl ?_
  | with_reducible refine ok_nil ?_ | with_reducible refine ok_cons ?_ | with_reducible refine ok_fnA ?_ | with_reducible refine ok_newA ?_ | with_reducible refine ok_newI ?_ | with_reducible refine ok_toI ?_ | with_reducible refine ok_toS ?_
  | with_reducible refine ok_isa ?_ | with_reducible refine ok_isaI ?_ | with_reducible refine ok_isaO ?_ | with_reducible refine ok_fld ?_ | with_reducible refine ok_chain ?_ | with_reducible refine ok_andM ?_ | with_reducible refine ok_orM ?_ | with_reducible refine ok_notM ?_
  | with_reducible refine ok_callA ?_ | with_reducible refine ok_callL ?_ | with_reducible refine ok_makeA ?_ | with_reducible refine ok_selfA ?_ | with_reducible refine ok_propA ?_
  | with_reducible refine ok_cutN ?_ | with_reducible refine ok_cutI ?_ | with_reducible refine ok_noPart ?_ | with_reducible refine ok_part ?_ | with_reducible refine ok_get1D ?_ | with_reducible refine ok_ifE ?_
  | with_reducible refine ok_tst ?_ | with_reducible refine ok_andT ?_ | with_reducible refine ok_orT ?_ | with_reducible refine ok_notT ?_ | with_reducible refine ok_truT ?_
  | with_reducible refine ok_sSetL ?_ | with_reducible refine ok_sSetI ?_ | with_reducible refine ok_sSet2 ?_ | with_reducible refine ok_appS ?_
  | with_reducible refine ok_sFldM ?_ | with_reducible refine ok_starM ?_
  | with_reducible refine ok_sLc ?_ | with_reducible refine ok_sDc ?_ | with_reducible refine ok_noE ?_
  | with_reducible refine ok_for ?_ | with_reducible refine ok_elems ?_ | with_reducible refine ok_rng1 ?_ | with_reducible refine ok_rng2 ?_ | with_reducible refine ok_enum ?_
  | with_reducible refine ok_clearM ?_ | with_reducible refine ok_sApp2 ?_ | with_reducible refine ok_sClear2 ?_
  | simp only [List.set_cons_zero, List.set_cons_succ]
  | dsimp only)
local macro_rules | `(tactic| walk_at "go") => `(tactic| repeat walk_at "g1")
theorem way_cons {ms : List Mv} {e : Mv} (he : e ∈ ms) {g : Str} (h : Way ms e.2 g) : Way ms e.1.1 g := by
  induction h with
  | refl => exact .step (.refl _) he
  | step h he' ih => exact .step ih he'
theorem way_on {ms : List Mv} {zs : List Str} (cl : ∀ e ∈ ms, e.1.1 ∈ zs → e.2 ∈ zs) {s z : Str} (h : Way ms s z) : s ∈ zs → z ∈ zs := by
  induction h with
  | refl => exact id
  | step h he ih => exact fun hg => cl _ he (ih hg)
theorem way_trans {ms : List Mv} {a b c : Str} (h : Way ms a b) (h' : Way ms b c) : Way ms a c := by
  induction h' with
  | refl => exact h
  | step _ he ih => exact .step ih he
theorem way_iff {a b : List Mv} (h : ∀ e, e ∈ a ↔ e ∈ b) (s z : Str) : Way a s z ↔ Way b s z := ⟨way_mono fun e he => (h e).mp he, way_mono fun e he => (h e).mpr he⟩
theorem leading_iff {goals : List Str} {ms : List Mv} (nd : (ms.map (·.1)).Nodup) (hl : ms.length ≤ 100) (hgl : goals.length ≤ 100) :
    Fok f_leading [strsT goals, movesT ms] fun w _ => ∃ zs : List Str, w = strsT zs ∧ ∀ z, z ∈ zs ↔ ∃ g ∈ goals, Way ms z g := by
  refine fok_at (τ0 := [some _, some _, none, none, none]) rfl ?_
  unfold st_leading
  walk_at "go"
  refine ⟨goals.map .str, rfl, imms_strs goals, ?_⟩
  walk_at "go"
  have bound : ∀ xs : List Str, xs.Nodup → (∀ x ∈ xs, x ∈ ms.map (fun e => e.1.1)) → xs.length ≤ ms.length := fun xs n h => by
    have := n.length_le_of_subset h
    rw [List.length_map] at this; exact this
  refine ok_while (fun m τ => ∃ (xs : List Str) (k : Nat) (y : Option T), (∀ x ∈ xs, ∃ g ∈ goals, Way ms x g) ∧ xs.Nodup ∧ (∀ x ∈ xs, x ∈ ms.map (fun e => e.1.1)) ∧ k ≤ (goals ++ xs).length ∧ m = goals.length + ms.length - k ∧ (∀ i z, i < k → (goals ++ xs)[i]? = some z → ∀ e ∈ ms, e.2 = z → e.1.1 ∈ goals ++ xs) ∧ τ = [some (strsT goals), some (movesT ms), some (strsT (goals ++ xs)), some (.int k), y]) ?_ _ (goals.length + ms.length) _ (by omega) ⟨[], 0, none, by simp, by simp, by simp, Nat.zero_le _, rfl, fun i z h => by omega, by simp [strsT]⟩
  rintro m τ ⟨xs, k, y, h0, h1, h2, h3, rfl, h4, rfl⟩
  have hb := bound xs h1 h2
  have hlen : (goals ++ xs).length = goals.length + xs.length := List.length_append
  walk_at "go"
  refine w1 rfl ?_
  walk_at "go"
  refine w1 rfl ⟨_, rfl, ?_⟩
  by_cases hk : k < (goals ++ xs).length
  · rw [if_pos (by simp [strsT]; simp at hk; omega)]
    refine ⟨by omega, ?_⟩
    obtain ⟨zk, hzk⟩ : ∃ z, (goals ++ xs)[k]? = some z := ⟨_, List.getElem?_eq_getElem hk⟩
    walk_at "go"
    refine ⟨_, elems_moves ms, ?_⟩
    refine ok_sFor (fun rest τ => ∃ (done r : List Mv) (ys : List Str) (y : Option T), rest = r.map (fun e => keyT e.1) ∧ done ++ r = ms ∧ (∀ x ∈ xs ++ ys, ∃ g ∈ goals, Way ms x g) ∧ (xs ++ ys).Nodup ∧ (∀ x ∈ xs ++ ys, x ∈ ms.map (fun e => e.1.1)) ∧ (∀ e ∈ done, e.2 = zk → e.1.1 ∈ goals ++ (xs ++ ys)) ∧ τ = [some (strsT goals), some (movesT ms), some (strsT (goals ++ (xs ++ ys))), some (.int k), y]) ?_ ?_ _ _ ⟨[], ms, [], y, rfl, rfl, by simpa using h0, by simpa using h1, by simpa using h2, by simp, by simp⟩
    · rintro x rest τ ⟨done, r, ys, y2, e1, e2, n0, n1, n2, n3, rfl⟩
      cases r with
      | nil => cases e1
      | cons e r =>
        cases e1
        have he : e ∈ ms := by rw [← e2]; simp
        have e2' : (done ++ [e]) ++ r = ms := by rw [← e2]; simp
        have hzk2 : (goals ++ (xs ++ ys))[k]? = some zk := by
          rw [← List.append_assoc, List.getElem?_append_left hk]; exact hzk
        refine ok_put ?_
        walk_at "go"
        refine w1 (get_moves nd he) ?_
        walk_at "go"
        refine w1 (strs_at hzk2) (w1 (eq_strs _ _) ⟨_, rfl, ?_⟩)
        by_cases h5 : e.2 = zk
        · rw [if_pos (by simpa using h5)]
          walk_at "go"
          refine w1 (key_fst e.1) ?_
          walk_at "go"
          refine w1 (notIn_strs _ _) ⟨_, rfl, ?_⟩
          by_cases h6 : e.1.1 ∈ goals ++ (xs ++ ys)
          · rw [if_neg (by rw [decide_eq_true h6]; simp)]
            walk_at "go"
            refine ⟨done ++ [e], r, ys, _, rfl, e2', n0, n1, n2, fun e' he' hz => ?_, rfl⟩
            rcases List.mem_append.mp he' with h | h
            · exact n3 e' h hz
            · simp at h; rw [h]; exact h6
          · rw [if_pos (by rw [decide_eq_false h6]; rfl)]
            walk_at "go"
            refine ⟨⟨_, rfl⟩, ?_⟩
            walk_at "go"
            refine w1 (key_fst e.1) ⟨rfl, ?_⟩
            have hsz : (10000 : Nat) < szL := by decide
            have hb2 := bound _ n1 n2
            refine ⟨(goals ++ (xs ++ ys)).map .str, rfl, by rw [List.length_map, List.length_append]; omega, ?_⟩
            walk_at "go"
            have n5 : ∀ x ∈ xs ++ (ys ++ [e.1.1]), ∃ g ∈ goals, Way ms x g := fun x hx => by
              rw [← List.append_assoc] at hx
              rcases List.mem_append.mp hx with h | h
              · exact n0 x h
              · simp at h
                subst h
                have hm : zk ∈ goals ++ (xs ++ ys) := List.mem_of_getElem? hzk2
                rcases List.mem_append.mp hm with h | h
                · exact ⟨zk, h, by rw [← h5]; exact way_cons he (.refl _)⟩
                · obtain ⟨g, hg, hw⟩ := n0 zk h
                  exact ⟨g, hg, way_cons he (by rw [h5]; exact hw)⟩
            have n4 : (xs ++ (ys ++ [e.1.1])).Nodup := by
              rw [← List.append_assoc, List.nodup_append]
              exact ⟨n1, by simp, fun a ha b hb z => h6 (by simp at hb; subst hb; subst z; exact List.mem_append_right _ ha)⟩
            refine ⟨done ++ [e], r, ys ++ [e.1.1], some (keyT e.1), rfl, e2', n5, n4, fun x hx => ?_, fun e' he' hz => ?_, by simp [strsT]⟩
            · rw [← List.append_assoc] at hx
              rcases List.mem_append.mp hx with h | h
              · exact n2 x h
              · simp at h; rw [h]; exact List.mem_map_of_mem (f := fun e : Mv => e.1.1) he
            · rcases List.mem_append.mp he' with h | h
              · have := n3 e' h hz
                simp only [List.mem_append] at this ⊢
                rcases this with h | h | h
                · exact .inl h
                · exact .inr (.inl h)
                · exact .inr (.inr (.inl h))
              · simp at h; rw [h]; simp
        · rw [if_neg (by simpa using h5)]
          rw [if_neg (by simp)]
          walk_at "go"
          refine ⟨done ++ [e], r, ys, _, rfl, e2', n0, n1, n2, fun e' he' hz => ?_, rfl⟩
          rcases List.mem_append.mp he' with h | h
          · exact n3 e' h hz
          · simp at h; rw [h] at hz; exact (h5 hz).elim
    · rintro τ ⟨done, r, ys, y2, e1, e2, n0, n1, n2, n3, rfl⟩
      have er : r = [] := by cases r with
        | nil => rfl
        | cons _ _ => cases e1
      subst er
      rw [List.append_nil] at e2
      subst e2
      have hb2 := bound _ n1 n2
      refine ok_aug rfl (ok_con (w1 rfl ⟨goals.length + done.length - (k + 1), ?_, xs ++ ys, k + 1, y2, n0, n1, n2, ?_, rfl, ?_, rfl⟩))
      · omega
      · rw [List.length_append, List.length_append] ; omega
      · intro i z hi hz e he hez
        rcases Nat.lt_or_ge i k with h | h
        · rw [← List.append_assoc, List.getElem?_append_left (by omega)] at hz
          have := h4 i z h hz e he hez
          rw [← List.append_assoc]
          exact List.mem_append_left _ this
        · have : i = k := by omega
          subst this
          rw [← List.append_assoc, List.getElem?_append_left hk, hzk] at hz
          cases hz
          exact n3 e he hez
  · rw [if_neg (by simp [strsT]; simp at hk; omega)]
    refine ok_ret (ok_mv rfl ⟨goals ++ xs, rfl, fun z => ⟨fun hz => ?_, fun ⟨g, hg, hw⟩ => way_back (fun e he h => ?_) hw (List.mem_append_left _ hg)⟩⟩)
    · rcases List.mem_append.mp hz with h | h
      · exact ⟨z, h, .refl z⟩
      · exact h0 z h
    obtain ⟨i, hi, ei⟩ := List.getElem_of_mem h
    exact h4 i e.2 (by omega) (by rw [← ei]; exact List.getElem?_eq_getElem hi) e he rfl
theorem reached_full {s : Str} {ms : List Mv} {sts : List Str} (nd : (ms.map (·.1)).Nodup) (hl : ms.length ≤ 100) (hs : s ∈ sts) (ha : ∀ e ∈ ms, e.1.1 ∈ sts ∧ e.2 ∈ sts) (h6 : sts.length ≤ 6) :
    Fok f__law_reached [.str s, movesT ms] fun w _ => ∃ zs : List Str, w = strsT zs ∧ zs.Nodup ∧ zs.length ≤ 6 ∧ ∀ z, z ∈ zs ↔ Way ms s z := by
  have bound : ∀ zs : List Str, zs.Nodup → (∀ z ∈ zs, Way ms s z) → zs.length ≤ 6 := fun zs n h => by
    have := n.length_le_of_subset (l₂ := sts) fun z hz => way_in ha (h z hz) hs
    omega
  refine fok_at (τ0 := [some _, some _, none, none, none]) rfl ?_
  unfold st__law_reached
  walk_at "go"
  refine ⟨rfl, ?_⟩
  walk_at "go"
  refine w1 (a := strsT [s]) rfl ?_
  walk_at "go"
  refine ⟨_, fRange1_nat (n := 6) (by omega), ?_⟩
  refine ok_sFor (fun rest τ => ∃ (zs : List Str) (y y2 : Option T), rest.length ≤ 6 ∧ s ∈ zs ∧ zs.Nodup ∧ ((∀ e ∈ ms, e.1.1 ∈ zs → e.2 ∈ zs) ∨ 1 + (6 - rest.length) ≤ zs.length) ∧ (∀ z ∈ zs, Way ms s z) ∧ τ = [some (.str s), some (movesT ms), some (strsT zs), y, y2]) ?_ ?_ _ _ ⟨[s], none, none, by decide, by simp, by simp, .inr (Nat.le_refl 1), by intro z hz; simp at hz; rw [hz]; exact .refl s, rfl⟩
  · rintro x rest τ ⟨zs0, y, y2, hr, h1, h2, h2', h3, rfl⟩
    rw [List.length_cons] at hr h2'
    refine ok_put ?_
    walk_at "go"
    refine ⟨_, elems_moves ms, ?_⟩
    refine ok_sFor (fun rest2 τ => ∃ (done r : List Mv) (ys : List Str) (y2 : Option T), rest2 = r.map (fun e => keyT e.1) ∧ done ++ r = ms ∧ (zs0 ++ ys).Nodup ∧ ((∀ e ∈ ms, e.1.1 ∈ zs0 → e.2 ∈ zs0) → ys = []) ∧ (∀ e ∈ done, e.1.1 ∈ zs0 → e.2 ∈ zs0 ++ ys) ∧ (∀ z ∈ zs0 ++ ys, Way ms s z) ∧ τ = [some (.str s), some (movesT ms), some (strsT (zs0 ++ ys)), some x, y2]) ?_ ?_ _ _ ⟨[], ms, [], y2, rfl, rfl, by simpa using h2, fun _ => rfl, by simp, by simpa using h3, by simp⟩
    · rintro x2 rest2 τ ⟨done, r, ys, y3, e1, e2, g1, g2, g3, g4, rfl⟩
      cases r with
      | nil => cases e1
      | cons e r =>
        cases e1
        have he : e ∈ ms := by rw [← e2]; simp
        have e2' : (done ++ [e]) ++ r = ms := by rw [← e2]; simp
        have hb := bound _ g1 g4
        refine ok_put ?_
        walk_at "go"
        refine w1 (key_fst e.1) ?_
        walk_at "go"
        refine w1 (in_strs e.1.1 (zs0 ++ ys)) ⟨_, rfl, ?_⟩
        by_cases hin : e.1.1 ∈ zs0 ++ ys
        · rw [if_pos (by rw [decide_eq_true hin])]
          walk_at "go"
          refine w1 (get_moves nd he) ?_
          walk_at "go"
          refine w1 (notIn_strs e.2 (zs0 ++ ys)) ⟨_, rfl, ?_⟩
          by_cases h4 : e.2 ∈ zs0 ++ ys
          · rw [if_neg (by rw [decide_eq_true h4]; simp)]
            walk_at "go"
            refine ⟨done ++ [e], r, ys, _, rfl, e2', g1, g2, fun e' he' hz => ?_, g4, rfl⟩
            rcases List.mem_append.mp he' with h | h
            · exact g3 e' h hz
            · simp at h; rw [h]; exact h4
          · rw [if_pos (by rw [decide_eq_false h4]; rfl)]
            walk_at "go"
            refine ⟨⟨_, rfl⟩, ?_⟩
            walk_at "go"
            refine w1 (get_moves nd he) ⟨rfl, ?_⟩
            have hsz : (10000 : Nat) < szL := by decide
            refine ⟨(zs0 ++ ys).map .str, rfl, by rw [List.length_map]; omega, ?_⟩
            walk_at "go"
            refine ⟨done ++ [e], r, ys ++ [e.2], some (keyT e.1), rfl, e2', ?_, fun hc => ?_, fun e' he' hz => ?_, fun z hz => ?_, by simp [strsT]⟩
            · rw [← List.append_assoc, List.nodup_append]
              exact ⟨g1, by simp, fun a ha b hb z => h4 (by simp at hb; subst hb; subst z; exact ha)⟩
            · have hy := g2 hc
              subst hy
              rw [List.append_nil] at hin h4
              exact (h4 (hc e he hin)).elim
            · rw [← List.append_assoc]
              rcases List.mem_append.mp he' with h | h
              · exact List.mem_append_left _ (g3 e' h hz)
              · simp at h; rw [h]; simp
            · rw [← List.append_assoc] at hz
              rcases List.mem_append.mp hz with hz | hz
              · exact g4 z hz
              · simp at hz; rw [hz]; exact .step (g4 _ hin) he
        · rw [if_neg (by rw [decide_eq_false hin]; simp)]
          rw [if_neg (by simp)]
          walk_at "go"
          refine ⟨done ++ [e], r, ys, _, rfl, e2', g1, g2, fun e' he' hz => ?_, g4, rfl⟩
          rcases List.mem_append.mp he' with h | h
          · exact g3 e' h hz
          · simp at h; rw [h] at hz; exact (hin (List.mem_append_left _ hz)).elim
    · rintro τ ⟨done, r, ys, y3, e1, e2, g1, g2, g3, g4, rfl⟩
      have er : r = [] := by cases r with
        | nil => rfl
        | cons _ _ => cases e1
      subst er
      rw [List.append_nil] at e2
      subst e2
      refine ⟨zs0 ++ ys, _, y3, by omega, List.mem_append_left _ h1, g1, ?_, g4, rfl⟩
      cases ys with
      | nil => rw [List.append_nil] at g3 ⊢; exact .inl g3
      | cons y ys =>
        rcases h2' with h | h
        · cases g2 h
        · exact .inr (by rw [List.length_append, List.length_cons]; omega)
  · rintro τ ⟨zs, y, y2, hr, h1, h2, h2', h3, rfl⟩
    have hb := bound zs h2 h3
    refine ok_ret (ok_mv rfl ⟨zs, rfl, h2, hb, fun z => ⟨h3 z, fun hw => way_on (fun e he h => ?_) hw h1⟩⟩)
    rcases h2' with hc | hc
    · exact hc e he h
    · simp at hc; omega
end
section
local macro_rules | `(tactic| walk_at "g1") => `(tactic| first
  | with_reducible refine ok_seq ?_ | with_reducible refine ok_set ?_ | with_reducible refine ok_ret ?_ | with_reducible refine ok_drop ?_ | with_reducible refine ok_if ?_ | with_reducible refine ok_nx ?_
  | with_reducible refine ok_op2 ?_ | with_reducible refine ok_op1 ?_ | with_reducible refine ok_con ?_ | with_reducible refine ok_get rfl ?_ | with_reducible refine ok_mv rfl ?_
  | with_reducible refine ok_nil ?_ | with_reducible refine ok_cons ?_ | with_reducible refine ok_fnA ?_ | with_reducible refine ok_newA ?_ | with_reducible refine ok_newI ?_ | with_reducible refine ok_toI ?_ | with_reducible refine ok_toS ?_
  | with_reducible refine ok_isa ?_ | with_reducible refine ok_isaI ?_ | with_reducible refine ok_isaO ?_ | with_reducible refine ok_fld ?_ | with_reducible refine ok_chain ?_ | with_reducible refine ok_andM ?_ | with_reducible refine ok_orM ?_ | with_reducible refine ok_notM ?_
  | with_reducible refine ok_callA ?_ | with_reducible refine ok_callL ?_ | with_reducible refine ok_makeA ?_ | with_reducible refine ok_selfA ?_ | with_reducible refine ok_propA ?_
  | with_reducible refine ok_cutN ?_ | with_reducible refine ok_cutI ?_ | with_reducible refine ok_noPart ?_ | with_reducible refine ok_part ?_ | with_reducible refine ok_get1D ?_ | with_reducible refine ok_ifE ?_
  | with_reducible refine ok_tst ?_ | with_reducible refine ok_andT ?_ | with_reducible refine ok_orT ?_ | with_reducible refine ok_notT ?_ | with_reducible refine ok_truT ?_
  | with_reducible refine ok_sSetL ?_ | with_reducible refine ok_sSetI ?_ | with_reducible refine ok_sSet2 ?_ | with_reducible refine ok_appS ?_
  | with_reducible refine ok_sFldM ?_ | with_reducible refine ok_starM ?_
  | with_reducible refine ok_sLc ?_ | with_reducible refine ok_sDc ?_ | with_reducible refine ok_noE ?_
  | with_reducible refine ok_for ?_ | with_reducible refine ok_elems ?_ | with_reducible refine ok_rng1 ?_ | with_reducible refine ok_rng2 ?_ | with_reducible refine ok_enum ?_
  | with_reducible refine ok_clearM ?_ | with_reducible refine ok_sApp2 ?_ | with_reducible refine ok_sClear2 ?_
  | simp only [List.set_cons_zero, List.set_cons_succ]
  | dsimp only)
local macro_rules | `(tactic| walk_at "go") => `(tactic| repeat walk_at "g1")
def encO : Option Str → T
  | none => .non
  | some s => .str s
def rowT (zs : List Str) : T := .tup (zs.map .str)
theorem v_p0 (a : List Str) (b : Str) (c : List Mv) (d : List Str) : oGet (partsT a b c d) (.int 0) = some (strsT a) := rfl
theorem v_p1 (a : List Str) (b : Str) (c : List Mv) (d : List Str) : oGet (partsT a b c d) (.int 1) = some (.str b) := rfl
theorem v_p2 (a : List Str) (b : Str) (c : List Mv) (d : List Str) : oGet (partsT a b c d) (.int 2) = some (movesT c) := rfl
theorem v_p3 (a : List Str) (b : Str) (c : List Mv) (d : List Str) : oGet (partsT a b c d) (.int 3) = some (strsT d) := rfl
theorem v_al (al : List Str) (o : Str) (ed : List Mv) (en pl : List Str) : oFld nM (PySem.Str.ofString "alphabet") (machT al o ed en pl) = some (strsT al) := rfl
theorem v_or (al : List Str) (o : Str) (ed : List Mv) (en pl : List Str) : oFld nM (PySem.Str.ofString "origin") (machT al o ed en pl) = some (.str o) := rfl
theorem v_ed (al : List Str) (o : Str) (ed : List Mv) (en pl : List Str) : oFld nM (PySem.Str.ofString "edges") (machT al o ed en pl) = some (movesT ed) := rfl
theorem v_en (al : List Str) (o : Str) (ed : List Mv) (en pl : List Str) : oFld nM (PySem.Str.ofString "ending") (machT al o ed en pl) = some (strsT en) := rfl
theorem v_pl (al : List Str) (o : Str) (ed : List Mv) (en pl : List Str) : oFld nM (PySem.Str.ofString "places") (machT al o ed en pl) = some (strsT pl) := rfl
theorem v_cm (al : List Str) (o : Str) (ed : List Mv) (en pl : List Str) : oCls nM (machT al o ed en pl) = some (machT al o ed en pl) := rfl
theorem v_key (a b : Str) : oTup [.str a, .str b] = some (keyT (a, b)) := rfl
theorem v_tup0 : oTup [] = some (.tup []) := rfl
theorem v_len (zs : List Str) : fLen [strsT zs] = some (.int zs.length) := by show some (T.int ((zs.map T.str).length : Nat)) = _; rw [List.length_map]
theorem v_lenT (zs : List Str) : fLen [rowT zs] = some (.int zs.length) := by show some (T.int ((zs.map T.str).length : Nat)) = _; rw [List.length_map]
theorem v_lenM (ms : List Mv) : fLen [movesT ms] = some (.int ms.length) := by show some (T.int ((ms.map entT).length : Nat)) = _; rw [List.length_map]
theorem v_lt (i j : Int) : oLt (.int i) (.int j) = some (.bl (decide (i < j))) := rfl
theorem v_le (i j : Int) : oLe (.int i) (.int j) = some (.bl (decide (i ≤ j))) := rfl
theorem v_gt (i j : Int) : oGt (.int i) (.int j) = some (.bl (decide (j < i))) := rfl
theorem v_ge (i j : Int) : oGe (.int i) (.int j) = some (.bl (decide (j ≤ i))) := rfl
theorem v_add (i j : Int) : oAdd (.int i) (.int j) = some (.int (i + j)) := rfl
theorem v_sub (i j : Int) : oSub (.int i) (.int j) = some (.int (i - j)) := rfl
theorem v_eqI (i j : Int) : oEq (.int i) (.int j) = some (.bl (decide (i = j))) := by
  show (if cmpOk (.int i) (.int j) = true then some (T.bl (tEq (.int i) (.int j))) else none) = _
  rw [if_pos (show cmpOk (.int i) (.int j) = true from rfl)]; rfl
theorem v_neI (i j : Int) : oNe (.int i) (.int j) = some (.bl (!decide (i = j))) := by
  show (if cmpOk (.int i) (.int j) = true then some (T.bl (!tEq (.int i) (.int j))) else none) = _
  rw [if_pos (show cmpOk (.int i) (.int j) = true from rfl)]; rfl
theorem v_neS (a b : Str) : oNe (.str a) (.str b) = some (.bl (!decide (a = b))) := by
  show (if cmpOk (.str a) (.str b) = true then some (T.bl (!tEq (.str a) (.str b))) else none) = _
  rw [if_pos (show cmpOk (.str a) (.str b) = true from rfl)]
  rfl
theorem v_isO (o : Option Str) : oIsN (encO o) .non = some (.bl o.isNone) := by cases o <;> rfl
theorem v_notO (o : Option Str) : oNotN (encO o) .non = some (.bl o.isSome) := by cases o <;> rfl
theorem v_isS (s : Str) : oIsN (.str s) .non = some (.bl false) := rfl
theorem v_notS (s : Str) : oNotN (.str s) .non = some (.bl true) := rfl
theorem v_isN : oIsN .non .non = some (.bl true) := rfl
theorem v_notN : oNotN .non .non = some (.bl false) := rfl
theorem v_isI (i : Int) : oIsN (.int i) .non = some (.bl false) := rfl
theorem v_notI (i : Int) : oNotN (.int i) .non = some (.bl true) := rfl
theorem v_inM (ms : List Mv) (k : Str × Str) : oIn (keyT k) (movesT ms) = some (.bl (lookM ms k).isSome) := by
  show ((if askOk (ms.map entT) (keyT k) = true then some (look (ms.map entT) (keyT k)).isSome else none).map T.bl) = _
  rw [if_pos (ask_moves ms k), look_moves]
  cases lookM ms k <;> rfl
theorem v_notInM (ms : List Mv) (k : Str × Str) : oNotIn (keyT k) (movesT ms) = some (.bl (!(lookM ms k).isSome)) := by
  show ((if askOk (ms.map entT) (keyT k) = true then some (look (ms.map entT) (keyT k)).isSome else none).map fun b => T.bl (!b)) = _
  rw [if_pos (ask_moves ms k), look_moves]
  cases lookM ms k <;> rfl
theorem ok_get1M {τ : Tau} {Q : T → Tau → Prop} {ed ek : M T} (h : Ok ed τ fun x τ1 => ∃ ms, x = movesT ms ∧ Ok ek τ1 fun k τ2 => ∃ kk, k = keyT kk ∧ Q (encO (lookM ms kk)) τ2) : Ok (get1D ed ek) τ Q := by
  refine ok_get1D (ok_imp h ?_)
  rintro x τ1 ⟨ms, rfl, h⟩
  refine ⟨_, rfl, ok_imp h ?_⟩
  rintro k τ2 ⟨kk, rfl, h⟩
  refine ⟨ask_moves ms kk, ?_⟩
  rw [look_moves]
  cases hm : lookM ms kk <;> rw [hm] at h <;> exact h
theorem v_mvs {P : List Mv → Prop} (ms : List Mv) (h : P ms) : ∃ ms', movesT ms = movesT ms' ∧ P ms' := ⟨_, rfl, h⟩
theorem v_kk {P : Str × Str → Prop} (k : Str × Str) (h : P k) : ∃ k', keyT k = keyT k' ∧ P k' := ⟨_, rfl, h⟩
def memO : Option Str → List Str → Bool
  | none, _ => false
  | some z, zs => decide (z ∈ zs)
theorem memO_sort (o : Option Str) (zs : List Str) : memO o (sSort zs) = memO o zs := by
  cases o with
  | none => rfl
  | some z => exact decide_eq_decide.mpr sSort_mem
theorem v_inO (o : Option Str) (zs : List Str) : oIn (encO o) (strsT zs) = some (.bl (memO o zs)) := by
  cases o with
  | some z => exact in_strs z zs
  | none =>
    show ((if isScal T.non = true ∧ (zs.map T.str).all isScal = true then some ((zs.map T.str).any fun y => tEq y T.non) else none).map T.bl) = _
    rw [if_pos ⟨rfl, all_scal zs⟩]
    have : ((zs.map T.str).any fun y => tEq y T.non) = false := by
      induction zs with
      | nil => rfl
      | cons z zs ih => rw [List.map_cons, List.any_cons, ih]; rfl
    rw [this]; rfl
theorem v_imS {P : Prop} {s : Str} (h : P) : imm (.str s) = true ∧ P := ⟨rfl, h⟩
theorem v_imI {P : Prop} {s : Int} (h : P) : imm (.int s) = true ∧ P := ⟨rfl, h⟩
theorem v_imN {P : Prop} (h : P) : imm .non = true ∧ P := ⟨rfl, h⟩
theorem v_imB {P : Prop} {s : Bool} (h : P) : imm (.bl s) = true ∧ P := ⟨rfl, h⟩
theorem v_imO {P : Prop} {o : Option Str} (h : P) : imm (encO o) = true ∧ P := ⟨by cases o <;> rfl, h⟩
theorem v_imK {P : Prop} {k : Str × Str} (h : P) : imm (keyT k) = true ∧ P := ⟨rfl, h⟩
theorem imms_strs' (zs : List Str) : imms (zs.map T.str) = true := imms_strs zs
theorem v_imR {P : Prop} {zs : List Str} (h : P) : imm (rowT zs) = true ∧ P := ⟨imms_strs zs, h⟩
theorem v_list (zs : List Str) : fList [strsT zs] = some (zs.map .str) := rfl
theorem v_listR (zs : List Str) : fList [rowT zs] = some (zs.map .str) := rfl
theorem v_el (zs : List Str) : oElems (strsT zs) = some (zs.map .str) := rfl
theorem v_elR (zs : List Str) : oElems (rowT zs) = some (zs.map .str) := rfl
theorem v_lst0 : oLst [] = some (strsT []) := rfl
theorem strs_snoc (zs : List Str) (z : Str) : strsT (zs ++ [z]) = T.lst (zs.map .str ++ [.str z]) := by unfold strsT; rw [List.map_append]; rfl
theorem ctl_nx {m : M Ctl} {τ : Tau} {Qn : Tau → Prop} {Q' : Ctl → Tau → Prop} (h : Ok m τ fun c τ2 => match c with
    | .nx => Qn τ2
    | _ => False) (hq : ∀ τ2, Qn τ2 → Q' .nx τ2) : Ok m τ Q' := ok_imp h fun c τ2 hh => by
  cases c with
  | nx => exact hq τ2 hh
  | ct => exact hh.elim
  | bk => exact hh.elim
  | rt w => exact hh.elim
theorem plains_strs : ∀ {zs : List Str}, (∀ z ∈ zs, goodS z) → plains (zs.map T.str) = true
  | [], _ => rfl
  | z :: zs, h => by
    show (plain (.str z) && plains (zs.map T.str)) = true
    rw [plain_str (h z (by simp)), plains_strs fun y hy => h y (by simp [hy])]; rfl
theorem deps_strs : ∀ zs : List Str, deps (zs.map T.str) = 0
  | [] => rfl
  | z :: zs => by
    show max 0 (deps (zs.map T.str)) = 0
    rw [deps_strs zs]; rfl
theorem tEqs_strs : ∀ xs ys : List Str, tEqs (xs.map T.str) (ys.map T.str) = decide (xs = ys)
  | [], [] => rfl
  | [], y :: ys => rfl
  | x :: xs, [] => rfl
  | x :: xs, y :: ys => by
    show (decide (x = y) && tEqs (xs.map T.str) (ys.map T.str)) = _
    rw [tEqs_strs xs ys]
    by_cases h1 : x = y <;> by_cases h2 : xs = ys <;> simp [h1, h2]
theorem eqOk_strs {zs : List Str} (h : ∀ z ∈ zs, goodS z) : eqOk (strsT zs) = true := by
  show (plains (zs.map T.str) && decide (deps (zs.map T.str) + 1 ≤ 60)) = true
  rw [plains_strs h, deps_strs]; rfl
theorem eqOk_row {zs : List Str} (h : ∀ z ∈ zs, goodS z) : eqOk (rowT zs) = true := by
  show (plains (zs.map T.str) && decide (deps (zs.map T.str) + 1 ≤ 60)) = true
  rw [plains_strs h, deps_strs]; rfl
theorem cmpOk_of {x y : T} (hx : eqOk x = true) (hy : eqOk y = true) : cmpOk x y = true := by
  unfold cmpOk; rw [hx, hy]; simp
theorem oEq_of {x y : T} (hx : eqOk x = true) (hy : eqOk y = true) : oEq x y = some (.bl (tEq x y)) := by
  unfold oEq; rw [if_pos (cmpOk_of hx hy)]
theorem oNe_of {x y : T} (hx : eqOk x = true) (hy : eqOk y = true) : oNe x y = some (.bl (!tEq x y)) := by
  unfold oNe; rw [if_pos (cmpOk_of hx hy)]
theorem eqL_strs {xs ys : List Str} (hx : ∀ z ∈ xs, goodS z) (hy : ∀ z ∈ ys, goodS z) : oEq (strsT xs) (strsT ys) = some (.bl (decide (xs = ys))) := by
  rw [oEq_of (eqOk_strs hx) (eqOk_strs hy)]; exact congrArg (fun b => some (T.bl b)) (tEqs_strs xs ys)
theorem neL_strs {xs ys : List Str} (hx : ∀ z ∈ xs, goodS z) (hy : ∀ z ∈ ys, goodS z) : oNe (strsT xs) (strsT ys) = some (.bl (!decide (xs = ys))) := by
  rw [oNe_of (eqOk_strs hx) (eqOk_strs hy)]; exact congrArg (fun b => some (T.bl (!b))) (tEqs_strs xs ys)
end
end My
end
section
set_option linter.all false
set_option autoImplicit false
set_option maxHeartbeats 1000000
set_option maxRecDepth 100000
namespace My
open PySem TL TL.Pl
section
local macro_rules | `(tactic| walk_at "g1") => `(tactic| first
  | with_reducible refine ok_seq ?_ | with_reducible refine ok_set ?_ | with_reducible refine ok_ret ?_ | with_reducible refine ok_drop ?_ | with_reducible refine ok_if ?_ | with_reducible refine ok_nx ?_
  | with_reducible refine ok_op2 ?_ | with_reducible refine ok_op1 ?_ | with_reducible refine ok_con ?_ | with_reducible refine ok_get rfl ?_ | with_reducible refine ok_mv rfl ?_
  | with_reducible refine ok_nil ?_ | with_reducible refine ok_cons ?_ | with_reducible refine ok_fnA ?_ | with_reducible refine ok_newA ?_ | with_reducible refine ok_newI ?_ | with_reducible refine ok_toI ?_ | with_reducible refine ok_toS ?_
  | with_reducible refine ok_isa ?_ | with_reducible refine ok_isaI ?_ | with_reducible refine ok_isaO ?_ | with_reducible refine ok_fld ?_ | with_reducible refine ok_chain ?_ | with_reducible refine ok_andM ?_ | with_reducible refine ok_orM ?_ | with_reducible refine ok_notM ?_
  | with_reducible refine ok_callA ?_ | with_reducible refine ok_callL ?_ | with_reducible refine ok_makeA ?_ | with_reducible refine ok_selfA ?_ | with_reducible refine ok_propA ?_
  | with_reducible refine ok_cutN ?_ | with_reducible refine ok_cutI ?_ | with_reducible refine ok_noPart ?_ | with_reducible refine ok_part ?_ | with_reducible refine ok_get1M ?_ | with_reducible refine ok_ifE ?_
  | with_reducible refine ok_tst ?_ | with_reducible refine ok_andT ?_ | with_reducible refine ok_orT ?_ | with_reducible refine ok_notT ?_ | with_reducible refine ok_truT ?_
  | with_reducible refine ok_sSetL ?_ | with_reducible refine ok_sSetI ?_ | with_reducible refine ok_sSet2 ?_ | with_reducible refine ok_appS ?_
  | with_reducible refine ok_sFldM ?_ | with_reducible refine ok_starM ?_
  | with_reducible refine ok_sLc ?_ | with_reducible refine ok_sDc ?_ | with_reducible refine ok_noE ?_
  | with_reducible refine ok_for ?_ | with_reducible refine ok_elems ?_ | with_reducible refine ok_rng1 ?_ | with_reducible refine ok_rng2 ?_ | with_reducible refine ok_enum ?_
  | with_reducible refine ok_clearM ?_ | with_reducible refine ok_sApp2 ?_ | with_reducible refine ok_sClear2 ?_
  | with_reducible refine ok_strM ?_ | with_reducible refine ok_tupA ?_ | with_reducible refine ok_catTA ?_ | with_reducible refine ok_revI ?_ | with_reducible refine ok_inO ?_ | with_reducible refine ok_ixO ?_ | with_reducible refine ok_repM ?_ | with_reducible refine ok_unp ?_ | with_reducible refine ok_putT2 ?_ | with_reducible refine ok_putT3 ?_ | with_reducible refine ok_starFM ?_
  | with_reducible refine w1 (v_p0 _ _ _ _) ?_ | with_reducible refine w1 (v_p1 _ _ _ _) ?_ | with_reducible refine w1 (v_p2 _ _ _ _) ?_ | with_reducible refine w1 (v_p3 _ _ _ _) ?_ | with_reducible refine w1 (v_al _ _ _ _ _) ?_ | with_reducible refine w1 (v_or _ _ _ _ _) ?_ | with_reducible refine w1 (v_ed _ _ _ _ _) ?_ | with_reducible refine w1 (v_en _ _ _ _ _) ?_ | with_reducible refine w1 (v_pl _ _ _ _ _) ?_ | with_reducible refine w1 (v_cm _ _ _ _ _) ?_ | with_reducible refine w1 (v_key _ _) ?_ | with_reducible refine w1 (v_tup0) ?_ | with_reducible refine w1 (v_len _) ?_ | with_reducible refine w1 (v_lenT _) ?_ | with_reducible refine w1 (v_lenM _) ?_ | with_reducible refine w1 (v_lt _ _) ?_ | with_reducible refine w1 (v_le _ _) ?_ | with_reducible refine w1 (v_gt _ _) ?_ | with_reducible refine w1 (v_ge _ _) ?_ | with_reducible refine w1 (v_add _ _) ?_ | with_reducible refine w1 (v_sub _ _) ?_ | with_reducible refine w1 (v_eqI _ _) ?_ | with_reducible refine w1 (v_neI _ _) ?_ | with_reducible refine w1 (v_neS _ _) ?_ | with_reducible refine w1 (eq_strs _ _) ?_ | with_reducible refine w1 (in_strs _ _) ?_ | with_reducible refine w1 (notIn_strs _ _) ?_ | with_reducible refine w1 (key_fst _) ?_ | with_reducible refine w1 (key_snd _) ?_ | with_reducible refine w1 (v_isO _) ?_ | with_reducible refine w1 (v_notO _) ?_ | with_reducible refine w1 (v_isS _) ?_ | with_reducible refine w1 (v_notS _) ?_ | with_reducible refine w1 (v_isN) ?_ | with_reducible refine w1 (v_notN) ?_ | with_reducible refine w1 (v_isI _) ?_ | with_reducible refine w1 (v_notI _) ?_ | with_reducible refine w1 (v_inM _ _) ?_ | with_reducible refine w1 (v_notInM _ _) ?_ | with_reducible refine w1 (v_inO _ _) ?_ | with_reducible refine w1 (v_list _) ?_ | with_reducible refine w1 (v_listR _) ?_ | with_reducible refine w1 (v_el _) ?_ | with_reducible refine w1 (v_elR _) ?_ | with_reducible refine w1 (elems_moves _) ?_ | with_reducible refine w1 (v_lst0) ?_
  | with_reducible refine wb ?_ | with_reducible refine wstr ?_ | with_reducible refine v_mvs _ ?_ | with_reducible refine v_kk _ ?_ | with_reducible refine v_imS ?_ | with_reducible refine v_imI ?_ | with_reducible refine v_imN ?_ | with_reducible refine v_imB ?_ | with_reducible refine v_imO ?_ | with_reducible refine v_imK ?_ | with_reducible refine v_imR ?_
  | with_reducible refine iTrue ?_ | with_reducible refine iFalse ?_ | refine iF (show _ = false from rfl) ?_ | refine iT (show _ = true from rfl) ?_
  | simp only [List.set_cons_zero, List.set_cons_succ]
  | dsimp only)
local macro_rules | `(tactic| walk_at "go") => `(tactic| repeat walk_at "g1")
def runM (ms : List Mv) (s : Option Str) (zs : List Str) : Option Str := zs.foldl (fun o z => o.bind fun s => lookM ms (s, z)) s
theorem runM_snoc (ms : List Mv) (s : Option Str) (zs : List Str) (z : Str) : runM ms s (zs ++ [z]) = (runM ms s zs).bind fun s => lookM ms (s, z) := by
  unfold runM; rw [List.foldl_append]; rfl
theorem runM_none (ms : List Mv) : ∀ zs : List Str, runM ms none zs = none
  | [] => rfl
  | z :: zs => runM_none ms zs
theorem runM_app (ms : List Mv) (s : Option Str) (zs ys : List Str) : runM ms s (zs ++ ys) = runM ms (runM ms s zs) ys := by unfold runM; rw [List.foldl_append]
/-- a list or tuple of texts -/
def IsRow (t : T) (zs : List Str) : Prop := t = strsT zs ∨ t = rowT zs
theorem IsRow.el {t : T} {zs : List Str} (h : IsRow t zs) : oElems t = some (zs.map .str) := by rcases h with rfl | rfl <;> rfl
theorem IsRow.len {t : T} {zs : List Str} (h : IsRow t zs) : fLen [t] = some (.int zs.length) := by
  rcases h with rfl | rfl
  · exact v_len zs
  · exact v_lenT zs
theorem IsRow.list {t : T} {zs : List Str} (h : IsRow t zs) : fList [t] = some (zs.map .str) := by rcases h with rfl | rfl <;> rfl
theorem num_enc (zs : List Str) : numbered (zs.map T.str) = zs.zipIdx.map fun p => T.tup [.int p.2, .str p.1] := num_strs zs 0
theorem IsRow.num {t : T} {zs : List Str} (h : IsRow t zs) : fEnum [t] = some (zs.zipIdx.map fun p => T.tup [.int p.2, .str p.1]) := by
  rcases h with rfl | rfl
  · show some (numbered (zs.map T.str)) = _; rw [num_enc]
  · show some (numbered (zs.map T.str)) = _; rw [num_enc]
theorem is_items_any {t : T} {zs : List Str} (h : IsRow t zs) : Fok f_is_items [t] fun w _ => w = .bl true := by
  refine fok_at (τ0 := [some _]) rfl ?_
  unfold st_is_items
  walk_at "go"
  rcases h with rfl | rfl <;> exact ⟨_, rfl, rfl⟩
def rightM (ms : List Mv) (s : Str) (fins zs : List Str) : Bool := memO (runM ms (some s) zs) fins
end
section
local macro_rules | `(tactic| walk_at "g1") => `(tactic| first
  | with_reducible refine ok_seq ?_ | with_reducible refine ok_set ?_ | with_reducible refine ok_ret ?_ | with_reducible refine ok_drop ?_ | with_reducible refine ok_if ?_ | with_reducible refine ok_nx ?_
  | with_reducible refine ok_op2 ?_ | with_reducible refine ok_op1 ?_ | with_reducible refine ok_con ?_ | with_reducible refine ok_get rfl ?_ | with_reducible refine ok_mv rfl ?_
  | with_reducible refine ok_nil ?_ | with_reducible refine ok_cons ?_ | with_reducible refine ok_fnA ?_ | with_reducible refine ok_newA ?_ | with_reducible refine ok_newI ?_ | with_reducible refine ok_toI ?_ | with_reducible refine ok_toS ?_
  | with_reducible refine ok_isa ?_ | with_reducible refine ok_isaI ?_ | with_reducible refine ok_isaO ?_ | with_reducible refine ok_fld ?_ | with_reducible refine ok_chain ?_ | with_reducible refine ok_andM ?_ | with_reducible refine ok_orM ?_ | with_reducible refine ok_notM ?_
  | with_reducible refine ok_callA ?_ | with_reducible refine ok_callL ?_ | with_reducible refine ok_makeA ?_ | with_reducible refine ok_selfA ?_ | with_reducible refine ok_propA ?_
  | with_reducible refine ok_cutN ?_ | with_reducible refine ok_cutI ?_ | with_reducible refine ok_noPart ?_ | with_reducible refine ok_part ?_ | with_reducible refine ok_get1M ?_ | with_reducible refine ok_ifE ?_
  | with_reducible refine ok_tst ?_ | with_reducible refine ok_andT ?_ | with_reducible refine ok_orT ?_ | with_reducible refine ok_notT ?_ | with_reducible refine ok_truT ?_
  | with_reducible refine ok_sSetL ?_ | with_reducible refine ok_sSetI ?_ | with_reducible refine ok_sSet2 ?_ | with_reducible refine ok_appS ?_
  | with_reducible refine ok_sFldM ?_ | with_reducible refine ok_starM ?_
  | with_reducible refine ok_sLc ?_ | with_reducible refine ok_sDc ?_ | with_reducible refine ok_noE ?_
  | with_reducible refine ok_for ?_ | with_reducible refine ok_elems ?_ | with_reducible refine ok_rng1 ?_ | with_reducible refine ok_rng2 ?_ | with_reducible refine ok_enum ?_
  | with_reducible refine ok_clearM ?_ | with_reducible refine ok_sApp2 ?_ | with_reducible refine ok_sClear2 ?_
  | with_reducible refine ok_strM ?_ | with_reducible refine ok_tupA ?_ | with_reducible refine ok_catTA ?_ | with_reducible refine ok_revI ?_ | with_reducible refine ok_inO ?_ | with_reducible refine ok_ixO ?_ | with_reducible refine ok_repM ?_ | with_reducible refine ok_unp ?_ | with_reducible refine ok_putT2 ?_ | with_reducible refine ok_putT3 ?_ | with_reducible refine ok_starFM ?_
  | with_reducible refine w1 (v_p0 _ _ _ _) ?_ | with_reducible refine w1 (v_p1 _ _ _ _) ?_ | with_reducible refine w1 (v_p2 _ _ _ _) ?_ | with_reducible refine w1 (v_p3 _ _ _ _) ?_ | with_reducible refine w1 (v_al _ _ _ _ _) ?_ | with_reducible refine w1 (v_or _ _ _ _ _) ?_ | with_reducible refine w1 (v_ed _ _ _ _ _) ?_ | with_reducible refine w1 (v_en _ _ _ _ _) ?_ | with_reducible refine w1 (v_pl _ _ _ _ _) ?_ | with_reducible refine w1 (v_cm _ _ _ _ _) ?_ | with_reducible refine w1 (v_key _ _) ?_ | with_reducible refine w1 (v_tup0) ?_ | with_reducible refine w1 (v_len _) ?_ | with_reducible refine w1 (v_lenT _) ?_ | with_reducible refine w1 (v_lenM _) ?_ | with_reducible refine w1 (v_lt _ _) ?_ | with_reducible refine w1 (v_le _ _) ?_ | with_reducible refine w1 (v_gt _ _) ?_ | with_reducible refine w1 (v_ge _ _) ?_ | with_reducible refine w1 (v_add _ _) ?_ | with_reducible refine w1 (v_sub _ _) ?_ | with_reducible refine w1 (v_eqI _ _) ?_ | with_reducible refine w1 (v_neI _ _) ?_ | with_reducible refine w1 (v_neS _ _) ?_ | with_reducible refine w1 (eq_strs _ _) ?_ | with_reducible refine w1 (in_strs _ _) ?_ | with_reducible refine w1 (notIn_strs _ _) ?_ | with_reducible refine w1 (key_fst _) ?_ | with_reducible refine w1 (key_snd _) ?_ | with_reducible refine w1 (v_isO _) ?_ | with_reducible refine w1 (v_notO _) ?_ | with_reducible refine w1 (v_isS _) ?_ | with_reducible refine w1 (v_notS _) ?_ | with_reducible refine w1 (v_isN) ?_ | with_reducible refine w1 (v_notN) ?_ | with_reducible refine w1 (v_isI _) ?_ | with_reducible refine w1 (v_notI _) ?_ | with_reducible refine w1 (v_inM _ _) ?_ | with_reducible refine w1 (v_notInM _ _) ?_ | with_reducible refine w1 (v_inO _ _) ?_ | with_reducible refine w1 (v_list _) ?_ | with_reducible refine w1 (v_listR _) ?_ | with_reducible refine w1 (v_el _) ?_ | with_reducible refine w1 (v_elR _) ?_ | with_reducible refine w1 (elems_moves _) ?_ | with_reducible refine w1 (v_lst0) ?_
  | with_reducible refine wb ?_ | with_reducible refine wstr ?_ | with_reducible refine v_mvs _ ?_ | with_reducible refine v_kk _ ?_ | with_reducible refine v_imS ?_ | with_reducible refine v_imI ?_ | with_reducible refine v_imN ?_ | with_reducible refine v_imB ?_ | with_reducible refine v_imO ?_ | with_reducible refine v_imK ?_ | with_reducible refine v_imR ?_
  | with_reducible refine iTrue ?_ | with_reducible refine iFalse ?_ | refine iF (show _ = false from rfl) ?_ | refine iT (show _ = true from rfl) ?_
  | simp only [List.set_cons_zero, List.set_cons_succ]
  | dsimp only)
local macro_rules | `(tactic| walk_at "go") => `(tactic| repeat walk_at "g1")
theorem look_in {ms : List Mv} {toks : List Str} {sts : List Str} (hma : ∀ e ∈ ms, e.1.1 ∈ sts ∧ e.2 ∈ sts) {k : Str × Str} {u : Str} (h : lookM ms k = some u) : u ∈ sts := by
  unfold lookM at h
  cases hf : ms.find? (fun e => decide (e.1 = k)) with
  | none => rw [hf] at h; cases h
  | some e =>
    rw [hf] at h
    cases h
    exact (hma e (List.mem_of_find?_eq_some hf)).2
theorem v_getM {ms : List Mv} {k : Str × Str} {u : Str} (h : lookM ms k = some u) : oGet (movesT ms) (keyT k) = some (.str u) := get_moves2 h
end
section
local macro_rules | `(tactic| walk_at "g1") => `(tactic| first
  | with_reducible refine ok_seq ?_ | with_reducible refine ok_set ?_ | with_reducible refine ok_ret ?_ | with_reducible refine ok_drop ?_ | with_reducible refine ok_if ?_ | with_reducible refine ok_nx ?_
  | with_reducible refine ok_op2 ?_ | with_reducible refine ok_op1 ?_ | with_reducible refine ok_con ?_ | with_reducible refine ok_get rfl ?_ | with_reducible refine ok_mv rfl ?_
  | with_reducible refine ok_nil ?_ | with_reducible refine ok_cons ?_ | with_reducible refine ok_fnA ?_ | with_reducible refine ok_newA ?_ | with_reducible refine ok_newI ?_ | with_reducible refine ok_toI ?_ | with_reducible refine ok_toS ?_
  | with_reducible refine ok_isa ?_ | with_reducible refine ok_isaI ?_ | with_reducible refine ok_isaO ?_ | with_reducible refine ok_fld ?_ | with_reducible refine ok_chain ?_ | with_reducible refine ok_andM ?_ | with_reducible refine ok_orM ?_ | with_reducible refine ok_notM ?_
  | with_reducible refine ok_callA ?_ | with_reducible refine ok_callL ?_ | with_reducible refine ok_makeA ?_ | with_reducible refine ok_selfA ?_ | with_reducible refine ok_propA ?_
  | with_reducible refine ok_cutN ?_ | with_reducible refine ok_cutI ?_ | with_reducible refine ok_noPart ?_ | with_reducible refine ok_part ?_ | with_reducible refine ok_get1M ?_ | with_reducible refine ok_ifE ?_
  | with_reducible refine ok_tst ?_ | with_reducible refine ok_andT ?_ | with_reducible refine ok_orT ?_ | with_reducible refine ok_notT ?_ | with_reducible refine ok_truT ?_
  | with_reducible refine ok_sSetL ?_ | with_reducible refine ok_sSetI ?_ | with_reducible refine ok_sSet2 ?_ | with_reducible refine ok_appS ?_
  | with_reducible refine ok_sFldM ?_ | with_reducible refine ok_starM ?_
  | with_reducible refine ok_sLc ?_ | with_reducible refine ok_sDc ?_ | with_reducible refine ok_noE ?_
  | with_reducible refine ok_for ?_ | with_reducible refine ok_elems ?_ | with_reducible refine ok_rng1 ?_ | with_reducible refine ok_rng2 ?_ | with_reducible refine ok_enum ?_
  | with_reducible refine ok_clearM ?_ | with_reducible refine ok_sApp2 ?_ | with_reducible refine ok_sClear2 ?_
  | with_reducible refine ok_strM ?_ | with_reducible refine ok_tupA ?_ | with_reducible refine ok_catTA ?_ | with_reducible refine ok_revI ?_ | with_reducible refine ok_inO ?_ | with_reducible refine ok_ixO ?_ | with_reducible refine ok_repM ?_ | with_reducible refine ok_unp ?_ | with_reducible refine ok_putT2 ?_ | with_reducible refine ok_putT3 ?_ | with_reducible refine ok_starFM ?_
  | with_reducible refine w1 (v_p0 _ _ _ _) ?_ | with_reducible refine w1 (v_p1 _ _ _ _) ?_ | with_reducible refine w1 (v_p2 _ _ _ _) ?_ | with_reducible refine w1 (v_p3 _ _ _ _) ?_ | with_reducible refine w1 (v_al _ _ _ _ _) ?_ | with_reducible refine w1 (v_or _ _ _ _ _) ?_ | with_reducible refine w1 (v_ed _ _ _ _ _) ?_ | with_reducible refine w1 (v_en _ _ _ _ _) ?_ | with_reducible refine w1 (v_pl _ _ _ _ _) ?_ | with_reducible refine w1 (v_cm _ _ _ _ _) ?_ | with_reducible refine w1 (v_key _ _) ?_ | with_reducible refine w1 (v_tup0) ?_ | with_reducible refine w1 (v_len _) ?_ | with_reducible refine w1 (v_lenT _) ?_ | with_reducible refine w1 (v_lenM _) ?_ | with_reducible refine w1 (v_lt _ _) ?_ | with_reducible refine w1 (v_le _ _) ?_ | with_reducible refine w1 (v_gt _ _) ?_ | with_reducible refine w1 (v_ge _ _) ?_ | with_reducible refine w1 (v_add _ _) ?_ | with_reducible refine w1 (v_sub _ _) ?_ | with_reducible refine w1 (v_eqI _ _) ?_ | with_reducible refine w1 (v_neI _ _) ?_ | with_reducible refine w1 (v_neS _ _) ?_ | with_reducible refine w1 (eq_strs _ _) ?_ | with_reducible refine w1 (in_strs _ _) ?_ | with_reducible refine w1 (notIn_strs _ _) ?_ | with_reducible refine w1 (key_fst _) ?_ | with_reducible refine w1 (key_snd _) ?_ | with_reducible refine w1 (v_isO _) ?_ | with_reducible refine w1 (v_notO _) ?_ | with_reducible refine w1 (v_isS _) ?_ | with_reducible refine w1 (v_notS _) ?_ | with_reducible refine w1 (v_isN) ?_ | with_reducible refine w1 (v_notN) ?_ | with_reducible refine w1 (v_isI _) ?_ | with_reducible refine w1 (v_notI _) ?_ | with_reducible refine w1 (v_inM _ _) ?_ | with_reducible refine w1 (v_notInM _ _) ?_ | with_reducible refine w1 (v_inO _ _) ?_ | with_reducible refine w1 (v_list _) ?_ | with_reducible refine w1 (v_listR _) ?_ | with_reducible refine w1 (v_el _) ?_ | with_reducible refine w1 (v_elR _) ?_ | with_reducible refine w1 (elems_moves _) ?_ | with_reducible refine w1 (v_lst0) ?_
  | with_reducible refine wb ?_ | with_reducible refine wstr ?_ | with_reducible refine v_mvs _ ?_ | with_reducible refine v_kk _ ?_ | with_reducible refine v_imS ?_ | with_reducible refine v_imI ?_ | with_reducible refine v_imN ?_ | with_reducible refine v_imB ?_ | with_reducible refine v_imO ?_ | with_reducible refine v_imK ?_ | with_reducible refine v_imR ?_
  | with_reducible refine iTrue ?_ | with_reducible refine iFalse ?_ | refine iF (show _ = false from rfl) ?_ | refine iT (show _ = true from rfl) ?_
  | simp only [List.set_cons_zero, List.set_cons_succ]
  | dsimp only)
local macro_rules | `(tactic| walk_at "go") => `(tactic| repeat walk_at "g1")
theorem str_ext {x y : Str} (h : x.cps.toList = y.cps.toList) : x = y := by
  cases x; cases y
  simp only at h
  congr 1
  exact Array.toList_inj.mp h
theorem str_assoc (x y z : Str) : x ++ y ++ z = x ++ (y ++ z) := str_ext (by rw [app_list, app_list, app_list, app_list, List.append_assoc])
theorem str_len (x : Str) : x.length = x.cps.toList.length := by rfl
theorem app_len (x y : Str) : (x ++ y).length = x.length + y.length := by rw [str_len, str_len, str_len, app_list, List.length_append]
abbrev spS : Str := PySem.Str.ofString " "
theorem join_cons2 (a x y : Str) (r : List Str) : Str.join a (x :: y :: r) = x ++ a ++ Str.join a (y :: r) := rfl
theorem join_len (a : Str) : ∀ ys : List Str, (Str.join a ys).length ≤ (ys.map (·.length)).sum + ys.length * a.length
  | [] => Nat.zero_le _
  | [x] => by show x.length ≤ _; simp
  | x :: y :: r => by
    rw [join_cons2, app_len, app_len]
    have := join_len a (y :: r)
    simp only [List.map_cons, List.sum_cons, List.length_cons, Nat.succ_mul] at this ⊢
    omega
theorem sum_le {B : Nat} : ∀ {ys : List Str}, (∀ y ∈ ys, y.length ≤ B) → (ys.map (·.length)).sum ≤ ys.length * B
  | [], _ => Nat.zero_le _
  | y :: ys, h => by
    have h1 := h y (by simp)
    have h2 := sum_le (ys := ys) fun z hz => h z (by simp [hz])
    simp only [List.map_cons, List.sum_cons, List.length_cons, Nat.succ_mul]
    omega
theorem joinOk_of {a : Str} {ys : List Str} {B : Nat} (h : ∀ y ∈ ys, y.length ≤ B) (hb : ys.length * B + ys.length * a.length ≤ 16777216) : joinOk a ys = true := by
  unfold joinOk
  have := sum_le h
  exact decide_eq_true (by omega)
theorem fJoin_l {a : Str} {ys : List Str} (h : joinOk a ys = true) : fJoin [.str a, strsT ys] = some (.str (Str.join a ys)) := by
  show ((asStrs (ys.map T.str)).bind fun zs => if joinOk a zs = true then some (T.str (Str.join a zs)) else none) = _
  rw [asStrs_map]
  show (if joinOk a ys = true then some (T.str (Str.join a ys)) else none) = _
  rw [if_pos h]
theorem v_addS {x y : Str} (h : x.length + y.length ≤ 10000) : oAdd (.str x) (.str y) = some (.str (x ++ y)) := by
  have hsz : (10000 : Nat) < szL := by decide
  show (if x.length + y.length ≤ szL then some (T.str (x ++ y)) else none) = _
  rw [if_pos (by omega)]
theorem NameOk.len {z : Str} (h : NameOk z) : z.length ≤ 8 := h.hi
theorem tok_keyT (k : Str × Str) : tok (keyT k) = [.inl 1, .inr k.1.cps.toList, .inl 1, .inr k.2.cps.toList, .inl 0] := rfl
theorem tok_key_inj {k l : Str × Str} (h : tok (keyT k) = tok (keyT l)) : k = l := by
  rw [tok_keyT, tok_keyT] at h
  simp only [List.cons.injEq, Sum.inr.injEq, true_and, and_true] at h
  exact Prod.ext (str_ext h.1) (str_ext h.2)
theorem sort_keys_perm {a b : List (Str × Str)} (h : a.Perm b) : tSort (a.map keyT) = tSort (b.map keyT) := by
  refine tSort_perm (h.map _) ?_
  intro x hx y hy e
  obtain ⟨k, _, rfl⟩ := List.mem_map.mp hx
  obtain ⟨l, _, rfl⟩ := List.mem_map.mp hy
  rw [tok_key_inj e]
theorem fSorted_keys {a ks : List (Str × Str)} (h : ∀ k ∈ a, goodS k.1 ∧ goodS k.2) (e : tSort (a.map keyT) = ks.map keyT) : fSorted [.lst (a.map keyT)] = some (ks.map keyT) := by
  show (if sortOk (a.map keyT) = true then some (tSort (a.map keyT)) else none) = _
  rw [if_pos (sortOk_keys h), e]
theorem imms_keys : ∀ ks : List (Str × Str), imms (ks.map keyT) = true
  | [] => rfl
  | k :: ks => by show (true && imms (ks.map keyT)) = true; rw [imms_keys ks]; rfl
theorem v_listM (ms : List Mv) : fList [movesT ms] = some ((ms.map (·.1)).map keyT) := by
  show some ((ms.map entT).map (·.1)) = _
  rw [List.map_map, List.map_map]; rfl
def lineM (ms : List Mv) (k : Str × Str) : Str := Str.join spS [PySem.Str.ofString "move", k.1, k.2, (lookM ms k).getD ⟨#[]⟩]
def linesM (al : List Str) (o : Str) (ms : List Mv) (ks : List (Str × Str)) (en : List Str) : List Str :=
  Str.join spS (PySem.Str.ofString "tokens" :: al) :: (PySem.Str.ofString "start " ++ o) :: (ks.map (lineM ms) ++ [Str.join spS (PySem.Str.ofString "final" :: en)])
theorem lst_strs2 (a b : Str) : oLst [.str a, .str b] = some (strsT [a, b]) := rfl
theorem lst_strs4 (a b c d : Str) : oLst [.str a, .str b, .str c, .str d] = some (strsT [a, b, c, d]) := rfl
theorem lst_cons {a : Str} {zs : List Str} (h : zs.length ≤ 1000) : oLst (T.str a :: (zs.map T.str ++ [])) = some (strsT (a :: zs)) := by
  have hsz : (10000 : Nat) < szL := by decide
  rw [List.append_nil]
  show (if (T.str a :: zs.map T.str).length ≤ szL then some (T.lst (T.str a :: zs.map T.str)) else none) = _
  rw [if_pos (by simp; omega)]; rfl
theorem v_seq (zs : List Str) : oSeq (strsT zs) = some (zs.map .str) := rfl
end
section
local macro_rules | `(tactic| walk_at "g1") => `(tactic| first
  | with_reducible refine ok_seq ?_ | with_reducible refine ok_set ?_ | with_reducible refine ok_ret ?_ | with_reducible refine ok_drop ?_ | with_reducible refine ok_if ?_ | with_reducible refine ok_nx ?_
  | with_reducible refine ok_op2 ?_ | with_reducible refine ok_op1 ?_ | with_reducible refine ok_con ?_ | with_reducible refine ok_get rfl ?_ | with_reducible refine ok_mv rfl ?_
  | with_reducible refine ok_nil ?_ | with_reducible refine ok_cons ?_ | with_reducible refine ok_fnA ?_ | with_reducible refine ok_newA ?_ | with_reducible refine ok_newI ?_ | with_reducible refine ok_toI ?_ | with_reducible refine ok_toS ?_
  | with_reducible refine ok_isa ?_ | with_reducible refine ok_isaI ?_ | with_reducible refine ok_isaO ?_ | with_reducible refine ok_fld ?_ | with_reducible refine ok_chain ?_ | with_reducible refine ok_andM ?_ | with_reducible refine ok_orM ?_ | with_reducible refine ok_notM ?_
  | with_reducible refine ok_callA ?_ | with_reducible refine ok_callL ?_ | with_reducible refine ok_makeA ?_ | with_reducible refine ok_selfA ?_ | with_reducible refine ok_propA ?_
  | with_reducible refine ok_cutN ?_ | with_reducible refine ok_cutI ?_ | with_reducible refine ok_noPart ?_ | with_reducible refine ok_part ?_ | with_reducible refine ok_get1M ?_ | with_reducible refine ok_ifE ?_
  | with_reducible refine ok_tst ?_ | with_reducible refine ok_andT ?_ | with_reducible refine ok_orT ?_ | with_reducible refine ok_notT ?_ | with_reducible refine ok_truT ?_
  | with_reducible refine ok_sSetL ?_ | with_reducible refine ok_sSetI ?_ | with_reducible refine ok_sSet2 ?_ | with_reducible refine ok_appS ?_
  | with_reducible refine ok_sFldM ?_ | with_reducible refine ok_starM ?_
  | with_reducible refine ok_sLc ?_ | with_reducible refine ok_sDc ?_ | with_reducible refine ok_noE ?_
  | with_reducible refine ok_for ?_ | with_reducible refine ok_elems ?_ | with_reducible refine ok_rng1 ?_ | with_reducible refine ok_rng2 ?_ | with_reducible refine ok_enum ?_
  | with_reducible refine ok_clearM ?_ | with_reducible refine ok_sApp2 ?_ | with_reducible refine ok_sClear2 ?_
  | with_reducible refine ok_strM ?_ | with_reducible refine ok_tupA ?_ | with_reducible refine ok_catTA ?_ | with_reducible refine ok_revI ?_ | with_reducible refine ok_inO ?_ | with_reducible refine ok_ixO ?_ | with_reducible refine ok_repM ?_ | with_reducible refine ok_unp ?_ | with_reducible refine ok_putT2 ?_ | with_reducible refine ok_putT3 ?_ | with_reducible refine ok_starFM ?_
  | with_reducible refine w1 (v_p0 _ _ _ _) ?_ | with_reducible refine w1 (v_p1 _ _ _ _) ?_ | with_reducible refine w1 (v_p2 _ _ _ _) ?_ | with_reducible refine w1 (v_p3 _ _ _ _) ?_ | with_reducible refine w1 (v_al _ _ _ _ _) ?_ | with_reducible refine w1 (v_or _ _ _ _ _) ?_ | with_reducible refine w1 (v_ed _ _ _ _ _) ?_ | with_reducible refine w1 (v_en _ _ _ _ _) ?_ | with_reducible refine w1 (v_pl _ _ _ _ _) ?_ | with_reducible refine w1 (v_cm _ _ _ _ _) ?_ | with_reducible refine w1 (v_key _ _) ?_ | with_reducible refine w1 (v_tup0) ?_ | with_reducible refine w1 (v_len _) ?_ | with_reducible refine w1 (v_lenT _) ?_ | with_reducible refine w1 (v_lenM _) ?_ | with_reducible refine w1 (v_lt _ _) ?_ | with_reducible refine w1 (v_le _ _) ?_ | with_reducible refine w1 (v_gt _ _) ?_ | with_reducible refine w1 (v_ge _ _) ?_ | with_reducible refine w1 (v_add _ _) ?_ | with_reducible refine w1 (v_sub _ _) ?_ | with_reducible refine w1 (v_eqI _ _) ?_ | with_reducible refine w1 (v_neI _ _) ?_ | with_reducible refine w1 (v_neS _ _) ?_ | with_reducible refine w1 (eq_strs _ _) ?_ | with_reducible refine w1 (in_strs _ _) ?_ | with_reducible refine w1 (notIn_strs _ _) ?_ | with_reducible refine w1 (key_fst _) ?_ | with_reducible refine w1 (key_snd _) ?_ | with_reducible refine w1 (v_isO _) ?_ | with_reducible refine w1 (v_notO _) ?_ | with_reducible refine w1 (v_isS _) ?_ | with_reducible refine w1 (v_notS _) ?_ | with_reducible refine w1 (v_isN) ?_ | with_reducible refine w1 (v_notN) ?_ | with_reducible refine w1 (v_isI _) ?_ | with_reducible refine w1 (v_notI _) ?_ | with_reducible refine w1 (v_inM _ _) ?_ | with_reducible refine w1 (v_notInM _ _) ?_ | with_reducible refine w1 (v_inO _ _) ?_ | with_reducible refine w1 (v_list _) ?_ | with_reducible refine w1 (v_listR _) ?_ | with_reducible refine w1 (v_el _) ?_ | with_reducible refine w1 (v_elR _) ?_ | with_reducible refine w1 (elems_moves _) ?_ | with_reducible refine w1 (v_lst0) ?_
  | with_reducible refine wb ?_ | with_reducible refine wstr ?_ | with_reducible refine v_mvs _ ?_ | with_reducible refine v_kk _ ?_ | with_reducible refine v_imS ?_ | with_reducible refine v_imI ?_ | with_reducible refine v_imN ?_ | with_reducible refine v_imB ?_ | with_reducible refine v_imO ?_ | with_reducible refine v_imK ?_ | with_reducible refine v_imR ?_
  | with_reducible refine iTrue ?_ | with_reducible refine iFalse ?_ | refine iF (show _ = false from rfl) ?_ | refine iT (show _ = true from rfl) ?_
  | simp only [List.set_cons_zero, List.set_cons_succ]
  | dsimp only)
local macro_rules | `(tactic| walk_at "go") => `(tactic| repeat walk_at "g1")
def nameB (z : Str) : Bool := decide (1 ≤ z.length) && (decide (z.length ≤ 8) && z.cps.toList.all fun c => decide (c ∈ abcS.cps.toList))
theorem nameB_ok {z : Str} : nameB z = true ↔ NameOk z := by
  unfold nameB
  simp only [Bool.and_eq_true, decide_eq_true_eq, List.all_eq_true]
  constructor
  · rintro ⟨h1, h2, h3⟩
    refine ⟨h1, h2, fun c hc => ?_⟩
    have := h3 c hc
    rw [abc_list, List.mem_range'_1] at this
    omega
  · rintro h
    refine ⟨h.lo, h.hi, fun c hc => ?_⟩
    have := h.abc c hc
    rw [abc_list, List.mem_range'_1]
    omega
theorem is_name_str {z : Str} (hz : z.length ≤ 1000) : Fok f_is_name [.str z] fun w _ => w = .bl (nameB z) := by
  have hsz : (10000 : Nat) < szL := by decide
  refine fok_at (τ0 := [some _, none]) rfl ?_
  unfold st_is_name
  walk_at "go"
  refine w1 (a := .bl true) rfl ?_
  walk_at "go"
  refine ⟨.int z.length, ?_, decide ((1 : Int) ≤ z.length), rfl, ?_⟩
  · show (if z.length ≤ szL then some (T.int z.length) else none) = _
    rw [if_pos (by omega)]
  by_cases h1 : 1 ≤ z.length
  · refine iT (decide_eq_true (by omega)) ?_
    walk_at "go"
    by_cases h8 : z.length ≤ 8
    · refine iF (by rw [decide_eq_true (by omega)]; rfl) ?_
      walk_at "go"
      refine w1 (a := z.cps.toList.map fun c => T.str ⟨#[c]⟩) rfl ?_
      refine ok_walk (fun done τ => (∀ c ∈ done, c ∈ abcS.cps.toList) ∧ ∃ y, τ = [some (.str z), y]) ⟨by simp, none, rfl⟩ ?_ ?_
      · rintro done c r τ e ⟨hd, y, rfl⟩
        refine ok_put ?_
        walk_at "go"
        refine w1 (a := .bl (!decide (c ∈ abcS.cps.toList))) rfl ?_
        walk_at "go"
        by_cases hc : c ∈ abcS.cps.toList
        · refine iF (by rw [decide_eq_true hc]; rfl) ?_
          walk_at "go"
          refine ⟨?_, _, rfl⟩
          intro d hdd
          rcases List.mem_append.mp hdd with h | h
          · exact hd d h
          · simp at h; rw [h]; exact hc
        · refine iT (by rw [decide_eq_false hc]; rfl) ?_
          walk_at "go"
          unfold nameB
          have : (z.cps.toList.all fun c => decide (c ∈ abcS.cps.toList)) = false := List.all_eq_false.mpr ⟨c, by rw [← e]; simp, by simp only [decide_eq_true_eq]; exact hc⟩
          rw [this]; simp
      · rintro τ ⟨hd, y, rfl⟩
        walk_at "go"
        unfold nameB
        rw [decide_eq_true h1, decide_eq_true h8, List.all_eq_true.mpr fun c hc => decide_eq_true (hd c hc)]; rfl
    · refine iT (by rw [decide_eq_false (by omega)]; rfl) ?_
      walk_at "go"
      unfold nameB
      rw [decide_eq_false h8]; simp
  · refine iF (decide_eq_false (by omega)) ?_
    walk_at "go"
    unfold nameB
    rw [decide_eq_false h1]; simp
theorem is_name_no {x : T} (h : oIsAI [nM] x ["str"] = some (.bl false)) : Fok f_is_name [x] fun w _ => w = .bl false := by
  refine fok_at (τ0 := [some _, none]) rfl ?_
  unfold st_is_name
  walk_at "go"
  refine w1 h ?_
  walk_at "go"
/-- neither a name nor a pair -/
def Odd (t : T) : Prop := (∃ z, t = .str z ∧ z.length ≤ 1000 ∧ nameB z = false) ∨ (oIsAI [nM] t ["str"] = some (.bl false) ∧ (oIsAI [nM] t ["tuple"] = some (.bl false) ∨ ∃ u, t = .tup [u]))
theorem Odd.name {t : T} (h : Odd t) : Fok f_is_name [t] fun w _ => w = .bl false := by
  rcases h with ⟨z, rfl, hz, hn⟩ | ⟨h, _⟩
  · rw [← hn]; exact is_name_str hz
  · exact is_name_no h
theorem getitem_no {al en pl : List Str} {o : Str} {ed : List Mv} {x : T} (h : oIsAI [nM] x ["tuple"] = some (.bl false)) : Fok f_Machine___getitem__ [machT al o ed en pl, x] fun w _ => w = .non := by
  refine fok_at (τ0 := [some _, some _]) rfl ?_
  unfold st_Machine___getitem__
  walk_at "go"
  refine w1 h ?_
  walk_at "go"
theorem getitem_len {al en pl : List Str} {o : Str} {ed : List Mv} {xs : List T} (h : xs.length ≠ 2) : Fok f_Machine___getitem__ [machT al o ed en pl, .tup xs] fun w _ => w = .non := by
  refine fok_at (τ0 := [some _, some _]) rfl ?_
  unfold st_Machine___getitem__
  walk_at "go"
  refine w1 (a := .bl true) rfl ?_
  walk_at "go"
  refine w1 (a := .int xs.length) rfl ?_
  walk_at "go"
  refine iT (by rw [decide_eq_false (by omega)]; rfl) ?_
  walk_at "go"
theorem getitem_bad {al en pl : List Str} {o : Str} {ed : List Mv} {x y : T} (h : (∃ b, Fok f_is_name [x] (fun w _ => w = .bl b) ∧ (b = true → Fok f_is_name [y] fun w _ => w = .bl false))) : Fok f_Machine___getitem__ [machT al o ed en pl, .tup [x, y]] fun w _ => w = .non := by
  obtain ⟨b, h1, h2⟩ := h
  refine fok_at (τ0 := [some _, some _]) rfl ?_
  unfold st_Machine___getitem__
  walk_at "go"
  refine w1 (a := .bl true) rfl ?_
  walk_at "go"
  refine w1 (a := .int 2) rfl ?_
  walk_at "go"
  refine w1 (a := x) rfl ?_
  walk_at "go"
  refine fok_imp h1 ?_
  rintro _ _ rfl
  walk_at "go"
  cases b with
  | false => walk_at "go"
  | true =>
    walk_at "go"
    refine w1 (a := y) rfl ?_
    walk_at "go"
    refine fok_imp (h2 rfl) ?_
    rintro _ _ rfl
    walk_at "go"
theorem getitem_key {al en pl : List Str} {o : Str} {ed : List Mv} {k : Str × Str} (h1 : NameOk k.1) (h2 : NameOk k.2) : Fok f_Machine___getitem__ [machT al o ed en pl, keyT k] fun w _ => w = encO (lookM ed k) := by
  refine fok_at (τ0 := [some _, some _]) rfl ?_
  unfold st_Machine___getitem__
  walk_at "go"
  refine w1 (a := .bl true) rfl ?_
  walk_at "go"
  refine w1 (a := .int 2) rfl ?_
  walk_at "go"
  refine fok_imp (is_name_ok h1) ?_
  rintro _ _ rfl
  walk_at "go"
  refine fok_imp (is_name_ok h2) ?_
  rintro _ _ rfl
  walk_at "go"
def freshS : List Str := ["qa", "qb", "qc", "qd", "qe", "qf", "qg", "qh", "qi", "qj", "qk", "ql", "qm", "qn", "qo"].map PySem.Str.ofString
theorem fresh_nd : freshS.Nodup := by decide +kernel
theorem fresh_name : ∀ z ∈ freshS, NameOk z := by
  have h : freshS.all nameB = true := by decide +kernel
  intro z hz
  exact nameB_ok.mp (List.all_eq_true.mp h z hz)
theorem fresh_ok {zs : List Str} (h : zs.length < 15) : Fok f__law_fresh [strsT zs] fun w _ => ∃ z, w = .str z ∧ z ∉ zs ∧ NameOk z := by
  have hsz : (10000 : Nat) < szL := by decide
  refine fok_at (τ0 := [some _, none, none]) rfl ?_
  unfold st__law_fresh
  walk_at "go"
  refine w1 (a := strsT freshS) rfl ?_
  walk_at "go"
  have hfl : freshS.length = 15 := by decide +kernel
  refine ok_lcP (fun z => !decide (z ∈ zs)) .str rfl (by omega) ?_ ?_
  · intro x hx
    refine ok_put ?_
    walk_at "go"
    refine ⟨by first | rfl | trivial, ?_⟩
    refine iB (fun _ => ?_) (fun _ => rfl)
    walk_at "go"
    exact ⟨by first | rfl | trivial, rfl⟩
  · cases e : freshS.filter (fun z => !decide (z ∈ zs)) with
    | nil =>
      exfalso
      have hs : ∀ z ∈ freshS, z ∈ zs := fun z hz => by
        have := List.filter_eq_nil_iff.mp e z hz
        simpa using this
      have := fresh_nd.length_le_of_subset hs
      omega
    | cons z r =>
      have hz : z ∈ freshS.filter (fun z => !decide (z ∈ zs)) := by rw [e]; simp
      rw [List.mem_filter] at hz
      walk_at "go"
      exact ⟨.str z, strs_at (zs := z :: r) (k := 0) rfl, z, rfl, by simpa using hz.2, fresh_name z hz.1⟩
end
end My
end
section
set_option linter.all false
set_option autoImplicit false
set_option maxHeartbeats 1000000
set_option maxRecDepth 100000
namespace My
open PySem TL TL.Pl

end My
end
section
set_option linter.all false
set_option autoImplicit false
set_option maxHeartbeats 1000000
set_option maxRecDepth 100000
namespace My
open PySem TL TL.Pl
local macro_rules | `(tactic| walk_at "g1") => `(tactic| first
  | with_reducible refine ok_seq ?_ | with_reducible refine ok_set ?_ | with_reducible refine ok_ret ?_ | with_reducible refine ok_drop ?_ | with_reducible refine ok_if ?_ | with_reducible refine ok_nx ?_
  | with_reducible refine ok_op2 ?_ | with_reducible refine ok_op1 ?_ | with_reducible refine ok_con ?_ | with_reducible refine ok_get rfl ?_ | with_reducible refine ok_mv rfl ?_
  | with_reducible refine ok_nil ?_ | with_reducible refine ok_cons ?_ | with_reducible refine ok_fnA ?_ | with_reducible refine ok_newA ?_ | with_reducible refine ok_newI ?_ | with_reducible refine ok_toI ?_ | with_reducible refine ok_toS ?_
  | with_reducible refine ok_isa ?_ | with_reducible refine ok_isaI ?_ | with_reducible refine ok_isaO ?_ | with_reducible refine ok_fld ?_ | with_reducible refine ok_chain ?_ | with_reducible refine ok_andM ?_ | with_reducible refine ok_orM ?_ | with_reducible refine ok_notM ?_
  | with_reducible refine ok_callA ?_ | with_reducible refine ok_callL ?_ | with_reducible refine ok_makeA ?_ | with_reducible refine ok_selfA ?_ | with_reducible refine ok_propA ?_
  | with_reducible refine ok_cutN ?_ | with_reducible refine ok_cutI ?_ | with_reducible refine ok_noPart ?_ | with_reducible refine ok_part ?_ | with_reducible refine ok_get1M ?_ | with_reducible refine ok_ifE ?_
  | with_reducible refine ok_tst ?_ | with_reducible refine ok_andT ?_ | with_reducible refine ok_orT ?_ | with_reducible refine ok_notT ?_ | with_reducible refine ok_truT ?_
  | with_reducible refine ok_sSetL ?_ | with_reducible refine ok_sSetI ?_ | with_reducible refine ok_sSet2 ?_ | with_reducible refine ok_appS ?_
  | with_reducible refine ok_sFldM ?_ | with_reducible refine ok_starM ?_
  | with_reducible refine ok_sLc ?_ | with_reducible refine ok_sDc ?_ | with_reducible refine ok_noE ?_
  | with_reducible refine ok_for ?_ | with_reducible refine ok_elems ?_ | with_reducible refine ok_rng1 ?_ | with_reducible refine ok_rng2 ?_ | with_reducible refine ok_enum ?_
  | with_reducible refine ok_clearM ?_ | with_reducible refine ok_sApp2 ?_ | with_reducible refine ok_sClear2 ?_
  | with_reducible refine ok_strM ?_ | with_reducible refine ok_tupA ?_ | with_reducible refine ok_catTA ?_ | with_reducible refine ok_revI ?_ | with_reducible refine ok_inO ?_ | with_reducible refine ok_ixO ?_ | with_reducible refine ok_repM ?_ | with_reducible refine ok_unp ?_ | with_reducible refine ok_putT2 ?_ | with_reducible refine ok_putT3 ?_ | with_reducible refine ok_starFM ?_
  | with_reducible refine w1 (v_p0 _ _ _ _) ?_ | with_reducible refine w1 (v_p1 _ _ _ _) ?_ | with_reducible refine w1 (v_p2 _ _ _ _) ?_ | with_reducible refine w1 (v_p3 _ _ _ _) ?_ | with_reducible refine w1 (v_al _ _ _ _ _) ?_ | with_reducible refine w1 (v_or _ _ _ _ _) ?_ | with_reducible refine w1 (v_ed _ _ _ _ _) ?_ | with_reducible refine w1 (v_en _ _ _ _ _) ?_ | with_reducible refine w1 (v_pl _ _ _ _ _) ?_ | with_reducible refine w1 (v_cm _ _ _ _ _) ?_ | with_reducible refine w1 (v_key _ _) ?_ | with_reducible refine w1 (v_tup0) ?_ | with_reducible refine w1 (v_len _) ?_ | with_reducible refine w1 (v_lenT _) ?_ | with_reducible refine w1 (v_lenM _) ?_ | with_reducible refine w1 (v_lt _ _) ?_ | with_reducible refine w1 (v_le _ _) ?_ | with_reducible refine w1 (v_gt _ _) ?_ | with_reducible refine w1 (v_ge _ _) ?_ | with_reducible refine w1 (v_add _ _) ?_ | with_reducible refine w1 (v_sub _ _) ?_ | with_reducible refine w1 (v_eqI _ _) ?_ | with_reducible refine w1 (v_neI _ _) ?_ | with_reducible refine w1 (v_neS _ _) ?_ | with_reducible refine w1 (eq_strs _ _) ?_ | with_reducible refine w1 (in_strs _ _) ?_ | with_reducible refine w1 (notIn_strs _ _) ?_ | with_reducible refine w1 (key_fst _) ?_ | with_reducible refine w1 (key_snd _) ?_ | with_reducible refine w1 (v_isO _) ?_ | with_reducible refine w1 (v_notO _) ?_ | with_reducible refine w1 (v_isS _) ?_ | with_reducible refine w1 (v_notS _) ?_ | with_reducible refine w1 (v_isN) ?_ | with_reducible refine w1 (v_notN) ?_ | with_reducible refine w1 (v_isI _) ?_ | with_reducible refine w1 (v_notI _) ?_ | with_reducible refine w1 (v_inM _ _) ?_ | with_reducible refine w1 (v_notInM _ _) ?_ | with_reducible refine w1 (v_inO _ _) ?_ | with_reducible refine w1 (v_list _) ?_ | with_reducible refine w1 (v_listR _) ?_ | with_reducible refine w1 (v_el _) ?_ | with_reducible refine w1 (v_elR _) ?_ | with_reducible refine w1 (elems_moves _) ?_ | with_reducible refine w1 (v_lst0) ?_
  | with_reducible refine wb ?_ | with_reducible refine wstr ?_ | with_reducible refine v_mvs _ ?_ | with_reducible refine v_kk _ ?_ | with_reducible refine v_imS ?_ | with_reducible refine v_imI ?_ | with_reducible refine v_imN ?_ | with_reducible refine v_imB ?_ | with_reducible refine v_imO ?_ | with_reducible refine v_imK ?_ | with_reducible refine v_imR ?_
  | with_reducible refine iTrue ?_ | with_reducible refine iFalse ?_ | refine iF (show _ = false from rfl) ?_ | refine iT (show _ = true from rfl) ?_
  | simp only [List.set_cons_zero, List.set_cons_succ]
  | dsimp only)
local macro_rules | `(tactic| walk_at "go") => `(tactic| repeat walk_at "g1")
theorem same_opt (n : Nat) (o : Option Str) : Sm (n + 1) (encO o) (encO o) := by
  cases o with
  | some z => exact same_str n z
  | none =>
    refine fok_at (τ0 := [some _, some _, none, none]) rfl ?_
    unfold st__law_same
    walk_at "go"
    rfl
theorem look_iff {a b : List Mv} (na : (a.map (·.1)).Nodup) (nb : (b.map (·.1)).Nodup) (h : ∀ e, e ∈ a ↔ e ∈ b) (k : Str × Str) : lookM a k = lookM b k := by
  by_cases hk : k ∈ a.map (·.1)
  · obtain ⟨e, he, rfl⟩ := List.mem_map.mp hk
    rw [lookM_mem na he, lookM_mem nb ((h e).mp he)]
  · rw [lookM_none hk, lookM_none]
    intro hb
    obtain ⟨e, he, rfl⟩ := List.mem_map.mp hb
    exact hk (List.mem_map_of_mem (f := (·.1)) ((h e).mpr he))
theorem cat_one {xs : List Str} {y : Str} (h : xs.length ≤ 100) : fCat [strsT xs, .lst [.str y]] = some ((xs ++ [y]).map .str) := by
  have hsz : (10000 : Nat) < szL := by decide
  show (if (xs.map T.str).length + 1 ≤ szL then some (xs.map T.str ++ [T.str y]) else none) = _
  rw [if_pos (by rw [List.length_map]; omega), List.map_append]; rfl
def strangeL (z : Str) (deep : T) : List T := [.non, .bl true, .int 0, .str (PySem.Str.ofString ""), .str (PySem.Str.ofString "A"), .str (PySem.Str.ofString "a1"), .str (PySem.Str.ofString "abcdefghi"), .str (PySem.Str.ofString " a"), .int (-7), .lst [.str z], .tup [.str z], .lst [], .dct [], .str (z ++ PySem.Str.ofString " "), .int (10 ^ 30), deep]
theorem strange_odd {z : Str} {deep : T} (hz : NameOk z) (hd : ∃ xs, deep = .lst xs) : ∀ t ∈ strangeL z deep, Odd t := by
  obtain ⟨xs, rfl⟩ := hd
  have hl := hz.hi
  have hno : nameB (z ++ PySem.Str.ofString " ") = false := by
    unfold nameB
    have : ((z ++ PySem.Str.ofString " ").cps.toList.all fun c => decide (c ∈ abcS.cps.toList)) = false := by
      refine List.all_eq_false.mpr ⟨32, ?_, by decide +kernel⟩
      rw [app_list]
      exact List.mem_append_right _ (by decide +kernel)
    rw [this]; simp
  intro t ht
  unfold strangeL at ht
  simp only [List.mem_cons, List.mem_nil_iff, or_false] at ht
  rcases ht with rfl | rfl | rfl | rfl | rfl | rfl | rfl | rfl | rfl | rfl | rfl | rfl | rfl | rfl | rfl | rfl
  · exact .inr ⟨rfl, .inl rfl⟩
  · exact .inr ⟨rfl, .inl rfl⟩
  · exact .inr ⟨rfl, .inl rfl⟩
  · exact .inl ⟨_, rfl, by decide +kernel, by decide +kernel⟩
  · exact .inl ⟨_, rfl, by decide +kernel, by decide +kernel⟩
  · exact .inl ⟨_, rfl, by decide +kernel, by decide +kernel⟩
  · exact .inl ⟨_, rfl, by decide +kernel, by decide +kernel⟩
  · exact .inl ⟨_, rfl, by decide +kernel, by decide +kernel⟩
  · exact .inr ⟨rfl, .inl rfl⟩
  · exact .inr ⟨rfl, .inl rfl⟩
  · exact .inr ⟨rfl, .inr ⟨_, rfl⟩⟩
  · exact .inr ⟨rfl, .inl rfl⟩
  · exact .inr ⟨rfl, .inl rfl⟩
  · refine .inl ⟨_, rfl, ?_, hno⟩
    rw [app_len]
    have : (PySem.Str.ofString " ").length = 1 := by decide
    have : z.length ≤ 8 := hl
    omega
  · exact .inr ⟨rfl, .inl rfl⟩
  · exact .inr ⟨rfl, .inl rfl⟩
theorem strange_ok {cells great : List Int} {c : Int} {z : Str} (h : Good cells great c) (hz : NameOk z) :
    Fok f__law_strange [purseT cells great c, .str z] fun w ps => ∃ great', Odd w ∧ ps = [some (purseT cells great' (c + 1)), some (.str z)] ∧ Good cells great' (c + 1) := by
  have hsz : (10000 : Nat) < szL := by decide
  have hl : z.length ≤ 8 := hz.hi
  refine fok_at (τ0 := [some _, some _, none, none, none]) rfl ?_
  unfold st__law_strange
  walk_at "go"
  refine w1 (a := .lst [.str z]) rfl ?_
  walk_at "go"
  refine ⟨_, fRange1_nat (n := 80) (by omega), ?_⟩
  unfold intsL
  refine ok_walk (fun done τ => ∃ xs y, τ = [some (purseT cells great c), some (.str z), some (.lst xs), y, none]) ⟨_, none, rfl⟩ ?_ ?_
  · rintro done x r τ e ⟨xs, y, rfl⟩
    refine ok_put ?_
    walk_at "go"
    refine w1 (a := .lst [.lst xs]) rfl ?_
    walk_at "go"
    exact ⟨_, _, rfl⟩
  · rintro τ ⟨xs, y, rfl⟩
    walk_at "go"
    refine w1 (a := .int (-7)) rfl ?_
    walk_at "go"
    refine w1 (a := .lst [.non, .bl true, .int 0, .str (PySem.Str.ofString ""), .str (PySem.Str.ofString "A"), .str (PySem.Str.ofString "a1"), .str (PySem.Str.ofString "abcdefghi"), .str (PySem.Str.ofString " a"), .int (-7)]) rfl ?_
    walk_at "go"
    refine w1 (a := .lst [.str z]) rfl ?_
    walk_at "go"
    refine w1 (a := .tup [.str z]) rfl ?_
    walk_at "go"
    refine w1 (v_addS (by have : (PySem.Str.ofString " ").length = 1 := by decide
                          omega)) ?_
    walk_at "go"
    refine w1 (a := .int (10 ^ 30)) rfl ?_
    walk_at "go"
    refine w1 (a := .lst [.lst [.str z], .tup [.str z], .lst [], .dct [], .str (z ++ PySem.Str.ofString " "), .int (10 ^ 30), .lst xs]) rfl ?_
    walk_at "go"
    refine w1 (a := strangeL z (.lst xs)) rfl ?_
    walk_at "go"
    refine w1 (a := .int 16) rfl ?_
    walk_at "go"
    refine ⟨_, rfl, fok_imp (draw_ok h (many := 16) (by omega) (by omega)) ?_⟩
    rintro _ _ ⟨i, g2, rfl, i0, i1, rfl, hg2⟩
    refine ⟨_, rfl, ?_⟩
    obtain ⟨k, rfl⟩ : ∃ k : Nat, i = k := ⟨i.toNat, by omega⟩
    have hk : k < (strangeL z (.lst xs)).length := by show k < 16; omega
    refine ⟨(strangeL z (.lst xs))[k], pyAt_nat (List.getElem?_eq_getElem hk), ?_⟩
    exact ⟨g2, strange_odd hz ⟨xs, rfl⟩ _ (List.getElem_mem hk), rfl, hg2⟩
theorem none_ok {al en pl : List Str} {o : Str} {ed : List Mv} {s z : Str} {t : T} (ht : Odd t) (hs : NameOk s) (hz : NameOk z) : ∀ x ∈ [t, T.tup [.str s], .tup [.str s, t], .tup [t, .str z], .tup [.str s, .str z, .str z], .lst [.str s, .str z], .str s], Fok f_Machine___getitem__ [machT al o ed en pl, x] fun w _ => w = .non := by
  intro x hx
  simp only [List.mem_cons, List.mem_nil_iff, or_false] at hx
  rcases hx with rfl | rfl | rfl | rfl | rfl | rfl | rfl
  · rcases ht with ⟨y, rfl, _, _⟩ | ⟨_, h | ⟨u, rfl⟩⟩
    · exact getitem_no rfl
    · exact getitem_no h
    · exact getitem_len (by simp)
  · exact getitem_len (by simp)
  · exact getitem_bad ⟨true, is_name_ok hs, fun _ => ht.name⟩
  · exact getitem_bad ⟨false, ht.name, fun h => by cases h⟩
  · exact getitem_len (by simp)
  · exact getitem_no rfl
  · exact getitem_no rfl
theorem law_true (ns : List Int) : ∃ τ, f_law [.lst (ns.map .int)] = .ok (.bl true) τ := by
  suffices h : Fok f_law [.lst (ns.map .int)] fun w _ => w = .bl true by
    obtain ⟨w, ps, e, rfl⟩ := h
    exact ⟨ps, e⟩
  have hsz : (10000 : Nat) < szL := by decide
  refine fok_at (τ0 := [some _, none, none, none, none, none, none, none, none, none]) rfl ?_
  unfold st_law
  walk_at "go"
  refine fok_imp (purse_ok ns) ?_
  rintro _ _ ⟨cells, great, rfl, hg⟩
  walk_at "go"
  refine ⟨_, rfl, fok_imp (parts_ok hg (most := 6) (width := 4) (by omega) (by omega) (by omega) (by omega)) ?_⟩
  rintro _ _ ⟨toks, sts, start, ms, fins, g2, c2, rfl, hp, rfl, hg2⟩
  have hml := hp.ml
  have hfl : fins.length ≤ sts.length := hp.fn.length_le_of_subset hp.fk
  have hs1 := hp.s1
  have ht1 := hp.t1
  refine ⟨_, rfl, ?_⟩
  walk_at "go"
  refine fok_imp (states_ok hp (by omega) (by omega)) ?_
  rintro _ _ ⟨found0, rfl, fn0, fm0⟩
  walk_at "go"
  refine fok_imp (copy_ok hp.mn (by omega)) ?_
  rintro _ _ rfl
  walk_at "go"
  refine fok_imp (init_ok hp (by omega) (by omega)) ?_
  rintro _ _ ⟨rfl, t, ed, found, e0, hM⟩
  refine ⟨rfl, t, e0, ?_⟩
  have hMe := hM.eq
  subst hMe
  have hel := hM.len
  have hlk := look_iff hM.nd hp.mn hM.mem
  have hin : ∀ z ∈ found0, z ∈ sts := fun z hz => by
    rcases (fm0 z).mp hz with h | h | ⟨e, he, h | h⟩
    · rw [h]; exact hp.s0
    · exact hp.fk z h
    · rw [h]; exact (hp.ma e he).1
    · rw [h]; exact (hp.ma e he).2
  have hfl0 : found0.length ≤ sts.length := fn0.length_le_of_subset hin
  have hf1 : 1 ≤ found0.length := List.length_pos_of_mem ((fm0 start).mpr (.inl rfl))
  have hSn : ∀ z ∈ sSort found0, NameOk z := fun z hz => hp.sk z (hin z (sSort_mem.mp hz))
  have ht0 := hp.t0
  have hSl := sSort_len found0
  generalize sSort found0 = S at hSn hSl
  generalize hmach : machT (sSort toks) start ed (sSort fins) (sSort found) = mach
  walk_at "go"
  refine fok_imp (fresh_ok (by omega)) ?_
  rintro _ _ ⟨fz, rfl, _, hfz⟩
  walk_at "go"
  refine w1 (a := .lst [.str fz]) rfl ?_
  walk_at "go"
  refine w1 (cat_one (by omega)) ?_
  refine w1 (a := (S ++ [fz]).map .str) rfl ?_
  refine ok_walk (fun done τ => ∃ a b, τ = [some (T.lst (ns.map T.int)), some (purseT cells g2 c2), some (partsT toks start ms fins), some (strsT S), some mach, a, b, none, none, none]) ⟨none, none, rfl⟩ ?_ ?_
  · rintro done s r τ e ⟨a, b, rfl⟩
    have hs : NameOk s := by
      have : s ∈ S ++ [fz] := by rw [← e]; simp
      rcases List.mem_append.mp this with h | h
      · exact hSn s h
      · simp at h; rw [h]; exact hfz
    refine ok_put ?_
    walk_at "go"
    refine fok_imp (fresh_ok (by omega)) ?_
    rintro _ _ ⟨ft, rfl, _, hft⟩
    walk_at "go"
    refine w1 (a := .lst [.str ft]) rfl ?_
    walk_at "go"
    refine w1 (cat_one (by omega)) ?_
    refine w1 (a := (toks ++ [ft]).map .str) rfl ?_
    refine ok_walk (fun done τ => ∃ b, τ = [some (T.lst (ns.map T.int)), some (purseT cells g2 c2), some (partsT toks start ms fins), some (strsT S), some mach, some (.str s), b, none, none, none]) ⟨b, rfl⟩ ?_ ?_
    · rintro done2 z r2 τ e2 ⟨b2, rfl⟩
      have hz : NameOk z := by
        have : z ∈ toks ++ [ft] := by rw [← e2]; simp
        rcases List.mem_append.mp this with h | h
        · exact hp.tk z h
        · simp at h; rw [h]; exact hft
      refine ok_put ?_
      walk_at "go"
      subst hmach
      refine w1 (v_cm _ _ _ _ _) ?_
      refine fok_imp (getitem_key (k := (s, z)) hs hz) ?_
      rintro _ _ rfl
      rw [hlk]
      walk_at "go"
      refine fok_imp (same_opt 8 _) ?_
      rintro _ _ rfl
      walk_at "go"
      exact ⟨_, rfl⟩
    · rintro τ ⟨b2, rfl⟩
      exact ⟨_, _, rfl⟩
  · rintro τ ⟨a, b, rfl⟩
    walk_at "go"
    refine ⟨_, rfl, fok_imp (draw_ok hg2 (many := 6) (by omega) (by omega)) ?_⟩
    rintro _ _ ⟨n, g3, rfl, n0, n1, rfl, hg3⟩
    obtain ⟨n, rfl⟩ : ∃ n' : Nat, n = n' := ⟨n.toNat, by omega⟩
    refine ⟨_, rfl, ?_⟩
    walk_at "go"
    refine ⟨_, (by rw [show (1 + (n : Int)) = ((1 + n : Nat) : Int) by omega]; exact fRange1_nat (by omega)), ?_⟩
    unfold intsL
    refine ok_walk (fun done τ => ∃ g c a b d e f, Good cells g c ∧ τ = [some (T.lst (ns.map T.int)), some (purseT cells g c), some (partsT toks start ms fins), some (strsT S), some mach, a, b, d, e, f]) ⟨g3, _, a, b, none, none, none, hg3, rfl⟩ ?_ ?_
    · rintro done x r τ e ⟨g, c, a, b, d, e', f, hg, rfl⟩
      refine ok_put ?_
      walk_at "go"
      refine ⟨_, rfl, fok_imp (draw_ok hg (many := S.length) (by omega) (by omega)) ?_⟩
      rintro _ _ ⟨i, g4, rfl, i0, i1, rfl, hg4⟩
      refine ⟨_, rfl, ?_⟩
      obtain ⟨s, hs, es⟩ := strs_get (zs := S) i0 i1
      refine w1 es ?_
      walk_at "go"
      refine ⟨_, rfl, fok_imp (strange_ok hg4 (hSn s hs)) ?_⟩
      rintro w _ ⟨g5, hodd, rfl, hg5⟩
      refine ⟨_, rfl, ?_⟩
      walk_at "go"
      have main : ∀ (w : T), Odd w → Ok (sSeq (sSet 6 (op2 oGet (op2 oGet (TL.get 2) (con (.int 0))) (callL f__law_draw 1 0 (consA (TL.get 1) (consA (fnA fLen (consA (op2 oGet (TL.get 2) (con (.int 0))) nilA)) nilA))))) (forS (elems (fnA oLst (consA (TL.get 8) (consA (fnA oTup (consA (TL.get 5) nilA)) (consA (fnA oTup (consA (TL.get 5) (consA (TL.get 8) nilA))) (consA (fnA oTup (consA (TL.get 8) (consA (TL.get 6) nilA))) (consA (fnA oTup (consA (TL.get 5) (consA (TL.get 6) (consA (TL.get 6) nilA)))) (consA (fnA oLst (consA (TL.get 5) (consA (TL.get 6) nilA))) (consA (TL.get 5) nilA))))))))) (put 9)
          (sIf (tst (op2 oNotN (ixO (PySem.Str.ofString "Machine") f_Machine___getitem__ (TL.get 4) (TL.get 9)) (con (.non))))
          (sRet (con (.bl false)))
          sNx))) [some (T.lst (ns.map T.int)), some (purseT cells g5 (c + 1 + 1)), some (partsT toks start ms fins), some (strsT S), some mach, some (.str s), b, some (.int (0 + (x : Int))), some w, f] (fun c τ2 => match c with
          | .nx => ∃ g c a b d e f, Good cells g c ∧ τ2 = [some (T.lst (ns.map T.int)), some (purseT cells g c), some (partsT toks start ms fins), some (strsT S), some mach, a, b, d, e, f]
          | _ => False) := by
        intro w hw
        walk_at "go"
        refine ⟨_, rfl, fok_imp (draw_ok hg5 (many := toks.length) (by omega) (by omega)) ?_⟩
        rintro _ _ ⟨j, g6, rfl, j0, j1, rfl, hg6⟩
        refine ⟨_, rfl, ?_⟩
        obtain ⟨z, hz, ez⟩ := strs_get (zs := toks) j0 j1
        refine w1 ez ?_
        walk_at "go"
        refine w1 (a := .tup [.str s]) rfl ?_
        walk_at "go"
        refine w1 (a := .tup [.str s, w]) rfl ?_
        walk_at "go"
        refine w1 (a := .tup [w, .str z]) rfl ?_
        walk_at "go"
        refine w1 (a := .tup [.str s, .str z, .str z]) rfl ?_
        walk_at "go"
        refine w1 (a := .lst [.str s, .str z]) rfl ?_
        walk_at "go"
        refine w1 (a := .lst [w, T.tup [.str s], .tup [.str s, w], .tup [w, .str z], .tup [.str s, .str z, .str z], .lst [.str s, .str z], .str s]) rfl ?_
        refine w1 (a := [w, T.tup [.str s], .tup [.str s, w], .tup [w, .str z], .tup [.str s, .str z, .str z], .lst [.str s, .str z], .str s].map id) (by rw [List.map_id]; rfl) ?_
        have hall := none_ok (al := sSort toks) (en := sSort fins) (pl := sSort found) (o := start) (ed := ed) hw (hSn s hs) (hp.tk z hz)
        generalize [w, T.tup [.str s], .tup [.str s, w], .tup [w, .str z], .tup [.str s, .str z, .str z], .lst [.str s, .str z], .str s] = L at hall
        refine ok_walk (fun done τ => ∃ f, τ = [some (T.lst (ns.map T.int)), some (purseT cells g6 (c + 1 + 1 + 1)), some (partsT toks start ms fins), some (strsT S), some mach, some (.str s), some (.str z), some (.int (0 + (x : Int))), some w, f]) ⟨f, rfl⟩ ?_ ?_
        · rintro done2 u r2 τ e2 ⟨f2, rfl⟩
          refine ok_put ?_
          walk_at "go"
          subst hmach
          refine w1 (v_cm _ _ _ _ _) ?_
          refine fok_imp (hall u (by rw [← e2]; simp)) ?_
          rintro _ _ rfl
          walk_at "go"
          exact ⟨_, rfl⟩
        · rintro τ ⟨f2, rfl⟩
          exact ⟨g6, _, _, _, _, _, _, hg6, rfl⟩
      have hmo : Odd mach := by rw [← hmach]; exact .inr ⟨rfl, .inl rfl⟩
      by_cases hx3 : (0 + (x : Int)) = 3
      · refine iT (decide_eq_true hx3) ?_
        refine ok_set (ok_get rfl ?_)
        refine ctl_nx (main mach hmo) ?_
        exact fun _ h => h
      · refine iF (decide_eq_false hx3) ?_
        refine ok_nx ?_
        refine ctl_nx (main w hodd) ?_
        exact fun _ h => h
    · rintro τ ⟨g, c, a, b, d, e, f, hg, rfl⟩
      walk_at "go"
end My
end
section
set_option Elab.async false
set_option linter.all false
set_option maxRecDepth 100000
set_option maxHeartbeats 4000000
/-! P0: walks over a list or a tuple, enumerate of either -/
namespace PySem
open Sem (wp)
theorem meets_enumerate_new1 {v : Value} {o : Obj} {H : Heap → Prop} (B : Begins v o H) :
    Meets (Builtin.«enumerate.__new__» ⟨[.type "enumerate", v], []⟩) (fun _ R s => H s.heap ∧
      R (.ok (.ret (.ref (s.heap.push o).objs.size))) { s with heap := (s.heap.push o).push { cls := .type "enumerate", data := .fields #[.none, .bool false, .ref s.heap.objs.size, rawInt 0, .none, .none] } }) :=
  .of_wp fun prog w A R s h => by
    obtain ⟨hp, g, d, tk, os⟩ := s; obtain ⟨h1, h⟩ := h
    have hsub := sub_enumerate
    have q1 : ∀ {A' : Around} {E : Value → Shared → Prop} {Q : Value → Shared → Prop}, Q (.ref hp.objs.size) ⟨hp.push o, g, d, tk, os⟩ → wpAny (model prog w) A' (pyIter v) Q E ⟨hp, g, d, tk, os⟩ :=
      fun q => B.iter prog w _ _ ⟨hp, g, d, tk, os⟩ _ h1 q
    wp_walk using q1
    refine wpAny_stack_any fun st => wpAny_pure ?_
    split
    · rename_i c _ _ _ _ _
      cases (c == Value.type "enumerate")
      · wp_walk using q1
        exact ⟨_, rfl, h⟩
      · wp_walk using q1
        exact ⟨_, rfl, h⟩
    · wp_walk using q1
      exact ⟨_, rfl, h⟩
section
variable {prog : Program} {w : World} {A : Around} {E : Value → Shared → Prop} {s : Shared}
theorem enum_begins1 {v : Value} {o : Obj} {H : Heap → Prop} {Q : Value → Shared → Prop} (B : Begins v o H) (h1 : H s.heap)
    (h : ∀ h', IsEnum h' (s.heap.objs.size + 1) s.heap.objs.size 0 .none → h'.get? s.heap.objs.size = some o → h'.objs.size = s.heap.objs.size + 2 →
      (∀ b o, s.heap.get? b = some o → h'.get? b = some o) → Q (.ref (s.heap.objs.size + 1)) { s with heap := h' }) :
    wpAny (model prog w) A (call (.type "enumerate") [v]) Q E s := by
  refine callType_new F.called_enumerate (by decide) (F.typeCall_enumerate_1 _) (F.newCall_enumerate_1 _) (fun obj => F.args_object_init_2 obj _) F.entry_enumerate_new
    (meets_enumerate_new1 B) ⟨h1, ?_⟩
  have hz : (s.heap.push o).objs.size = s.heap.objs.size + 1 := Heap.size_push ..
  show _ ∧ _
  rw [hz]
  have he : IsEnum ((s.heap.push o).push { cls := .type "enumerate", data := .fields #[.none, .bool false, .ref s.heap.objs.size, rawInt 0, .none, .none] }) (s.heap.objs.size + 1) s.heap.objs.size 0 .none := by
    have := Heap.get?_push_size (s.heap.push o) (o := { cls := .type "enumerate", data := .fields #[.none, .bool false, .ref s.heap.objs.size, rawInt 0, .none, .none] }) rfl
    rw [hz] at this; exact this
  refine ⟨⟨_, he, rfl⟩, h _ he (Heap.get?_push_of_some _ (Heap.get?_push_size _ B.free)) (by rw [Heap.size_push, hz]) fun b o x => Heap.get?_push_of_some _ (Heap.get?_push_of_some _ x)⟩
end
end PySem
namespace L2
open PySem PySem.Spec PyProof.Rows
/-- a list or a tuple of xs -/
def Sq (K : PySem.W.Frag) (H : Hp) (a : Addr) (xs : List V) : Prop := SqL K H a xs ∨ SqT K H a xs
theorem SqL.keep {K : PySem.W.Frag} {H H' : Hp} {a : Addr} {xs : List V} (e : ∀ o, H a = some o → H' a = some o) (h : SqL K H a xs) : SqL K H' a xs := by
  rcases h with (h | ⟨o, h⟩) | h
  · exact .inl (.inl (e _ h))
  · exact .inl (.inr ⟨o, e _ h⟩)
  · exact .inr h
theorem SqT.keep {K : PySem.W.Frag} {H H' : Hp} {a : Addr} {xs : List V} (e : ∀ o, H a = some o → H' a = some o) (h : SqT K H a xs) : SqT K H' a xs := by
  rcases h with (h | ⟨o, h⟩) | h
  · exact .inl (.inl (e _ h))
  · exact .inl (.inr ⟨o, e _ h⟩)
  · exact .inr h
theorem Sq.keep {K : PySem.W.Frag} {H H' : Hp} {a : Addr} {xs : List V} (e : ∀ o, H a = some o → H' a = some o) (h : Sq K H a xs) : Sq K H' a xs := h.imp (SqL.keep e) (SqT.keep e)
/-- for x in q, q a list or a tuple -/
def iSeq (K : PySem.W.Frag) (tl : TE) : TI := fun σ H R => tl σ H fun x H1 => ∃ a, x = .ref a ∧ (((∃ xs, SqL K H1 a xs) ∧ R (Itl K a) H1) ∨ ((∃ xs, SqT K H1 a xs) ∧ R (Itt K a) H1))
section
variable {X : Cx} {tg : Expr}
theorem pi_seq {l : Expr} {tl : TE} (hl : PE X l tl) : PI X tg l (iSeq X.K tl) := by
  refine ⟨fun pins s σ H R I h => ?_⟩
  refine thn (hl.run pins s σ H _ I h) fun v s1 ⟨x, H1, I1, r1, q1⟩ => ?_
  obtain ⟨a, e, q1⟩ := q1
  subst e
  cases r1
  rcases q1 with ⟨⟨xs, hq⟩, q⟩ | ⟨⟨xs, hq⟩, q⟩
  · obtain ⟨its, rv, p, hz⟩ := I1.list hq
    refine wpAny_pyIter_list p.isList ?_
    refine ⟨s1.heap.objs.size, [s1.heap.objs.size], _, _, H1, rfl, I1.kept (t' := s1.toks) fun b o e => Heap.get?_push_of_some _ e, turn_list a _, ⟨_, Heap.get?_push_size _ rfl, rfl, rfl⟩, fun b hb => ?_, q⟩
    have e : b = s1.heap.objs.size := by simpa using hb
    subst e
    exact I1.fpOk (Nat.le_refl _) (I1.hok.fresh (Nat.le_refl _))
  · obtain ⟨its, rv, p, hz⟩ := I1.tuple hq
    refine wpAny_pyIter_tuple (show s1.heap.IsTuple a its.toArray from p) ?_
    refine ⟨s1.heap.objs.size, [s1.heap.objs.size], _, _, H1, rfl, I1.kept (t' := s1.toks) fun b o e => Heap.get?_push_of_some _ e, turn_tuple a _, ⟨_, Heap.get?_push_size _ rfl, rfl, rfl⟩, fun b hb => ?_, q⟩
    have e : b = s1.heap.objs.size := by simpa using hb
    subst e
    exact I1.fpOk (Nat.le_refl _) (I1.hok.fresh (Nat.le_refl _))
end
/-- a for over a list or tuple that stands still -/
theorem for_seq {K : PySem.W.Frag} {a : Addr} {xs : List V} {g : TG} {tb : TS} {D : Ends} {σ : St} {H : Hp} (hq : Sq K H a xs) (Pv : Nat → St → Hp → Prop) (h0 : Pv 0 σ H) (hl : ∀ i σ H', i ≤ xs.length → Pv i σ H' → ∀ o, H a = some o → H' a = some o)
    (hs : ∀ i x σ H, xs[i]? = some x → Pv i σ H → g x σ H fun σ2 H2 => tb { D with nx := Pv (i + 1), ct := Pv (i + 1), bk := D.nx } σ2 H2) (hd : ∀ σ H, Pv xs.length σ H → D.nx σ H) :
    tFor (iSeq K (fun _ H Q => Q (.ref a) H)) g tb D σ H := by
  rcases hq with hq | hq
  · exact ⟨a, rfl, .inl ⟨⟨xs, hq⟩, for_list (K := K) (a := a) (xs := xs) Pv h0 (fun i σ H' hi p => hq.keep (hl i σ H' hi p)) hs hd⟩⟩
  · exact ⟨a, rfl, .inr ⟨⟨xs, hq⟩, for_tup (K := K) (a := a) (xs := xs) Pv h0 (fun i σ H' hi p => hq.keep (hl i σ H' hi p)) hs hd⟩⟩
/-- a comprehension over a list or tuple that stands still -/
theorem lc_seq {K : PySem.W.Frag} {a : Addr} {xs : List V} {g : TG} {tt : TT} {te : TE} {vs : List Nat} {σ : St} {H : Hp} {Q : VK} (hq : Sq K H a xs) (Pv : Addr → Nat → Hp → Prop) (h0 : ∀ D, H D = none → Pv D 0 (upd H D (.lst [])))
    (hl : ∀ D i H', H D = none → i ≤ xs.length → Pv D i H' → ∀ o, H a = some o → H' a = some o)
    (hs : ∀ D i x H', H D = none → xs[i]? = some x → Pv D i H' → g x (wipe σ vs) H' fun σ2 H2 => wipe σ2 vs = wipe σ vs ∧ tt σ2 H2 fun b H3 =>
      if b = true then te σ2 H3 fun y H4 => ∃ acc, H4 D = some (.lst acc) ∧ acc.length < sizeLine ∧ Pv D (i + 1) (upd H4 D (.lst (acc ++ [y]))) else Pv D (i + 1) H3) (hd : ∀ D H', H D = none → Pv D xs.length H' → Q (.ref D) H') :
    tLc (iSeq K (fun _ H Q => Q (.ref a) H)) g tt te vs σ H Q := by
  rcases hq with hq | hq
  · refine ⟨a, rfl, .inl ⟨⟨xs, hq⟩, fun D hD => ?_⟩⟩
    exact lc_list (K := K) (a := a) (xs := xs) (Pv D) (h0 D hD) (fun i H' hi p => hq.keep (hl D i H' hD hi p)) (fun i x H' hx p => hs D i x H' hD hx p) (fun H' p => hd D H' hD p)
  · refine ⟨a, rfl, .inr ⟨⟨xs, hq⟩, fun D hD => ?_⟩⟩
    exact lc_tup (K := K) (a := a) (xs := xs) (Pv D) (h0 D hD) (fun i H' hi p => hq.keep (hl D i H' hD hi p)) (fun i x H' hx p => hs D i x H' hD hx p) (fun H' p => hd D H' hD p)
/-! enumerate of a tuple -/
def Ittn (K : PySem.W.Frag) (a : Addr) : It :=
  ⟨fun i H => ∃ (xs : List V) (x : V), SqT K H a xs ∧ xs[i]? = some x, fun i H v H' => ∃ T x, v = .ref T ∧ H T = none ∧ H' = upd H T (.tup [.int (i : Nat), x]) ∧ ∀ xs, SqT K H a xs → xs[i]? = some x, fun i H => ∃ xs : List V, SqT K H a xs ∧ xs.length = i⟩
theorem turn_enumT {P : Program} {w : World} {K : PySem.W.Frag} {elts : List Expr} {kk : Nat} {tpos : Pos} (a e it : Addr) :
    Turn P w K (.Tuple elts kk tpos) (Ittn K a) [e, it] e (fun i h => (∃ old, IsEnum h e it ((i : Nat) : Int) old) ∧ h.IsTupleIter it a i ∧ e ≠ it ∧ a ≠ it ∧ a ≠ e) where
  mem := by simp
  obj := fun i h st b hb => by
    obtain ⟨⟨old, he⟩, ⟨o, ho, hc, hd⟩, _⟩ := st
    have e' : b = e ∨ b = it := by simpa using hb
    rcases e' with z | z
    · rw [z]; exact ⟨_, he, fun v q => nomatch q⟩
    · rw [z]; exact ⟨o, ho, fun v q => by rw [hd] at q; cases q⟩
  keep := fun i h h' st k => let ⟨⟨old, he⟩, hi, hne⟩ := st; ⟨⟨old, k e (by simp) _ he⟩, hi.at fun o q => k it (by simp) o q, hne⟩
  item := by
    intro X hP hw hK hc i pins s σ H E I hf st hg
    subst hP hw hK
    obtain ⟨⟨old, he⟩, hit, hne, hai, hae⟩ := st
    obtain ⟨xs, x, hq, hx⟩ := hg
    obtain ⟨its, rv, p, hz⟩ := I.tuple hq
    obtain ⟨u, hu, ru⟩ := rv.get hx
    have hel : e < s.heap.objs.size := Heap.lt_size he
    have hil : it < s.heap.objs.size := by obtain ⟨_, q, _⟩ := hit; exact Heap.lt_size q
    have p' : s.heap.IsTuple a its.toArray := p
    have D := Draws.tuple (prog := X.prog) (w := X.w) (A := X.A.in1) (I.ok.hd hc) it a hai its.toArray
    have hlt : i < its.toArray.size := by
      have := List.getElem?_eq_some_iff.mp hu
      obtain ⟨z, _⟩ := this
      simpa using z
    refine wpAny_pyNext_enum_itemD D he ⟨hit, p'⟩ hlt hne (by simp; exact ⟨hne, Ne.symm hae⟩) fun x' h' tk hP ho hst' hT hsz hk => ?_
    have ex : x' = u := by
      have q : its.toArray[i]? = some u := by simpa using hu
      exact Option.some.inj (hP.symm.trans q)
    subst ex
    refine ⟨_, rfl, wpAny_letOwnedTupleGo_enum (s := { s with heap := h', toks := tk + 1 }) ho fun h'' he' sb => ?_⟩
    have hT2 : h''.get? s.heap.objs.size = some { cls := .type "tuple", data := .seq #[.int i tk, x'] } := (sb.2 _ (Nat.ne_of_gt hel)).trans hT
    have new : ObjOk X.prog X.w (upd H s.heap.objs.size (.tup [.int (i : Nat), x])) h'' s.heap.objs.size (.tup [.int (i : Nat), x]) :=
      ⟨by show 2 ≤ sizeLine; decide, [.int i tk, x'], .cons ⟨_, rfl⟩ (.cons ru .nil), ⟨_, hT2, rfl, _, rfl⟩⟩
    have I1 : Inv X pins σ (upd H s.heap.objs.size (.tup [.int (i : Nat), x])) { s with heap := h'', toks := tk + 1 } :=
      I.turnedNew (ch := [e, it]) (fun b ob hb q => (sb.2 b (fun z => hb (by simp [z]))).trans (hk b ob (fun z => hb (by simp [z])) (fun z => hb (by simp [z])) q)) hf (Nat.le_refl _) new
    refine ⟨.ref s.heap.objs.size, _, I1, rfl, ⟨_, x, rfl, I.hok.fresh (Nat.le_refl _), rfl, fun ys hy => by rw [I.tuple_inj hy hq]; exact hx⟩, ⟨⟨x', ?_⟩, hst'.1.at fun o q => (sb.2 it (Ne.symm hne)).trans q, hne, hai, hae⟩, fun b hb => ?_⟩
    · have e1 : ((i + 1 : Nat) : Int) = (i : Int) + 1 := by omega
      rw [e1]; exact he'
    · have hb' : b < s.heap.objs.size := by
        have e' : b = e ∨ b = it := by simpa using hb
        rcases e' with z | z
        · rw [z]; exact hel
        · rw [z]; exact hil
      rw [upd_ne (Nat.ne_of_lt hb')]
      exact (hf b hb).1
  done := by
    intro X hP hw hK hc i pins s σ H E I hf st hg
    subst hP hw hK
    obtain ⟨⟨old, he⟩, hit, hne, hai, hae⟩ := st
    obtain ⟨xs, hq, hx⟩ := hg
    obtain ⟨its, rv, p, hz⟩ := I.tuple hq
    obtain ⟨f0, f1, f2, f3, f4, f5⟩ := hf it (by simp)
    have hl := rv.length
    have p' : s.heap.IsTuple a its.toArray := p
    have D := Draws.tuple (prog := X.prog) (w := X.w) (A := X.A.in1) (I.ok.hd hc) it a hai its.toArray
    have ei : i = its.toArray.size := by simp; omega
    subst ei
    exact wpAny_pyNext_enum_endD D he ⟨hit, p'⟩ fun h' eb => ⟨rfl, I.turned (t' := s.toks) (fun b o hb q => eb b o hb q) f0 f1 f3 f4 f5⟩
  self := fun A i s Q E st h => let ⟨⟨_, he⟩, _⟩ := st; wpAny_pyIter_enum he h
/-- enumerate(q), q a list or a tuple -/
def iEnumS (K : PySem.W.Frag) (ta : TA) : TI := fun σ H R => ta σ H fun vs H1 => ∃ a, vs = [.ref a] ∧ (((∃ xs, SqL K H1 a xs) ∧ R (Ite K a) H1) ∨ ((∃ xs, SqT K H1 a xs) ∧ R (Ittn K a) H1))
theorem pi_enumS {X : Cx} {e : Expr} {ta : TA} {p pos tpos : Pos} {elts : List Expr} {kk : Nat} (hg : Gl X "enumerate") (hm : X.mg "enumerate" = none) (ha : PA X [e] ta) (hs : starEach [e] X.env = [(false, eval e X.env)] := by rfl) :
    PI X (.Tuple elts kk tpos) (.Call (.Name "enumerate" p) [e] [] pos) (iEnumS X.K ta) := by
  refine ⟨fun pins s σ H R I h => ?_⟩
  refine Call_ (ld_blt I hg hm boot_enumerate (PyProof.Rows.callWith_type1 (thn (ha.run pos pins s σ H _ I h) fun us s1 ⟨vs, H1, I1, r1, q1⟩ => ?_) hs rfl))
  obtain ⟨a, ex, q1⟩ := q1
  subst ex
  cases r1 with
  | cons r rr =>
    cases rr
    cases r
    rcases q1 with ⟨⟨xs, hq⟩, q⟩ | ⟨⟨xs, hq⟩, q⟩
    · obtain ⟨its, rv, p', hz⟩ := I1.list hq
      refine call_enumerate_list p'.isList fun h' he hit hsz hk => wpAny_pyIter_enum he ?_
      have I2 : Inv X pins σ H1 { s1 with heap := h' } := I1.kept (t' := s1.toks) hk
      refine ⟨s1.heap.objs.size + 1, [s1.heap.objs.size + 1, s1.heap.objs.size], _, _, H1, rfl, I2, turn_enum a (s1.heap.objs.size + 1) s1.heap.objs.size, ⟨⟨.none, he⟩, hit, Nat.succ_ne_self _⟩, fun b hb => ?_, q⟩
      have e' : b = s1.heap.objs.size + 1 ∨ b = s1.heap.objs.size := by simpa using hb
      have hle : s1.heap.objs.size ≤ b := by
        rcases e' with z | z
        · rw [z]; exact Nat.le_add_right _ _
        · rw [z]; exact Nat.le_refl _
      exact I1.fpOk hle (I1.hok.fresh hle)
    · obtain ⟨its, rv, p', hz⟩ := I1.tuple hq
      have p2 : s1.heap.IsTuple a its.toArray := p'
      have hal : a < s1.heap.objs.size := by obtain ⟨_, z, _⟩ := p2; exact Heap.lt_size z
      refine enum_begins1 (begins_tuple a its.toArray) p2 fun h' he hit hsz hk => wpAny_pyIter_enum he ?_
      have I2 : Inv X pins σ H1 { s1 with heap := h' } := I1.kept (t' := s1.toks) hk
      refine ⟨s1.heap.objs.size + 1, [s1.heap.objs.size + 1, s1.heap.objs.size], _, _, H1, rfl, I2, turn_enumT a (s1.heap.objs.size + 1) s1.heap.objs.size, ⟨⟨.none, he⟩, ⟨_, hit, rfl, rfl⟩, Nat.succ_ne_self _, Nat.ne_of_lt hal, Nat.ne_of_lt (Nat.lt_succ_of_lt hal)⟩, fun b hb => ?_, q⟩
      have e' : b = s1.heap.objs.size + 1 ∨ b = s1.heap.objs.size := by simpa using hb
      have hle : s1.heap.objs.size ≤ b := by
        rcases e' with z | z
        · rw [z]; exact Nat.le_add_right _ _
        · rw [z]; exact Nat.le_refl _
      exact I1.fpOk hle (I1.hok.fresh hle)
theorem for_enumS {K : PySem.W.Frag} {a : Addr} {xs : List V} {g : TG} {tb : TS} {D : Ends} {σ : St} {H : Hp} (hq : Sq K H a xs) (Pv : Nat → St → Hp → Prop) (h0 : Pv 0 σ H) (hl : ∀ i σ H', i ≤ xs.length → Pv i σ H' → ∀ o, H a = some o → H' a = some o)
    (hs : ∀ i x σ H T, xs[i]? = some x → Pv i σ H → H T = none → g (.ref T) σ (upd H T (.tup [.int (i : Nat), x])) fun σ2 H2 => tb { D with nx := Pv (i + 1), ct := Pv (i + 1), bk := D.nx } σ2 H2) (hd : ∀ σ H, Pv xs.length σ H → D.nx σ H) :
    tFor (iEnumS K (fun _ H Q => Q [.ref a] H)) g tb D σ H := by
  rcases hq with hq | hq
  · refine ⟨a, rfl, .inl ⟨⟨xs, hq⟩, fun i m σ H' => m = xs.length - i ∧ i ≤ xs.length ∧ Pv i σ H', ⟨xs.length, by simp, Nat.zero_le _, h0⟩, ?_⟩⟩
    rintro i m σ H' ⟨rfl, hi, p⟩
    have q := hq.keep (hl i σ H' hi p)
    by_cases hlt : i < xs.length
    · refine .inr ⟨⟨xs, xs[i], q, by simp [hlt]⟩, Pv (i + 1), fun σ' H'' p' => ⟨xs.length - (i + 1), by omega, rfl, hlt, p'⟩, fun x H'' y => ?_⟩
      obtain ⟨T, x', rfl, nT, rfl, hx'⟩ := y
      exact hs i x' σ H' T (hx' xs q) p nT
    · have e : i = xs.length := by omega
      subst e
      exact .inl ⟨⟨xs, q, Nat.le_refl _⟩, hd σ H' p⟩
  · refine ⟨a, rfl, .inr ⟨⟨xs, hq⟩, fun i m σ H' => m = xs.length - i ∧ i ≤ xs.length ∧ Pv i σ H', ⟨xs.length, by simp, Nat.zero_le _, h0⟩, ?_⟩⟩
    rintro i m σ H' ⟨rfl, hi, p⟩
    have q := hq.keep (hl i σ H' hi p)
    by_cases hlt : i < xs.length
    · refine .inr ⟨⟨xs, xs[i], q, by simp [hlt]⟩, Pv (i + 1), fun σ' H'' p' => ⟨xs.length - (i + 1), by omega, rfl, hlt, p'⟩, fun x H'' y => ?_⟩
      obtain ⟨T, x', rfl, nT, rfl, hx'⟩ := y
      exact hs i x' σ H' T (hx' xs q) p nT
    · have e : i = xs.length := by omega
      subst e
      exact .inl ⟨⟨xs, q, rfl⟩, hd σ H' p⟩
end L2
end
section
set_option Elab.async false
set_option linter.all false
set_option maxRecDepth 100000
set_option maxHeartbeats 4000000
/-! P1: readings entered one construct at a time -/
namespace L2
open PySem PySem.Spec PyProof.Rows
/-- a value's type, wider than TyX: a frozen dict with tuple keys as well -/
inductive TyW (K : PySem.W.Frag) (H : Hp) : V → Value → Prop where
  | x {x : V} {t : Value} (h : TyX K H x t) : TyW K H x t
  | fT {a : Addr} {o : Obj} {kvs : List (List Key × V)} (e : H a = some (.frz o (.dT kvs))) : TyW K H (.ref a) (.type "dict")
def rIsiW (K : PySem.W.Frag) : List V → Hp → VK → Prop := fun xs H Q => ∃ (x c : V) (t u : Value) (b : Bool), xs = [x, c] ∧ ClsV c u ∧ TyW K H x t ∧ PySem.W.kitOne K t u = some b ∧ Q (.bl b) H
def rIsiTW (K : PySem.W.Frag) : List V → Hp → VK → Prop := fun xs H Q => ∃ (x : V) (tp : Addr) (cs : List V) (t : Value) (us : List Value) (b : Bool), xs = [x, .ref tp] ∧ H tp = some (.tup cs) ∧ Paired ClsV cs us ∧ TyW K H x t ∧ PySem.W.kitAny K t us = some b ∧ Q (.bl b) H
section
variable {X : Cx}
theorem kit_ofW {pins : List (Addr × Obj)} {σ : St} {H : Hp} {s : Shared} {x : V} {u t : Value} (I : Inv X pins σ H s) (rx : RelV x u) (ty : TyW X.K H x t) : ∃ P : Heap → Prop, PySem.W.KitX X.K u t P ∧ P s.heap ∧ u ≠ .builtin "__main__.__loader__#opaque" := by
  cases ty with
  | x h => exact kit_of I rx h
  | @fT a ob kvs ea =>
    cases (show u = Value.ref a from rx)
    obtain ⟨hd, z, hs, xs, pr, o, es, ep, ho, hx, r⟩ := (show ObjOk X.prog X.w H s.heap a (.frz ob (.dT kvs)) from I.hok a _ ea)
    exact ⟨_, PySem.W.kitx_dict, ⟨o, ho, hx.1⟩, fun z => nomatch z⟩
theorem call_isiW : CallR X (.builtin "isinstance") (rIsiW X.K) := by
  intro pins s σ H xs us Q I r h
  obtain ⟨x, c, t, u, b, rfl, k, ty, e, q⟩ := h
  obtain ⟨u1, u2, rfl, r1, r2⟩ := vals2 r
  have e2 := k.eq r2
  subst e2
  obtain ⟨P, Z, p, hx⟩ := kit_ofW I r1 ty
  exact PySem.W.kia_one Z I.kIn p e hx fun tk => ⟨.bl b, H, I.tok tk, rfl, q⟩
theorem call_isiTW : CallR X (.builtin "isinstance") (rIsiTW X.K) := by
  intro pins s σ H xs us Q I r h
  obtain ⟨x, tp, cs, t, ws, b, rfl, hT, k, ty, e, q⟩ := h
  obtain ⟨u1, u2, rfl, r1, r2⟩ := vals2 r
  cases (show u2 = Value.ref tp from r2)
  obtain ⟨P, Z, p, hx⟩ := kit_ofW I r1 ty
  obtain ⟨_, its, rv, o, h1, h2, n, h3⟩ := (show ObjOk X.prog X.w H s.heap tp (.tup cs) from I.hok tp _ hT)
  have e3 := ClsV.all k rv
  subst e3
  obtain ⟨oc, od, dt, sl⟩ := o
  simp only at h2 h3
  subst h2 h3
  exact PySem.W.kia_tup Z I.kIn p h1 e hx fun tk => ⟨.bl b, H, I.tok tk, rfl, q⟩
end
section
variable {K : PySem.W.Frag} {D : Ends} {σ : St} {H : Hp} {Q : VK} {QT : Bool → Hp → Prop} {QA : List V → Hp → Prop} {E : XK}
theorem i_seq {t u : TS} (h : t { D with nx := u D } σ H) : tSeq t u D σ H := h
theorem i_next (h : D.nx σ H) : tNext D σ H := h
theorem i_ret {te : TE} (h : te σ H D.rt) : tRet te D σ H := h
theorem i_retN (h : D.rt .non H) : tRetN D σ H := h
theorem i_drop {te : TE} (h : te σ H fun _ H1 => D.nx σ H1) : tDrop te D σ H := h
theorem i_ifs {c : TT} {t u : TS} (h : c σ H fun b H1 => if b = true then t D σ H1 else u D σ H1) : tIfS c t u D σ H := h
theorem i_asg {te : TE} {g : TG} (h : te σ H fun x H1 => g x σ H1 D.nx) : tAsg te g D σ H := h
theorem i_name {i : Nat} {v : V} {R : St → Hp → Prop} (h : R (σ.set i (some v)) H) : gName i v σ H R := h
theorem i_aug {i : Nat} {te : TE} {ti : TIp} {x : V} (hx : σ[i]? = some (some x)) (h : te σ H fun y H1 => ti x y H1 fun z H2 => D.nx (σ.set i (some z)) H2) : tAug i te ti D σ H := ⟨x, hx, h⟩
theorem i_ipI {f : Int → Int → Int} {i j : Int} {R : VK} (h : R (.int (f i j)) H) : ipI f (.int i) (.int j) H R := ⟨i, j, rfl, rfl, h⟩
theorem i_var {i : Nat} {v : V} (hv : σ[i]? = some (some v)) (h : Q v H) : tVar i σ H Q := ⟨v, hv, h⟩
theorem i_c {v : V} (h : Q v H) : tC v σ H Q := h
theorem i_op {r : R2} {ta tb : TE} (h : ta σ H fun x H1 => tb σ H1 fun y H2 => r x y H2 Q) : tOp r ta tb σ H Q := h
theorem i_un {r : V → Hp → VK → Prop} {ta : TE} (h : ta σ H fun x H1 => r x H1 Q) : tUn r ta σ H Q := h
theorem i_test {te : TE} (h : te σ H fun x H' => ∃ k, x = .bl k ∧ QT k H') : tTest te σ H QT := h
theorem i_tB {te : TE} (h : te σ H fun x H' => ∃ k, x = .bl k ∧ QT k H') : tB te σ H QT := h
theorem i_bl {b : Bool} {R : Bool → Prop} (h : R b) : ∃ k, V.bl b = .bl k ∧ R k := ⟨b, rfl, h⟩
theorem i_and {t u : TT} (h : t σ H fun c H1 => if c = true then u σ H1 QT else QT false H1) : tAnd t u σ H QT := h
theorem i_or {t u : TT} (h : t σ H fun c H1 => if c = true then QT true H1 else u σ H1 QT) : tOr t u σ H QT := h
theorem i_not {t : TT} (h : t σ H fun c H1 => QT (!c) H1) : tNot t σ H QT := h
theorem i_andV {ta tb : TE} (h : ta σ H fun x H1 => ∃ c, x = .bl c ∧ if c = true then tb σ H1 Q else Q (.bl false) H1) : tAndV ta tb σ H Q := h
theorem i_orV {ta tb : TE} (h : ta σ H fun x H1 => ∃ c, x = .bl c ∧ if c = true then Q (.bl true) H1 else tb σ H1 Q) : tOrV ta tb σ H Q := h
theorem i_notV {ta : TE} (h : ta σ H fun x H1 => ∃ c, x = .bl c ∧ Q (.bl (!c)) H1) : tNotV ta σ H Q := h
theorem i_if {t : TT} {ta tb : TE} (h : t σ H fun c H1 => if c = true then ta σ H1 Q else tb σ H1 Q) : tIf t ta tb σ H Q := h
theorem i_chain {r r' : R2} {ta tb tc : TE} (h : ta σ H fun x H1 => tb σ H1 fun y H2 => r x y H2 fun z H3 => ∃ k, z = .bl k ∧ (if k = true then tc σ H3 fun w' H4 => r' y w' H4 Q else Q (.bl false) H3)) : tChain r r' ta tb tc σ H Q := h
theorem i_cb {r : List V → Hp → VK → Prop} {t : TA} (h : t σ H fun vs H1 => r vs H1 Q) : tCB r t σ H Q := h
theorem i_cons {ta : TE} {tr : TA} (h : ta σ H fun x H1 => tr σ H1 fun xs H2 => QA (x :: xs) H2) : tCons ta tr σ H QA := h
theorem i_nil (h : QA [] H) : tNil σ H QA := h
theorem i_call {sp : Sp} {t : TA} (h : t σ H fun vs H1 => sp (vs ++ []) H1 Q E) : tCall sp [] E t σ H Q := h
theorem i_I0 {g : Int → Int → V} {i j : Int} (h : Q (g i j) H) : rI0 g (.int i) (.int j) H Q := ⟨i, j, rfl, rfl, h⟩
theorem i_I {C : Int → Int → Prop} {g : Int → Int → V} {i j : Int} (c : C i j) (h : Q (g i j) H) : rI C g (.int i) (.int j) H Q := ⟨i, j, rfl, rfl, c, h⟩
theorem i_U {g : Int → V} {i : Int} (h : Q (g i) H) : rU g (.int i) H Q := ⟨i, rfl, h⟩
theorem i_eq {x y : V} (s : scal x y = true) (h : Q (.bl (decide (x = y))) H) : rEq x y H Q := ⟨s, h⟩
theorem i_ne {x y : V} (s : scal x y = true) (h : Q (.bl (!decide (x = y))) H) : rNe x y H Q := ⟨s, h⟩
theorem i_tup {t : TA} (h : t σ H fun xs H1 => xs.length ≤ sizeLine ∧ ∀ p, H1 p = none → Q (.ref p) (upd H1 p (.tup xs))) : tTup t σ H Q := h
theorem i_lst {t : TA} (h : t σ H fun xs H1 => xs.length ≤ sizeLine ∧ ∀ p, H1 p = none → Q (.ref p) (upd H1 p (.lst xs))) : tLst t σ H Q := h
theorem i_new {xs : List V} {R : Addr → Prop} (hl : xs.length ≤ 1000) (h : ∀ p, H p = none → R p) : xs.length ≤ sizeLine ∧ ∀ p, H p = none → R p := ⟨Nat.le_trans hl (by decide), h⟩
theorem i_ixL {a : Addr} {xs : List V} {i : Int} {v : V} (hs : SqL K H a xs) (hi : atI xs i = some v) (h : Q v H) : rIxL K (.ref a) (.int i) H Q := ⟨a, xs, i, v, rfl, rfl, hs, hi, h⟩
theorem i_ixT {a : Addr} {xs : List V} {i : Int} {v : V} (hs : SqT K H a xs) (hi : atI xs i = some v) (h : Q v H) : rIxT K (.ref a) (.int i) H Q := ⟨a, xs, i, v, rfl, rfl, hs, hi, h⟩
theorem i_ixS {z : Str} {i : Int} {c : Nat} (hl : z.length ≤ sizeLine) (hi : atI z.cps.toList i = some c) (h : Q (.str ⟨#[c]⟩) H) : rIxS (.str z) (.int i) H Q := ⟨z, i, c, rfl, rfl, hl, hi, h⟩
theorem i_ixqL {a : Addr} {xs : List V} {i : Int} {v : V} (hs : SqL K H a xs) (hi : atI xs i = some v) (h : Q v H) : rIx K (.ref a) (.int i) H Q := .inl (i_ixL hs hi h)
theorem i_ixqT {a : Addr} {xs : List V} {i : Int} {v : V} (hs : SqT K H a xs) (hi : atI xs i = some v) (h : Q v H) : rIx K (.ref a) (.int i) H Q := .inr (.inl (i_ixT hs hi h))
theorem i_ixqS {z : Str} {i : Int} {c : Nat} (hl : z.length ≤ sizeLine) (hi : atI z.cps.toList i = some c) (h : Q (.str ⟨#[c]⟩) H) : rIx K (.str z) (.int i) H Q := .inr (.inr (i_ixS hl hi h))
theorem i_ixq {a : Addr} {xs : List V} {i : Int} {v : V} (hs : Sq K H a xs) (hi : atI xs i = some v) (h : Q v H) : rIx K (.ref a) (.int i) H Q := hs.elim (fun hs => i_ixqL hs hi h) (fun hs => i_ixqT hs hi h)
theorem i_in {x : V} {p : Addr} {xs : List V} (hs : Sq K H p xs) (hx : flatV x = true) (hf : xs.all flatV = true) (h : Q (.bl (inV x xs)) H) : rIn K false x (.ref p) H Q := ⟨p, xs, rfl, hs, hx, hf, h⟩
theorem i_notIn {x : V} {p : Addr} {xs : List V} (hs : Sq K H p xs) (hx : flatV x = true) (hf : xs.all flatV = true) (h : Q (.bl (!inV x xs)) H) : rIn K true x (.ref p) H Q := ⟨p, xs, rfl, hs, hx, hf, h⟩
/-! ifs -/
theorem i_T {A B : Prop} (h : A) : if true = true then A else B := iteT h
theorem i_F {A B : Prop} (h : B) : if false = true then A else B := iteF h
theorem i_NT {A B : Prop} (h : B) : if (!true) = true then A else B := iteF h
theorem i_NF {A B : Prop} (h : A) : if (!false) = true then A else B := iteT h
theorem i_dT {p A B : Prop} [Decidable p] (hp : p) (h : A) : if decide p = true then A else B := by rw [if_pos (decide_eq_true hp)]; exact h
theorem i_dF {p A B : Prop} [Decidable p] (hp : ¬ p) (h : B) : if decide p = true then A else B := by rw [if_neg (by simp [hp])]; exact h
theorem i_nT {p A B : Prop} [Decidable p] (hp : ¬ p) (h : A) : if (!decide p) = true then A else B := by rw [if_pos (by simp [hp])]; exact h
theorem i_nF {p A B : Prop} [Decidable p] (hp : p) (h : B) : if (!decide p) = true then A else B := by rw [if_neg (by simp [hp])]; exact h
theorem i_bT {b : Bool} {A B : Prop} (hb : b = true) (h : A) : if b = true then A else B := by rw [if_pos hb]; exact h
theorem i_bF {b : Bool} {A B : Prop} (hb : b = false) (h : B) : if b = true then A else B := by rw [hb]; exact iteF h
theorem i_b {b : Bool} {A B : Prop} (h1 : b = true → A) (h2 : b = false → B) : if b = true then A else B := by
  cases b with
  | true => exact iteT (h1 rfl)
  | false => exact iteF (h2 rfl)
theorem i_d {p A B : Prop} [Decidable p] (h1 : p → A) (h2 : ¬ p → B) : if decide p = true then A else B := by
  by_cases h : p
  · exact i_dT h (h1 h)
  · exact i_dF h (h2 h)
theorem i_n {p A B : Prop} [Decidable p] (h1 : ¬ p → A) (h2 : p → B) : if (!decide p) = true then A else B := by
  by_cases h : p
  · exact i_nF h (h2 h)
  · exact i_nT h (h1 h)
/-! isinstance -/
theorem i_isiW {x : V} {nm T : String} {b : Bool} (hT : TyW K H x (.type nm)) (hk : kitB nm T = some b) (h : Q (.bl b) H) : rIsiW K [x, .ty T] H Q := ⟨x, .ty T, .type nm, .type T, b, rfl, .ty T, hT, kit_ty hk, h⟩
theorem i_isi {x : V} {nm T : String} {b : Bool} (hT : TyX K H x (.type nm)) (hk : kitB nm T = some b) (h : Q (.bl b) H) : rIsiW K [x, .ty T] H Q := i_isiW (.x hT) hk h
theorem i_isiW2 {x : V} {tp : Addr} {nm T1 T2 : String} {b1 b2 : Bool} (ht : H tp = some (.tup [.ty T1, .ty T2])) (hT : TyW K H x (.type nm)) (h1 : kitB nm T1 = some b1) (h2 : kitB nm T2 = some b2) (h : Q (.bl (b1 || b2)) H) : rIsiTW K [x, .ref tp] H Q := by
  refine ⟨x, tp, _, .type nm, [.type T1, .type T2], b1 || b2, rfl, ht, .cons (.ty _) (.cons (.ty _) .nil), hT, ?_, h⟩
  refine kitAny_cons (kit_ty h1) (fun e => kitAny_cons (kit_ty h2) (fun e2 => ?_) (fun e2 => ?_)) (fun e => ?_)
  · rw [e, e2]; exact kitAny_nil
  · rw [e, e2]; rfl
  · rw [e]; rfl
theorem i_isi2 {x : V} {tp : Addr} {nm T1 T2 : String} {b1 b2 : Bool} (ht : H tp = some (.tup [.ty T1, .ty T2])) (hT : TyX K H x (.type nm)) (h1 : kitB nm T1 = some b1) (h2 : kitB nm T2 = some b2) (h : Q (.bl (b1 || b2)) H) : rIsiTW K [x, .ref tp] H Q := i_isiW2 ht (.x hT) h1 h2 h
theorem ty_dT {a : Addr} {kvs : List (List Key × V)} (h : Rd H a (.dT kvs)) : TyW K H (.ref a) (.type "dict") := h.elim (fun h => .x (.base (.dT h))) fun ⟨_, h⟩ => .fT h
theorem ty_int {i : Int} : TyX K H (.int i) (.type "int") := .base (.int i)
theorem ty_str {z : Str} : TyX K H (.str z) (.type "str") := .base (.str z)
theorem ty_bl {b : Bool} : TyX K H (.bl b) (.type "bool") := .base (.bl b)
theorem ty_non : TyX K H .non (.type "NoneType") := .base .non
theorem ty_lst {a : Addr} {xs : List V} (h : SqL K H a xs) : TyX K H (.ref a) (.type "list") := by
  rcases h with (h | ⟨o, h⟩) | ⟨o, its, n, h, c, _⟩
  · exact .base (.lst h)
  · exact .base (.frz h)
  · exact .kList h c
theorem ty_tup {a : Addr} {xs : List V} (h : SqT K H a xs) : TyX K H (.ref a) (.type "tuple") := by
  rcases h with (h | ⟨o, h⟩) | ⟨o, its, n, h, c, _⟩
  · exact .base (.tup h)
  · exact .fTuple h
  · exact .kTuple h c
theorem TyX.same {H' : Hp} {x : V} {t : Value} (e : Same H H') (h : TyX K H x t) : TyX K H' x t := by
  cases h with
  | base h =>
    cases h with
    | non => exact .base .non
    | bl b => exact .base (.bl b)
    | int i => exact .base (.int i)
    | str z => exact .base (.str z)
    | flt z => exact .base (.flt z)
    | lst h => exact .base (.lst (e _ _ h))
    | frz h => exact .base (.frz (e _ _ h))
    | tup h => exact .base (.tup (e _ _ h))
    | dK h => exact .base (.dK (e _ _ h))
    | dT h => exact .base (.dT (e _ _ h))
    | ins h c a b d f => exact .base (.ins (e _ _ h) c a b d f)
  | byt b => exact .byt b
  | set h => exact .set (e _ _ h)
  | kList h c => exact .kList h c
  | kTuple h c => exact .kTuple h c
  | kDict h c => exact .kDict h c
  | fTuple h => exact .fTuple (e _ _ h)
  | fDict h => exact .fDict (e _ _ h)
/-! heaps -/
theorem Same.new {H : Hp} {p : Addr} {o : HO} (h : H p = none) : Same H (upd H p o) := fun b x e => by
  rw [upd_ne (ne_of_none e h)]
  exact e
/-- what was not there may change -/
theorem Same.loc {H H' : Hp} {p : Addr} {o : HO} (s : Same H H') (h : H p = none) : Same H (upd H' p o) := fun b x e => by
  rw [upd_ne (ne_of_none e h)]
  exact s _ _ e
theorem Same.sqT {H' : Hp} {a : Addr} {xs : List V} (e : Same H H') (h : SqT K H a xs) : SqT K H' a xs := h.keep (e a)
theorem Same.sq {H' : Hp} {a : Addr} {xs : List V} (e : Same H H') (h : Sq K H a xs) : Sq K H' a xs := h.keep (e a)
theorem sqL {a : Addr} {xs : List V} (h : H a = some (.lst xs)) : SqL K H a xs := .inl (.inl h)
theorem sqT {a : Addr} {xs : List V} (h : H a = some (.tup xs)) : SqT K H a xs := .inl (.inl h)
theorem sz {n : Nat} (h : n ≤ 16000000) : n ≤ sizeLine := Nat.le_trans h (by decide)
theorem szl {n : Nat} (h : n ≤ 16000000) : n < sizeLine := Nat.lt_of_le_of_lt h (by decide)
/-! loops: what is walked is reckoned first, then a loop over the value -/
def ForV (K : PySem.W.Frag) (x : V) (g : TG) (tb : TS) : TS := tFor (iSeq K (fun _ H R => R x H)) g tb
def EnV (K : PySem.W.Frag) (xs : List V) (g : TG) (tb : TS) : TS := tFor (iEnumS K (fun _ H R => R xs H)) g tb
def RgV (xs : List V) (g : TG) (tb : TS) : TS := tFor (iRng1 (fun _ H R => R xs H)) g tb
def Rg2V (xs : List V) (g : TG) (tb : TS) : TS := tFor (iRng2 (fun _ H R => R xs H)) g tb
def StrV (x : V) (g : TG) (tb : TS) : TS := tFor (iStr (fun _ H R => R x H)) g tb
def LcV (K : PySem.W.Frag) (x : V) (g : TG) (tt : TT) (te : TE) (vs : List Nat) : TE := tLc (iSeq K (fun _ H R => R x H)) g tt te vs
def LrV (xs : List V) (g : TG) (tt : TT) (te : TE) (vs : List Nat) : TE := tLc (iRng1 (fun _ H R => R xs H)) g tt te vs
theorem i_for {tl : TE} {g : TG} {tb : TS} (h : tl σ H fun x H1 => ForV K x g tb D σ H1) : tFor (iSeq K tl) g tb D σ H := h
theorem i_forE {ta : TA} {g : TG} {tb : TS} (h : ta σ H fun xs H1 => EnV K xs g tb D σ H1) : tFor (iEnumS K ta) g tb D σ H := h
theorem i_forR {ta : TA} {g : TG} {tb : TS} (h : ta σ H fun xs H1 => RgV xs g tb D σ H1) : tFor (iRng1 ta) g tb D σ H := h
theorem i_forR2 {ta : TA} {g : TG} {tb : TS} (h : ta σ H fun xs H1 => Rg2V xs g tb D σ H1) : tFor (iRng2 ta) g tb D σ H := h
theorem i_forS {tl : TE} {g : TG} {tb : TS} (h : tl σ H fun x H1 => StrV x g tb D σ H1) : tFor (iStr tl) g tb D σ H := h
theorem i_lc {tl : TE} {g : TG} {tt : TT} {te : TE} {vs : List Nat} (h : tl σ H fun x H1 => LcV K x g tt te vs σ H1 Q) : tLc (iSeq K tl) g tt te vs σ H Q := h
theorem i_lcR {ta : TA} {g : TG} {tt : TT} {te : TE} {vs : List Nat} (h : ta σ H fun xs H1 => LrV xs g tt te vs σ H1 Q) : tLc (iRng1 ta) g tt te vs σ H Q := h
theorem f_seq {g : TG} {tb : TS} {a : Addr} {xs : List V} (hq : Sq K H a xs) (Pv : Nat → St → Hp → Prop) (h0 : Pv 0 σ H) (hl : ∀ i σ H', i ≤ xs.length → Pv i σ H' → ∀ o, H a = some o → H' a = some o)
    (hs : ∀ i x σ H, xs[i]? = some x → Pv i σ H → g x σ H fun σ2 H2 => tb { D with nx := Pv (i + 1), ct := Pv (i + 1), bk := D.nx } σ2 H2) (hd : ∀ σ H, Pv xs.length σ H → D.nx σ H) :
    ForV K (.ref a) g tb D σ H := for_seq hq Pv h0 hl hs hd
theorem f_enum {g : TG} {tb : TS} {a : Addr} {xs : List V} (hq : Sq K H a xs) (Pv : Nat → St → Hp → Prop) (h0 : Pv 0 σ H) (hl : ∀ i σ H', i ≤ xs.length → Pv i σ H' → ∀ o, H a = some o → H' a = some o)
    (hs : ∀ i x σ H T, xs[i]? = some x → Pv i σ H → H T = none → g (.ref T) σ (upd H T (.tup [.int (i : Nat), x])) fun σ2 H2 => tb { D with nx := Pv (i + 1), ct := Pv (i + 1), bk := D.nx } σ2 H2) (hd : ∀ σ H, Pv xs.length σ H → D.nx σ H) :
    EnV K [.ref a] g tb D σ H := for_enumS hq Pv h0 hl hs hd
theorem f_range {g : TG} {tb : TS} {j : Int} (hj : j ≤ 1000000000000) (h0' : -1000 ≤ j) (Pv : Nat → St → Hp → Prop) (h0 : Pv 0 σ H)
    (hs : ∀ i σ H, i < j.toNat → Pv i σ H → g (.int ((i : Nat) : Int)) σ H fun σ2 H2 => tb { D with nx := Pv (i + 1), ct := Pv (i + 1), bk := D.nx } σ2 H2) (hd : ∀ σ H, Pv j.toNat σ H → D.nx σ H) :
    RgV [.int j] g tb D σ H := by
  refine ⟨j, rfl, by omega, by omega, for_range (lo := 0) (n := j.toNat) Pv h0 (fun i σ H hi p => ?_) hd⟩
  rw [Int.zero_add]
  exact hs i σ H hi p
theorem f_range2 {g : TG} {tb : TS} {lo hi : Int} (hj : hi ≤ 1000000000000) (h0' : -1000 ≤ lo) (hj2 : lo ≤ 1000000000000) (h02 : -1000 ≤ hi) (Pv : Nat → St → Hp → Prop) (h0 : Pv 0 σ H)
    (hs : ∀ i σ H, i < (hi - lo).toNat → Pv i σ H → g (.int (lo + ((i : Nat) : Int))) σ H fun σ2 H2 => tb { D with nx := Pv (i + 1), ct := Pv (i + 1), bk := D.nx } σ2 H2) (hd : ∀ σ H, Pv (hi - lo).toNat σ H → D.nx σ H) :
    Rg2V [.int lo, .int hi] g tb D σ H := ⟨lo, hi, rfl, ⟨by omega, by omega, by omega, by omega⟩, for_range (lo := lo) (n := (hi - lo).toNat) Pv h0 hs hd⟩
theorem f_str {g : TG} {tb : TS} {z : Str} (Pv : Nat → St → Hp → Prop) (h0 : Pv 0 σ H)
    (hs : ∀ i c σ H, z.cps.toList[i]? = some c → Pv i σ H → g (.str ⟨#[c]⟩) σ H fun σ2 H2 => tb { D with nx := Pv (i + 1), ct := Pv (i + 1), bk := D.nx } σ2 H2) (hd : ∀ σ H, Pv z.cps.toList.length σ H → D.nx σ H) :
    StrV (.str z) g tb D σ H := by
  refine ⟨z, rfl, fun i m σ H' => m = z.cps.toList.length - i ∧ i ≤ z.cps.toList.length ∧ Pv i σ H', ⟨z.cps.toList.length, by simp, Nat.zero_le _, h0⟩, ?_⟩
  rintro i m σ H' ⟨rfl, hi, p⟩
  by_cases hlt : i < z.cps.toList.length
  · refine .inr ⟨(by simpa using hlt : i < z.cps.size), Pv (i + 1), fun σ' H'' p' => ⟨z.cps.toList.length - (i + 1), by omega, rfl, hlt, p'⟩, fun x H'' y => ?_⟩
    obtain ⟨rfl, c, hc, rfl⟩ := y
    exact hs i c σ H'' (by rw [Array.getElem?_toList]; exact hc) p
  · have e : i = z.cps.toList.length := by omega
    subst e
    exact .inl ⟨(by simp : z.cps.size ≤ z.cps.toList.length), hd σ H' p⟩
theorem l_seq {g : TG} {tt : TT} {te : TE} {vs : List Nat} {a : Addr} {xs : List V} (hq : Sq K H a xs) (Pv : Addr → Nat → Hp → Prop) (h0 : ∀ D, H D = none → Pv D 0 (upd H D (.lst [])))
    (hl : ∀ D i H', H D = none → i ≤ xs.length → Pv D i H' → ∀ o, H a = some o → H' a = some o)
    (hs : ∀ D i x H', H D = none → xs[i]? = some x → Pv D i H' → g x (wipe σ vs) H' fun σ2 H2 => wipe σ2 vs = wipe σ vs ∧ tt σ2 H2 fun b H3 =>
      if b = true then te σ2 H3 fun y H4 => ∃ acc, H4 D = some (.lst acc) ∧ acc.length < sizeLine ∧ Pv D (i + 1) (upd H4 D (.lst (acc ++ [y]))) else Pv D (i + 1) H3) (hd : ∀ D H', H D = none → Pv D xs.length H' → Q (.ref D) H') :
    LcV K (.ref a) g tt te vs σ H Q := lc_seq (vs := vs) hq Pv h0 hl hs hd
theorem l_range {g : TG} {tt : TT} {te : TE} {vs : List Nat} {j : Int} (hj : j ≤ 1000000000000) (h0' : -1000 ≤ j) (Pv : Addr → Nat → Hp → Prop) (h0 : ∀ D, H D = none → Pv D 0 (upd H D (.lst [])))
    (hs : ∀ D i H', H D = none → i < j.toNat → Pv D i H' → g (.int ((i : Nat) : Int)) (wipe σ vs) H' fun σ2 H2 => wipe σ2 vs = wipe σ vs ∧ tt σ2 H2 fun b H3 =>
      if b = true then te σ2 H3 fun y H4 => ∃ acc, H4 D = some (.lst acc) ∧ acc.length < sizeLine ∧ Pv D (i + 1) (upd H4 D (.lst (acc ++ [y]))) else Pv D (i + 1) H3) (hd : ∀ D H', H D = none → Pv D j.toNat H' → Q (.ref D) H') :
    LrV [.int j] g tt te vs σ H Q := by
  refine ⟨j, rfl, by omega, by omega, fun D hD => lc_range (lo := 0) (n := j.toNat) (Pv D) (h0 D hD) (fun i H' hi p => ?_) (fun H' p => hd D H' hD p)⟩
  rw [Int.zero_add]
  exact hs D i H' hD hi p
theorem i_yes (h : QT true H) : tYes σ H QT := h
theorem i_gTup2 {t : TGs} {T : Addr} {x y : V} {R : St → Hp → Prop} (h : SqT K H T [x, y]) (q : t [x, y] σ H R) : gTup K 2 t (.ref T) σ H R := ⟨T, [x, y], rfl, h, rfl, q⟩
theorem i_gCons {t : TG} {u : TGs} {v : V} {r : List V} {R : St → Hp → Prop} (q : t v σ H fun σ' H' => u r σ' H' R) : gCons t u (v :: r) σ H R := ⟨v, r, rfl, q⟩
theorem i_gNil {R : St → Hp → Prop} (q : R σ H) : gNil [] σ H R := ⟨rfl, q⟩
theorem map_get {α β : Type} {f : α → β} {l : List α} {i : Nat} {y : β} (h : (l.map f)[i]? = some y) : ∃ x, l[i]? = some x ∧ f x = y := by
  rw [List.getElem?_map] at h
  cases e : l[i]? with
  | none => rw [e] at h; cases h
  | some x => rw [e] at h; exact ⟨x, rfl, Option.some.inj h⟩
theorem cut_to (xs : List V) (k : Nat) : cutV xs none (some (k : Int)) = xs.take k := by
  unfold cutV
  rw [show HT.sIx xs.length 0 none = 0 from rfl, HT.sIx_nat, List.drop_zero, Nat.sub_zero]
  by_cases h : k ≤ xs.length
  · rw [Nat.min_eq_left h]
  · rw [Nat.min_eq_right (by omega), List.take_length, List.take_of_length_le (by omega)]
theorem cut_from (xs : List V) (k : Nat) : cutV xs (some (k : Int)) none = xs.drop k := by
  unfold cutV
  rw [show HT.sIx xs.length xs.length none = xs.length from rfl, HT.sIx_nat]
  by_cases h : k ≤ xs.length
  · rw [Nat.min_eq_left h]
    exact List.take_of_length_le (by rw [List.length_drop]; omega)
  · rw [Nat.min_eq_right (by omega), List.drop_eq_nil_of_le (Nat.le_refl _), List.drop_eq_nil_of_le (by omega), List.take_nil]
theorem wipe1 (σ : L2.St) (x : Str) (i : Nat) : wipe σ (List.map (fun p : Str × Nat => p.2) [(x, i)]) = σ.set i none := rfl
theorem wipe2 (σ : L2.St) (x y : Str) (i j : Nat) : wipe σ (List.map (fun p : Str × Nat => p.2) [(x, i), (y, j)]) = (σ.set j none).set i none := rfl
theorem i_eqL {l1 l2 : L2.St} {R : Prop} (e : l1 = l2) (h : R) : l1 = l2 ∧ R := ⟨e, h⟩
theorem st_eq {t : TS} {D : Ends} {σ σ' : L2.St} {H : Hp} (e : σ = σ') (h : t D σ' H) : t D σ H := by rw [e]; exact h
end
/-! named readings of the built-ins, so that what follows is found by its place -/
def rLenV (K : PySem.W.Frag) : List V → Hp → VK → Prop := fun xs H Q => ∃ x n, xs = [x] ∧ LenV K x H n ∧ Q (.int n) H
def rAbs : List V → Hp → VK → Prop := fun xs H Q => ∃ i, xs = [.int i] ∧ Q (.int (if i < 0 then -i else i)) H
def rMax2 : List V → Hp → VK → Prop := fun xs H Q => ∃ i j, xs = [.int i, .int j] ∧ Q (.int (if j > i then j else i)) H
def rMin2 : List V → Hp → VK → Prop := fun xs H Q => ∃ i j, xs = [.int i, .int j] ∧ Q (.int (if j < i then j else i)) H
def rInt1 : List V → Hp → VK → Prop := fun xs H Q => (∃ i, xs = [.int i] ∧ Q (.int i) H) ∨ ∃ k, xs = [.bl k] ∧ Q (.int (if k then 1 else 0)) H
def rListOf (K : PySem.W.Frag) : List V → Hp → VK → Prop := fun xs H Q => ∃ p ys, xs = [.ref p] ∧ (SqL K H p ys ∨ SqT K H p ys) ∧ ∀ l, H l = none → Q (.ref l) (upd H l (.lst ys))
def rTupOf (K : PySem.W.Frag) : List V → Hp → VK → Prop := fun xs H Q => ∃ p ys, xs = [.ref p] ∧ ((SqL K H p ys ∧ ∀ l, H l = none → Q (.ref l) (upd H l (.tup ys))) ∨ (SqT K H p ys ∧ Q (.ref p) H))
def rAddS : R2 := fun x y H Q => ∃ i j, x = .str i ∧ y = .str j ∧ i.length + j.length ≤ sizeLine ∧ Q (.str (i ++ j)) H
def rIsN : R2 := fun x y H Q => y = .non ∧ Q (.bl (decide (x = .non))) H
def rNotN : R2 := fun x y H Q => y = .non ∧ Q (.bl (!decide (x = .non))) H
def rInC : R2 := fun x y H Q => ∃ (c : Nat) (z : Str), x = .str ⟨#[c]⟩ ∧ y = .str z ∧ Q (.bl (decide (c ∈ z.cps.toList))) H
def rNotInC : R2 := fun x y H Q => ∃ (c : Nat) (z : Str), x = .str ⟨#[c]⟩ ∧ y = .str z ∧ Q (.bl (!decide (c ∈ z.cps.toList))) H
section
variable {X : Cx}
theorem c_len : CallR X (.builtin "len") (rLenV X.K) := call_len
theorem c_abs : CallR X (.builtin "abs") rAbs := call_abs
theorem c_max2 (hc : X.calm = true) : CallR X (.builtin "max") rMax2 := call_max2 hc
theorem c_min2 (hc : X.calm = true) : CallR X (.builtin "min") rMin2 := call_min2 hc
theorem c_int1 : CallR X (.type "int") rInt1 := call_int1
theorem c_list_of : CallR X (.type "list") (rListOf X.K) := call_list_of
theorem c_tuple_of : CallR X (.type "tuple") (rTupOf X.K) := call_tuple_of
theorem o_add_str : OpR X (binaryOp .Add) rAddS := op_add_str
theorem o_isN : OpR X (compareOp .Is) rIsN := op_isN
theorem o_notN : OpR X (compareOp .IsNot) rNotN := op_notN
theorem o_in_sign : OpR X (compareOp .In) rInC := op_in_sign
theorem o_notIn_sign : OpR X (compareOp .NotIn) rNotInC := op_notIn_sign
end
section
variable {K : PySem.W.Frag} {H : Hp} {Q : VK}
theorem i_len {a : Addr} {xs : List V} (h : Sq K H a xs) (q : Q (.int xs.length) H) : rLenV K [.ref a] H Q := ⟨.ref a, xs.length, rfl, h.elim (fun h => .inl ⟨xs, h, rfl⟩) (fun h => .inr ⟨xs, h, rfl⟩), q⟩
theorem i_lenS {z : Str} (h : z.length ≤ sizeLine) (q : Q (.int z.length) H) : rLenV K [.str z] H Q := ⟨.str z, z.length, rfl, ⟨h, rfl⟩, q⟩
theorem i_abs {i : Int} (q : Q (.int (if i < 0 then -i else i)) H) : rAbs [.int i] H Q := ⟨i, rfl, q⟩
theorem i_max2 {i j : Int} (q : Q (.int (if j > i then j else i)) H) : rMax2 [.int i, .int j] H Q := ⟨i, j, rfl, q⟩
theorem i_min2 {i j : Int} (q : Q (.int (if j < i then j else i)) H) : rMin2 [.int i, .int j] H Q := ⟨i, j, rfl, q⟩
theorem i_int1 {i : Int} (q : Q (.int i) H) : rInt1 [.int i] H Q := .inl ⟨i, rfl, q⟩
theorem i_intB {k : Bool} (q : Q (.int (if k then 1 else 0)) H) : rInt1 [.bl k] H Q := .inr ⟨k, rfl, q⟩
theorem i_listOf {p : Addr} {ys : List V} (h : Sq K H p ys) (q : ∀ l, H l = none → Q (.ref l) (upd H l (.lst ys))) : rListOf K [.ref p] H Q := ⟨p, ys, rfl, h, q⟩
theorem i_tupOfL {p : Addr} {ys : List V} (h : SqL K H p ys) (q : ∀ l, H l = none → Q (.ref l) (upd H l (.tup ys))) : rTupOf K [.ref p] H Q := ⟨p, ys, rfl, .inl ⟨h, q⟩⟩
theorem i_tupOfT {p : Addr} {ys : List V} (h : SqT K H p ys) (q : Q (.ref p) H) : rTupOf K [.ref p] H Q := ⟨p, ys, rfl, .inr ⟨h, q⟩⟩
theorem i_addS {x y : Str} (h : x.length + y.length ≤ sizeLine) (q : Q (.str (x ++ y)) H) : rAddS (.str x) (.str y) H Q := ⟨x, y, rfl, rfl, h, q⟩
theorem i_isN {x : V} (q : Q (.bl (decide (x = .non))) H) : rIsN x .non H Q := ⟨rfl, q⟩
theorem i_notN {x : V} (q : Q (.bl (!decide (x = .non))) H) : rNotN x .non H Q := ⟨rfl, q⟩
theorem i_inSign {c : Nat} {z : Str} (q : Q (.bl (decide (c ∈ z.cps.toList))) H) : rInC (.str ⟨#[c]⟩) (.str z) H Q := ⟨c, z, rfl, rfl, q⟩
theorem i_notInSign {c : Nat} {z : Str} (q : Q (.bl (!decide (c ∈ z.cps.toList))) H) : rNotInC (.str ⟨#[c]⟩) (.str z) H Q := ⟨c, z, rfl, rfl, q⟩
end
/-! the rules that read the written part, K said -/
section
variable {X : Cx}
theorem k_ix_seq (K : PySem.W.Frag) (h : X.K = K := by rfl) : IxR X (rIx K) := by subst h; exact ix_seq
theorem k_ix_list (K : PySem.W.Frag) (h : X.K = K := by rfl) : IxR X (rIxL K) := by subst h; exact ix_list
theorem k_ix_tup (K : PySem.W.Frag) (h : X.K = K := by rfl) : IxR X (rIxT K) := by subst h; exact ix_tup
theorem k_in_seq (K : PySem.W.Frag) (h : X.K = K := by rfl) : OpR X (compareOp .In) (rIn K false) := by subst h; exact op_in_seq
theorem k_notIn_seq (K : PySem.W.Frag) (h : X.K = K := by rfl) : OpR X (compareOp .NotIn) (rIn K true) := by subst h; exact op_notIn_seq
theorem k_len (K : PySem.W.Frag) (h : X.K = K := by rfl) : CallR X (.builtin "len") (rLenV K) := by subst h; exact call_len
theorem k_list_of (K : PySem.W.Frag) (h : X.K = K := by rfl) : CallR X (.type "list") (rListOf K) := by subst h; exact call_list_of
theorem k_tuple_of (K : PySem.W.Frag) (h : X.K = K := by rfl) : CallR X (.type "tuple") (rTupOf K) := by subst h; exact call_tuple_of
theorem k_isi (K : PySem.W.Frag) (h : X.K = K := by rfl) : CallR X (.builtin "isinstance") (rIsiW K) := by subst h; exact call_isiW
theorem k_isiT (K : PySem.W.Frag) (h : X.K = K := by rfl) : CallR X (.builtin "isinstance") (rIsiTW K) := by subst h; exact call_isiTW
theorem k_sl_list (K : PySem.W.Frag) (h : X.K = K := by rfl) : SlR X (rSlL K) := by subst h; exact sl_list
theorem k_sl_tupA (K : PySem.W.Frag) (h : X.K = K := by rfl) : SlR X (rSlA K) := by subst h; exact sl_tupA
theorem k_all (K : PySem.W.Frag) (hc : X.calm = true) (h : X.K = K := by rfl) : CallR X (.builtin "all") (rAll K) := by subst h; exact cr_all hc
theorem k_any (K : PySem.W.Frag) (hc : X.calm = true) (h : X.K = K := by rfl) : CallR X (.builtin "any") (rAny K) := by subst h; exact cr_any hc
theorem k_sum (K : PySem.W.Frag) (hc : X.calm = true) (h : X.K = K := by rfl) : CallR X (.builtin "sum") (rSum K) := by subst h; exact cr_sum hc
theorem k_sortedS (K : PySem.W.Frag) (h : X.K = K := by rfl) : CallR X (.builtin "sorted") (rSortedS K) := by subst h; exact cr_sortedS
theorem k_eqD (K : PySem.W.Frag) (hu : X.A.units + 64 < cLine) (h : X.K = K := by rfl) : OpR X (compareOp .Eq) (rEqD K) := by subst h; exact op_eqD hu
theorem k_neD (K : PySem.W.Frag) (hu : X.A.units + 64 < cLine) (h : X.K = K := by rfl) : OpR X (compareOp .NotEq) (rNeD K) := by subst h; exact op_neD hu
theorem k_eqV (K : PySem.W.Frag) (hu : X.A.units + 64 < cLine) (h : X.K = K := by rfl) : OpR X (compareOp .Eq) (rEqV K) := by subst h; exact op_eqV hu
theorem k_pseq (K : PySem.W.Frag) {tg l : Expr} {tl : TE} (hl : PE X l tl) (h : X.K = K := by rfl) : PI X tg l (iSeq K tl) := by subst h; exact pi_seq hl
theorem k_penum (K : PySem.W.Frag) {e : Expr} {ta : TA} {p pos tpos : Pos} {elts : List Expr} {kk : Nat} (hg : Gl X "enumerate") (hm : X.mg "enumerate" = none) (ha : PA X [e] ta) (h : X.K = K := by rfl) (hs : starEach [e] X.env = [(false, eval e X.env)] := by rfl) :
    PI X (.Tuple elts kk tpos) (.Call (.Name "enumerate" p) [e] [] pos) (iEnumS K ta) := by subst h; exact pi_enumS hg hm ha hs
theorem k_ptup (K : PySem.W.Frag) (n : Nat) {es : List Expr} {k : Nat} {t : TGs} {pos : Pos} (hc : X.calm = true) (hp : PGs X es t) (h : X.K = K := by rfl)
    (hn : (assignEach es X.env).length = n := by rfl) (hst : (assignEach es X.env).findIdx? (·.1) = none := by rfl) : PG X (.Tuple es k pos) (gTup K n t) := by subst h; exact pg_tup hc hp hn hst
theorem k_fld (K : PySem.W.Frag) {e : Expr} {f : Str} {ta : TE} {pos : Pos} (he : PE X e ta) (h : X.K = K := by rfl) (hb : attributeBase e f X.env (eval e X.env) = eval e X.env := by rfl) : PE X (.Attribute e f pos) (tFld K ta f) := by subst h; exact pe_fld he hb
theorem k_revL (K : PySem.W.Frag) {e : Expr} {te : TE} {k : Nat} {p1 p2 p3 pos : Pos} (he : PE X e te) (h : X.K = K := by rfl) : PE X (.Subscript e (.Slice none none (some (.UnaryOp .USub (.Constant (.int 1) k p1) p2)) p3) pos) (tRevL K te) := by subst h; exact pe_revL he
theorem k_bm0 (K : PySem.W.Frag) {T id : String} {name : Str} {r : V → List V → Hp → VK → Prop} {o : Expr} {to : TE} {apos cpos : Pos} (pa : PlainAttrs T) (slot : Slot T name id) (hty : typeOf (.builtin id) = pure (.type "method_descriptor")) (hm : MtR X id r) (ho : PE X o to) (h : X.K = K := by rfl)
    (hbase : attributeBase o name X.env (eval o X.env) = eval o X.env := by rfl) (hline : (apos.endLine == cpos.line) = true := by rfl) : PE X (.Call (.Attribute o name apos) [] [] cpos) (tBM0 K T r to) := by subst h; exact pe_bm0 pa slot hty hm ho hbase hline
theorem k_bm (K : PySem.W.Frag) {T id : String} {name : Str} {r : V → List V → Hp → VK → Prop} {o e : Expr} {es : List Expr} {to : TE} {t : TA} {apos cpos : Pos} (pa : PlainAttrs T) (slot : Slot T name id) (hty : typeOf (.builtin id) = pure (.type "method_descriptor")) (hm : MtR X id r) (ho : PE X o to) (ha : PA X (e :: es) t) (h : X.K = K := by rfl)
    (hbase : attributeBase o name X.env (eval o X.env) = eval o X.env := by rfl)
    (hfew : ((backTo cpos (starEach (e :: es) X.env)).all (fun x => !x.1) && (backToKw cpos (keywordEach [] X.env)).all (fun x => x.1.isSome)
      && decide ((e :: es).length + ([] : List Keyword).length + (if ([] : List Keyword).isEmpty then 0 else 1) < 30)) = true := by rfl)
    (hline : (apos.endLine == cpos.line) = true := by rfl) (hs : starEach (e :: es) X.env = (false, eval e X.env) :: starEach es X.env := by rfl) (hplain : (backTo cpos (starEach es X.env)).any (·.1) = false := by rfl) :
    PE X (.Call (.Attribute o name apos) (e :: es) [] cpos) (tBM K T r to t) := by subst h; exact pe_bm pa slot hty hm ho ha hbase hfew hline hs hplain
end
section
variable {K : PySem.W.Frag} {σ : St} {H : Hp} {Q : VK}
theorem i_eqVL {a b : Addr} {xs ys : List V} {n : Nat} (ha : SqL K H a xs) (hb : SqL K H b ys) (hn : n ≤ 60) (hp : Paired (EqV K H n) xs ys) (q : Q (.bl true) H) : rEqV K (.ref a) (.ref b) H Q := ⟨n, hn, .inl ⟨a, b, xs, ys, rfl, rfl, ha, hb, hp⟩, q⟩
theorem i_bm {T : String} {r : V → List V → Hp → VK → Prop} {to : TE} {t : TA} (h : to σ H fun x H1 => tyV K T x H1 ∧ t σ H1 fun xs H2 => r x xs H2 Q) : tBM K T r to t σ H Q := h
theorem i_bm0 {T : String} {r : V → List V → Hp → VK → Prop} {to : TE} (h : to σ H fun x H1 => tyV K T x H1 ∧ r x [] H1 Q) : tBM0 K T r to σ H Q := h
theorem i_tyL {l : Addr} {xs : List V} {R : Prop} (h : H l = some (.lst xs)) (r : R) : tyV K "list" (.ref l) H ∧ R := ⟨.inl ⟨rfl, xs, sqL h⟩, r⟩
theorem i_append {l : Addr} {xs : List V} {y : V} (h : H l = some (.lst xs)) (hs : xs.length < sizeLine) (q : Q .non (upd H l (.lst (xs ++ [y])))) : rAppend (.ref l) [y] H Q := ⟨l, xs, y, rfl, rfl, h, hs, q⟩
theorem i_clear {l : Addr} {xs : List V} (h : H l = some (.lst xs)) (q : Q .non (upd H l (.lst []))) : rClear (.ref l) [] H Q := ⟨l, xs, rfl, rfl, h, q⟩
theorem i_gSub {to ti : TE} {t : TSet} {v : V} {R : St → Hp → Prop} (h : to σ H fun o H1 => ti σ H1 fun i H2 => t o i v H2 fun H3 => R σ H3) : gSub to ti t v σ H R := h
theorem i_setL {l : Addr} {xs : List V} {k : Int} {j : Nat} {v : V} {R : Hp → Prop} (h : H l = some (.lst xs)) (hj : ixN xs.length k = some j) (q : R (upd H l (.lst (xs.set j v)))) : rSetL (.ref l) (.int k) v H R := ⟨l, xs, k, j, rfl, rfl, h, hj, q⟩
theorem i_sl {r : V → Option Int → Option Int → Hp → VK → Prop} {te : TE} {tl th : TO} (h : te σ H fun x H1 => tl σ H1 fun l H2 => th σ H2 fun u H3 => r x l u H3 Q) : tSl r te tl th σ H Q := h
theorem i_noPart {R : Option Int → Hp → Prop} (h : R none H) : tNoPart σ H R := h
theorem i_part {t : TE} {R : Option Int → Hp → Prop} (h : t σ H fun x H1 => ∃ i, x = .int i ∧ R (some i) H1) : tPart t σ H R := h
theorem i_int {i : Int} {R : Int → Prop} (h : R i) : ∃ k, V.int i = .int k ∧ R k := ⟨i, rfl, h⟩
theorem i_slL {a : Addr} {xs : List V} {lo hi : Option Int} (h : SqL K H a xs) (q : ∀ p, H p = none → Q (.ref p) (upd H p (.lst (cutV xs lo hi)))) : rSlL K (.ref a) lo hi H Q := ⟨a, xs, rfl, h, q⟩
theorem i_revL {te : TE} (h : te σ H fun x H1 => ∃ a xs, x = .ref a ∧ SqL K H1 a xs ∧ ∀ p, H1 p = none → Q (.ref p) (upd H1 p (.lst xs.reverse))) : tRevL K te σ H Q := h
end
/-! promises by the number of arguments -/
def sp1 (b : V → Hp → VK → XK → Prop) : Sp := fun vs H Q E => ∃ x, vs = [x] ∧ b x H Q E
def sp2 (b : V → V → Hp → VK → XK → Prop) : Sp := fun vs H Q E => ∃ x y, vs = [x, y] ∧ b x y H Q E
def sp3 (b : V → V → V → Hp → VK → XK → Prop) : Sp := fun vs H Q E => ∃ x y z, vs = [x, y, z] ∧ b x y z H Q E
def sp4 (b : V → V → V → V → Hp → VK → XK → Prop) : Sp := fun vs H Q E => ∃ x y z u, vs = [x, y, z, u] ∧ b x y z u H Q E
def sp5 (b : V → V → V → V → V → Hp → VK → XK → Prop) : Sp := fun vs H Q E => ∃ x y z u v, vs = [x, y, z, u, v] ∧ b x y z u v H Q E
section
variable {H : Hp} {Q : VK} {E : XK}
theorem i_sp1 {b : V → Hp → VK → XK → Prop} {x : V} (h : b x H Q E) : sp1 b ([x] ++ []) H Q E := ⟨x, rfl, h⟩
theorem i_sp2 {b : V → V → Hp → VK → XK → Prop} {x y : V} (h : b x y H Q E) : sp2 b ([x, y] ++ []) H Q E := ⟨x, y, rfl, h⟩
theorem i_sp3 {b : V → V → V → Hp → VK → XK → Prop} {x y z : V} (h : b x y z H Q E) : sp3 b ([x, y, z] ++ []) H Q E := ⟨x, y, z, rfl, h⟩
theorem i_sp4 {b : V → V → V → V → Hp → VK → XK → Prop} {x y z u : V} (h : b x y z u H Q E) : sp4 b ([x, y, z, u] ++ []) H Q E := ⟨x, y, z, u, rfl, h⟩
theorem i_sp5 {b : V → V → V → V → V → Hp → VK → XK → Prop} {x y z u v : V} (h : b x y z u v H Q E) : sp5 b ([x, y, z, u, v] ++ []) H Q E := ⟨x, y, z, u, v, rfl, h⟩
end
section
variable {P : Program} {w : World} {K : PySem.W.Frag} {mg : Str → Option Value} {base : Heap} {nm : Str} {st : Stmt} {f : Addr} {fd : FuncData} {N ps : List Str} {k : Nat}
theorem Cal.mono {j : Nat} {sp : Sp} (c : C8.Cal P w K mg base j nm sp []) (h : j ≤ k) : C8.Cal P w K mg base k nm sp [] := by
  obtain ⟨f, fd, ps, ds, F, m, kp, b, d⟩ := c.ex
  exact ⟨f, fd, ps, ds, F.mono h, m, kp, b, d⟩
theorem Cal.imp {sp sp' : Sp} (c : C8.Cal P w K mg base k nm sp []) (h : ∀ vs H Q E, sp' vs H Q E → sp vs H Q E) : C8.Cal P w K mg base k nm sp' [] := by
  obtain ⟨f, fd, ps, ds, F, m, kp, b, d⟩ := c.ex
  exact ⟨f, fd, ps, ds, F.imp h, m, kp, b, d⟩
/-- the law's own def -/
theorem fn1 {b : V → Hp → VK → XK → Prop} (F : L2.Fun K nm nm st f fd) (S : FnScope N ps (defScope st)) (hl : ps.length = 1)
    (hb : ∀ (cdv : Value) (A : Around) (outer : List Env) (s : Shared) (H : Hp) (Q : VK) (E : XK) (x : V), Room k (A.deeper (envOfC nm (defScope st) s.heap.objs.size f cdv)) → b x H Q E →
      ∃ t, PSs (cxOf CX0 P w K mg base N nm (defScope st) f cdv A outer s H E).nox (defBody st) t ∧ t { nx := fun _ H' => Q .non H', rt := Q } (start N [x]) H) : FnOk P w K mg base CX0 (k + 1) f fd ps (sp1 b) := by
  refine F.ok S ?_ ?_
  · rintro vs H Q E ⟨_, rfl, _⟩; exact hl.symm
  · rintro cdv A outer s H vs Q E hr ⟨x, rfl, h⟩; exact hb cdv A outer s H Q E x hr h
/-- a promise that nobody can ask -/
theorem cal_none {sp : Sp} (F : L2.Fun K nm nm st f fd) (g : mg nm = some (.ref f)) (bd : Binds K fd ps []) (hf : ∀ vs H Q E, ¬ sp vs H Q E) : C8.Cal P w K mg base k nm sp [] :=
  ⟨f, fd, ps, [], ⟨fun vs H Q E h => (hf vs H Q E h).elim, fun A outer s H args us vs Q E _ _ _ _ h => (hf vs H Q E h).elim⟩, g, F.kp, bd, .nil⟩
theorem fun_of {qual : Str} (F : FunD K nm qual (defArgs st) (defBody st) (defScope st) [] [] f fd) : L2.Fun K nm qual st f fd := by
  obtain ⟨oc, od, dV, kV, doc, pm, an, cdv, ct, osl, rfl, lk, hcd, hD, hK⟩ := F.ex
  rcases hD with ⟨_, rfl⟩ | ⟨e, _⟩
  · exact ⟨⟨oc, od, kV, doc, pm, an, cdv, ct, osl, rfl, lk, hcd⟩, F.kp⟩
  · exact absurd rfl e
theorem cal1 {b : V → Hp → VK → XK → Prop} (F : L2.Fun K nm nm st f fd) (g : mg nm = some (.ref f)) (S : FnScope N ps (defScope st)) (bd : Binds K fd ps []) (hl : ps.length = 1)
    (hb : ∀ (cdv : Value) (A : Around) (outer : List Env) (s : Shared) (H : Hp) (Q : VK) (E : XK) (x : V), Room k (A.deeper (envOfC nm (defScope st) s.heap.objs.size f cdv)) → b x H Q E →
      ∃ t, PSs (cxOf CX0 P w K mg base N nm (defScope st) f cdv A outer s H E).nox (defBody st) t ∧ t { nx := fun _ H' => Q .non H', rt := Q } (start N [x]) H) : C8.Cal P w K mg base (k + 1) nm (sp1 b) [] := by
  refine ⟨f, fd, ps, [], F.ok S ?_ ?_, g, F.kp, bd, .nil⟩
  · rintro vs H Q E ⟨_, rfl, _⟩; exact hl.symm
  · rintro cdv A outer s H vs Q E hr ⟨x, rfl, h⟩; exact hb cdv A outer s H Q E x hr h
theorem cal2 {b : V → V → Hp → VK → XK → Prop} (F : L2.Fun K nm nm st f fd) (g : mg nm = some (.ref f)) (S : FnScope N ps (defScope st)) (bd : Binds K fd ps []) (hl : ps.length = 2)
    (hb : ∀ (cdv : Value) (A : Around) (outer : List Env) (s : Shared) (H : Hp) (Q : VK) (E : XK) (x y : V), Room k (A.deeper (envOfC nm (defScope st) s.heap.objs.size f cdv)) → b x y H Q E →
      ∃ t, PSs (cxOf CX0 P w K mg base N nm (defScope st) f cdv A outer s H E).nox (defBody st) t ∧ t { nx := fun _ H' => Q .non H', rt := Q } (start N [x, y]) H) : C8.Cal P w K mg base (k + 1) nm (sp2 b) [] := by
  refine ⟨f, fd, ps, [], F.ok S ?_ ?_, g, F.kp, bd, .nil⟩
  · rintro vs H Q E ⟨_, _, rfl, _⟩; exact hl.symm
  · rintro cdv A outer s H vs Q E hr ⟨x, y, rfl, h⟩; exact hb cdv A outer s H Q E x y hr h
theorem cal3 {b : V → V → V → Hp → VK → XK → Prop} (F : L2.Fun K nm nm st f fd) (g : mg nm = some (.ref f)) (S : FnScope N ps (defScope st)) (bd : Binds K fd ps []) (hl : ps.length = 3)
    (hb : ∀ (cdv : Value) (A : Around) (outer : List Env) (s : Shared) (H : Hp) (Q : VK) (E : XK) (x y z : V), Room k (A.deeper (envOfC nm (defScope st) s.heap.objs.size f cdv)) → b x y z H Q E →
      ∃ t, PSs (cxOf CX0 P w K mg base N nm (defScope st) f cdv A outer s H E).nox (defBody st) t ∧ t { nx := fun _ H' => Q .non H', rt := Q } (start N [x, y, z]) H) : C8.Cal P w K mg base (k + 1) nm (sp3 b) [] := by
  refine ⟨f, fd, ps, [], F.ok S ?_ ?_, g, F.kp, bd, .nil⟩
  · rintro vs H Q E ⟨_, _, _, rfl, _⟩; exact hl.symm
  · rintro cdv A outer s H vs Q E hr ⟨x, y, z, rfl, h⟩; exact hb cdv A outer s H Q E x y z hr h
theorem cal4 {b : V → V → V → V → Hp → VK → XK → Prop} (F : L2.Fun K nm nm st f fd) (g : mg nm = some (.ref f)) (S : FnScope N ps (defScope st)) (bd : Binds K fd ps []) (hl : ps.length = 4)
    (hb : ∀ (cdv : Value) (A : Around) (outer : List Env) (s : Shared) (H : Hp) (Q : VK) (E : XK) (x y z u : V), Room k (A.deeper (envOfC nm (defScope st) s.heap.objs.size f cdv)) → b x y z u H Q E →
      ∃ t, PSs (cxOf CX0 P w K mg base N nm (defScope st) f cdv A outer s H E).nox (defBody st) t ∧ t { nx := fun _ H' => Q .non H', rt := Q } (start N [x, y, z, u]) H) : C8.Cal P w K mg base (k + 1) nm (sp4 b) [] := by
  refine ⟨f, fd, ps, [], F.ok S ?_ ?_, g, F.kp, bd, .nil⟩
  · rintro vs H Q E ⟨_, _, _, _, rfl, _⟩; exact hl.symm
  · rintro cdv A outer s H vs Q E hr ⟨x, y, z, u, rfl, h⟩; exact hb cdv A outer s H Q E x y z u hr h
end
end L2
end
section
set_option Elab.async false
set_option linter.all false
set_option maxRecDepth 100000
set_option maxHeartbeats 4000000
/-! P2: sorted of any data, sorted(set(texts)), dicts with tuple keys -/
namespace L2
open PySem PySem.Spec PyProof.Rows
/-! ### sorted(xs), xs a list of data that are alike -/
/-- the items by their data -/
def srtD (xs : List V) (ds : List PyData) : List V := ((xs.zip ds).mergeSort (PySem.W.dataLe false fun b => b.2)).map (·.1)
def rSortD (K : PySem.W.Frag) : List V → Hp → VK → Prop := fun vs H Q => ∃ (a : Addr) (xs : List V) (ds : List PyData), vs = [V.ref a] ∧ SqL K H a xs ∧ DpAll K H xs ds ∧ PySem.W.AllAlike ds ∧ PySem.W.Sortable ds ∧ (∀ d ∈ ds, d.depth ≤ 50) ∧
  ∀ p, H p = none → Q (.ref p) (upd H p (.lst (srtD xs ds)))
theorem dpAll_len {K : PySem.W.Frag} {H : Hp} : ∀ {xs : List V} {ds : List PyData}, DpAll K H xs ds → xs.length = ds.length
  | _, _, .nil => rfl
  | _, _, .cons _ t => by rw [List.length_cons, List.length_cons, dpAll_len t]
section
variable {X : Cx}
theorem each_of {pins : List (Addr × Obj)} {σ : St} {H : Hp} {s : Shared} (I : Inv X pins σ H s) : ∀ {xs : List V} {ds : List PyData} {us : List Value}, DpAll X.K H xs ds → Vals xs us →
    PySem.W.EachIs (fun v (b : V × PyData) => RelV b.1 v) us (xs.zip ds) ∧ PySem.W.EachIs (fun v (b : V × PyData) => ∃ as, Reads s.heap v b.2 as) us (xs.zip ds)
  | _, _, _, .nil, .nil => ⟨.nil, .nil⟩
  | _, _, _, .cons d t, .cons r q => by
    obtain ⟨h1, h2⟩ := each_of I t q
    exact ⟨.cons r h1, .cons (d.reads I _ _ _ r) h2⟩
theorem each_vals : ∀ {us : List Value} {bs : List (V × PyData)}, PySem.W.EachIs (fun v (b : V × PyData) => RelV b.1 v) us bs → Vals (bs.map (·.1)) us
  | _, _, .nil => .nil
  | _, _, .cons r t => .cons r (each_vals t)
theorem zip_snd {α β : Type} : ∀ {xs : List α} {ys : List β}, xs.length = ys.length → (xs.zip ys).map (·.2) = ys
  | [], [], _ => rfl
  | x :: xs, y :: ys, h => by
    show y :: (xs.zip ys).map (·.2) = y :: ys
    rw [zip_snd (by simpa using h)]
  | [], _ :: _, h => by simp at h
  | _ :: _, [], h => by simp at h
theorem cr_sortD (hu : X.A.units + 64 < cLine) : CallR X (.builtin "sorted") (rSortD X.K) := by
  intro pins s σ H vs us Q I r h
  obtain ⟨a, xs, ds, rfl, hs, hd, hal, hk, hdep, q⟩ := h
  obtain ⟨its, rv, hl, hz⟩ := I.list hs
  obtain ⟨u, rfl, ru⟩ := vals1 r
  obtain rfl : u = Value.ref a := ru
  obtain ⟨e1, e2⟩ := each_of I hd rv
  have hlen := dpAll_len hd
  have em : (xs.zip ds).map (fun b : V × PyData => b.2) = ds := zip_snd hlen
  refine PySem.W.sorted_data (enc := fun b : V × PyData => b.2) hl.isList e1 e2 (by rw [em]; exact hal) (by rw [em]; exact hk) (by rw [List.length_zip]; omega) (fun b hb => ?_) fun out ho he => ?_
  · have hm : b.2 ∈ ds := by rw [← em]; exact List.mem_map.mpr ⟨b, hb, rfl⟩
    have := hdep _ hm
    omega
  · obtain ⟨n, hn⟩ := sortedAll_at s.heap its (List.toArray out)
    have rv2 := each_vals he
    have hsz : s.heap.objs.size ≤ s.heap.objs.size + 1 := Nat.le_succ _
    refine ⟨.ref _, upd H (s.heap.objs.size + 1) (.lst (srtD xs ds)), I.laid (t' := s.toks) (fun b o e => sortedAll_old e) hsz ⟨?_, out, n, rv2, hn⟩, rfl, q _ (I.hok.fresh hsz)⟩
    unfold srtD
    rw [List.length_map, List.length_mergeSort, List.length_zip]
    omega
theorem k_sortD (K : PySem.W.Frag) (hu : X.A.units + 64 < cLine) (h : X.K = K := by rfl) : CallR X (.builtin "sorted") (rSortD K) := by subst h; exact cr_sortD hu
end
end L2
end
section
set_option Elab.async false
set_option linter.all false
set_option maxRecDepth 100000
set_option maxHeartbeats 4000000
/-! P2s: set(xs) of a list of texts, and sorted of it -/
namespace L2
open PySem PySem.Spec PyProof.Rows
def tkey (e : Int × Value) : Str := match e.2 with | .str k _ => k | _ => Str.empty
def TextE (w : World) (e : Int × Value) : Prop := ∃ k tk, e.2 = Value.str k tk ∧ e.1 = hashStr w k
/-- the set of texts at a, ks its members in some order; it can be walked -/
def SetX (w : World) (h : Heap) (a : Addr) (ks : List Str) : Prop :=
  ∃ o es ep t, h.get? a = some o ∧ o.ExactSet ∧ o.data = .set es ep t ∧ (∀ e ∈ es.toList, TextE w e) ∧ (es.toList.map tkey).Perm ks ∧ ks.Nodup ∧
    es.size < scanBound ∧ t.fits es.size = true ∧ Ris t.place.toList ∧ (w.params.followText "set-order" = true ∨ t.led = true)
/-- one more text -/
def more (ks : List Str) (k : Str) : List Str := if k ∈ ks then ks else ks ++ [k]
section
variable {P : Program} {w : World} {A : Around} {E : Value → Shared → Prop} {s : Shared} {a : Addr} {ks : List Str}
theorem text_elems {l : List (Int × Value)} (g : ∀ e ∈ l, TextE w e) : ElemsOf (PySem.strKind P w) l := fun e he => by
  obtain ⟨k, tk, h1, h2⟩ := g e he
  exact ⟨⟨k, by rw [h1]; exact strKind_is P w k tk, h2⟩, by rw [h1] <;> rfl⟩
theorem text_is {e : Int × Value} (g : TextE w e) (k : Str) : (PySem.strKind P w).is k e.2 = true ↔ tkey e = k := by
  obtain ⟨k0, tk, h1, _⟩ := g
  unfold tkey
  rw [h1]
  constructor
  · intro h
    have h' : Value.isStrOf k (Value.str k0 tk) = true := h
    obtain ⟨t, e⟩ := Value.isStrOf_shape (x := k) h'
    injection e
  · rintro rfl
    exact strKind_is P w _ tk
theorem text_mem {l : List (Int × Value)} (g : ∀ e ∈ l, TextE w e) (k : Str) : k ∈ l.map tkey ↔ ∃ e ∈ l, (PySem.strKind P w).is k e.2 = true := by
  rw [List.mem_map]
  exact ⟨fun ⟨e, he, q⟩ => ⟨e, he, (text_is (g e he) k).2 q⟩, fun ⟨e, he, q⟩ => ⟨e, he, (text_is (g e he) k).1 q⟩⟩
theorem SetX.at {h h' : Heap} (R : SetX w h a ks) (k : ∀ o, h.get? a = some o → h'.get? a = some o) : SetX w h' a ks := by
  obtain ⟨o, es, ep, t, ho, r⟩ := R
  exact ⟨o, es, ep, t, k o ho, r⟩
theorem setX_tail {g : Bool → Sem Unit} (hg : ∀ (b : Bool) (s₁ : Shared) (Q' : Unit → Shared → Prop), Q' () s₁ → wpAny (model P w) A (g b) Q' E s₁)
    {o : Obj} {es es1 : Array (Int × Value)} {ep : Nat} {t t2 : SetTable} {ks' : List Str} (ho : s.heap.get? a = some o) (hex : o.ExactSet) (hd : o.data = .set es ep t) (g1 : ∀ e ∈ es1.toList, TextE w e) (p1 : (es1.toList.map tkey).Perm ks') (nd : ks'.Nodup)
    (hb1 : es1.size < scanBound) (hf2 : t2.fits es1.size = true) (hr : Ris t2.place.toList) (hl : w.params.followText "set-order" = true ∨ t2.led = true) {wd : Bool} {R : Option Bool → Shared → Prop}
    (hR : ∀ h', Heap.SameBut a s.heap h' → SetX w h' a ks' → R (some true) { s with heap := h' }) :
    wpAny (model P w) A (do
        storeSet a es1 t2
        if (!wd && t2.tooFull) = true then do
            g (relayAll t2 es1 (SetTable.grown es1.size)).2.2
            storeSet a (relayAll t2 es1 (SetTable.grown es1.size)).1 (relayAll t2 es1 (SetTable.grown es1.size)).2.1
            pure (some true)
          else pure (some true)) R E s := by
  refine wpAny_bind (wpAny_storeSet_of ho hd ?_ (fits_of_scanBound hb1))
  have o1 := store_at (es' := es1) (t' := t2) ho hd
  have b1 := Heap.SameBut.update s.heap a (Obj.putSet es1 t2)
  split
  · have pm := relayAll_perm t2 es1 (SetTable.grown es1.size)
    have f3 := relayAll_fits t2 es1 (SetTable.grown es1.size)
    have r3 := relayAll_ris t2 es1 (SetTable.grown es1.size)
    have l3 := relayAll_led t2 es1 (SetTable.grown es1.size)
    generalize relayAll t2 es1 (SetTable.grown es1.size) = Z at pm f3 r3 l3 ⊢
    obtain ⟨es2, t3, gave⟩ := Z
    dsimp only at pm f3 r3 l3 ⊢
    have z2 : es2.size = es1.size := by rw [← Array.length_toList, pm.length_eq, Array.length_toList]
    have b2 : es2.size < scanBound := by omega
    refine wpAny_bind (hg _ _ _ (wpAny_bind (wpAny_storeSet_of o1 rfl ?_ (fits_of_scanBound b2))))
    refine wpAny_pure (hR _ (b1.trans (Heap.SameBut.update _ a _)) ⟨_, es2, _, t3, store_at (es' := es2) (t' := t3) o1 rfl, hex, rfl, fun e he => g1 e (pm.mem_iff.mp he), (pm.map tkey).trans p1, nd, b2, f3, r3, ?_⟩)
    exact hl.imp id fun z => by rw [l3]; exact z
  · exact wpAny_pure (hR _ b1 ⟨_, es1, _, t2, o1, hex, rfl, g1, p1, nd, hb1, hf2, hr, hl⟩)
theorem setX_add {k : Str} {tk : Tok} {Q : Bool → Shared → Prop} (R : SetX w s.heap a ks) (room : ks.length + 1 < scanBound)
    (hQ : ∀ b h', Heap.SameBut a s.heap h' → SetX w h' a (more ks k) → Q b { s with heap := h' }) :
    wpAny (model P w) A (setAddHashed a (.str k tk) ((PySem.strKind P w).hash k)) Q E s := by
  obtain ⟨o, es, ep, t, ho, hex, hd, g, pm0, nd, hb, hf, hr, hl⟩ := R
  have hkey : (PySem.strKind P w).is k (.str k tk) = true := strKind_is P w k tk
  have hsc : (Value.str k tk).scannable = true := rfl
  have hel : ElemsOf (PySem.strKind P w) es.toList := text_elems g
  unfold setAddHashed setAddHashedIn
  refine wpAny_holding (wpAny_bind (wpAny_setState_of ho hd hf ?_))
  dsimp only
  rw [byScan_of hsc hb hel]
  simp only [↓reduceIte]
  unfold setAddByScan
  refine wpAny_bind (wpAny_bind (wpAny_rule (wpAny_bind (wpAny_setScan_of hkey ho hd hf hel ?_))))
  cases hfi : List.findIdx? (fun e => (PySem.strKind P w).is k e.2) es.toList with
  | some j =>
    dsimp only
    obtain ⟨hj, pj, _⟩ := List.findIdx?_eq_some_iff_getElem.mp hfi
    have hk : k ∈ ks := pm0.mem_iff.mp ((text_mem (P := P) g k).2 ⟨es.toList[j], List.getElem_mem hj, pj⟩)
    refine wpAny_pure (wpAny_pure (hQ _ s.heap (Heap.SameBut.refl a s.heap) ⟨o, es, ep, t, ho, hex, hd, g, ?_, ?_, hb, hf, hr, hl⟩))
    · unfold more; rw [if_pos hk]; exact pm0
    · unfold more; rw [if_pos hk]; exact nd
  | none =>
    dsimp only
    have hnk : k ∉ ks := fun z => by
      obtain ⟨e, he, q⟩ := (text_mem (P := P) g k).1 (pm0.mem_iff.mpr z)
      have c := List.findIdx?_eq_none_iff.mp hfi e he
      rw [q] at c
      cases c
    have em : more ks k = ks ++ [k] := by unfold more; rw [if_neg hnk]
    have hgw : ∀ (b : Bool) {s₁ : Shared} {Q' : Unit → Shared → Prop}, Q' () s₁ → wpAny (model P w) A (match b with | true => rule "set.scan.the-table-gave-way" | false => pure ()) Q' E s₁ :=
      fun b s₁ Q' q => by cases b <;> first | exact wpAny_pure q | exact wpAny_rule q
    have pm := layNew_perm t es ((PySem.strKind P w).hash k) (.str k tk)
    have f1 := layNew_fits t es ((PySem.strKind P w).hash k) (.str k tk)
    have r1 := layNew_ris t es ((PySem.strKind P w).hash k) (.str k tk) hr
    have l1 := layNew_led t es ((PySem.strKind P w).hash k) (.str k tk)
    generalize layNew t es ((PySem.strKind P w).hash k) (.str k tk) = Z at pm f1 r1 l1 ⊢
    obtain ⟨es1, t1, wd, gave⟩ := Z
    dsimp only at pm f1 r1 l1 ⊢
    rw [Array.toList_push] at pm
    have g1 : ∀ e ∈ es1.toList, TextE w e := fun e he => by
      rcases List.mem_append.mp (pm.mem_iff.mp he) with z | z
      · exact g e z
      · rw [List.mem_singleton.mp z]; exact ⟨k, tk, rfl, rfl⟩
    have p1 : (es1.toList.map tkey).Perm (more ks k) := by
      have := pm.map tkey
      rw [List.map_append] at this
      rw [em]
      exact this.trans (pm0.append_right _)
    have nd1 : (more ks k).Nodup := by
      rw [em]
      refine List.nodup_append.mpr ⟨nd, by simp, fun x hx y hy => ?_⟩
      rw [List.mem_singleton.mp hy]
      exact fun e => hnk (e ▸ hx)
    have hb1 : es1.size < scanBound := by
      have := p1.length_eq
      rw [List.length_map, Array.length_toList, em, List.length_append] at this
      simp at this
      omega
    have hled : w.params.followText "set-order" = true ∨ t1.led = true := hl.imp id fun z => by rw [l1]; exact z
    refine wpAny_bind (hgw _ ?_)
    split
    · refine wpAny_bind ?_
      rw [hashByValue_scannable 8 hsc]
      refine wpAny_pure ?_
      refine setX_tail ?_ ho hex hd g1 p1 nd1 hb1 ?_ ?_ ?_ ?_
      · intro b s₁ Q' q; cases b <;> first | exact wpAny_pure q | exact wpAny_rule q
      · first | (split <;> first | exact f1 | exact SetTable.fits_plain_off f1) | exact f1
      · first | (split <;> exact r1) | exact r1
      · first | (split <;> exact hled) | exact hled
      · intro h' sb r; dsimp only; exact wpAny_pure (hQ _ h' sb r)
    · refine wpAny_bind (wpAny_pure ?_)
      simp only [↓reduceIte]
      refine setX_tail ?_ ho hex hd g1 p1 nd1 hb1 f1 r1 hled ?_
      · intro b s₁ Q' q; cases b <;> first | exact wpAny_pure q | exact wpAny_rule q
      · intro h' sb r; dsimp only; exact wpAny_pure (hQ _ h' sb r)
/-- the loop of set.update over an iterator of texts -/
theorem textLoop {R : Result → Shared → Prop} {I : Addr} {fp wr : List Addr} {G : Array GenState → Array GenState → Prop} {n : Nat} {Pv : Nat → Value → Prop} {St : Nat → Shared → Prop} (W : WalksS P w A.in1 I fp wr G n Pv St) (S : Addr) (hSf : S ∉ fp) (xs : List Str) (hn : xs.length = n) (hb : n + 1 < scanBound)
    (hval : ∀ i v, Pv i v → ∃ t, v = .str (xs.getD i Str.empty) t) :
    ∀ (m i : Nat) (s : Shared), n - i = m → i ≤ n → St i s → SetX w s.heap S ((xs.take i).foldl more []) →
      (∀ s', Moved (S :: wr) G s s' → SetX w s'.heap S (xs.foldl more []) → R (.ok (.ret .none)) s') →
      codeAny (model P w) A (.builtin "set.update.loop" ⟨[.ref S, .ref I], []⟩) R s := by
  have hSw : S ∉ wr := fun h => hSf (W.sub _ h)
  have hsub : ∀ b ∈ wr, b ∈ S :: wr := fun b hb => List.mem_cons_of_mem _ hb
  have mle : ∀ l : List Str, (l.foldl more []).length ≤ l.length := by
    have h : ∀ (l acc : List Str), (l.foldl more acc).length ≤ acc.length + l.length := by
      intro l
      induction l with
      | nil => intro acc; simp
      | cons x l ih =>
        intro acc
        have := ih (more acc x)
        have h2 : (more acc x).length ≤ acc.length + 1 := by unfold more; split <;> simp
        simp only [List.foldl_cons, List.length_cons]
        omega
    intro l
    have := h l []
    simpa using this
  intro m
  induction m with
  | zero =>
    intro i s hm hi hst hS hR
    have e : i = n := by omega
    subst e
    refine codeAny_builtin F.entry_set_update_loop ?_
    rw [Around.under_plainId F.plain_set_update_loop _]
    show wpAny _ A.in1 (pyNext (.ref I) >>= _) _ _ s
    refine wpAny_bind (W.done s _ _ hst fun s' mv => ?_)
    show wpAny _ A.in1 (ret Value.none) _ _ s'
    rw [← hn, List.take_length] at hS
    exact wpAny_pure (hR s' (mv.mono hsub) (hS.at fun o ho => mv.heap S _ hSw ho))
  | succ m ih =>
    intro i s hm hi hst hS hR
    have hlt : i < n := by omega
    refine codeAny_builtin F.entry_set_update_loop ?_
    rw [Around.under_plainId F.plain_set_update_loop _]
    show wpAny _ A.in1 (pyNext (.ref I) >>= _) _ _ s
    refine wpAny_bind (W.item i s _ _ hlt hst fun v s' hP hst' mv => ?_)
    obtain ⟨t, rfl⟩ := hval i v hP
    have hS' := hS.at (h' := s'.heap) fun o ho => mv.heap S _ hSw ho
    show wpAny _ A.in1 (holding [Value.str (xs.getD i Str.empty) t] (setAdd S (.str (xs.getD i Str.empty) t)) >>= _) _ _ s'
    refine wpAny_bind (wpAny_holding ?_)
    unfold setAdd
    refine wpAny_holding (wpAny_bind ((PySem.strKind P w).pyHash (k := xs.getD i Str.empty) (strKind_is _ _ _ _) ?_))
    have room : ((xs.take i).foldl more []).length + 1 < scanBound := by
      have := mle (xs.take i)
      rw [List.length_take] at this
      omega
    refine setX_add (s := { s' with toks := s'.toks + 1 }) hS' room fun _ h' hsb hS2 => ?_
    have e2 : more ((xs.take i).foldl more []) (xs.getD i Str.empty) = (xs.take (i + 1)).foldl more [] := by
      have hi' : i < xs.length := by omega
      rw [List.take_add_one, List.getElem?_eq_getElem hi', List.foldl_append, List.getD_eq_getElem?_getD, List.getElem?_eq_getElem hi']
      rfl
    rw [e2] at hS2
    refine wpAny_pure ⟨plainId_quiet F.plain_set_update_loop _, ih (i + 1) _ (by omega) hlt (W.frame _ s' _ _ hst' (Nat.le_succ _) fun b hb o e => ?_) hS2 fun s'' mv'' hS'' => ?_⟩
    · rw [hsb.2 b (fun h : b = S => hSf (by rw [← h]; exact hb))]; exact e
    · refine hR s'' (Moved.trans W.gtrans ((mv.mono hsub).then_heap (Nat.le_succ _) fun b o hb e => ?_) mv'') hS''
      rw [hsb.2 b (fun h : b = S => hb (by rw [h]; exact List.mem_cons_self))]; exact e
end
end L2
end
section
set_option Elab.async false
set_option linter.all false
set_option maxRecDepth 100000
set_option maxHeartbeats 4000000
/-! P2t: set(xs) of a list of texts, sorted of it: the calls -/
namespace L2
open PySem PySem.Spec PyProof.Rows
theorem setX_fresh {w : World} {h : Heap} {a : Addr} (ho : h.get? a = some { cls := .type "set", dict := none, data := .set #[] 0 (.fresh 0 0 (!w.params.followText "set-order")) }) : SetX w h a [] := by
  obtain ⟨o, es, ep, t, h1, h2, h3, h4, h5, h6, h7, h8, h9, h10, h11⟩ := setR_new_at (w := w) (ns := []) ho
  have e := h1.symm.trans ho
  injection e with e
  subst e
  injection h3 with e1 e2 e3
  subst e1; subst e2; subst e3
  exact ⟨_, #[], 0, _, ho, h2, rfl, fun e he => by simp at he, by simp, by simp, h7, h8, h10, h11⟩
section
variable {P : Program} {w : World} {A : Around} {E : Value → Shared → Prop} {s : Shared}
theorem call_set_texts {l : Addr} {items : Array Value} {xs : List Str} {Q : Value → Shared → Prop}
    (hh : A.handled = none) (hl : s.heap.IsList l items) (hi : PyProof.Rows.StrsAre items.toList xs) (hb : items.size + 1 < scanBound)
    (h : ∀ (h' : Heap) (tk : Nat), SetX w h' s.heap.objs.size (xs.foldl more []) →
      (∀ b o, s.heap.get? b = some o → h'.get? b = some o) → Q (.ref s.heap.objs.size) { s with heap := h', toks := tk }) :
    wpAny (model P w) A (call (.type "set") [.ref l]) Q E s := by
  obtain ⟨c, tl, hmro⟩ := F.called_set.mro
  have hmade := F.called_set.made
  have hsub := F.called_set.sub
  refine wpAny_call (codeAny_of_tree ?_)
  show wpAny _ _ (callAny (.type "set") _) _ _ _
  refine wpAny_pure ⟨Code.quiet_builtin _ (by decide +kernel), codeAny_builtin F.entry_type_call ?_⟩
  rw [Around.under_plain (weight_type_call_type "set" [.ref l] []) rfl]
  have h1 := F.called_set.notType
  have h2 := F.called_set.canCreate
  have hct := F.typeCall_set_1 (.ref l)
  repeat (any_goals (first | assumption | wp_step))
  refine codeAny_mono (code_set_led1 (.ref l) (E := E) (Q₁ := fun obj s₁ => obj = .ref s.heap.objs.size ∧ s₁ = { s with heap := s.heap.push { cls := .type "set", dict := none, data := .set #[] 0 (.fresh 0 0 (!w.params.followText "set-order")) } }) ⟨rfl, rfl⟩) fun r s₁ hr => ?_
  cases r with
  | error e => exact hr
  | ok fl =>
    cases fl with
    | ret obj =>
      obtain ⟨rfl, rfl⟩ := hr
      have hS : (s.heap.push { cls := .type "set", dict := none, data := .set #[] 0 (.fresh 0 0 (!w.params.followText "set-order")) }).get? s.heap.objs.size = some { cls := .type "set", dict := none, data := .set #[] 0 (.fresh 0 0 (!w.params.followText "set-order")) } := Heap.get?_push_size _ rfl
      have hT : Shared.TypeIs { s with heap := s.heap.push { cls := .type "set", dict := none, data := .set #[] 0 (.fresh 0 0 (!w.params.followText "set-order")) } } (.ref s.heap.objs.size) "set" := ⟨_, hS, rfl⟩
      have hli := F.called_set.init.lookup
      have hbi := F.called_set.init.bind (.ref s.heap.objs.size)
      repeat (any_goals (first | assumption | wp_step))
      refine codeAny_mono (codeAny_call_builtin (R := wants (fun r s₂ => r = .none ∧ ∃ h' tk, s₂ = { s with heap := h', toks := tk } ∧ SetX w h' s.heap.objs.size (xs.foldl more []) ∧
          (∀ b o, s.heap.get? b = some o → h'.get? b = some o)) E) F.called_set.init.plain F.entry_set_init (check_set_init_1 hT ?_)) fun r₂ s₂ hr₂ => ?_
      · obtain ⟨ol, hol, hcl, nl, hdl⟩ := hl
        obtain ⟨ocls, odict, odata, oslots⟩ := ol
        simp only at hcl hdl
        subst hcl; subst hdl
        have hol' : (s.heap.push { cls := .type "set", dict := none, data := .set #[] 0 (.fresh 0 0 (!w.params.followText "set-order")) }).get? l = some { cls := .type "list", dict := odict, data := .seq items nl, slots := oslots } := Heap.get?_push_of_some _ hol
        have hsls := F.sub_list_set
        have hslf := F.sub_list_frozenset
        have hne : (Value.type "list" == Value.type "dict") = false := by decide
        have hl1 : (s.heap.push { cls := .type "set", dict := none, data := .set #[] 0 (.fresh 0 0 (!w.params.followText "set-order")) }).IsList l items := ⟨_, hol', rfl, nl, rfl⟩
        unfold Builtin.«set.__init__» noKeywords Builtin.Frozenset.updateFrom
        generalize hPI : pyIter = PI
        wp_walk
        subst hPI
        refine wpAny_pyIter_list hl1 ?_
        refine wpAny_bind (wpAny_runValue ?_)
        have hlS : l < s.heap.objs.size := Heap.lt_size hol
        have hh3 : A.in1.in1.in1.handled = none := by simp [hh]
        have hneI : l ≠ (s.heap.push { cls := .type "set", dict := none, data := .set #[] 0 (.fresh 0 0 (!w.params.followText "set-order")) }).objs.size := by
          rw [Heap.size_push]; exact Nat.ne_of_lt (Nat.lt_succ_of_lt hlS)
        have hSf : s.heap.objs.size ∉ [(s.heap.push { cls := .type "set", dict := none, data := .set #[] 0 (.fresh 0 0 (!w.params.followText "set-order")) }).objs.size, l] := by
          rw [Heap.size_push]; simp only [List.mem_cons, List.mem_singleton, List.not_mem_nil, or_false, not_or]
          exact ⟨Nat.ne_of_lt (Nat.lt_succ_self _), Nat.ne_of_gt hlS⟩
        have hsz : xs.length = items.size := by rw [← StrsAre.len_eq hi, Array.length_toList]
        have hval : ∀ (i : Nat) (v : Value), items[i]? = some v → ∃ t, v = .str (xs.getD i Str.empty) t := fun i v hv => SS.strs_at hi i v (by rw [Array.getElem?_toList]; exact hv)
        refine textLoop ((Walks.list hh3 _ l hneI items).toS) s.heap.objs.size
          hSf xs hsz hb hval (items.size - 0) 0 _ (by omega) (Nat.zero_le _)
          ⟨⟨_, Heap.get?_push_size _ rfl, rfl, rfl⟩, (hl1.push _)⟩ ?hS0 ?hR
        case hS0 =>
          have hget : ((s.heap.push { cls := .type "set", dict := none, data := .set #[] 0 (.fresh 0 0 (!w.params.followText "set-order")) }).push { cls := .type "list_iterator", data := .fields #[.ref l, .int 0 0] }).get? s.heap.objs.size
              = some { cls := .type "set", dict := none, data := .set #[] 0 (.fresh 0 0 (!w.params.followText "set-order")) } := Heap.get?_push_of_some _ hS
          exact setX_fresh hget
        case hR =>
          intro s' hm hS'
          obtain ⟨h', g2, d', tk', os'⟩ := s'
          have eg : g2 = s.gens := hm.gens
          have ed : d' = s.drawn := hm.drawn
          have eo : os' = s.os := hm.os
          subst eg; subst ed; subst eo
          show wpAny _ _ _ _ _ _
          refine wpAny_pure ?_
          show wpAny _ _ (ret Value.none) _ _ _
          refine wpAny_pure ⟨rfl, h', tk', rfl, hS', fun b o e => ?_⟩
          have hb0 : b < s.heap.objs.size := Heap.lt_size e
          have hb1 : b ≠ s.heap.objs.size := Nat.ne_of_lt hb0
          have hb2 : b ≠ (s.heap.push { cls := .type "set", dict := none, data := .set #[] 0 (.fresh 0 0 (!w.params.followText "set-order")) }).objs.size := by
            rw [Heap.size_push]; exact Nat.ne_of_lt (Nat.lt_succ_of_lt hb0)
          exact hm.heap b o (by simp only [List.mem_cons, List.mem_singleton, List.not_mem_nil, or_false, not_or]; exact ⟨hb1, hb2⟩) (Heap.get?_push_of_some _ (Heap.get?_push_of_some _ e))
      · cases r₂ with
        | error e => exact hr₂
        | ok fl₂ =>
          cases fl₂ with
          | ret r =>
            obtain ⟨rfl, h', tk, rfl, hS', hk'⟩ := hr₂
            repeat (any_goals (first | assumption | wp_step))
            exact h _ _ hS' hk'
          | _ => exact hr₂.elim
    | _ => exact hr.elim
/-- the texts as data -/
def dtx (k : Str) : PyData := .str k
theorem texts_each : ∀ {vs : List Value} {ks : List Str}, StrsAre vs ks → PySem.W.EachIs (fun v k => ∃ tk, v = Value.str k tk) vs ks
  | _, _, .nil => .nil
  | _, _, .cons k t r => .cons ⟨t, rfl⟩ (texts_each r)
theorem each_texts : ∀ {vs : List Value} {ks : List Str}, PySem.W.EachIs (fun v k => ∃ tk, v = Value.str k tk) vs ks → Vals (ks.map V.str) vs
  | _, _, .nil => .nil
  | _, _, .cons r t => by
    obtain ⟨tk, e⟩ := r
    exact .cons ⟨tk, e⟩ (each_texts t)
theorem strs_of : ∀ (l : List Value), (∀ v ∈ l, ∃ k tk, v = Value.str k tk) → ∃ ks, StrsAre l ks ∧ l.map (fun v => tkey (0, v)) = ks
  | [], _ => ⟨[], .nil, rfl⟩
  | v :: l, h => by
    obtain ⟨k, tk, rfl⟩ := h v List.mem_cons_self
    obtain ⟨ks, r, e⟩ := strs_of l fun u hu => h u (List.mem_cons_of_mem _ hu)
    exact ⟨k :: ks, .cons k tk r, by rw [← e]; rfl⟩
/-- the texts in order -/
def srtT (ks : List Str) : List Str := ks.mergeSort (PySem.W.dataLe false dtx)
theorem sorted_setX {a : Addr} {ks : List Str} {Q : Value → Shared → Prop} (R : SetX w s.heap a ks) (hh : A.handled = none) (hu : A.units + 64 < cLine)
    (hQ : ∀ s' p (out : List Value) (c : Nat) (ks' : List Str), (∀ b o, s.heap.get? b = some o → s'.heap.get? b = some o) → s'.gens = s.gens → s'.os = s.os → s.heap.objs.size ≤ p →
      s'.heap.get? p = some (seqObj "list" out.toArray c) → Vals ((srtT ks').map V.str) out → ks'.Perm ks → out.length ≤ sizeLine → Q (.ref p) s') :
    wpAny (model P w) A (call (.builtin "sorted") [.ref a]) Q E s := by
  obtain ⟨o, es, ep, t, ho, hex, hd, g, pm0, nd, hb, hf, hr, hl⟩ := R
  refine Calls.call_function_entry kind_sorted plain_sorted entry_sorted (args_sorted1 _) ?_
  unfold Builtin.«sorted»
  refine wpAny_bind (m := checkCount "sorted" 1 1 _) (wpAny_pure ?_)
  refine wpAny_bind (collect_set (A := A.in1) hh ⟨o, ho, hex.1, hd⟩ hf hb hr hl fun s1 vs k1 hz g1 o1 pm => ?_)
  have hvl : vs.length = es.size := by rw [pm.length_eq, List.length_map, Array.length_toList]
  obtain ⟨ks', hI, hk'⟩ := strs_of vs fun v hv => by
    obtain ⟨e, he, q⟩ := List.mem_map.mp (pm.mem_iff.mp hv)
    obtain ⟨k, tk, h1, _⟩ := g e he
    exact ⟨k, tk, by rw [← q]; exact h1⟩
  have pk : ks'.Perm ks := by
    have q := pm.map (fun v => tkey (0, v))
    rw [List.map_map, hk'] at q
    exact q.trans pm0
  have hlk : ks'.length = vs.length := by rw [← hk', List.length_map]
  have hle : vs.length ≤ sizeLine := by rw [hvl, sizeLine_eq]; unfold scanBound at hb; omega
  refine wpAny_bind (wpAny_newList ?_ hle)
  have hoL : (s1.heap.push (seqObj "list" vs.toArray 0)).get? s1.heap.objs.size = some (seqObj "list" vs.toArray 0) := Heap.get?_push_size _ rfl
  have eI := texts_each hI
  refine wpAny_bind (wpAny_holding (PySem.W.list_sort_data (s := { s1 with heap := s1.heap.push (seqObj "list" vs.toArray 0) }) (enc := dtx) hoL eI (eI.mono fun v k ⟨tk, e⟩ => ⟨[], by subst e; exact .str k tk, by simp⟩) (PySem.W.AllAlike.of fun b b' => rfl) (PySem.W.Sortable.others fun b => ⟨(fun z => by cases z), (fun xs z => by cases z)⟩) (by omega) (fun b hb => ?_) fun out ho eo => ?_))
  · have : (dtx b).depth ≤ 1 := by simp [dtx, PyData.depth]
    have h2 : A.in1.units ≤ A.units + 1 := by simp
    omega
  · obtain ⟨c, hc⟩ := sortedHeap_at (vs := vs) (out := out.toArray) hoL
    refine wpAny_pure ⟨_, rfl, hQ _ s1.heap.objs.size out c ks' (fun b u e => ?_) g1 o1 hz hc (each_texts eo) pk (by omega)⟩
    have q := k1 b u e
    have hlt := Heap.lt_size q
    show (sortedHeap (s1.heap.push (seqObj "list" vs.toArray 0)) s1.heap.objs.size vs out.toArray).get? b = some u
    rw [sortedHeap_old (Nat.ne_of_lt hlt) (by rw [size_push']; exact Nat.lt_succ_of_lt hlt)]
    exact Heap.get?_push_of_some _ q
end
def SetXO (w : World) (a : Addr) (ks : List Str) : HO := .ext fun h => SetX w h a ks
theorem setXO_new {P : Program} {w : World} {H : Hp} {h : Heap} {a : Addr} {ks : List Str} (R : SetX w h a ks) : ObjOk P w H h a (SetXO w a ks) := by
  have ⟨o, es, ep, t, ho, r⟩ := R
  exact ⟨R, ⟨o, ho⟩, fun h1 h2 p k => SetX.at p k⟩
section
variable {X : Cx}
/-- set(xs), xs a list of texts -/
def rSetX (K : PySem.W.Frag) (w : World) : List V → Hp → VK → Prop := fun vs H Q => ∃ (l : Addr) (xs : List Str), vs = [V.ref l] ∧ SqL K H l (xs.map V.str) ∧ xs.length ≤ 1000 ∧ ∀ p, H p = none → Q (.ref p) (upd H p (SetXO w p (xs.foldl more [])))
theorem cr_setX (hc : X.calm = true) : CallR X (.type "set") (rSetX X.K X.w) := by
  intro pins s σ H vs us Q I r h
  obtain ⟨l, xs, rfl, hl, hf, q⟩ := h
  rw [Vals.ref1 r]
  obtain ⟨its, rv, pl, hz⟩ := I.list hl
  have hn : H s.heap.objs.size = none := I.hok.fresh (Nat.le_refl _)
  have hs := strs_of_vals rv
  have hlen : its.length = xs.length := StrsAre.len_eq hs
  refine call_set_texts (P := X.prog) (w := X.w) (I.ok.hd hc) pl.isList (by simpa using hs) (by unfold scanBound; simp; omega) fun h' tk R k => ?_
  exact ⟨.ref s.heap.objs.size, upd H s.heap.objs.size (SetXO X.w s.heap.objs.size (xs.foldl more [])), I.laid (t' := tk) k (Nat.le_refl _) (setXO_new R), rfl, q _ hn⟩
theorem k_setX (K : PySem.W.Frag) (w : World) (hc : X.calm = true) (h : X.K = K := by rfl) (hw : X.w = w := by rfl) : CallR X (.type "set") (rSetX K w) := by subst h; subst hw; exact cr_setX hc
/-- sorted of a set of texts -/
def rSortX (w : World) : List V → Hp → VK → Prop := fun vs H Q => ∃ (a : Addr) (ks : List Str), vs = [V.ref a] ∧ H a = some (SetXO w a ks) ∧ ∀ p ks', ks'.Perm ks → H p = none → Q (.ref p) (upd H p (.lst ((srtT ks').map V.str)))
theorem cr_sortX (hc : X.calm = true) (hu : X.A.units + 64 < cLine) : CallR X (.builtin "sorted") (rSortX X.w) := by
  intro pins s σ H vs us Q I r h
  obtain ⟨a, ks, rfl, ha, q⟩ := h
  have R : SetX X.w s.heap a ks := (I.hok a _ ha).1
  rw [Vals.ref1 r]
  refine sorted_setX R (I.ok.hd hc) hu fun s' p out c ks' k g o hp hg hv pm hlen => ?_
  have hn : H p = none := I.hok.fresh hp
  have hl2 : ((srtT ks').map V.str).length ≤ sizeLine := by
    have : ((srtT ks').map V.str).length = out.length := Paired.length hv
    omega
  have J : Inv X pins σ (upd H p (.lst ((srtT ks').map V.str))) { s with heap := s'.heap, gens := s'.gens, drawn := s'.drawn, toks := s'.toks } :=
    I.call (ch := []) (Un.laid k hp hn) (I.hok.laid k hp ⟨hl2, out, c, hv, hg⟩) (by rw [g]; exact I.bare) (fun _ z => nomatch z)
  have e : s' = { s with heap := s'.heap, gens := s'.gens, drawn := s'.drawn, toks := s'.toks } := by
    cases s'
    cases s
    cases o
    rfl
  rw [e]
  exact ⟨.ref p, _, J, rfl, q p ks' pm hn⟩
theorem k_sortX (w : World) (hc : X.calm = true) (hu : X.A.units + 64 < cLine) (hw : X.w = w := by rfl) : CallR X (.builtin "sorted") (rSortX w) := by subst hw; exact cr_sortX hc hu
end
end L2
end
section
set_option Elab.async false
set_option linter.all false
set_option maxRecDepth 100000
set_option maxHeartbeats 4000000
/-! P3: dicts with tuple keys: comprehension, walk, freeze -/
namespace L2
open PySem PySem.Spec PyProof.Rows
/-! ### a thing is frozen for good: known to its object, read alone from here on -/
def tFrz (t : TE) : TE := fun σ H Q => t σ H fun v H1 => ∃ d u, H1 d = some u ∧ Mut (some u) ∧ ∀ od, Q v (upd H1 d (.frz od u))
def tFrzS (t : TS) : TS := fun D σ H => ∃ d u, H d = some u ∧ Mut (some u) ∧ ∀ od, t D σ (upd H d (.frz od u))
section
variable {X : Cx}
theorem pe_frz {e : Expr} {t : TE} (h : PE X e t) : PE X e (tFrz t) := by
  refine ⟨fun pins s σ H Q I hw => ?_⟩
  refine thn (h.run pins s σ _ _ I hw) fun v s1 ⟨x, H1, I2, r, d, u, hd, mu, q⟩ => ?_
  obtain ⟨od, I3⟩ := I2.lock hd mu
  exact ⟨x, _, I3, r, q od⟩
theorem ps_frz {st : Stmt} {t : TS} (h : PS X st t) : PS X st (tFrzS t) := by
  refine ⟨fun pins s σ H D I hw => ?_⟩
  obtain ⟨d, u, hd, mu, hw⟩ := hw
  obtain ⟨od, I1⟩ := I.lock hd mu
  exact h.run pins s σ _ _ I1 (hw od)
end
/-! ### {k: v for target in iter if ..}, the keys tuples -/
theorem d_dictSetT {X : Cx} {pins : List (Addr × Obj)} {σ : St} {H H' : Hp} {s : Shared} {E : Value → Shared → Prop} {D : Addr} {y v : V} {u r : Value} {Q : Unit → Shared → Prop} (hu : X.A.units + 1 < cLine) (I : Inv X pins σ H s) (g : DPut H D y v H')
    (ry : RelV y u) (rv : RelV v r) (h : ∀ s', Inv X pins σ H' s' → Q () s') : wpAny (model X.prog X.w) X.A (dictSet D u r) Q E s := by
  rcases g with ⟨kvs, k, e, ey, l, eH⟩ | ⟨kvs, k, b, e, ey, eb, l, eH⟩
  · subst ey eH
    exact d_dictSet I e l ry rv h
  · subst ey eH
    cases (show u = Value.ref b from ry)
    obtain ⟨z, hd, xs, rel, dd⟩ := dt_of I.hok e
    have hz : xs.length ≤ sizeLine := by rw [← Paired.length rel]; exact z
    have hl : (putK kvs k v).length ≤ sizeLine := by have := length_putK kvs k v; omega
    refine wpAny_dictSet_heap (hsz := hz) (show X.A.units < cLine by omega) (key_of I.hok eb) dd fun h' dd' hs => h _ ?_
    obtain ⟨q, es, ep, hq, h2, h3, h4, _, h5⟩ := dd'
    refine d_write I (by rw [e]; exact True.intro) hs ⟨q, hq⟩ ⟨hl, hd, _, (rel.put k eb rv).keeps fun c ys ec => ?_, q, es, ep, hq, h2, h3, h4, h5⟩
    rw [upd_ne (ne_of ec e (fun z => nomatch z))]
    exact ec
section
variable {X : Cx}
def tDcT (wi : TI) (g : TG) (tt : TT) (tk tv : TE) (vs : List Nat) : TE := fun σ H Q => wi σ H fun J H1 => ∀ D, H1 D = none → ∃ W : Nat → Nat → Hp → Prop, (∃ m, W 0 m (upd H1 D (.dT []))) ∧ ∀ i m H, W i m H →
  (J.stop i H ∧ Q (.ref D) H) ∨ (J.go i H ∧ ∃ Nx : Hp → Prop, (∀ H', Nx H' → ∃ m', m' < m ∧ W (i + 1) m' H') ∧ ∀ x H', J.yld i H x H' → g x (wipe σ vs) H' fun σ2 H2 => wipe σ2 vs = wipe σ vs ∧ tt σ2 H2 fun b H3 =>
    if b = true then tk σ2 H3 fun y H4 => tv σ2 H4 fun z H5 => ∃ H6, DPut H5 D y z H6 ∧ Nx H6 else Nx H3)
theorem dcT_core {pins : List (Addr × Obj)} {s : Shared} {σ : St} {H : Hp} {Q : VK} {kx vx tg iter : Expr} {ifs : List Expr} {scope : Scope} {own : List (Str × Nat)} {pos pos' : Pos} {wi : TI} {g : TG} {tt : TT} {tk tv : TE} {use : Option (Value → Sem Unit)} {Qf : Value → Shared → Prop}
    (hu : X.A.units + 1 < cLine) (hc : X.calm = true) (hN : X.N.Nodup) (I : Inv X pins σ H s) (hi : PI X tg iter wi) (ok : BlkOk X.N X.env.scope scope own)
    (hg : ∀ (s : Shared) (H : Hp) (C : Addr) (cl : List (Str × Addr)) (fp : List Addr), PG (X.blk s H scope (compEnvC scope cl C X.env) fp) tg g) (ht : ∀ (s : Shared) (H : Hp) (C : Addr) (cl : List (Str × Addr)) (fp : List Addr), PTs (X.blk s H scope (compEnvC scope cl C X.env) fp) ifs tt)
    (hk : ∀ (s : Shared) (H : Hp) (C : Addr) (cl : List (Str × Addr)) (fp : List Addr), PE (X.blk s H scope (compEnvC scope cl C X.env) fp) kx tk)
    (he : ∀ (s : Shared) (H : Hp) (C : Addr) (cl : List (Str × Addr)) (fp : List Addr), PE (X.blk s H scope (compEnvC scope cl C X.env) fp) vx tv) (hs : ∀ x, foldedSetIterable iter X.env x = pure x)
    (h : tDcT wi g tt tk tv (own.map (·.2)) σ H Q)
    (hRR : ∀ D C s' m H', Inv X pins σ H' s' → Q (.ref D) H' → s'.heap.Ns C m → FpOk X pins H' C → compPost (model X.prog X.w) X.A X.xe use Qf (.ref D) C (.ok .next) s') :
    wpAny (model X.prog X.w) X.A (comprehension (.DictComp kx vx [⟨tg, iter, ifs, 0⟩] scope pos) scope X.env pos' newDict false (eval iter X.env) use) Qf X.xe s := by
  have hfree : ∀ y ∈ scope.names, y.2 = .free → ∃ c, X.env.cells.lookup y.1 = some c := fun y hy e => by
    rcases ok.free y hy e with k | k
    · exact I.ok.has _ (.inl k)
    · exact I.ok.has _ (.inr k)
  refine wpAny_comprehension_free (use := use) rfl hs (closure_ok hfree) ok.kind (fun y hy e => by rw [ok.uniq y hy, e])
    (thn (hi.run pins s σ H _ I h) fun xv s1 hx => thn hx fun itv s2 h2 => ?_)
  obtain ⟨it, fp, tn, J, H2, e, I2, T, st2, f2, q⟩ := h2
  subst e
  refine wpAny_newObj_type (newEnv_comp ?_)
  generalize hD : s2.heap.objs.size = D
  have hDn : H2 D = none := I2.hok.fresh (Nat.le_of_eq hD)
  obtain ⟨W, ⟨m0, w0⟩, turn⟩ := q D hDn
  -- the new list
  generalize hs3 : ({ s2 with heap := s2.heap.push { cls := .type "dict", data := .dict #[] } } : Shared) = s3
  have I3 : Inv X pins σ (upd H2 D (.dT [])) s3 := by
    rw [← hs3]
    refine I2.laid (t' := s2.toks) (fun b o e => Heap.get?_push_of_some _ e) (Nat.le_of_eq hD) ?_
    rw [← hD]
    exact dt_empty s2.heap I2.big
  have h3 : s3.heap = s2.heap.push { cls := .type "dict", data := .dict #[] } := by rw [← hs3]
  have sz : ∀ b ∈ fp, b < s2.heap.objs.size := fun b hb => by
    obtain ⟨o, e, _⟩ := T.obj _ _ st2 b hb
    exact Heap.lt_size e
  have f3 : ∀ b ∈ fp, FpOk X pins (upd H2 D (.dT [])) b ∧ b < s3.heap.objs.size := fun b hb => by
    have hlt := sz b hb
    refine ⟨⟨?_, (f2 b hb).2⟩, by rw [h3, Heap.size_push]; exact Nat.lt_succ_of_lt hlt⟩
    rw [upd_ne (by rw [← hD]; exact Nat.ne_of_lt hlt)]
    exact (f2 b hb).1
  have st3 : tn 0 s3.heap := T.keep _ _ _ st2 fun b _ o e => by rw [h3]; exact Heap.get?_push_of_some _ e
  have I4 := block_start I3 ok hN f3
  have pg := hg s3 (upd H2 D (.dT [])) s3.heap.objs.size (cellsFrom (s3.heap.objs.size + 1) scope.names (cloFrom X.env.cells scope.names [])) fp
  have pt := ht s3 (upd H2 D (.dT [])) s3.heap.objs.size (cellsFrom (s3.heap.objs.size + 1) scope.names (cloFrom X.env.cells scope.names [])) fp
  have pk := hk s3 (upd H2 D (.dT [])) s3.heap.objs.size (cellsFrom (s3.heap.objs.size + 1) scope.names (cloFrom X.env.cells scope.names [])) fp
  have pe := he s3 (upd H2 D (.dT [])) s3.heap.objs.size (cellsFrom (s3.heap.objs.size + 1) scope.names (cloFrom X.env.cells scope.names [])) fp
  show codeAny _ _ (.compStart (.DictComp kx vx [⟨tg, iter, ifs, 0⟩] scope pos) 0 (.ref it) (.ref D) (compEnvC scope (cellsFrom (s3.heap.objs.size + 1) scope.names (cloFrom X.env.cells scope.names [])) s3.heap.objs.size X.env)) (compPost (model X.prog X.w) X.A X.xe use Qf (.ref D) s3.heap.objs.size) { s3 with heap := pushCells (s3.heap.push { cls := .type "dict", data := .dict #[] }) scope.names }
  have nfp : ∀ b ∈ fp, (upd H2 D (.dT [])) b = none := fun b hb => (f3 b hb).1.1
  generalize hce : compEnvC scope (cellsFrom (s3.heap.objs.size + 1) scope.names (cloFrom X.env.cells scope.names [])) s3.heap.objs.size X.env = ce at I4 pg pt pk pe ⊢
  have cL : ce.locals = s3.heap.objs.size := by subst hce; rfl
  generalize hH3 : upd H2 D (.dT []) = H3 at I3 I4 pg pt pk pe w0 nfp f3
  generalize hs4 : ({ s3 with heap := pushCells (s3.heap.push { cls := .type "dict", data := .dict #[] }) scope.names } : Shared) = s4 at I4 ⊢
  have st4 : tn 0 s4.heap := T.keep _ _ _ st3 fun b _ o e => by rw [← hs4]; exact pushCells_keeps _ _ _ _ (Heap.get?_push_of_some _ e)
  have stat : ∀ {σ' : St} {H' : Hp} {s' : Shared}, Inv (X.blk s3 H3 scope ce fp) [] σ' H' s' → (∀ b ∈ fp, H' b = none) → ∀ b ∈ fp, FpOk (X.blk s3 H3 scope ce fp) [] H' b := fun {σ' H' s'} I' hn b hb =>
    ⟨hn b hb, (I'.ok.exf b hb).1, I'.ok.exfs b hb, .inl hb, fun x c e => (I'.ok.exf b hb).2 x c e, fun p hp => absurd (show p ∈ ([] : List (Addr × Obj)) ++ [] from hp) (by simp)⟩
  have loop : codeAny (model X.prog X.w) X.A (.compLoop (.DictComp kx vx [⟨tg, iter, ifs, 0⟩] scope pos) 0 (.ref it) (.ref D) ce) (compPost (model X.prog X.w) X.A X.xe use Qf (.ref D) s3.heap.objs.size) s4 := by
    refine compLoop_anyD (fun n s' => ∃ i H', Inv (X.blk s3 H3 scope ce fp) [] (wipe σ (own.map (·.2))) H' s' ∧ tn i s'.heap ∧ (∀ b ∈ fp, H' b = none) ∧ W i n H') ?_ m0 ⟨0, H3, I4, st4, nfp, w0⟩
    rintro n s5 ⟨i, H5, I5, st5, n5, w5⟩
    rcases turn i n H5 w5 with ⟨stop, qq⟩ | ⟨go, Nx, hNx, step⟩
    · have td := T.done (X.blk s3 H3 scope ce fp) rfl rfl rfl hc i [] s5 _ H5 (fun _ _ => False) I5 (stat I5 n5) st5 stop
      refine thnF td fun r s6 ⟨hr, I6⟩ => ?_
      subst hr
      -- back in the def's context
      have I7 : Inv X pins σ H5 s6 := I3.call' (ch := fp) I6.os I6.base I6.hok I6.bare fun b hb => ⟨(f3 b hb).1.2.2.2.1, (f3 b hb).1.2.1, (f3 b hb).1.2.2.2.2.1, (f3 b hb).1.2.2.2.2.2⟩
      have nC : H5 s3.heap.objs.size = none := by
        have z : H5 ce.locals = none := I6.free
        rw [cL] at z
        exact z
      obtain ⟨m, hn, _⟩ := I6.loc
      have hn : s6.heap.Ns ce.locals m := hn
      rw [cL] at hn
      exact hRR D s3.heap.objs.size s6 m H5 I7 qq hn (I3.fpOk (Nat.le_refl _) nC)
    · have ti := T.item (X.blk s3 H3 scope ce fp) rfl rfl rfl hc i [] s5 _ H5 (fun _ _ => False) I5 (stat I5 n5) st5 go
      refine thnF ti fun r s6 ⟨u, hr, h6⟩ => ?_
      subst hr
      refine thnF h6 fun _ s7 ⟨x, H7, I7, r7, y7, st7, n7⟩ => ?_
      have I7' := I7.pinned (stat I7 n7) (T.obj _ _ st7)
      refine thnF (pg.run _ s7 _ H7 x u _ I7' r7 (step x H7 y7)) fun _ s8 ⟨σ8, H8, I8, hw8, q8⟩ => ?_
      refine thnF (pt.run _ s8 σ8 H8 _ I8 q8) fun b s9 ⟨H9, I9, q9⟩ => ?_
      -- the turn's end
      have fin : ∀ {s' : Shared} {H' : Hp}, Inv (X.blk s3 H3 scope ce fp) ([] ++ pinsAt fp s7.heap) σ8 H' s' → Nx H' → ∃ m, m < n ∧ ∃ i H', Inv (X.blk s3 H3 scope ce fp) [] (wipe σ (own.map (·.2))) H' s' ∧ tn i s'.heap ∧ (∀ b ∈ fp, H' b = none) ∧ W i m H' := fun {s' H'} I' nx => by
        obtain ⟨m', hm, w'⟩ := hNx H' nx
        have pin' : ∀ b ∈ fp, ∀ o, s7.heap.get? b = some o → s'.heap.get? b = some o ∧ H' b = none := fun b hb o e =>
          let z := I'.pin (b, o) (List.mem_append_right _ (List.mem_append_right _ (mem_pinsAt hb e)))
          ⟨z.1, z.2.1⟩
        have hl : (wipe σ (own.map (·.2))).length = σ8.length := by rw [← hw8, wipe_length]
        refine ⟨m', hm, i + 1, H', (I'.unpinned (pins := [])).weak hl (fun j v e => ?_), T.keep _ _ _ st7 fun b hb o e => (pin' b hb o e).1, fun b hb => ?_, w'⟩
        · rw [← hw8] at e
          exact (wipe_some e).1
        · obtain ⟨o, e, _⟩ := T.obj _ _ st7 b hb
          exact (pin' b hb o e).2
      cases b with
      | false =>
        simp only [Bool.false_eq_true, if_false] at q9 ⊢
        exact fin I9 q9
      | true =>
        simp only [if_true] at q9 ⊢
        refine thnF (pk.run _ s9 σ8 H9 _ I9 q9) fun z s10 ⟨yk, H10, I10, r10, q10⟩ => ?_
        refine thnF (pe.run _ s10 σ8 H10 _ I10 q10) fun z2 s11 ⟨yv, H11, I11, r11, nx⟩ => ?_
        obtain ⟨H12, hp12, nx⟩ := nx
        exact d_dictSetT (X := X.blk s3 H3 scope ce fp) hu I11 hp12 r10 r11 fun s12 I12 => fin I12 nx
  exact codeAny_compStart_dict loop (T.self X.A 0 _ _ _ st4 loop)
/-- as a value -/
theorem pe_dcT {kx vx tg iter : Expr} {ifs : List Expr} {scope : Scope} {own : List (Str × Nat)} {pos : Pos} {wi : TI} {g : TG} {tt : TT} {tk tv : TE} (hu : X.A.units + 1 < cLine) (hc : X.calm = true) (hN : X.N.Nodup) (hi : PI X tg iter wi) (ok : BlkOk X.N X.env.scope scope own)
    (hg : ∀ (s : Shared) (H : Hp) (C : Addr) (cl : List (Str × Addr)) (fp : List Addr), PG (X.blk s H scope (compEnvC scope cl C X.env) fp) tg g) (ht : ∀ (s : Shared) (H : Hp) (C : Addr) (cl : List (Str × Addr)) (fp : List Addr), PTs (X.blk s H scope (compEnvC scope cl C X.env) fp) ifs tt)
    (hk : ∀ (s : Shared) (H : Hp) (C : Addr) (cl : List (Str × Addr)) (fp : List Addr), PE (X.blk s H scope (compEnvC scope cl C X.env) fp) kx tk)
    (he : ∀ (s : Shared) (H : Hp) (C : Addr) (cl : List (Str × Addr)) (fp : List Addr), PE (X.blk s H scope (compEnvC scope cl C X.env) fp) vx tv) (hs : ∀ x, foldedSetIterable iter X.env x = pure x := by intro _; rfl) :
    PE X (.DictComp kx vx [⟨tg, iter, ifs, 0⟩] scope pos) (tDcT wi g tt tk tv (own.map (·.2))) := by
  refine ⟨fun pins s σ H Q I h => ?_⟩
  rw [arm_eval_DictComp]
  refine dcT_core hu hc hN I hi ok hg ht hk he hs h fun D C s' m H' I' q hn f => ⟨m, hn, fun h'' sb => ?_⟩
  obtain ⟨f0, f1, f2, f3, f4, f5⟩ := f
  exact ⟨.ref D, H', I'.turned (t' := s'.toks) (fun b o hb e => (sb.2 b hb).trans e) f0 f1 f3 f4 f5, rfl, q⟩
end
end L2
end
section
set_option Elab.async false
set_option linter.all false
set_option maxRecDepth 100000
set_option maxHeartbeats 4000000
/-! P4: dicts with tuple keys: walks and words entered one at a time -/
namespace L2
open PySem PySem.Spec PyProof.Rows
/-- the dict with tuple keys at d, frozen -/
def FzT (H : Hp) (d : Addr) (kvs : List (List Key × V)) : Prop := ∃ o, H d = some (.frz o (.dT kvs))
theorem FzT.rd {H : Hp} {d : Addr} {kvs : List (List Key × V)} (h : FzT H d kvs) : Rd H d (.dT kvs) := .inr h
theorem FzT.same {H H' : Hp} {d : Addr} {kvs : List (List Key × V)} (e : Same H H') (h : FzT H d kvs) : FzT H' d kvs := let ⟨o, h⟩ := h; ⟨o, e _ _ h⟩
theorem Rd.same {H H' : Hp} {d : Addr} {u : HO} (e : Same H H') (h : Rd H d u) : Rd H' d u := h.imp (e _ _) fun ⟨o, h⟩ => ⟨o, e _ _ h⟩
def ForD (x : V) (g : TG) (tb : TS) : TS := tFor (iKeys (fun _ H R => R x H)) g tb
def LcD (x : V) (g : TG) (tt : TT) (te : TE) (vs : List Nat) : TE := tLc (iKeys (fun _ H R => R x H)) g tt te vs
def DcD (x : V) (g : TG) (tt : TT) (tk tv : TE) (vs : List Nat) : TE := tDcT (iKeys (fun _ H R => R x H)) g tt tk tv vs
def DcV (K : PySem.W.Frag) (x : V) (g : TG) (tt : TT) (tk tv : TE) (vs : List Nat) : TE := tDcT (iSeq K (fun _ H R => R x H)) g tt tk tv vs
section
variable {K : PySem.W.Frag} {D : Ends} {σ : St} {H : Hp} {Q : VK} {QT : Bool → Hp → Prop} {QA : List V → Hp → Prop} {E : XK}
theorem i_forD {tl : TE} {g : TG} {tb : TS} (h : tl σ H fun x H1 => ForD x g tb D σ H1) : tFor (iKeys tl) g tb D σ H := h
theorem i_lcD {tl : TE} {g : TG} {tt : TT} {te : TE} {vs : List Nat} (h : tl σ H fun x H1 => LcD x g tt te vs σ H1 Q) : tLc (iKeys tl) g tt te vs σ H Q := h
theorem i_dcD {tl : TE} {g : TG} {tt : TT} {tk tv : TE} {vs : List Nat} (h : tl σ H fun x H1 => DcD x g tt tk tv vs σ H1 Q) : tDcT (iKeys tl) g tt tk tv vs σ H Q := h
theorem i_dcV {tl : TE} {g : TG} {tt : TT} {tk tv : TE} {vs : List Nat} (h : tl σ H fun x H1 => DcV K x g tt tk tv vs σ H1 Q) : tDcT (iSeq K tl) g tt tk tv vs σ H Q := h
theorem f_dT {g : TG} {tb : TS} {d : Addr} {kvs : List (List Key × V)} (hq : FzT H d kvs) (Pv : Nat → St → Hp → Prop) (h0 : Pv 0 σ H) (hl : ∀ i σ H', i ≤ kvs.length → Pv i σ H' → ∀ o, H d = some o → H' d = some o)
    (hs : ∀ i k v q σ H', kvs[i]? = some (k, v) → Pv i σ H' → H' q = some (.tup (k.map kV)) → g (.ref q) σ H' fun σ2 H2 => tb { D with nx := Pv (i + 1), ct := Pv (i + 1), bk := D.nx } σ2 H2) (hd : ∀ σ H', Pv kvs.length σ H' → D.nx σ H') :
    ForD (.ref d) g tb D σ H := by
  obtain ⟨o, hq⟩ := hq
  refine ⟨d, o, rfl, .inr ⟨kvs, hq, for_it (walk_keysT (d := d) (o := o) (kvs := kvs)) Pv h0 (fun i σ H' hi p => hl i σ H' hi p _ hq) (fun i x σ H' H'' hi p y => ?_) hd⟩⟩
  obtain ⟨rfl, k, v, q, e, rfl, t⟩ := y
  exact hs i k v q σ H'' e p t
theorem l_dT {g : TG} {tt : TT} {te : TE} {vs : List Nat} {d : Addr} {kvs : List (List Key × V)} (hq : FzT H d kvs) (Pv : Addr → Nat → Hp → Prop) (h0 : ∀ D, H D = none → Pv D 0 (upd H D (.lst [])))
    (hl : ∀ D i H', H D = none → i ≤ kvs.length → Pv D i H' → ∀ o, H d = some o → H' d = some o)
    (hs : ∀ D i k v q H', H D = none → kvs[i]? = some (k, v) → Pv D i H' → H' q = some (.tup (k.map kV)) → g (.ref q) (wipe σ vs) H' fun σ2 H2 => wipe σ2 vs = wipe σ vs ∧ tt σ2 H2 fun b H3 =>
      if b = true then te σ2 H3 fun y H4 => ∃ acc, H4 D = some (.lst acc) ∧ acc.length < sizeLine ∧ Pv D (i + 1) (upd H4 D (.lst (acc ++ [y]))) else Pv D (i + 1) H3) (hd : ∀ D H', H D = none → Pv D kvs.length H' → Q (.ref D) H') :
    LcD (.ref d) g tt te vs σ H Q := by
  obtain ⟨o, hq⟩ := hq
  refine ⟨d, o, rfl, .inr ⟨kvs, hq, fun D hD => lc_it (walk_keysT (d := d) (o := o) (kvs := kvs)) (Pv D) (h0 D hD) (fun i H' hi p => hl D i H' hD hi p _ hq) (fun i x H' H'' hi p y => ?_) (fun H' p => hd D H' hD p)⟩⟩
  obtain ⟨rfl, k, v, q, e, rfl, t⟩ := y
  exact hs D i k v q H'' hD e p t
/-- a dict comprehension over a walk -/
theorem dc_it {J : It} {n : Nat} {G : Hp → Prop} {Y : Nat → Hp → V → Hp → Prop} (w : Walk J n G Y) {g : TG} {tt : TT} {tk tv : TE} {vs : List Nat} {σ : St} {H1 : Hp} {D : Addr} {Qd : Hp → Prop} (Pv : Nat → Hp → Prop) (h0 : Pv 0 (upd H1 D (.dT []))) (hG : ∀ i H, i ≤ n → Pv i H → G H)
    (hs : ∀ i x H H', i < n → Pv i H → Y i H x H' → g x (wipe σ vs) H' fun σ2 H2 => wipe σ2 vs = wipe σ vs ∧ tt σ2 H2 fun b H3 =>
      if b = true then tk σ2 H3 fun y H4 => tv σ2 H4 fun z H5 => ∃ H6, DPut H5 D y z H6 ∧ Pv (i + 1) H6 else Pv (i + 1) H3) (hd : ∀ H, Pv n H → Qd H) :
    ∃ W : Nat → Nat → Hp → Prop, (∃ m, W 0 m (upd H1 D (.dT []))) ∧ ∀ i m H, W i m H →
      (J.stop i H ∧ Qd H) ∨ (J.go i H ∧ ∃ Nx : Hp → Prop, (∀ H', Nx H' → ∃ m', m' < m ∧ W (i + 1) m' H') ∧ ∀ x H', J.yld i H x H' → g x (wipe σ vs) H' fun σ2 H2 => wipe σ2 vs = wipe σ vs ∧ tt σ2 H2 fun b H3 =>
        if b = true then tk σ2 H3 fun y H4 => tv σ2 H4 fun z H5 => ∃ H6, DPut H5 D y z H6 ∧ Nx H6 else Nx H3) := by
  refine ⟨fun i m H => m = n - i ∧ i ≤ n ∧ Pv i H, ⟨n, by simp, Nat.zero_le _, h0⟩, ?_⟩
  rintro i m H ⟨rfl, hi, p⟩
  have q := hG i H hi p
  by_cases hlt : i < n
  · exact .inr ⟨w.goes i H hlt q, Pv (i + 1), fun H' p' => ⟨n - (i + 1), by omega, rfl, hlt, p'⟩, fun x H' y => hs i x H H' hlt p (w.yields i H x H' hlt q y)⟩
  · have e : i = n := by omega
    subst e
    exact .inl ⟨w.stops H q, hd H p⟩
theorem d_dT {g : TG} {tt : TT} {tk tv : TE} {vs : List Nat} {d : Addr} {kvs : List (List Key × V)} (hq : FzT H d kvs) (Pv : Addr → Nat → Hp → Prop) (h0 : ∀ D, H D = none → Pv D 0 (upd H D (.dT [])))
    (hl : ∀ D i H', H D = none → i ≤ kvs.length → Pv D i H' → ∀ o, H d = some o → H' d = some o)
    (hs : ∀ D i k v q H', H D = none → kvs[i]? = some (k, v) → Pv D i H' → H' q = some (.tup (k.map kV)) → g (.ref q) (wipe σ vs) H' fun σ2 H2 => wipe σ2 vs = wipe σ vs ∧ tt σ2 H2 fun b H3 =>
      if b = true then tk σ2 H3 fun y H4 => tv σ2 H4 fun z H5 => ∃ H6, DPut H5 D y z H6 ∧ Pv D (i + 1) H6 else Pv D (i + 1) H3) (hd : ∀ D H', H D = none → Pv D kvs.length H' → Q (.ref D) H') :
    DcD (.ref d) g tt tk tv vs σ H Q := by
  obtain ⟨o, hq⟩ := hq
  refine ⟨d, o, rfl, .inr ⟨kvs, hq, fun D hD => dc_it (walk_keysT (d := d) (o := o) (kvs := kvs)) (Pv D) (h0 D hD) (fun i H' hi p => hl D i H' hD hi p _ hq) (fun i x H' H'' hi p y => ?_) (fun H' p => hd D H' hD p)⟩⟩
  obtain ⟨rfl, k, v, q, e, rfl, t⟩ := y
  exact hs D i k v q H'' hD e p t
theorem d_seq {g : TG} {tt : TT} {tk tv : TE} {vs : List Nat} {a : Addr} {xs : List V} (hq : Sq K H a xs) (Pv : Addr → Nat → Hp → Prop) (h0 : ∀ D, H D = none → Pv D 0 (upd H D (.dT [])))
    (hl : ∀ D i H', H D = none → i ≤ xs.length → Pv D i H' → ∀ o, H a = some o → H' a = some o)
    (hs : ∀ D i x H', H D = none → xs[i]? = some x → Pv D i H' → g x (wipe σ vs) H' fun σ2 H2 => wipe σ2 vs = wipe σ vs ∧ tt σ2 H2 fun b H3 =>
      if b = true then tk σ2 H3 fun y H4 => tv σ2 H4 fun z H5 => ∃ H6, DPut H5 D y z H6 ∧ Pv D (i + 1) H6 else Pv D (i + 1) H3) (hd : ∀ D H', H D = none → Pv D xs.length H' → Q (.ref D) H') :
    DcV K (.ref a) g tt tk tv vs σ H Q := by
  rcases hq with hq | hq
  · refine ⟨a, rfl, .inl ⟨⟨xs, hq⟩, fun D hD => dc_it (walk_list (K := K) (a := a) (xs := xs)) (Pv D) (h0 D hD) (fun i H' hi p => hq.keep (hl D i H' hD hi p)) (fun i x H' H'' hi p y => ?_) (fun H' p => hd D H' hD p)⟩⟩
    obtain ⟨rfl, e⟩ := y
    exact hs D i x H'' hD e p
  · refine ⟨a, rfl, .inr ⟨⟨xs, hq⟩, fun D hD => dc_it (walk_tup (K := K) (a := a) (xs := xs)) (Pv D) (h0 D hD) (fun i H' hi p => hq.keep (hl D i H' hD hi p)) (fun i x H' H'' hi p y => ?_) (fun H' p => hd D H' hD p)⟩⟩
    obtain ⟨rfl, e⟩ := y
    exact hs D i x H'' hD e p
/-! words -/
theorem i_dget {td ty : TE} (h : td σ H fun x H1 => ty σ H1 fun y H2 => ∃ a v, x = .ref a ∧ DGet H2 a y (some v) ∧ Q v H2) : tDGet td ty σ H Q := h
theorem i_din {ty td : TE} (h : ty σ H fun y H1 => td σ H1 fun x H2 => ∃ a o, x = .ref a ∧ DGet H2 a y o ∧ Q (.bl o.isSome) H2) : tDIn ty td σ H Q := h
theorem i_dnotin {ty td : TE} (h : ty σ H fun y H1 => td σ H1 fun x H2 => ∃ a o, x = .ref a ∧ DGet H2 a y o ∧ Q (.bl (!o.isSome)) H2) : tDNotIn ty td σ H Q := h
theorem i_dput {td ty tv : TE} (h : tv σ H fun v H1 => td σ H1 fun x H2 => ty σ H2 fun y H3 => ∃ a H4, x = .ref a ∧ DPut H3 a y v H4 ∧ D.nx σ H4) : sDPut td ty tv D σ H := h
theorem i_dget1 {td ty : TE} (h : td σ H fun x H1 => ∃ a, x = .ref a ∧ IsD H1 a ∧ ty σ H1 fun y H2 => ∃ o, DGet H2 a y o ∧ Q (o.getD .non) H2) : tDGet1 td ty σ H Q := h
theorem i_dnewT (h : ∀ p, H p = none → Q (.ref p) (upd H p (.dT []))) : tDNewT σ H Q := h
theorem i_frz {t : TE} (h : t σ H fun v H1 => ∃ d u, H1 d = some u ∧ Mut (some u) ∧ ∀ od, Q v (upd H1 d (.frz od u))) : tFrz t σ H Q := h
theorem x_dget {d b : Addr} {kvs : List (List Key × V)} {k : List Key} {v : V} {R : V → Prop} (hd : Rd H d (.dT kvs)) (hb : H b = some (.tup (k.map kV))) (hv : valV kvs k = some v) (h : R v) : ∃ a v, V.ref d = .ref a ∧ DGet H a (.ref b) (some v) ∧ R v :=
  ⟨d, v, rfl, .inr ⟨kvs, k, b, hd, rfl, hb, hv.symm⟩, h⟩
theorem x_din {d b : Addr} {kvs : List (List Key × V)} {k : List Key} {R : Option V → Prop} (hd : Rd H d (.dT kvs)) (hb : H b = some (.tup (k.map kV))) (h : R (valV kvs k)) : ∃ a o, V.ref d = .ref a ∧ DGet H a (.ref b) o ∧ R o :=
  ⟨d, valV kvs k, rfl, .inr ⟨kvs, k, b, hd, rfl, hb, rfl⟩, h⟩
theorem x_dget1 {d b : Addr} {kvs : List (List Key × V)} {k : List Key} {R : Option V → Prop} (hd : Rd H d (.dT kvs)) (hb : H b = some (.tup (k.map kV))) (h : R (valV kvs k)) : ∃ o, DGet H d (.ref b) o ∧ R o :=
  ⟨valV kvs k, .inr ⟨kvs, k, b, hd, rfl, hb, rfl⟩, h⟩
theorem x_isD {d : Addr} {kvs : List (List Key × V)} {R : Addr → Prop} (hd : Rd H d (.dT kvs)) (h : R d) : ∃ a, V.ref d = .ref a ∧ IsD H a ∧ R a := ⟨d, rfl, .inr ⟨kvs, hd⟩, h⟩
theorem x_dput {d b : Addr} {kvs : List (List Key × V)} {k : List Key} {v : V} {R : Hp → Prop} (hd : H d = some (.dT kvs)) (hb : H b = some (.tup (k.map kV))) (hl : kvs.length < sizeLine) (h : R (upd H d (.dT (putK kvs k v)))) : ∃ a H4, V.ref d = .ref a ∧ DPut H a (.ref b) v H4 ∧ R H4 :=
  ⟨d, _, rfl, DPut.t hd hb hl, h⟩
theorem y_dput {d b : Addr} {kvs : List (List Key × V)} {k : List Key} {v : V} {R : Hp → Prop} (hd : H d = some (.dT kvs)) (hb : H b = some (.tup (k.map kV))) (hl : kvs.length < sizeLine) (h : R (upd H d (.dT (putK kvs k v)))) : ∃ H4, DPut H d (.ref b) v H4 ∧ R H4 :=
  ⟨_, DPut.t hd hb hl, h⟩
theorem x_frz {d : Addr} {kvs : List (List Key × V)} {R : Hp → Prop} (hd : H d = some (.dT kvs)) (h : ∀ od, R (upd H d (.frz od (.dT kvs)))) : ∃ d u, H d = some u ∧ Mut (some u) ∧ ∀ od, R (upd H d (.frz od u)) := ⟨d, _, hd, True.intro, h⟩
end
/-! calls -/
def rListT : List V → Hp → VK → Prop := fun xs H Q => ∃ d kvs, xs = [V.ref d] ∧ Rd H d (.dT kvs) ∧ ∀ p bs, H p = none → IsKeys H kvs bs → Q (.ref p) (upd H p (.lst (bs.map V.ref)))
def rLenD : List V → Hp → VK → Prop := fun xs H Q => ∃ (p : Addr) (kvs : List (List Key × V)), xs = [.ref p] ∧ Rd H p (.dT kvs) ∧ Q (.int ((kvs.length : Nat) : Int)) H
def rClearT : V → List V → Hp → VK → Prop := fun x vs H Q => ∃ (a : Addr) (kvs : List (List Key × V)), x = .ref a ∧ vs = [] ∧ H a = some (.dT kvs) ∧ Q .non (upd H a (.dT []))
section
variable {X : Cx}
theorem c_listT (hc : X.calm = true) : CallR X (.type "list") rListT := call_list_dT hc
theorem c_lenD : CallR X (.builtin "len") rLenD := by
  intro pins s σ H xs us Q I r h
  obtain ⟨p, kvs, rfl, hp, q⟩ := h
  obtain ⟨u, rfl, rx⟩ := vals1 r
  obtain rfl : u = .ref p := rx
  obtain ⟨z, hd, ys, rel, dd⟩ := dt_rd I.hok hp
  have hl : kvs.length = ys.length := Paired.length rel
  refine call_len_dictH hd dd (by rw [← hl]; rw [sizeLine_eq] at z; omega) ?_
  rw [← hl]
  exact ⟨.int ((kvs.length : Nat) : Int), H, I.tok _, ⟨_, rfl⟩, q⟩
theorem mt_clearT : MtR X "dict.clear" rClearT := by
  intro pins s σ H x vs v us Q I rx rv h
  obtain ⟨a, kvs, ex, ev, e, q⟩ := h
  subst ex
  subst ev
  obtain rfl : v = Value.ref a := rx
  have hus := rv.zero
  subst hus
  obtain ⟨z, hd, xs, pr, o, es, ep, ho, hx, hdt, he, r⟩ := (show ObjOk X.prog X.w H s.heap a (.dT kvs) from I.hok a _ e)
  have l1 : es.size = xs.length := size_of_entries he
  have l2 : kvs.length = xs.length := Paired.length pr
  have hr : s.heap.DictRaw a es ep := ⟨o, ho, hx, hdt⟩
  refine call_meetsIn PySem.F.slot_dict_clear hr.typeIs PySem.F.entry_dict_clear (PySem.F.args_dict_clear_1 _) (meets_dict_clear_raw a) ⟨es, ep, hr, by omega, fun h' hr' hs => ⟨.non, _, ?_, rfl, q⟩⟩
  obtain ⟨o', ho', hx', hd'⟩ := hr'
  exact d_write (t' := s.toks) I (by rw [e]; exact True.intro) hs ⟨o', ho'⟩ ⟨Nat.zero_le _, hd, [], .nil, o', #[], ep + 1, ho', hx', hd', rfl, List.nodup_nil⟩
theorem pe_clearT {o : Expr} {to : TE} {apos cpos : Pos} (K : PySem.W.Frag) (ho : PE X o to) (h : X.K = K := by rfl) (hbase : attributeBase o "clear" X.env (eval o X.env) = eval o X.env := by rfl) (hline : (apos.endLine == cpos.line) = true := by rfl) : PE X (.Call (.Attribute o "clear" apos) [] [] cpos) (tBM0 K "dict" rClearT to) := by
  subst h
  exact pe_bm0 PySem.F.plainAttrs_dict PySem.F.slot_dict_clear PySem.F.type_dict_clear mt_clearT ho hbase hline
end
section
variable {K : PySem.W.Frag} {H : Hp} {Q : VK}
theorem i_listT {d : Addr} {kvs : List (List Key × V)} (hd : Rd H d (.dT kvs)) (h : ∀ p bs, H p = none → IsKeys H kvs bs → Q (.ref p) (upd H p (.lst (bs.map V.ref)))) : rListT [.ref d] H Q := ⟨d, kvs, rfl, hd, h⟩
theorem i_lenD {d : Addr} {kvs : List (List Key × V)} (hd : Rd H d (.dT kvs)) (h : Q (.int ((kvs.length : Nat) : Int)) H) : rLenD [.ref d] H Q := ⟨d, kvs, rfl, hd, h⟩
theorem i_clearT {d : Addr} {kvs : List (List Key × V)} (hd : H d = some (.dT kvs)) (h : Q .non (upd H d (.dT []))) : rClearT (.ref d) [] H Q := ⟨d, kvs, rfl, rfl, hd, h⟩
theorem i_tyD {d : Addr} {kvs : List (List Key × V)} {R : Prop} (h : H d = some (.dT kvs)) (r : R) : tyV K "dict" (.ref d) H ∧ R := ⟨.inr (.inr (.inl ⟨rfl, .inr ⟨kvs, h⟩⟩)), r⟩
theorem i_sortD {a : Addr} {xs : List V} {ds : List PyData} (h : SqL K H a xs) (hd : DpAll K H xs ds) (h1 : PySem.W.AllAlike ds) (h2 : PySem.W.Sortable ds) (h3 : ∀ d ∈ ds, d.depth ≤ 50) (q : ∀ p, H p = none → Q (.ref p) (upd H p (.lst (srtD xs ds)))) : rSortD K [.ref a] H Q := ⟨a, xs, ds, rfl, h, hd, h1, h2, h3, q⟩
theorem i_setX {w : World} {l : Addr} {xs : List Str} (h : SqL K H l (xs.map V.str)) (hl : xs.length ≤ 1000) (q : ∀ p, H p = none → Q (.ref p) (upd H p (SetXO w p (xs.foldl more [])))) : rSetX K w [.ref l] H Q := ⟨l, xs, rfl, h, hl, q⟩
theorem i_sortX {w : World} {a : Addr} {ks : List Str} (h : H a = some (SetXO w a ks)) (q : ∀ p ks', ks'.Perm ks → H p = none → Q (.ref p) (upd H p (.lst ((srtT ks').map V.str)))) : rSortX w [.ref a] H Q := ⟨a, ks, rfl, h, q⟩
end
end L2
end
section
set_option Elab.async false
set_option linter.all false
set_option maxRecDepth 100000
set_option maxHeartbeats 4000000
/-! P5: the head's facts: classes, properties -/
namespace He
open PySem PySem.Spec PyProof.Rows L2
/-- a property of a class: its getter's def -/
structure PrD where
  cls : Str
  prop : Str
  name : Str
  qual : Str
  params : Arguments
  body : List Stmt
  scope : Scope
def pAt (K : PySem.W.Frag) (C f : Str) : Addr := ma K (ga K C) f
def gAt (K : PySem.W.Frag) (C f : Str) : Addr := match PySem.W.recIn K (pAt K C f) "property" with
  | some (.ref g :: _) => g
  | _ => 0
def fnA (K : PySem.W.Frag) (a : Addr) : FnW := match K.lookup a with
  | some ⟨_, _, .func fd, _⟩ => some (fd.name, fd.qualname, fd.params, fd.body, fd.scope, fd.globals, fd.closure, fd.builtins)
  | _ => none
def PrD.val (d : PrD) : FnW := some (d.name, d.qual, d.params, .stmts d.body, d.scope, mainGlobals, [], builtinsNs)
def propB (K : PySem.W.Frag) (C f : Str) : Bool := eqO (PySem.W.findIn K (.ref (ga K C)) f) (some (some (.ref (pAt K C f)))) && (eqO (PySem.W.specialIn K (.ref (pAt K C f)) "__get__") (some (some (.builtin "property.__get__"))) && (decide (PySem.W.takesIn K (.ref (pAt K C f)) = some true) &&
  (match PySem.W.recIn K (pAt K C f) "property" with
    | some (.ref _ :: _) => true
    | _ => false)))
def PrD.ok (K : PySem.W.Frag) (d : PrD) : Bool := propB K d.cls d.prop && (PySem.W.keepIn K (.ref (gAt K d.cls d.prop)) && (match K.lookup (gAt K d.cls d.prop) with
  | some ⟨_, _, .func fd, _⟩ => PySem.W.codeIn K fd.code d.qual && (dflB K fd.defaults [] && kwdB K fd.kwdefaults [])
  | _ => false))
theorem propB_ok {K : PySem.W.Frag} {C f : Str} (h : propB K C f = true) : PropOf K (ga K C) f (pAt K C f) (gAt K C f) := by
  obtain ⟨h1, h⟩ := ba h
  obtain ⟨h2, h⟩ := ba h
  obtain ⟨h3, h4⟩ := ba h
  refine ⟨eqO_ok h1, eqO_ok h2, of_decide_eq_true h3, ?_⟩
  unfold gAt
  cases e : PySem.W.recIn K (pAt K C f) "property" with
  | none => rw [e] at h4; cases h4
  | some l =>
    rw [e] at h4
    cases l with
    | nil => cases h4
    | cons v r =>
      cases v with
      | ref g => exact ⟨r, rfl⟩
      | _ => cases h4
theorem PrD.funD {K : PySem.W.Frag} {d : PrD} (e : fnA K (gAt K d.cls d.prop) = d.val) (c : d.ok K = true) : PropOf K (ga K d.cls) d.prop (pAt K d.cls d.prop) (gAt K d.cls d.prop) ∧ ∃ fd, FunD K d.name d.qual d.params d.body d.scope [] [] (gAt K d.cls d.prop) fd := by
  obtain ⟨c1, c2⟩ := ba c
  refine ⟨propB_ok c1, ?_⟩
  obtain ⟨kp, c2⟩ := ba c2
  unfold fnA at e
  cases q : K.lookup (gAt K d.cls d.prop) with
  | none =>
    rw [q] at c2
    cases c2
  | some o =>
    obtain ⟨oc, od, dt, osl⟩ := o
    rw [q] at c2 e
    cases dt with
    | func fd =>
      obtain ⟨n1, n2, n3, n4, n5, n6, n7, n8, n9, n10, n11, n12, n13, n14, n15⟩ := fd
      have e2 : (some (n1, n2, n3, n4, n5, n6, n7, n15) : FnW) = some (d.name, d.qual, d.params, .stmts d.body, d.scope, mainGlobals, [], builtinsNs) := e
      simp only [Option.some.injEq, Prod.mk.injEq] at e2
      obtain ⟨h1, h2, h3, h4, h5, h6, h7, h8⟩ := e2
      subst h1 h2 h3 h4 h5 h6 h7 h8
      have c3 : (PySem.W.codeIn K n13 d.qual && (dflB K n8 [] && kwdB K n9 [])) = true := c2
      obtain ⟨k1, k2⟩ := ba c3
      obtain ⟨k3, k4⟩ := ba k2
      exact ⟨_, ⟨oc, od, n8, n9, n10, n11, n12, n13, n14, osl, rfl, q, k1, dflB_ok k3, kwdB_ok k4⟩, kp⟩
    | _ => cases c2
/-! ### the Hook -/
abbrev AlP : Type := AlD × Bool × List FnW
def obsP (fa : List Fa) (fn : List DefD) (pr : List PrD) (ex : PySem.W.Frag → Bool) (K : PySem.W.Frag) : AlP := (obsD fa fn K, ex K && pr.all fun d => d.ok K, pr.map fun d => fnA K (gAt K d.cls d.prop))
def valP (fn : List DefD) (pr : List PrD) : AlP := (valD fn, true, pr.map PrD.val)
def SaysP (fa : List Fa) (fn : List DefD) (pr : List PrD) (ex : PySem.W.Frag → Bool) (K : PySem.W.Frag) : Prop := obsP fa fn pr ex K = valP fn pr
def obsPG (n : Nat) (fa : List Fa) (fn : List DefD) (pr : List PrD) (ex : PySem.W.Frag → Bool) (g : Addr → Option Obj) : AlP := obsP fa fn pr ex (frG g (asD g n))
def hookP (n : Nat) (fa : List Fa) (fn : List DefD) (pr : List PrD) (ex : PySem.W.Frag → Bool) : PySem.W.Hook where
  α := AlP
  obs := fun s => obsPG n fa fn pr ex s.heap.get?
  val := fun _ => valP fn pr
  says := fun _ h => ∃ K : PySem.W.Frag, K.In h ∧ SaysP fa fn pr ex K
  of := fun _ _ e => ⟨_, frG_in, e⟩
  keeps := fun _ _ _ ⟨K, hK, c⟩ k => ⟨K, PySem.W.Frag.In.keeps hK k, c⟩
theorem obsPG_eq {n : Nat} {fa : List Fa} {fn : List DefD} {pr : List PrD} {ex : PySem.W.Frag → Bool} {g : Addr → Option Obj} {s : Shared} (h : ∀ a, g a = s.heap.get? a) : obsPG n fa fn pr ex g = (hookP n fa fn pr ex).obs s := by
  have e : g = s.heap.get? := funext h
  rw [e] <;> rfl
section
variable {fa : List Fa} {fn : List DefD} {pr : List PrD} {ex : PySem.W.Frag → Bool} {K : PySem.W.Frag}
theorem SaysP.d (c : SaysP fa fn pr ex K) : SaysD fa fn K := congrArg (fun z : AlP => z.1) c
theorem SaysP.exB (c : SaysP fa fn pr ex K) : ex K = true := (ba (show (ex K && pr.all fun d => d.ok K) = true from congrArg (fun z : AlP => z.2.1) c)).1
theorem SaysP.prop (c : SaysP fa fn pr ex K) (i : Nat) {d : PrD} (h : pr[i]? = some d := by rfl) : PropOf K (ga K d.cls) d.prop (pAt K d.cls d.prop) (gAt K d.cls d.prop) ∧ ∃ fd, FunD K d.name d.qual d.params d.body d.scope [] [] (gAt K d.cls d.prop) fd := by
  have c2 := (ba (show (ex K && pr.all fun d => d.ok K) = true from congrArg (fun z : AlP => z.2.1) c)).2
  have e : pr.map (fun d => fnA K (gAt K d.cls d.prop)) = pr.map PrD.val := congrArg (fun z : AlP => z.2.2) c
  have e2 : (pr.map fun d => fnA K (gAt K d.cls d.prop))[i]? = (pr.map PrD.val)[i]? := by rw [e]
  rw [List.getElem?_map, List.getElem?_map, h] at e2
  exact PrD.funD (Option.some.inj e2) (List.all_eq_true.mp c2 d (List.mem_of_getElem? h))
end
end He
namespace L2
open PySem PySem.Spec PyProof.Rows
/-- a property of the class at C -/
structure Prp (P : Program) (w : World) (K : PySem.W.Frag) (mg : Str → Option Value) (base : Heap) (k : Nat) (C : Addr) (m : Str) (sp : Sp) : Prop where
  ex : ∃ (p f : Addr) (fd : FuncData) (ps : List Str), Cls K C ∧ PropOf K C m p f ∧ FnOk P w K mg base CX0 k f fd ps sp ∧ Binds K fd ps []
theorem Prp.mono {P : Program} {w : World} {K : PySem.W.Frag} {mg : Str → Option Value} {base : Heap} {k j : Nat} {C : Addr} {m : Str} {sp : Sp} (c : Prp P w K mg base j C m sp) (h : j ≤ k) : Prp P w K mg base k C m sp := by
  obtain ⟨p, f, fd, ps, a, b, F, d⟩ := c.ex
  exact ⟨p, f, fd, ps, a, b, F.mono h, d⟩
theorem Met.mono {P : Program} {w : World} {K : PySem.W.Frag} {mg : Str → Option Value} {base : Heap} {k j : Nat} {C : Addr} {m : Str} {sp : Sp} (c : C8.Met P w K mg base j C m sp []) (h : j ≤ k) : C8.Met P w K mg base k C m sp [] := by
  obtain ⟨f, fd, ps, ds, a, b, F, d, e⟩ := c.ex
  exact ⟨f, fd, ps, ds, a, b, F.mono h, d, e⟩
theorem Mak.mono {P : Program} {w : World} {K : PySem.W.Frag} {mg : Str → Option Value} {base : Heap} {k j : Nat} {C : Addr} {x : Str} {sp : Sp} (c : C8.Mak P w K mg base j x C sp []) (h : j ≤ k) : C8.Mak P w K mg base k x C sp [] := by
  obtain ⟨f, fd, ps, ds, a, F, b, d, e⟩ := c.ex
  exact ⟨f, fd, ps, ds, a, F.mono h, b, d, e⟩
theorem pe_pr {X : Cx} {k j : Nat} {C : Addr} {m : Str} {sp : Sp} {e : Expr} {ta : TE} {pos : Pos} (c : Prp X.prog X.w X.K X.mg X.base k C m sp) (hr : Room j X.A) (hk : k + 1 ≤ j) (he : PE X e ta) (hab : attributeBase e m X.env (eval e X.env) = eval e X.env := by rfl) :
    PE X (.Attribute e m pos) (tProp C sp [] C8.E0 ta) := by
  obtain ⟨p, f, fd, ps, hc, hp, F, b⟩ := c.ex
  exact pe_prop he hc hp F (hr.mono hk) b .nil C8.pass0 hab
end L2
end
section
set_option Elab.async false
set_option linter.all false
set_option maxRecDepth 100000
set_option maxHeartbeats 4000000
/-! P6: methods, fields, while: entered one at a time -/
namespace L2
open PySem PySem.Spec PyProof.Rows
theorem uu {k : Nat} {A : Around} (r : Room k A) : A.units + 1 < cLine := by have := r.un; omega
theorem uu64 {k : Nat} {A : Around} (r : Room k A) : A.units + 64 < cLine := by have := r.un; omega
section
variable {P : Program} {w : World} {K : PySem.W.Frag} {mg : Str → Option Value} {base : Heap} {k : Nat} {nm qual : Str} {st : Stmt} {f : Addr} {fd : FuncData} {N ps : List Str}
theorem fm1 {b : V → Hp → VK → XK → Prop} (F : L2.Fun K nm qual st f fd) (S : FnScope N ps (defScope st)) (hl : ps.length = 1)
    (hb : ∀ (cdv : Value) (A : Around) (outer : List Env) (s : Shared) (H : Hp) (Q : VK) (E : XK) (x : V), Room k (A.deeper (envOfC qual (defScope st) s.heap.objs.size f cdv)) → b x H Q E →
      ∃ t, PSs (cxOf CX0 P w K mg base N qual (defScope st) f cdv A outer s H E).nox (defBody st) t ∧ t { nx := fun _ H' => Q .non H', rt := Q } (start N [x]) H) : FnOk P w K mg base CX0 (k + 1) f fd ps (sp1 b) := by
  refine F.ok S ?_ ?_
  · rintro vs H Q E ⟨_, rfl, _⟩; exact hl.symm
  · rintro cdv A outer s H vs Q E hr ⟨x, rfl, h⟩; exact hb cdv A outer s H Q E x hr h
theorem fm2 {b : V → V → Hp → VK → XK → Prop} (F : L2.Fun K nm qual st f fd) (S : FnScope N ps (defScope st)) (hl : ps.length = 2)
    (hb : ∀ (cdv : Value) (A : Around) (outer : List Env) (s : Shared) (H : Hp) (Q : VK) (E : XK) (x y : V), Room k (A.deeper (envOfC qual (defScope st) s.heap.objs.size f cdv)) → b x y H Q E →
      ∃ t, PSs (cxOf CX0 P w K mg base N qual (defScope st) f cdv A outer s H E).nox (defBody st) t ∧ t { nx := fun _ H' => Q .non H', rt := Q } (start N [x, y]) H) : FnOk P w K mg base CX0 (k + 1) f fd ps (sp2 b) := by
  refine F.ok S ?_ ?_
  · rintro vs H Q E ⟨_, _, rfl, _⟩; exact hl.symm
  · rintro cdv A outer s H vs Q E hr ⟨x, y, rfl, h⟩; exact hb cdv A outer s H Q E x y hr h
theorem fm3 {b : V → V → V → Hp → VK → XK → Prop} (F : L2.Fun K nm qual st f fd) (S : FnScope N ps (defScope st)) (hl : ps.length = 3)
    (hb : ∀ (cdv : Value) (A : Around) (outer : List Env) (s : Shared) (H : Hp) (Q : VK) (E : XK) (x y z : V), Room k (A.deeper (envOfC qual (defScope st) s.heap.objs.size f cdv)) → b x y z H Q E →
      ∃ t, PSs (cxOf CX0 P w K mg base N qual (defScope st) f cdv A outer s H E).nox (defBody st) t ∧ t { nx := fun _ H' => Q .non H', rt := Q } (start N [x, y, z]) H) : FnOk P w K mg base CX0 (k + 1) f fd ps (sp3 b) := by
  refine F.ok S ?_ ?_
  · rintro vs H Q E ⟨_, _, _, rfl, _⟩; exact hl.symm
  · rintro cdv A outer s H vs Q E hr ⟨x, y, z, rfl, h⟩; exact hb cdv A outer s H Q E x y z hr h
theorem fm4 {b : V → V → V → V → Hp → VK → XK → Prop} (F : L2.Fun K nm qual st f fd) (S : FnScope N ps (defScope st)) (hl : ps.length = 4)
    (hb : ∀ (cdv : Value) (A : Around) (outer : List Env) (s : Shared) (H : Hp) (Q : VK) (E : XK) (x y z u : V), Room k (A.deeper (envOfC qual (defScope st) s.heap.objs.size f cdv)) → b x y z u H Q E →
      ∃ t, PSs (cxOf CX0 P w K mg base N qual (defScope st) f cdv A outer s H E).nox (defBody st) t ∧ t { nx := fun _ H' => Q .non H', rt := Q } (start N [x, y, z, u]) H) : FnOk P w K mg base CX0 (k + 1) f fd ps (sp4 b) := by
  refine F.ok S ?_ ?_
  · rintro vs H Q E ⟨_, _, _, _, rfl, _⟩; exact hl.symm
  · rintro cdv A outer s H vs Q E hr ⟨x, y, z, u, rfl, h⟩; exact hb cdv A outer s H Q E x y z u hr h
theorem fm5 {b : V → V → V → V → V → Hp → VK → XK → Prop} (F : L2.Fun K nm qual st f fd) (S : FnScope N ps (defScope st)) (hl : ps.length = 5)
    (hb : ∀ (cdv : Value) (A : Around) (outer : List Env) (s : Shared) (H : Hp) (Q : VK) (E : XK) (x y z u v : V), Room k (A.deeper (envOfC qual (defScope st) s.heap.objs.size f cdv)) → b x y z u v H Q E →
      ∃ t, PSs (cxOf CX0 P w K mg base N qual (defScope st) f cdv A outer s H E).nox (defBody st) t ∧ t { nx := fun _ H' => Q .non H', rt := Q } (start N [x, y, z, u, v]) H) : FnOk P w K mg base CX0 (k + 1) f fd ps (sp5 b) := by
  refine F.ok S ?_ ?_
  · rintro vs H Q E ⟨_, _, _, _, _, rfl, _⟩; exact hl.symm
  · rintro cdv A outer s H vs Q E hr ⟨x, y, z, u, v, rfl, h⟩; exact hb cdv A outer s H Q E x y z u v hr h
theorem cal5 {b : V → V → V → V → V → Hp → VK → XK → Prop} (F : L2.Fun K nm nm st f fd) (g : mg nm = some (.ref f)) (S : FnScope N ps (defScope st)) (bd : Binds K fd ps []) (hl : ps.length = 5)
    (hb : ∀ (cdv : Value) (A : Around) (outer : List Env) (s : Shared) (H : Hp) (Q : VK) (E : XK) (x y z u v : V), Room k (A.deeper (envOfC nm (defScope st) s.heap.objs.size f cdv)) → b x y z u v H Q E →
      ∃ t, PSs (cxOf CX0 P w K mg base N nm (defScope st) f cdv A outer s H E).nox (defBody st) t ∧ t { nx := fun _ H' => Q .non H', rt := Q } (start N [x, y, z, u, v]) H) : C8.Cal P w K mg base (k + 1) nm (sp5 b) [] :=
  ⟨f, fd, ps, [], fm5 F S hl hb, g, F.kp, bd, .nil⟩
end
section
variable {K : PySem.W.Frag} {D : Ends} {σ : St} {H : Hp} {Q : VK} {QT : Bool → Hp → Prop} {QA : List V → Hp → Prop} {E : XK}
theorem w_while {c : TT} {tb : TS} (W : Nat → St → Hp → Prop) (m : Nat) (w0 : W m σ H)
    (hs : ∀ m σ H, W m σ H → c σ H fun b H1 => if b = true then tb { D with nx := fun σ' H' => ∃ m', m' < m ∧ W m' σ' H', ct := fun σ' H' => ∃ m', m' < m ∧ W m' σ' H', bk := D.nx } σ H1 else D.nx σ H1) (hm : ∀ (t : TT) (σ : St) (H : Hp) (Q Q' : Bool → Hp → Prop), t = c → (∀ b H, Q b H → Q' b H) → t σ H Q → t σ H Q') : tWhile c tb D σ H := by
  refine ⟨W, ⟨m, w0⟩, fun m σ H h => hm c σ H _ _ rfl (fun b H1 q => ?_) (hs m σ H h)⟩
  cases b with
  | true => exact iteT ⟨_, fun σ' H' h => h, by simpa using q⟩
  | false => simpa using q
theorem i_while {c : TT} {tb : TS} (h : ∃ W : Nat → St → Hp → Prop, (∃ m, W m σ H) ∧ ∀ m σ H, W m σ H →
  c σ H fun b H1 => if b = true then ∃ N : St → Hp → Prop, (∀ σ' H', N σ' H' → ∃ m', m' < m ∧ W m' σ' H') ∧ tb { D with nx := N, ct := N, bk := D.nx } σ H1 else D.nx σ H1) : tWhile c tb D σ H := h
theorem i_wN {m : Nat} {W : Nat → St → Hp → Prop} {R : (St → Hp → Prop) → Prop} (h : R (fun σ' H' => ∃ m', m' < m ∧ W m' σ' H')) : ∃ N : St → Hp → Prop, (∀ σ' H', N σ' H' → ∃ m', m' < m ∧ W m' σ' H') ∧ R N := ⟨_, fun _ _ h => h, h⟩
theorem i_fld {ta : TE} {f : Str} (h : ta σ H fun x H1 => ∃ a C dx fs v, x = .ref a ∧ H1 a = some (.ins C dx fs) ∧ Cls K C ∧ NoAttr K C f ∧ fs.lookup f = some v ∧ Q v H1) : tFld K ta f σ H Q := h
theorem x_fld {a C dx : Addr} {fs : List (Str × V)} {f : Str} {v : V} {R : V → Prop} (h : H a = some (.ins C dx fs)) (c : Cls K C) (n : NoAttr K C f) (l : fs.lookup f = some v) (q : R v) : ∃ a' C dx fs v, V.ref a = .ref a' ∧ H a' = some (.ins C dx fs) ∧ Cls K C ∧ NoAttr K C f ∧ fs.lookup f = some v ∧ R v := ⟨a, C, dx, fs, v, rfl, h, c, n, l, q⟩
theorem i_sfld {ta tv : TE} {f : Str} (h : tv σ H fun y H1 => ta σ H1 fun x H2 => ∃ a C dx fs, x = .ref a ∧ H2 a = some (.ins C dx fs) ∧ Cls K C ∧ NoAttr K C f ∧ fs.length < 1000 ∧ D.nx σ (upd H2 a (.ins C dx (putF f y fs)))) : sFld K ta tv f D σ H := h
theorem x_sfld {a C dx : Addr} {fs : List (Str × V)} {f : Str} {y : V} {R : Hp → Prop} (h : H a = some (.ins C dx fs)) (c : Cls K C) (n : NoAttr K C f) (l : fs.length < 1000) (q : R (upd H a (.ins C dx (putF f y fs)))) :
    ∃ a' C dx fs, V.ref a = .ref a' ∧ H a' = some (.ins C dx fs) ∧ Cls K C ∧ NoAttr K C f ∧ fs.length < 1000 ∧ R (upd H a' (.ins C dx (putF f y fs))) := ⟨a, C, dx, fs, rfl, h, c, n, l, q⟩
theorem i_meth {C : Addr} {m : Str} {sp : Sp} {ta : TE} {t : TA} (h : ta σ H fun x H1 => ∃ a dx fs, x = .ref a ∧ H1 a = some (.ins C dx fs) ∧ fs.lookup m = none ∧ t σ H1 fun vs H2 => sp (x :: (vs ++ [])) H2 Q E) : tMeth C m sp [] E ta t σ H Q := h
theorem x_meth {a C dx : Addr} {fs : List (Str × V)} {m : Str} {R : Prop} (h : H a = some (.ins C dx fs)) (l : fs.lookup m = none) (q : R) : ∃ a' dx fs, V.ref a = .ref a' ∧ H a' = some (.ins C dx fs) ∧ fs.lookup m = none ∧ R := ⟨a, dx, fs, rfl, h, l, q⟩
theorem i_make {C : Addr} {sp : Sp} {t : TA} (h : t σ H fun vs H1 => ∀ x dx, H1 x = none → H1 dx = none → dx ≠ x → sp (.ref x :: (vs ++ [])) (upd (upd H1 dx (.own x)) x (.ins C dx [])) (fun v H2 => v = .non ∧ Q (.ref x) H2) E) : tMake C sp [] E t σ H Q := h
theorem i_prop {C : Addr} {sp : Sp} {ta : TE} (h : ta σ H fun x H1 => ∃ a dx fs, x = .ref a ∧ H1 a = some (.ins C dx fs) ∧ sp (.ref a :: []) H1 Q E) : tProp C sp [] E ta σ H Q := h
theorem x_prop {a C dx : Addr} {fs : List (Str × V)} {R : Addr → Prop} (h : H a = some (.ins C dx fs)) (q : R a) : ∃ a' dx fs, V.ref a = .ref a' ∧ H a' = some (.ins C dx fs) ∧ R a' := ⟨a, dx, fs, rfl, h, q⟩
theorem i_star {te : TE} {t : TA} (h : te σ H fun x H1 => ∃ p xs, x = V.ref p ∧ (SqT K H1 p xs ∨ SqL K H1 p xs) ∧ t σ H1 fun ys H2 => QA (xs ++ ys) H2) : StX.tStar K te t σ H QA := h
theorem x_star {p : Addr} {xs : List V} {R : List V → Prop} (h : Sq K H p xs) (q : R xs) : ∃ p' xs, V.ref p = V.ref p' ∧ (SqT K H p' xs ∨ SqL K H p' xs) ∧ R xs := ⟨p, xs, rfl, h.symm, q⟩
theorem i_mp1 {b : V → Hp → VK → XK → Prop} {x : V} (h : b x H Q E) : sp1 b (x :: ([] ++ [])) H Q E := ⟨x, rfl, h⟩
theorem i_pp1 {b : V → Hp → VK → XK → Prop} {x : V} (h : b x H Q E) : sp1 b (x :: []) H Q E := ⟨x, rfl, h⟩
theorem i_mp2 {b : V → V → Hp → VK → XK → Prop} {x y : V} (h : b x y H Q E) : sp2 b (x :: ([y] ++ [])) H Q E := ⟨x, y, rfl, h⟩
theorem i_mp3 {b : V → V → V → Hp → VK → XK → Prop} {x y z : V} (h : b x y z H Q E) : sp3 b (x :: ([y, z] ++ [])) H Q E := ⟨x, y, z, rfl, h⟩
theorem i_mp4 {b : V → V → V → V → Hp → VK → XK → Prop} {x y z u : V} (h : b x y z u H Q E) : sp4 b (x :: ([y, z, u] ++ [])) H Q E := ⟨x, y, z, u, rfl, h⟩
theorem i_mp5 {b : V → V → V → V → V → Hp → VK → XK → Prop} {x y z u v : V} (h : b x y z u v H Q E) : sp5 b (x :: ([y, z, u, v] ++ [])) H Q E := ⟨x, y, z, u, v, rfl, h⟩
end
end L2
namespace L2
open PySem PySem.Spec PyProof.Rows
def rSlQ (K : PySem.W.Frag) : V → Option Int → Option Int → Hp → VK → Prop := fun x lo hi H Q => rSlL K x lo hi H Q ∨ rSlA K x lo hi H Q
theorem k_slq {X : Cx} (K : PySem.W.Frag) (h : X.K = K := by rfl) : SlR X (rSlQ K) := by subst h; exact SlR.or sl_list sl_tupA
theorem cut_all {xs : List V} {lo hi : Option Int} (h1 : HT.sIx xs.length 0 lo = 0) (h2 : HT.sIx xs.length xs.length hi = xs.length) : cutV xs lo hi = xs := by
  unfold cutV
  rw [h1, h2]
  simp
theorem i_slq {K : PySem.W.Frag} {H : Hp} {Q : VK} {a : Addr} {xs : List V} {lo hi : Option Int} (h : Sq K H a xs) (q : ∀ p H', Same H H' → Sq K H' p (cutV xs lo hi) → Q (.ref p) H') : rSlQ K (.ref a) lo hi H Q := by
  rcases h with h | h
  · exact .inl ⟨a, xs, rfl, h, fun p hp => q p _ (Same.new hp) (.inl (sqL upd_same))⟩
  · refine .inr ⟨a, xs, rfl, h, fun ⟨h1, h2⟩ => q a H (Same.refl H) ?_, fun _ p hp => q p _ (Same.new hp) (.inr (sqT upd_same))⟩
    rw [cut_all h1 h2]
    exact .inr h
end L2
namespace L2
open PySem PySem.Spec PyProof.Rows
section
variable {X : Cx}
theorem k_star (K : PySem.W.Frag) {e : Expr} {es : List Expr} {te : TE} {t : TA} {p : Pos} (he : PE X e te) (hr : PA X es t) (h : X.K = K := by rfl) (hs : starEach (.Starred e p :: es) X.env = (true, eval e X.env) :: starEach es X.env := by rfl) : PA X (.Starred e p :: es) (StX.tStar K te t) := by subst h; exact StX.pa_star he hr hs
theorem k_sfld (K : PySem.W.Frag) {o value : Expr} {f : Str} {pos pos' : Pos} {ta tv : TE} (ha : PE X o ta) (hv : PE X value tv) (h : X.K = K := by rfl) (hs : swapsWith value (some (.Attribute o f pos')) pos.line X.env = pure false := by rfl) : PS X (.Assign [.Attribute o f pos'] value pos) (sFld K ta tv f) := by subst h; exact ps_fld ha hv hs
end
section
variable {K : PySem.W.Frag} {H : Hp} {Q : VK}
theorem zip_maps {α β γ : Type} (f : α → β) (g : α → γ) : ∀ l : List α, (l.map f).zip (l.map g) = l.map fun a => (f a, g a)
  | [] => rfl
  | a :: l => by
    show (f a, g a) :: (l.map f).zip (l.map g) = _
    rw [zip_maps f g l]
    rfl
theorem srtD_map {α : Type} (f : α → V) (g : α → PyData) (l : List α) : srtD (l.map f) (l.map g) = (l.mergeSort (PySem.W.dataLe false g)).map f := by
  unfold srtD
  rw [zip_maps]
  have e := List.map_mergeSort (r := PySem.W.dataLe false g) (s := PySem.W.dataLe false fun b : V × PyData => b.2) (f := fun a => (f a, g a)) (l := l) (fun a _ b _ => rfl)
  rw [← e, List.map_map]
  rfl
theorem dp_strs : ∀ zs : List Str, DpAll K H (zs.map V.str) (zs.map dtx)
  | [] => .nil
  | z :: zs => .cons (.str z) (dp_strs zs)
theorem i_sortTx {a : Addr} {zs : List Str} (h : SqL K H a (zs.map V.str)) (q : ∀ p, H p = none → Q (.ref p) (upd H p (.lst ((srtT zs).map V.str)))) : rSortD K [.ref a] H Q := by
  refine i_sortD h (dp_strs zs) (PySem.W.AllAlike.of fun b b' => rfl) (PySem.W.Sortable.others fun b => ⟨(fun z => by cases z), (fun xs z => by cases z)⟩) (fun d hd => ?_) fun p hp => ?_
  · obtain ⟨z, _, rfl⟩ := List.mem_map.mp hd
    simp [dtx, PyData.depth]
  · have := q p hp
    rw [srtD_map]
    exact this
end
end L2
end
section
set_option Elab.async false
set_option linter.all false
set_option autoImplicit false
set_option maxRecDepth 100000
set_option maxHeartbeats 4000000
/-! S1: trees in the heap: frozen, shared, owned -/
namespace TL
open PySem PySem.Spec PyProof.Rows L2
/-- what is fixed through a law: the written part, the classes by name, the program, the world -/
structure Gm where
  K : PySem.W.Frag
  cl : Str → Addr
  w : World
abbrev Ent := NestedKey × V × V
/-- a dict by its entries -/
def DX (w : World) (a : Addr) (es : List Ent) (ep : Nat) : HO := .ext fun h => (a == sysModules) = false ∧ es.length ≤ sizeLine ∧ ∃ (o : Obj) (xs : Array DictEntry), h.get? a = some o ∧ o.ExactDict ∧ o.data = .dict xs ep ∧
  Paired (fun (e : Ent) (q : DictEntry) => q.hash = e.1.hash w ∧ L2.RelV e.2.1 q.key ∧ L2.RelV e.2.2 q.val) es xs.toList
mutual
/-- the tree as a key -/
def keyOf : T → Option NestedKey
  | .non => some .none
  | .bl b => some (.num (if b = true then 1 else 0))
  | .int i => some (.num i)
  | .str x => some (.text x)
  | .tup xs => (keysOf xs).map .tup
  | .lst _ => none
  | .dct _ => none
  | .set _ => none
  | .ins _ _ => none
def keysOf : List T → Option (List NestedKey)
  | [] => some []
  | x :: xs => match keyOf x, keysOf xs with
    | some k, some ks => some (k :: ks)
    | _, _ => none
end
mutual
/-- the tree at the value v: lists, tuples, dicts in B, instances in F -/
def Rep (Γ : Gm) (F : Hp) : Hp → T → V → Prop
  | _, .non, v => v = .non
  | _, .bl b, v => v = .bl b
  | _, .int i, v => v = .int i
  | _, .str x, v => v = .str x
  | B, .tup xs, v => ∃ a vs, v = .ref a ∧ SqT Γ.K B a vs ∧ RepL Γ F B xs vs
  | B, .lst xs, v => ∃ a vs, v = .ref a ∧ SqL Γ.K B a vs ∧ RepL Γ F B xs vs
  | B, .dct kvs, v => ∃ a es ep, v = .ref a ∧ B a = some (DX Γ.w a es ep) ∧ (es.map (·.1)).Nodup ∧ RepD Γ F B kvs es
  | _, .set _, _ => False
  | _, .ins c fs, v => ∃ a dx fv, v = .ref a ∧ F a = some (.ins (Γ.cl c) dx fv) ∧ F dx = some (.own a) ∧ RepF Γ F F fs fv
def RepL (Γ : Gm) (F : Hp) : Hp → List T → List V → Prop
  | _, [], vs => vs = []
  | B, x :: xs, vs => ∃ v r, vs = v :: r ∧ Rep Γ F B x v ∧ RepL Γ F B xs r
def RepD (Γ : Gm) (F : Hp) : Hp → List (T × T) → List Ent → Prop
  | _, [], es => es = []
  | B, (k, x) :: kvs, es => ∃ nk kv v r, es = (nk, kv, v) :: r ∧ keyOf k = some nk ∧ Rep Γ F B k kv ∧ Rep Γ F B x v ∧ RepD Γ F B kvs r
def RepF (Γ : Gm) (F : Hp) : Hp → List (Str × T) → List (Str × V) → Prop
  | _, [], vs => vs = []
  | B, (f, x) :: fs, vs => ∃ v r, vs = (f, v) :: r ∧ Rep Γ F B x v ∧ RepF Γ F B fs r
end

/-! ### more is kept -/
theorem rd_sub {H H' : Hp} {a : Addr} {u : HO} (e : Same H H') (h : Rd H a u) : Rd H' a u := h.imp (e _ _) fun ⟨o, h⟩ => ⟨o, e _ _ h⟩
theorem sqT_sub {K : PySem.W.Frag} {H H' : Hp} {a : Addr} {xs : List V} (e : Same H H') (h : SqT K H a xs) : SqT K H' a xs := h.imp (rd_sub e) id
theorem sqL_sub {K : PySem.W.Frag} {H H' : Hp} {a : Addr} {xs : List V} (e : Same H H') (h : SqL K H a xs) : SqL K H' a xs := h.imp (rd_sub e) id
mutual
theorem Rep.mono {Γ : Gm} {F F' : Hp} (hF : Same F F') : ∀ (t : T) {B B' : Hp} {v : V}, Same B B' → Rep Γ F B t v → Rep Γ F' B' t v
  | .non, _, _, _, _, h => h
  | .bl _, _, _, _, _, h => h
  | .int _, _, _, _, _, h => h
  | .str _, _, _, _, _, h => h
  | .tup xs, _, _, _, hB, h => by
    obtain ⟨a, vs, e, h1, h2⟩ := h
    exact ⟨a, vs, e, sqT_sub hB h1, RepL.mono hF xs hB h2⟩
  | .lst xs, _, _, _, hB, h => by
    obtain ⟨a, vs, e, h1, h2⟩ := h
    exact ⟨a, vs, e, sqL_sub hB h1, RepL.mono hF xs hB h2⟩
  | .dct kvs, _, _, _, hB, h => by
    obtain ⟨a, es, ep, e, h1, h2, h3⟩ := h
    exact ⟨a, es, ep, e, hB _ _ h1, h2, RepD.mono hF kvs hB h3⟩
  | .set _, _, _, _, _, h => h
  | .ins c fs, _, _, _, hB, h => by
    obtain ⟨a, dx, fv, e, h1, h2, h3⟩ := h
    exact ⟨a, dx, fv, e, hF _ _ h1, hF _ _ h2, RepF.mono hF fs hF h3⟩
theorem RepL.mono {Γ : Gm} {F F' : Hp} (hF : Same F F') : ∀ (ts : List T) {B B' : Hp} {vs : List V}, Same B B' → RepL Γ F B ts vs → RepL Γ F' B' ts vs
  | [], _, _, _, _, h => h
  | x :: xs, _, _, _, hB, h => by
    obtain ⟨v, r, e, h1, h2⟩ := h
    exact ⟨v, r, e, Rep.mono hF x hB h1, RepL.mono hF xs hB h2⟩
theorem RepD.mono {Γ : Gm} {F F' : Hp} (hF : Same F F') : ∀ (ts : List (T × T)) {B B' : Hp} {es : List Ent}, Same B B' → RepD Γ F B ts es → RepD Γ F' B' ts es
  | [], _, _, _, _, h => h
  | (k, x) :: xs, _, _, _, hB, h => by
    obtain ⟨nk, kv, v, r, e, h0, h1, h2, h3⟩ := h
    exact ⟨nk, kv, v, r, e, h0, Rep.mono hF k hB h1, Rep.mono hF x hB h2, RepD.mono hF xs hB h3⟩
theorem RepF.mono {Γ : Gm} {F F' : Hp} (hF : Same F F') : ∀ (ts : List (Str × T)) {B B' : Hp} {vs : List (Str × V)}, Same B B' → RepF Γ F B ts vs → RepF Γ F' B' ts vs
  | [], _, _, _, _, h => h
  | (f, x) :: xs, _, _, _, hB, h => by
    obtain ⟨v, r, e, h1, h2⟩ := h
    exact ⟨v, r, e, Rep.mono hF x hB h1, RepF.mono hF xs hB h2⟩
end
/-! ### owned trees: the first n layers of lists and dicts are one's own, at the places fp -/
mutual
def RepO (Γ : Gm) (F H : Hp) : Nat → T → V → List Addr → Prop
  | 0, t, v, fp => fp = [] ∧ Rep Γ F F t v
  | n + 1, .tup xs, v, fp => ∃ a vs, v = .ref a ∧ SqT Γ.K H a vs ∧ RepOL Γ F H (n + 1) xs vs fp
  | n + 1, .lst xs, v, fp => ∃ a vs fp', v = .ref a ∧ H a = some (.lst vs) ∧ fp = a :: fp' ∧ RepOL Γ F H n xs vs fp'
  | _ + 1, .dct kvs, v, fp => ∃ a es ep, v = .ref a ∧ H a = some (DX Γ.w a es ep) ∧ (es.map (·.1)).Nodup ∧ fp = [a] ∧ RepD Γ F F kvs es
  | _ + 1, .non, v, fp => fp = [] ∧ v = .non
  | _ + 1, .bl b, v, fp => fp = [] ∧ v = .bl b
  | _ + 1, .int i, v, fp => fp = [] ∧ v = .int i
  | _ + 1, .str x, v, fp => fp = [] ∧ v = .str x
  | _ + 1, .set xs, v, fp => fp = [] ∧ Rep Γ F F (.set xs) v
  | _ + 1, .ins c fs, v, fp => fp = [] ∧ Rep Γ F F (.ins c fs) v
def RepOL (Γ : Gm) (F H : Hp) : Nat → List T → List V → List Addr → Prop
  | _, [], vs, fp => vs = [] ∧ fp = []
  | n, x :: xs, vs, fp => ∃ v r p q, vs = v :: r ∧ fp = p ++ q ∧ RepO Γ F H n x v p ∧ RepOL Γ F H n xs r q
end
end TL
end
section
set_option Elab.async false
set_option linter.all false
set_option autoImplicit false
set_option maxRecDepth 100000
set_option maxHeartbeats 4000000
/-! S2: owned trees: kept, read, frozen; frames -/
namespace TL
open PySem PySem.Spec PyProof.Rows L2
theorem RepO_zero {Γ : Gm} {F H : Hp} {t : T} {v : V} {fp : List Addr} : RepO Γ F H 0 t v fp = (fp = [] ∧ Rep Γ F F t v) := by
  cases t <;> rfl
theorem rd_fix {H H' : Hp} {a : Addr} {vs : List V} (ht : ∀ a o, H a = some o → ¬ Mut (some o) → H' a = some o) (h : Rd H a (.tup vs)) : Rd H' a (.tup vs) :=
  h.imp (fun e => ht _ _ e fun z => z) fun ⟨o, e⟩ => ⟨o, ht _ _ e fun z => z⟩
theorem sqT_fix {K : PySem.W.Frag} {H H' : Hp} {a : Addr} {vs : List V} (ht : ∀ a o, H a = some o → ¬ Mut (some o) → H' a = some o) (h : SqT K H a vs) : SqT K H' a vs := h.imp (rd_fix ht) id
mutual
theorem RepO.keep {Γ : Gm} {F F' H H' : Hp} (hF : Same F F') (ht : ∀ a o, H a = some o → ¬ Mut (some o) → H' a = some o) : ∀ (t : T) {n : Nat} {v : V} {fp : List Addr}, (∀ a ∈ fp, ∀ o, H a = some o → H' a = some o) → RepO Γ F H n t v fp → RepO Γ F' H' n t v fp
  | t, 0, _, _, _, h => by
    rw [RepO_zero] at h ⊢
    exact ⟨h.1, Rep.mono hF t hF h.2⟩
  | .tup xs, n + 1, _, _, hp, h => by
    obtain ⟨a, vs, e, h1, h2⟩ := h
    exact ⟨a, vs, e, sqT_fix ht h1, RepOL.keep hF ht xs hp h2⟩
  | .lst xs, n + 1, _, _, hp, h => by
    obtain ⟨a, vs, fp', e, h1, rfl, h2⟩ := h
    exact ⟨a, vs, fp', e, hp a (by simp) _ h1, rfl, RepOL.keep hF ht xs (fun b hb => hp b (by simp [hb])) h2⟩
  | .dct kvs, n + 1, _, _, hp, h => by
    obtain ⟨a, es, ep, e, h1, h2, rfl, h3⟩ := h
    exact ⟨a, es, ep, e, hp a (by simp) _ h1, h2, rfl, RepD.mono hF kvs hF h3⟩
  | .non, n + 1, _, _, _, h => h
  | .bl _, n + 1, _, _, _, h => h
  | .int _, n + 1, _, _, _, h => h
  | .str _, n + 1, _, _, _, h => h
  | .set _, n + 1, _, _, _, h => ⟨h.1, Rep.mono hF _ hF h.2⟩
  | .ins _ _, n + 1, _, _, _, h => ⟨h.1, Rep.mono hF _ hF h.2⟩
theorem RepOL.keep {Γ : Gm} {F F' H H' : Hp} (hF : Same F F') (ht : ∀ a o, H a = some o → ¬ Mut (some o) → H' a = some o) : ∀ (ts : List T) {n : Nat} {vs : List V} {fp : List Addr}, (∀ a ∈ fp, ∀ o, H a = some o → H' a = some o) → RepOL Γ F H n ts vs fp → RepOL Γ F' H' n ts vs fp
  | [], _, _, _, _, h => h
  | x :: xs, n, _, _, hp, h => by
    obtain ⟨v, r, p, q, e, rfl, h1, h2⟩ := h
    exact ⟨v, r, p, q, e, rfl, RepO.keep hF ht x (fun b hb => hp b (by simp [hb])) h1, RepOL.keep hF ht xs (fun b hb => hp b (by simp [hb])) h2⟩
end
mutual
/-- what is owned, seen in a heap G that has it -/
theorem RepO.rep {Γ : Gm} {F H F' G : Hp} (hF : Same F F') (hG : Same F G) (ht : ∀ a o, H a = some o → ¬ Mut (some o) → G a = some o) : ∀ (t : T) {n : Nat} {v : V} {fp : List Addr}, (∀ a ∈ fp, ∀ o, H a = some o → G a = some o) → RepO Γ F H n t v fp → Rep Γ F' G t v
  | t, 0, _, _, _, h => by
    rw [RepO_zero] at h
    exact Rep.mono hF t hG h.2
  | .tup xs, n + 1, _, _, hp, h => by
    obtain ⟨a, vs, e, h1, h2⟩ := h
    exact ⟨a, vs, e, sqT_fix ht h1, RepOL.rep hF hG ht xs hp h2⟩
  | .lst xs, n + 1, _, _, hp, h => by
    obtain ⟨a, vs, fp', e, h1, rfl, h2⟩ := h
    exact ⟨a, vs, e, .inl (.inl (hp a (by simp) _ h1)), RepOL.rep hF hG ht xs (fun b hb => hp b (by simp [hb])) h2⟩
  | .dct kvs, n + 1, _, _, hp, h => by
    obtain ⟨a, es, ep, e, h1, h2, rfl, h3⟩ := h
    exact ⟨a, es, ep, e, hp a (by simp) _ h1, h2, RepD.mono hF kvs hG h3⟩
  | .non, n + 1, _, _, _, h => h.2
  | .bl _, n + 1, _, _, _, h => h.2
  | .int _, n + 1, _, _, _, h => h.2
  | .str _, n + 1, _, _, _, h => h.2
  | .set _, n + 1, _, _, _, h => Rep.mono hF _ hG h.2
  | .ins _ _, n + 1, _, _, _, h => Rep.mono hF _ hG h.2
theorem RepOL.rep {Γ : Gm} {F H F' G : Hp} (hF : Same F F') (hG : Same F G) (ht : ∀ a o, H a = some o → ¬ Mut (some o) → G a = some o) : ∀ (ts : List T) {n : Nat} {vs : List V} {fp : List Addr}, (∀ a ∈ fp, ∀ o, H a = some o → G a = some o) → RepOL Γ F H n ts vs fp → RepL Γ F' G ts vs
  | [], _, _, _, _, h => h.1
  | x :: xs, n, _, _, hp, h => by
    obtain ⟨v, r, p, q, e, rfl, h1, h2⟩ := h
    exact ⟨v, r, e, RepO.rep hF hG ht x (fun b hb => hp b (by simp [hb])) h1, RepOL.rep hF hG ht xs (fun b hb => hp b (by simp [hb])) h2⟩
end
theorem RepO.now {Γ : Gm} {F H : Hp} {t : T} {n : Nat} {v : V} {fp : List Addr} (hF : Same F H) (h : RepO Γ F H n t v fp) : Rep Γ F H t v :=
  RepO.rep (Same.refl _) hF (fun _ _ e _ => e) t (fun _ _ _ e => e) h
mutual
/-- what stands at the places of an owned tree can be written -/
theorem RepO.mut {Γ : Gm} {F H : Hp} : ∀ (t : T) {n : Nat} {v : V} {fp : List Addr}, RepO Γ F H n t v fp → ∀ a ∈ fp, Mut (H a)
  | t, 0, _, _, h, a, ha => by rw [RepO_zero] at h; rw [h.1] at ha; cases ha
  | .tup xs, n + 1, _, _, h, a, ha => by
    obtain ⟨b, vs, e, h1, h2⟩ := h
    exact RepOL.mut xs h2 a ha
  | .lst xs, n + 1, _, _, h, a, ha => by
    obtain ⟨b, vs, fp', e, h1, rfl, h2⟩ := h
    rcases List.mem_cons.mp ha with rfl | ha
    · rw [h1]; exact True.intro
    · exact RepOL.mut xs h2 a ha
  | .dct kvs, n + 1, _, _, h, a, ha => by
    obtain ⟨b, es, ep, e, h1, h2, rfl, h3⟩ := h
    rw [List.mem_singleton.mp ha, h1]; exact True.intro
  | .non, n + 1, _, _, h, a, ha => by rw [h.1] at ha; cases ha
  | .bl _, n + 1, _, _, h, a, ha => by rw [h.1] at ha; cases ha
  | .int _, n + 1, _, _, h, a, ha => by rw [h.1] at ha; cases ha
  | .str _, n + 1, _, _, h, a, ha => by rw [h.1] at ha; cases ha
  | .set _, n + 1, _, _, h, a, ha => by rw [h.1] at ha; cases ha
  | .ins _ _, n + 1, _, _, h, a, ha => by rw [h.1] at ha; cases ha
theorem RepOL.mut {Γ : Gm} {F H : Hp} : ∀ (ts : List T) {n : Nat} {vs : List V} {fp : List Addr}, RepOL Γ F H n ts vs fp → ∀ a ∈ fp, Mut (H a)
  | [], _, _, _, h, a, ha => by rw [h.2] at ha; cases ha
  | x :: xs, n, _, _, h, a, ha => by
    obtain ⟨v, r, p, q, e, rfl, h1, h2⟩ := h
    rcases List.mem_append.mp ha with ha | ha
    · exact RepO.mut x h1 a ha
    · exact RepOL.mut xs h2 a ha
end
theorem RepO.there {Γ : Gm} {F H : Hp} {t : T} {n : Nat} {v : V} {fp : List Addr} (h : RepO Γ F H n t v fp) {a : Addr} (ha : a ∈ fp) : ∃ o, H a = some o ∧ Mut (some o) := by
  have m := RepO.mut t h a ha
  cases e : H a with
  | none => rw [e] at m; exact m.elim
  | some o => rw [e] at m; exact ⟨o, rfl, m⟩
/-! ### the world of a frame: what is frozen, what is shared, all -/
structure Wd where
  F : Hp
  B : Hp
  H : Hp
structure Wd.Le (W W' : Wd) : Prop where
  f : Same W.F W'.F
  b : Same W.B W'.B
  g : ∀ a o, W'.F a = some o → W.F a = some o ∨ W.B a = none ∨ ¬ Mut (some o)
theorem Wd.Le.refl (W : Wd) : W.Le W := ⟨Same.refl _, Same.refl _, fun _ _ h => .inl h⟩
theorem Wd.Le.trans {W W1 W2 : Wd} (a : W.Le W1) (b : W1.Le W2) : W.Le W2 := by
  refine ⟨a.f.trans b.f, a.b.trans b.b, fun c o h => ?_⟩
  rcases b.g c o h with h | h | h
  · exact a.g c o h
  · exact .inr (.inl (a.b.free h))
  · exact .inr (.inr h)
/-- how a slot is held -/
inductive Md where
  | sh | own (n : Nat) | lent (n : Nat) | obj
  deriving DecidableEq
/-- stays where it is while its def runs -/
def Md.kept : Md → Bool
  | .lent _ => true
  | .obj => true
  | _ => false
/-- an instance of one's own, what it holds is frozen -/
def RepI (Γ : Gm) (F H : Hp) : T → V → List Addr → Prop
  | .ins c fs, v, fp => ∃ a dx fv, v = .ref a ∧ H a = some (.ins (Γ.cl c) dx fv) ∧ H dx = some (.own a) ∧ fp = [a] ∧ RepF Γ F F fs fv
  | _, _, _ => False
abbrev Slot := Md × Option T × Option V
def SlotOk (Γ : Gm) (W : Wd) : Slot → List Addr → Prop
  | (_, none, _), fp => fp = []
  | (_, some _, none), _ => False
  | (.sh, some t, some v), fp => fp = [] ∧ Rep Γ W.F W.B t v
  | (.own n, some t, some v), fp => RepO Γ W.F W.H n t v fp
  | (.lent n, some t, some v), fp => RepO Γ W.F W.H n t v fp
  | (.obj, some t, some v), fp => RepI Γ W.F W.H t v fp
theorem RepI.keep {Γ : Gm} {F F' H H' : Hp} (hF : Same F F') (ht : ∀ a o, H a = some o → ¬ Mut (some o) → H' a = some o) {t : T} {v : V} {fp : List Addr} (hp : ∀ a ∈ fp, ∀ o, H a = some o → H' a = some o) (h : RepI Γ F H t v fp) : RepI Γ F' H' t v fp := by
  cases t with
  | ins c fs =>
    obtain ⟨a, dx, fv, e, h1, h2, rfl, h3⟩ := h
    exact ⟨a, dx, fv, e, hp a (by simp) _ h1, ht _ _ h2 (fun z => z), rfl, RepF.mono hF fs hF h3⟩
  | _ => exact (show False from h).elim
theorem RepI.there {Γ : Gm} {F H : Hp} {t : T} {v : V} {fp : List Addr} (h : RepI Γ F H t v fp) {a : Addr} (ha : a ∈ fp) : ∃ o, H a = some o ∧ Mut (some o) := by
  cases t with
  | ins c fs =>
    obtain ⟨b, dx, fv, e, h1, h2, rfl, h3⟩ := h
    rw [List.mem_singleton.mp ha]
    exact ⟨_, h1, True.intro⟩
  | _ => exact (show False from h).elim
structure Fr (Γ : Gm) (W : Wd) (S : List Slot) : Prop where
  fb : Same W.F W.B
  bh : Same W.B W.H
  ex : ∃ fps : List (List Addr), Paired (SlotOk Γ W) S fps ∧ fps.flatten.Nodup ∧ ∀ a ∈ fps.flatten, W.B a = none
end TL
end
section
set_option Elab.async false
set_option linter.all false
set_option autoImplicit false
set_option maxRecDepth 100000
set_option maxHeartbeats 4000000
/-! S3: what can be done to a frame -/
namespace TL
open PySem PySem.Spec PyProof.Rows L2
section
variable {α β : Type} {R R' : α → β → Prop}
theorem pr_get : ∀ {l : List α} {m : List β} {i : Nat} {a : α}, Paired R l m → l[i]? = some a → ∃ b, m[i]? = some b ∧ R a b
  | _, _, _, _, .nil, e => by simp at e
  | _, _, 0, _, .cons r _, e => by simp at e; subst e; exact ⟨_, rfl, r⟩
  | _, _, i + 1, a, .cons _ t, e => by
    obtain ⟨u, h1, h2⟩ := pr_get (i := i) (a := a) t (by simpa using e)
    exact ⟨u, by simpa using h1, h2⟩
theorem pr_set {a : α} {b : β} (r : R a b) : ∀ {l : List α} {m : List β} (i : Nat), Paired R l m → Paired R (l.set i a) (m.set i b)
  | _, _, _, .nil => .nil
  | _, _, 0, .cons _ t => .cons r t
  | _, _, i + 1, .cons q t => .cons q (pr_set r i t)
theorem pr_app : ∀ {l l' : List α} {m m' : List β}, Paired R l m → Paired R l' m' → Paired R (l ++ l') (m ++ m')
  | _, _, _, _, .nil, s => s
  | _, _, _, _, .cons r t, s => .cons r (pr_app t s)
theorem pr_split : ∀ {l l' : List α} {m : List β}, Paired R (l ++ l') m → ∃ m1 m2, m = m1 ++ m2 ∧ Paired R l m1 ∧ Paired R l' m2
  | [], _, _, h => ⟨[], _, rfl, .nil, h⟩
  | _ :: _, _, _, .cons r t => by
    obtain ⟨m1, m2, e, h1, h2⟩ := pr_split t
    exact ⟨_ :: m1, m2, by rw [e]; rfl, .cons r h1, h2⟩
end
section
variable {Γ : Gm} {W : Wd} {S : List Slot}
/-- a slot that may be another's in the heap that is kept for it -/
theorem SlotOk.keep {W W' : Wd} (hF : Same W.F W'.F) (hB : Same W.B W'.B) (ht : ∀ a o, W.H a = some o → ¬ Mut (some o) → W'.H a = some o) : ∀ {s : Slot} {fp : List Addr}, (∀ a ∈ fp, ∀ o, W.H a = some o → W'.H a = some o) → SlotOk Γ W s fp → SlotOk Γ W' s fp
  | (_, none, _), _, _, h => h
  | (_, some _, none), _, _, h => h.elim
  | (.sh, some t, some v), _, _, h => ⟨h.1, Rep.mono hF t hB h.2⟩
  | (.own n, some t, some v), _, hp, h => RepO.keep hF ht t hp h
  | (.lent n, some t, some v), _, hp, h => RepO.keep hF ht t hp h
  | (.obj, some t, some v), _, hp, h => RepI.keep hF ht hp h
theorem SlotOk.there : ∀ {s : Slot} {fp : List Addr}, SlotOk Γ W s fp → ∀ a ∈ fp, ∃ o, W.H a = some o ∧ Mut (some o)
  | (_, none, _), _, h, a, ha => by rw [show _ = [] from h] at ha; cases ha
  | (_, some _, none), _, h, _, _ => h.elim
  | (.sh, some t, some v), _, h, a, ha => by rw [h.1] at ha; cases ha
  | (.own n, some t, some v), _, h, a, ha => RepO.there h ha
  | (.lent n, some t, some v), _, h, a, ha => RepO.there h ha
  | (.obj, some t, some v), _, h, a, ha => RepI.there h ha
theorem pr_there {fps : List (List Addr)} (h : Paired (SlotOk Γ W) S fps) : ∀ a ∈ fps.flatten, ∃ o, W.H a = some o ∧ Mut (some o) := by
  induction h with
  | nil => intro a ha; simp at ha
  | cons r t ih =>
    intro a ha
    rw [List.flatten_cons] at ha
    rcases List.mem_append.mp ha with ha | ha
    · exact r.there a ha
    · exact ih a ha
theorem pr_keep {W W' : Wd} (hF : Same W.F W'.F) (hB : Same W.B W'.B) (ht : ∀ a o, W.H a = some o → ¬ Mut (some o) → W'.H a = some o) {S : List Slot} {fps : List (List Addr)} (h : Paired (SlotOk Γ W) S fps) (hp : ∀ a ∈ fps.flatten, ∀ o, W.H a = some o → W'.H a = some o) : Paired (SlotOk Γ W') S fps := by
  induction h with
  | nil => exact .nil
  | cons r t ih =>
    refine .cons (SlotOk.keep hF hB ht (fun a ha => hp a ?_) r) (ih fun a ha => hp a ?_)
    · rw [List.flatten_cons]; exact List.mem_append_left _ ha
    · rw [List.flatten_cons]; exact List.mem_append_right _ ha
/-- the heap grows -/
theorem Fr.grow (h : Fr Γ W S) {H' : Hp} (e : Same W.H H') : Fr Γ { W with H := H' } S := by
  obtain ⟨fps, h1, h2, h3⟩ := h.ex
  exact ⟨h.fb, h.bh.trans e, fps, pr_keep (W := W) (W' := { W with H := H' }) (Same.refl _) (Same.refl _) (fun a o q _ => e _ _ q) h1 (fun a _ o q => e _ _ q), h2, h3⟩
theorem flat_set {l : List (List Addr)} {i : Nat} {x y : List Addr} (h : l[i]? = some x) : ∃ p q, l.flatten = p ++ x ++ q ∧ (l.set i y).flatten = p ++ y ++ q := by
  induction l generalizing i with
  | nil => simp at h
  | cons a l ih =>
    cases i with
    | zero =>
      simp at h
      subst h
      exact ⟨[], l.flatten, by simp, by simp⟩
    | succ i =>
      obtain ⟨p, q, e1, e2⟩ := ih (i := i) (by simpa using h)
      exact ⟨a ++ p, q, by simp [e1], by simp [e2]⟩
theorem nodup_mid {p x y q : List Addr} (h : (p ++ x ++ q).Nodup) (hy : y.Nodup) (hd : ∀ a ∈ y, a ∉ p ∧ a ∉ q) : (p ++ y ++ q).Nodup := by
  rw [List.append_assoc, List.nodup_append] at h ⊢
  obtain ⟨hp, hxq, hd1⟩ := h
  rw [List.nodup_append] at hxq ⊢
  obtain ⟨hx, hq, hd2⟩ := hxq
  refine ⟨hp, ⟨hy, hq, fun a ha b hb e => (hd a ha).2 (e ▸ hb)⟩, fun a ha b hb e => ?_⟩
  rcases List.mem_append.mp hb with hb | hb
  · exact (hd b hb).1 (e ▸ ha)
  · exact hd1 a ha b (List.mem_append_right _ hb) e
/-- slot i is changed, and with it the heap at its own places alone; what is new is its own -/
theorem Fr.change (h : Fr Γ W S) {i : Nat} {s : Slot} (hs : S[i]? = some s) : ∃ fp, SlotOk Γ W s fp ∧ fp.Nodup ∧ (∀ a ∈ fp, W.B a = none) ∧ ∀ (H' : Hp) (s' : Slot) (fp' : List Addr), (∀ a o, a ∉ fp → W.H a = some o → H' a = some o) → SlotOk Γ { W with H := H' } s' fp' → fp'.Nodup → (∀ a ∈ fp', a ∈ fp ∨ W.H a = none) →
    Fr Γ { W with H := H' } (S.set i s') := by
  obtain ⟨fps, h1, h2, h3⟩ := h.ex
  obtain ⟨fp, e, hsl⟩ := pr_get h1 hs
  obtain ⟨p, q, e1, _⟩ := flat_set (y := []) e
  have hnd : fp.Nodup := by
    rw [e1] at h2
    exact (List.nodup_append.mp (List.nodup_append.mp h2).1).2.1
  have hin : ∀ a ∈ fp, W.B a = none := fun a ha => h3 a (by rw [e1]; simp [ha])
  refine ⟨fp, hsl, hnd, hin, fun H' s' fp' hk hok hn' hf => ?_⟩
  have ht : ∀ a o, W.H a = some o → ¬ Mut (some o) → H' a = some o := fun a o q nm => hk a _ (fun hm => by
    obtain ⟨o, e, m⟩ := hsl.there a hm
    rw [q] at e; cases e; exact nm m) q
  obtain ⟨p, q, e1, e2⟩ := flat_set (y := fp') e
  have dis : ∀ a, a ∈ fp → a ∉ p ∧ a ∉ q := fun a ha => by
    rw [e1, List.append_assoc, List.nodup_append] at h2
    obtain ⟨_, hxq, hd1⟩ := h2
    rw [List.nodup_append] at hxq
    exact ⟨fun hp => hd1 a hp a (List.mem_append_left _ ha) rfl, fun hq => hxq.2.2 a ha a hq rfl⟩
  have oth : ∀ a, a ∈ p ∨ a ∈ q → a ∉ fp := fun a ha hf => ha.elim (dis a hf).1 (dis a hf).2
  have all : ∀ a, a ∈ p ∨ a ∈ q → a ∈ fps.flatten := fun a ha => by
    rw [e1]; rcases ha with ha | ha <;> simp [ha]
  refine ⟨h.fb, fun a o q => hk a o (fun hm => ?_) (h.bh _ _ q), fps.set i fp', ?_, ?_, ?_⟩
  · have q' : W.B a = some o := q
    rw [hin a hm] at q'; cases q'
  · -- the other slots
    have go : ∀ {S : List Slot} {fps : List (List Addr)} {i : Nat} {x : List Addr}, Paired (SlotOk Γ W) S fps → fps[i]? = some x → (∀ a, a ∈ (fps.set i []).flatten → a ∉ fp) → Paired (SlotOk Γ { W with H := H' }) (S.set i s') (fps.set i fp') := by
      intro S fps i x hpr
      induction hpr generalizing i with
      | nil => intro hx _; simp at hx
      | cons r t ih =>
        intro hx hout
        cases i with
        | zero =>
          refine .cons hok (pr_keep (W := W) (W' := { W with H := H' }) (Same.refl _) (Same.refl _) ht t fun a ha o q => hk a o (hout a ?_) q)
          simpa using ha
        | succ i =>
          refine .cons (SlotOk.keep (W := W) (W' := { W with H := H' }) (Same.refl _) (Same.refl _) ht (fun a ha o q => hk a o (hout a ?_) q) r) (ih (by simpa using hx) fun a ha => hout a ?_)
          · simp only [List.set_cons_succ, List.flatten_cons]; exact List.mem_append_left _ ha
          · simp only [List.set_cons_succ, List.flatten_cons]; exact List.mem_append_right _ ha
    refine go h1 e fun a ha => ?_
    obtain ⟨p', q', e1', e2'⟩ := flat_set (y := []) e
    rw [e2'] at ha
    intro hf
    rw [e1', List.append_assoc, List.nodup_append] at h2
    obtain ⟨_, hxq, hd1⟩ := h2
    rw [List.nodup_append] at hxq
    simp only [List.append_nil] at ha
    rcases List.mem_append.mp ha with ha | ha
    · exact hd1 a ha a (List.mem_append_left _ hf) rfl
    · exact hxq.2.2 a hf a ha rfl
  · rw [e2]
    refine nodup_mid (by rw [← e1]; exact h2) hn' fun a ha => ?_
    rcases hf a ha with hm | hm
    · exact dis a hm
    · have no : ∀ b, b ∈ p ∨ b ∈ q → b ≠ a := fun b hb e => by
        obtain ⟨o, e', _⟩ := pr_there h1 b (all b hb)
        rw [e, hm] at e'; cases e'
      exact ⟨fun hp => no a (.inl hp) rfl, fun hq => no a (.inr hq) rfl⟩
  · intro a ha
    rw [e2] at ha
    have : a ∈ p ∨ a ∈ q ∨ a ∈ fp' := by
      rcases List.mem_append.mp ha with ha | ha
      · rcases List.mem_append.mp ha with ha | ha
        · exact .inl ha
        · exact .inr (.inr ha)
      · exact .inr (.inl ha)
    rcases this with ha | ha | ha
    · exact h3 a (all a (.inl ha))
    · exact h3 a (all a (.inr ha))
    · rcases hf a ha with hm | hm
      · exact hin a hm
      · exact h.bh.free hm
end
end TL
end
section
set_option Elab.async false
set_option linter.all false
set_option autoImplicit false
set_option maxRecDepth 100000
set_option maxHeartbeats 4000000
/-! S4: frames: a slot more, a slot less, frozen -/
namespace TL
open PySem PySem.Spec PyProof.Rows L2
section
variable {Γ : Gm} {W : Wd} {S S' : List Slot}
theorem Fr.new (h : Fr Γ W S) {H' : Hp} {s : Slot} {fp : List Addr} (e : Same W.H H') (hs : SlotOk Γ { W with H := H' } s fp) (hn : fp.Nodup) (hf : ∀ a ∈ fp, W.H a = none) : Fr Γ { W with H := H' } (S ++ [s]) := by
  obtain ⟨fps, h1, h2, h3⟩ := h.ex
  have h1' := pr_keep (W := W) (W' := { W with H := H' }) (Same.refl _) (Same.refl _) (fun a o q _ => e _ _ q) h1 (fun a _ o q => e _ _ q)
  refine ⟨h.fb, h.bh.trans e, fps ++ [fp], pr_app h1' (.cons hs .nil), ?_, ?_⟩
  · rw [List.flatten_append, List.nodup_append]
    refine ⟨h2, by simpa using hn, fun a ha b hb z => ?_⟩
    simp at hb
    obtain ⟨o, q, _⟩ := pr_there h1 a ha
    rw [z, hf b hb] at q; cases q
  · intro a ha
    rw [List.flatten_append] at ha
    rcases List.mem_append.mp ha with ha | ha
    · exact h3 a ha
    · simp at ha
      exact h.bh.free (hf a ha)
theorem Fr.pop (h : Fr Γ W (S ++ S')) : Fr Γ W S := by
  obtain ⟨fps, h1, h2, h3⟩ := h.ex
  obtain ⟨m1, m2, rfl, g1, g2⟩ := pr_split h1
  rw [List.flatten_append] at h2 h3
  exact ⟨h.fb, h.bh, m1, g1, (List.nodup_append.mp h2).1, fun a ha => h3 a (List.mem_append_left _ ha)⟩
theorem pr_perm {α β : Type} {R : α → β → Prop} {l l' : List α} (p : l.Perm l') : ∀ {m : List β}, Paired R l m → ∃ m', Paired R l' m' ∧ m.Perm m' := by
  induction p with
  | nil => intro m h; exact ⟨m, h, .refl _⟩
  | cons x p ih =>
    intro m h
    cases h with
    | cons r t =>
      obtain ⟨m', h', q⟩ := ih t
      exact ⟨_ :: m', .cons r h', q.cons _⟩
  | swap x y l =>
    intro m h
    cases h with
    | cons r t =>
      cases t with
      | cons r' t' => exact ⟨_, .cons r' (.cons r t'), .swap _ _ _⟩
  | trans p q ih1 ih2 =>
    intro m h
    obtain ⟨m1, h1, q1⟩ := ih1 h
    obtain ⟨m2, h2, q2⟩ := ih2 h1
    exact ⟨m2, h2, q1.trans q2⟩
theorem Fr.perm (h : Fr Γ W S) (p : S.Perm S') : Fr Γ W S' := by
  obtain ⟨fps, h1, h2, h3⟩ := h.ex
  obtain ⟨m, g, q⟩ := pr_perm p h1
  have qf := q.flatten
  exact ⟨h.fb, h.bh, m, g, qf.nodup_iff.mp h2, fun a ha => h3 a (qf.mem_iff.mpr ha)⟩
theorem Fr.blank (h : Fr Γ W S) (m : Md) (ov : Option V) : Fr Γ W (S ++ [(m, none, ov)]) := by
  obtain ⟨fps, h1, h2, h3⟩ := h.ex
  exact ⟨h.fb, h.bh, fps ++ [[]], pr_app h1 (.cons (by cases m <;> rfl) .nil), by simpa using h2, fun a ha => h3 a (by simpa using ha)⟩
/-- a shared value more -/
theorem Fr.share (h : Fr Γ W S) {t : T} {v : V} (r : Rep Γ W.F W.B t v) : Fr Γ W (S ++ [(.sh, some t, some v)]) := by
  obtain ⟨fps, h1, h2, h3⟩ := h.ex
  exact ⟨h.fb, h.bh, fps ++ [[]], pr_app h1 (.cons ⟨rfl, r⟩ .nil), by simpa using h2, fun a ha => h3 a (by simpa using ha)⟩
/-- a frozen value more -/
theorem Fr.frozen (h : Fr Γ W S) {t : T} {v : V} (r : Rep Γ W.F W.F t v) : Fr Γ W (S ++ [(.own 0, some t, some v)]) := by
  obtain ⟨fps, h1, h2, h3⟩ := h.ex
  exact ⟨h.fb, h.bh, fps ++ [[]], pr_app h1 (.cons (show RepO Γ W.F W.H 0 t v [] by rw [RepO_zero]; exact ⟨rfl, r⟩) .nil), by simpa using h2, fun a ha => h3 a (by simpa using ha)⟩
/-- the last slot into the place of slot i -/
theorem Fr.put {s : Slot} (h : Fr Γ W (S ++ [s])) (i : Nat) : Fr Γ W (S.set i s) := by
  by_cases hi : i < S.length
  · have e : S = S.take i ++ S[i] :: S.drop (i + 1) := by rw [List.getElem_cons_drop]; exact (List.take_append_drop i S).symm
    have e2 : S.set i s = S.take i ++ s :: S.drop (i + 1) := List.set_eq_take_append_cons_drop.trans (by rw [if_pos hi])
    rw [e2]
    refine Fr.pop (S' := [S[i]]) (h.perm ?_)
    have : (S.take i ++ S[i] :: S.drop (i + 1) ++ [s]).Perm (S.take i ++ s :: S.drop (i + 1) ++ [S[i]]) := by
      rw [List.append_assoc, List.append_assoc]
      refine List.Perm.append_left _ ?_
      simp only [List.cons_append]
      refine (List.Perm.cons _ (List.perm_append_comm)).trans ?_
      simp only [List.cons_append, List.nil_append]
      refine (List.Perm.swap _ _ _).trans (List.Perm.cons _ ?_)
      exact (List.perm_append_comm (l₁ := [S[i]]))
    rw [← e] at this
    exact this
  · rw [List.set_eq_of_length_le (by omega)]
    exact h.pop
/-- slot i forgotten -/
theorem Fr.forget (h : Fr Γ W S) (i : Nat) (m : Md) (ov : Option V) : Fr Γ W (S.set i (m, none, ov)) := (h.blank m ov).put i
/-- slot i's tree taken out of it -/
theorem Fr.take {s : Slot} (h : Fr Γ W S) {i : Nat} (hs : S[i]? = some s) (m : Md) (ov : Option V) : Fr Γ W (S.set i (m, none, ov) ++ [s]) := by
  obtain ⟨hi, e1⟩ := List.getElem?_eq_some_iff.mp hs
  have e : S = S.take i ++ s :: S.drop (i + 1) := by rw [← e1, List.getElem_cons_drop]; exact (List.take_append_drop i S).symm
  have e2 : S.set i (m, none, ov) = S.take i ++ (m, none, ov) :: S.drop (i + 1) := List.set_eq_take_append_cons_drop.trans (by rw [if_pos hi])
  refine (h.blank m ov).perm ?_
  rw [e2]
  conv => lhs; rw [e]
  rw [List.append_assoc, List.append_assoc]
  refine List.Perm.append_left _ ?_
  simp only [List.cons_append]
  refine (List.Perm.cons _ (List.perm_append_comm)).trans ?_
  simp only [List.cons_append, List.nil_append]
  refine (List.Perm.swap _ _ _).trans (List.Perm.cons _ ?_)
  exact (List.perm_append_comm (l₁ := [s]))
/-! ### freezing -/
def isFix (o : Option HO) : Prop := ¬ Mut o
open Classical in
noncomputable def frz (F H : Hp) (fp : List Addr) : Hp := fun a => if (F a).isSome = true then F a else if a ∈ fp ∨ isFix (H a) then H a else none
def join (B F : Hp) : Hp := fun a => if (B a).isSome = true then B a else F a
theorem frz_f {F H : Hp} {fp : List Addr} : Same F (frz F H fp) := fun a o e => by unfold frz; rw [if_pos (by rw [e]; rfl)]; exact e
theorem frz_h {F H : Hp} {fp : List Addr} (hF : Same F H) : Same (frz F H fp) H := fun a o e => by
  unfold frz at e
  split at e
  · exact hF _ _ e
  · split at e
    · exact e
    · cases e
theorem frz_at {F H : Hp} {fp : List Addr} (hF : Same F H) {a : Addr} {o : HO} (ha : a ∈ fp ∨ isFix (H a)) (e : H a = some o) : frz F H fp a = some o := by
  unfold frz
  split
  · rename_i h
    obtain ⟨o', e'⟩ := Option.isSome_iff_exists.mp h
    rw [e', ← e, hF _ _ e']
  · exact e
theorem join_b {B F : Hp} : Same B (join B F) := fun a o e => by unfold join; rw [if_pos (by rw [e]; rfl)]; exact e
theorem join_f {B F H : Hp} (hB : Same B H) (hF : Same F H) : Same F (join B F) := fun a o e => by
  unfold join
  split
  · rename_i h
    obtain ⟨o', e'⟩ := Option.isSome_iff_exists.mp h
    have := hB _ _ e'
    rw [hF _ _ e] at this
    rw [e', this]
  · exact e
theorem join_h {B F H : Hp} (hB : Same B H) (hF : Same F H) : Same (join B F) H := fun a o e => by
  unfold join at e
  split at e
  · exact hB _ _ e
  · exact hF _ _ e
theorem join_none {B F : Hp} {a : Addr} (h1 : B a = none) (h2 : F a = none) : join B F a = none := by
  unfold join; rw [h1]; exact h2
/-- the last slot, frozen -/
theorem Fr.freeze {n : Nat} {t : T} {v : V} (h : Fr Γ W (S ++ [(.own n, some t, some v)])) : ∃ W' : Wd, W.Le W' ∧ W'.H = W.H ∧ Fr Γ W' S ∧ Rep Γ W'.F W'.F t v := by
  obtain ⟨fps, h1, h2, h3⟩ := h.ex
  obtain ⟨m1, m2, rfl, g1, g2⟩ := pr_split h1
  cases g2 with
  | @cons _ fp _ _ r g2 =>
  cases g2
  have fh := h.fb.trans h.bh
  have r' : RepO Γ W.F W.H n t v fp := r
  rw [List.flatten_append, List.nodup_append] at h2
  obtain ⟨n1, n2, dis⟩ := h2
  have F' := frz W.F W.H fp
  have key : ∀ a o, W.H a = some o → ¬ Mut (some o) → frz W.F W.H fp a = some o := fun a o e m => frz_at fh (.inr (by unfold isFix; rw [e]; exact m)) e
  refine ⟨⟨frz W.F W.H fp, join W.B (frz W.F W.H fp), W.H⟩, ⟨frz_f, join_b, fun a o e => ?_⟩, rfl, ⟨join_f h.bh (frz_h fh), join_h h.bh (frz_h fh), m1, ?_, n1, fun a ha => ?_⟩, ?_⟩
  · have e' : frz W.F W.H fp a = some o := e
    unfold frz at e'
    split at e'
    · exact .inl e'
    · split at e'
      · rename_i hh
        rcases hh with hh | hh
        · exact .inr (.inl (h3 a (by simp [hh])))
        · rw [e'] at hh
          exact .inr (.inr hh)
      · cases e'
  · exact pr_keep (W := W) (W' := ⟨frz W.F W.H fp, join W.B (frz W.F W.H fp), W.H⟩) frz_f join_b (fun _ _ q _ => q) g1 fun _ _ _ q => q
  · have hb : W.B a = none := h3 a (by simp at ha ⊢; exact .inl ha)
    refine join_none hb ?_
    show (if _ then _ else _) = _
    rw [if_neg (by rw [h.fb.free hb]; simp), if_neg]
    rintro (hm | hm)
    · exact dis a ha a (by simpa using hm) rfl
    · obtain ⟨o, e, m⟩ := pr_there g1 a ha
      rw [e] at hm
      exact hm m
  · exact RepO.rep frz_f frz_f key t (fun a ha o e => frz_at fh (.inl ha) e) r'
end
end TL
end
section
set_option Elab.async false
set_option linter.all false
set_option autoImplicit false
set_option maxRecDepth 100000
set_option maxHeartbeats 4000000
/-! S5: readings that do what a step over trees does -/
namespace TL
open PySem PySem.Spec L2
def sl : List Md → Tau → St → List Slot
  | m :: ms, t :: τ, v :: σ => (m, t, v) :: sl ms τ σ
  | _, _, _ => []
theorem sl_get : ∀ {ms : List Md} {τ : Tau} {σ : St} {i : Nat} {m : Md} {t : Option T} {v : Option V}, ms[i]? = some m → τ[i]? = some t → σ[i]? = some v → (sl ms τ σ)[i]? = some (m, t, v)
  | [], _, _, _, _, _, _, h, _, _ => by simp at h
  | _ :: _, [], _, _, _, _, _, _, h, _ => by simp at h
  | _ :: _, _ :: _, [], _, _, _, _, _, _, h => by simp at h
  | _ :: _, _ :: _, _ :: _, 0, _, _, _, h1, h2, h3 => by simp at h1 h2 h3; simp [sl, h1, h2, h3]
  | _ :: ms, _ :: τ, _ :: σ, i + 1, _, _, _, h1, h2, h3 => by
    have := sl_get (ms := ms) (τ := τ) (σ := σ) (i := i) (by simpa using h1) (by simpa using h2) (by simpa using h3)
    simpa [sl] using this
theorem sl_set : ∀ {ms : List Md} {τ : Tau} {σ : St} {i : Nat} {m : Md} (t : Option T) (v : Option V), ms[i]? = some m → (sl ms τ σ).set i (m, t, v) = sl ms (τ.set i t) (σ.set i v)
  | [], _, _, _, _, _, _, h => by simp at h
  | _ :: _, [], _, i, _, _, _, _ => by cases i <;> simp [sl]
  | _ :: _, _ :: _, [], i, _, _, _, _ => by cases i <;> simp [sl]
  | _ :: _, _ :: _, _ :: _, 0, _, _, _, h => by simp at h; simp [sl, h]
  | _ :: ms, _ :: τ, _ :: σ, i + 1, _, t, v, h => by
    have := sl_set (ms := ms) (τ := τ) (σ := σ) (i := i) t v (by simpa using h)
    simpa [sl] using this
theorem sl_len : ∀ {ms : List Md} {τ : Tau} {σ : St}, τ.length = ms.length → σ.length = ms.length → (sl ms τ σ).length = ms.length
  | [], _, _, _, _ => by simp [sl]
  | _ :: _, [], _, h, _ => by simp at h
  | _ :: _, _ :: _, [], _, h => by simp at h
  | _ :: ms, _ :: τ, _ :: σ, h1, h2 => by
    have := sl_len (ms := ms) (τ := τ) (σ := σ) (by simpa using h1) (by simpa using h2)
    simpa [sl] using this
theorem set_self : ∀ {σ : St} {i : Nat} {v : Option V}, σ[i]? = some v → σ.set i v = σ
  | [], _, _, h => by simp at h
  | _ :: _, 0, _, h => by simp at h; simp [h]
  | _ :: σ, i + 1, _, h => by simpa using set_self (σ := σ) (i := i) (by simpa using h)
theorem tau_self : ∀ {τ : Tau} {i : Nat} {v : Option T}, τ[i]? = some v → τ.set i v = τ
  | [], _, _, h => by simp at h
  | _ :: _, 0, _, h => by simp at h; simp [h]
  | _ :: τ, i + 1, _, h => by simpa using tau_self (τ := τ) (i := i) (by simpa using h)
structure FrS (Γ : Gm) (W : Wd) (ms : List Md) (τ : Tau) (σ : St) (hs : List Slot) : Prop where
  fr : Fr Γ W (sl ms τ σ ++ hs)
  lt : τ.length = ms.length
  lv : σ.length = ms.length
/-- how surely a value stands: now; while the frame lasts; for ever; new, and one's own -/
inductive RC where
  | now | sh | fz | own (n : Nat) | slot (i : Nat)
  deriving DecidableEq
def RepX (Γ : Gm) (W : Wd) (x : Exn) (cls : Value) (d : Option Addr) : Prop := cls = .ref (Γ.cl x.c) ∧ (x.fs = [] ∨ ∃ a fv, d = some a ∧ W.H a = some (.xd fv) ∧ RepF Γ W.F W.F x.fs fv)
def Has (Γ : Gm) (W : Wd) (ms : List Md) (τ : Tau) (σ : St) (hs : List Slot) : RC → T → V → Prop
  | .now, t, v => FrS Γ W ms τ σ hs ∧ Rep Γ W.F W.H t v
  | .sh, t, v => FrS Γ W ms τ σ hs ∧ Rep Γ W.F W.B t v
  | .fz, t, v => FrS Γ W ms τ σ hs ∧ Rep Γ W.F W.F t v
  | .own n, t, v => FrS Γ W ms τ σ (hs ++ [(.own n, some t, some v)])
  | .slot i, t, v => FrS Γ W ms τ σ hs ∧ Rep Γ W.F W.H t v ∧ σ[i]? = some (some v)
/-- p: the step changes no slot and nothing that stands -/
def Go (p : Bool) (W W' : Wd) (τ τ' : Tau) : Prop := W.Le W' ∧ (p = true → Same W.H W'.H ∧ τ' = τ)
theorem Go.refl {p : Bool} {W : Wd} {τ : Tau} : Go p W W τ τ := ⟨.refl _, fun _ => ⟨Same.refl _, rfl⟩⟩
theorem Go.trans {p q : Bool} {W W1 W2 : Wd} {τ τ1 τ2 : Tau} (a : Go p W W1 τ τ1) (b : Go q W1 W2 τ1 τ2) : Go (p && q) W W2 τ τ2 := by
  refine ⟨a.1.trans b.1, fun h => ?_⟩
  rw [Bool.and_eq_true] at h
  obtain ⟨s1, e1⟩ := a.2 h.1
  obtain ⟨s2, e2⟩ := b.2 h.2
  exact ⟨s1.trans s2, e2.trans e1⟩
section
variable (Γ : Gm) (E : XK) (ms : List Md)
/-- what is wanted behind a step -/
def Pst {α : Type} (W : Wd) (σ : St) (hs : List Slot) (p : Bool) (τ : Tau) (ok : Wd → α → Tau → Prop) : RE α → Prop
  | .ok w τ' => ∀ W', Go p W W' τ τ' → ok W' w τ'
  | .exc x τ' => ∀ W' cls d, Go p W W' τ τ' → FrS Γ W' ms τ' σ hs → RepX Γ W' x cls d → E cls d W'.H
  | .stuck => False
def SimE (p : Bool) (t : TE) (e : M T) (r : RC) : Prop := ∀ W τ σ hs Q, FrS Γ W ms τ σ hs → Pst Γ E ms W σ hs p τ (fun W' w τ' => ∀ v, Has Γ W' ms τ' σ hs r w v → Q v W'.H) (e τ) → t σ W.H Q
def SimT (p : Bool) (t : TT) (e : M Bool) : Prop := ∀ W τ σ hs Q, FrS Γ W ms τ σ hs → Pst Γ E ms W σ hs p τ (fun W' b τ' => FrS Γ W' ms τ' σ hs → Q b W'.H) (e τ) → t σ W.H Q
end
section
variable {Γ : Gm} {E : XK} {ms : List Md}
/-- one step behind another -/
theorem Pst.bind {α β : Type} {W : Wd} {σ : St} {hs : List Slot} {p q : Bool} {τ : Tau} {m : M α} {f : α → M β} {ok : Wd → β → Tau → Prop} {ok1 : Wd → α → Tau → Prop} (h : Pst Γ E ms W σ hs (p && q) τ ok ((m >>= f) τ))
    (hok : ∀ W1 a τ1, Go p W W1 τ τ1 → Pst Γ E ms W1 σ hs q τ1 ok (f a τ1) → ok1 W1 a τ1) : Pst Γ E ms W σ hs p τ ok1 (m τ) := by
  have e : (m >>= f) τ = (m τ).next f := rfl
  rw [e] at h
  cases hm : m τ with
  | stuck => rw [hm] at h; exact h
  | exc x τ1 =>
    rw [hm] at h
    intro W' cls d g
    exact h W' cls d ⟨g.1, fun z => g.2 (Bool.and_eq_true_iff.mp z).1⟩
  | ok a τ1 =>
    rw [hm] at h
    intro W1 g1
    refine hok W1 a τ1 g1 ?_
    cases hf : f a τ1 with
    | stuck =>
      have h2 : Pst Γ E ms W σ hs (p && q) τ ok (f a τ1) := h
      rw [hf] at h2
      exact h2
    | exc x τ2 =>
      have h2 : Pst Γ E ms W σ hs (p && q) τ ok (f a τ1) := h
      rw [hf] at h2
      intro W2 cls d g2
      exact h2 W2 cls d (g1.trans g2)
    | ok b τ2 =>
      have h2 : Pst Γ E ms W σ hs (p && q) τ ok (f a τ1) := h
      rw [hf] at h2
      intro W2 g2
      exact h2 W2 (g1.trans g2)
theorem Has.fr {W : Wd} {τ : Tau} {σ : St} {hs : List Slot} {r : RC} {t : T} {v : V} (h : Has Γ W ms τ σ hs r t v) : FrS Γ W ms τ σ hs := by
  cases r with
  | now => exact h.1
  | sh => exact h.1
  | fz => exact h.1
  | slot i => exact h.1
  | own n =>
    have h' : FrS Γ W ms τ σ (hs ++ [(.own n, some t, some v)]) := h
    exact ⟨Fr.pop (S' := [(.own n, some t, some v)]) (by rw [List.append_assoc]; exact h'.fr), h'.lt, h'.lv⟩
/-- a value that stands now -/
theorem Has.now {W : Wd} {τ : Tau} {σ : St} {hs : List Slot} {r : RC} {t : T} {v : V} (h : Has Γ W ms τ σ hs r t v) : Rep Γ W.F W.H t v := by
  have f := h.fr.fr
  cases r with
  | now => exact h.2
  | slot i => exact h.2.1
  | sh => exact Rep.mono (Same.refl _) t f.bh h.2
  | fz => exact Rep.mono (Same.refl _) t (f.fb.trans f.bh) h.2
  | own n =>
    have h' : FrS Γ W ms τ σ (hs ++ [(.own n, some t, some v)]) := h
    obtain ⟨fps, h1, _, _⟩ := h'.fr.ex
    rw [← List.append_assoc] at h1
    obtain ⟨m1, m2, rfl, g1, g2⟩ := pr_split h1
    cases g2 with
    | cons r g2 => exact RepO.now (f.fb.trans f.bh) (show RepO Γ W.F W.H n t v _ from r)
/-- whatever is made may be frozen -/
theorem SimE.frz {p : Bool} {t : TE} {e : M T} {n : Nat} (h : SimE Γ E ms p t e (.own n)) : SimE Γ E ms p t e .fz := by
  intro W τ σ hs Q hF hp
  refine h W τ σ hs Q hF ?_
  cases he : e τ with
  | stuck => rw [he] at hp; exact hp
  | exc x τ' => rw [he] at hp; exact hp
  | ok w τ' =>
    rw [he] at hp
    intro W' g v hh
    have h' : FrS Γ W' ms τ' σ (hs ++ [(.own n, some w, some v)]) := hh
    obtain ⟨W2, l, eH, f2, r2⟩ := Fr.freeze (S := sl ms τ' σ ++ hs) (by rw [List.append_assoc]; exact h'.fr)
    have := hp W2 ⟨g.1.trans l, fun z => ⟨by rw [eH]; exact (g.2 z).1, (g.2 z).2⟩⟩ v ⟨⟨f2, h'.lt, h'.lv⟩, r2⟩
    rw [eH] at this
    exact this
theorem Rep.of_fz {W : Wd} {S : List Slot} (f : Fr Γ W S) {t : T} {v : V} (h : Rep Γ W.F W.F t v) : Rep Γ W.F W.B t v := Rep.mono (Same.refl _) t f.fb h
theorem SimE.sh {p : Bool} {t : TE} {e : M T} (h : SimE Γ E ms p t e .fz) : SimE Γ E ms p t e .sh := by
  intro W τ σ hs Q hF hp
  refine h W τ σ hs Q hF ?_
  cases he : e τ with
  | stuck => rw [he] at hp; exact hp
  | exc x τ' => rw [he] at hp; exact hp
  | ok w τ' =>
    rw [he] at hp
    intro W' g v hh
    exact hp W' g v ⟨hh.1, hh.1.fr |> fun f => Rep.of_fz f hh.2⟩
theorem SimE.now {p : Bool} {t : TE} {e : M T} {r : RC} (h : SimE Γ E ms p t e r) : SimE Γ E ms p t e .now := by
  intro W τ σ hs Q hF hp
  refine h W τ σ hs Q hF ?_
  cases he : e τ with
  | stuck => rw [he] at hp; exact hp
  | exc x τ' => rw [he] at hp; exact hp
  | ok w τ' =>
    rw [he] at hp
    intro W' g v hh
    exact hp W' g v ⟨hh.fr, hh.now⟩
theorem SimE.impure {p : Bool} {t : TE} {e : M T} {r : RC} (h : SimE Γ E ms p t e r) : SimE Γ E ms false t e r := by
  intro W τ σ hs Q hF hp
  refine h W τ σ hs Q hF ?_
  cases he : e τ with
  | stuck => rw [he] at hp; exact hp
  | exc x τ' =>
    rw [he] at hp
    intro W' cls d g
    exact hp W' cls d ⟨g.1, fun z => nomatch z⟩
  | ok w τ' =>
    rw [he] at hp
    intro W' g
    exact hp W' ⟨g.1, fun z => nomatch z⟩
end
end TL
end
section
set_option Elab.async false
set_option linter.all false
set_option autoImplicit false
set_option maxRecDepth 100000
set_option maxHeartbeats 4000000
/-! S6: expressions -/
namespace TL
open PySem PySem.Spec L2
section
variable {Γ : Gm} {E : XK} {ms : List Md} {W : Wd} {τ : Tau} {σ : St} {hs : List Slot}
theorem FrS.slot (h : FrS Γ W ms τ σ hs) {i : Nat} {m : Md} {t : T} (hm : ms[i]? = some m) (ht : τ[i]? = some (some t)) :
    ∃ v fp, σ[i]? = some (some v) ∧ (sl ms τ σ ++ hs)[i]? = some (m, some t, some v) ∧ SlotOk Γ W (m, some t, some v) fp ∧ fp.Nodup ∧ ∀ a ∈ fp, W.B a = none := by
  obtain ⟨hi, _⟩ := List.getElem?_eq_some_iff.mp hm
  have hv : σ[i]? = some (σ[i]'(by rw [h.lv]; exact hi)) := List.getElem?_eq_getElem _
  have hg := sl_get hm ht hv
  have hl := sl_len h.lt h.lv
  have hg' : (sl ms τ σ ++ hs)[i]? = some (m, some t, σ[i]'(by rw [h.lv]; exact hi)) := by rw [List.getElem?_append_left (by omega)]; exact hg
  obtain ⟨fp, h1, h2, h3, _⟩ := h.fr.change hg'
  cases e : σ[i]'(by rw [h.lv]; exact hi) with
  | none => rw [e] at h1; exact absurd h1 (by cases m <;> exact id)
  | some v => rw [e] at h1 hv hg'; exact ⟨v, fp, hv, hg', h1, h2, h3⟩
/-- a name, read -/
def ModeOf : Md → RC → Prop
  | .sh, .sh => True
  | .sh, .now => True
  | .own 0, .fz => True
  | .own 0, .sh => True
  | .own _, .now => True
  | .lent _, .now => True
  | .own _, .slot _ => True
  | .lent _, .slot _ => True
  | _, _ => False
theorem sim_var {i : Nat} {m : Md} {r : RC} (hm : ms[i]? = some m) (hr : ModeOf m r) (hj : ∀ j, r = .slot j → j = i := by intro j h; cases h; rfl) : SimE Γ E ms true (tVar i) (get i) r := by
  intro W τ σ hs Q hF hp
  unfold get at hp
  cases ht : τ[i]? with
  | none => rw [ht] at hp; exact hp.elim
  | some o =>
    cases o with
    | none => rw [ht] at hp; exact hp.elim
    | some t =>
      rw [ht] at hp
      obtain ⟨v, fp, hv, hg, hs, _, _⟩ := hF.slot hm ht
      refine ⟨v, hv, hp W Go.refl v ?_⟩
      cases m with
      | obj => cases r <;> exact (show False from hr).elim
      | sh =>
        cases r with
        | sh => exact ⟨hF, hs.2⟩
        | now => exact ⟨hF, Rep.mono (Same.refl _) t hF.fr.bh hs.2⟩
        | fz => exact hr.elim
        | own n => exact hr.elim
        | slot j => exact hr.elim
      | lent n =>
        have ho : RepO Γ W.F W.H n t v fp := hs
        cases r with
        | now => exact ⟨hF, RepO.now (hF.fr.fb.trans hF.fr.bh) ho⟩
        | slot j => exact ⟨hF, RepO.now (hF.fr.fb.trans hF.fr.bh) ho, by rw [hj j rfl]; exact hv⟩
        | fz => exact hr.elim
        | sh => exact hr.elim
        | own k => exact hr.elim
      | own n =>
        have ho : RepO Γ W.F W.H n t v fp := hs
        cases r with
        | now => exact ⟨hF, RepO.now (hF.fr.fb.trans hF.fr.bh) ho⟩
        | fz =>
          cases n with
          | zero => rw [RepO_zero] at ho; exact ⟨hF, ho.2⟩
          | succ n => exact hr.elim
        | sh =>
          cases n with
          | zero => rw [RepO_zero] at ho; exact ⟨hF, Rep.of_fz hF.fr ho.2⟩
          | succ n => exact hr.elim
        | slot j => exact ⟨hF, RepO.now (hF.fr.fb.trans hF.fr.bh) ho, by rw [hj j rfl]; exact hv⟩
        | own k => cases n <;> exact hr.elim
/-- a name's tree, taken -/
theorem sim_mv {i n : Nat} (hm : ms[i]? = some (.own n)) : SimE Γ E ms false (tVar i) (mv i) (.own n) := by
  intro W τ σ hs Q hF hp
  unfold mv at hp
  cases ht : τ[i]? with
  | none => rw [ht] at hp; exact hp.elim
  | some o =>
    cases o with
    | none => rw [ht] at hp; exact hp.elim
    | some t =>
      rw [ht] at hp
      obtain ⟨v, fp, hv, hg, hsl, _, _⟩ := hF.slot hm ht
      refine ⟨v, hv, hp W ⟨.refl _, fun z => nomatch z⟩ v ⟨?_, by rw [List.length_set]; exact hF.lt, hF.lv⟩⟩
      have := hF.fr.take hg (.own n) (some v)
      have hl := sl_len hF.lt hF.lv
      obtain ⟨hi, _⟩ := List.getElem?_eq_some_iff.mp hm
      rw [List.set_append_left _ _ (by omega), sl_set _ _ hm, set_self hv, List.append_assoc] at this
      exact this
/-! ### values without a place -/
abbrev hp0 : Hp := fun _ => none
theorem hp0_sub {H : Hp} : Same hp0 H := fun _ _ h => nomatch h
/-- w is v whatever the heap -/
abbrev Rep0 (Γ : Gm) (w : T) (v : V) : Prop := Rep Γ hp0 hp0 w v
theorem Rep0.rep {w : T} {v : V} (h : Rep0 Γ w v) {F B : Hp} : Rep Γ F B w v := Rep.mono hp0_sub w hp0_sub h
theorem sim_c {t : T} {v : V} (h : Rep0 Γ t v) : SimE Γ E ms true (tC v) (M.pure t) .fz := fun W τ σ hs Q hF hp => hp W Go.refl v ⟨hF, h.rep⟩
theorem Rep0.int {i : Int} : Rep0 Γ (.int i) (.int i) := rfl
theorem Rep0.str {x : Str} : Rep0 Γ (.str x) (.str x) := rfl
theorem Rep0.bl {b : Bool} : Rep0 Γ (.bl b) (.bl b) := rfl
theorem Rep0.non : Rep0 Γ .non .non := rfl
/-! ### what stays through a step -/
def Stay : RC → Bool → Prop
  | .now, q => q = true
  | .sh, _ => True
  | .fz, _ => True
  | .own _, _ => False
  | .slot _, q => q = true
theorem Has.later {W W' : Wd} {τ τ' : Tau} {r : RC} {q : Bool} {t : T} {v : V} (h : Has Γ W ms τ σ hs r t v) (g : Go q W W' τ τ') (hF : FrS Γ W' ms τ' σ hs) (hst : Stay r q) : Has Γ W' ms τ' σ hs r t v := by
  cases r with
  | now => exact ⟨hF, Rep.mono g.1.f t (g.2 hst).1 h.2⟩
  | sh => exact ⟨hF, Rep.mono g.1.f t g.1.b h.2⟩
  | fz => exact ⟨hF, Rep.mono g.1.f t g.1.f h.2⟩
  | slot i => exact ⟨hF, Rep.mono g.1.f t (g.2 hst).1 h.2.1, h.2.2⟩
  | own n => exact hst.elim
/-! ### two operands -/
def OpS (Γ : Gm) (r : R2) (f : T → T → Option T) : Prop := ∀ (F H : Hp) (x y w : T) (vx vy : V) (Q : VK), Rep Γ F H x vx → Rep Γ F H y vy → f x y = some w → (∀ v, Rep0 Γ w v → Q v H) → r vx vy H Q
theorem sim_op {r : R2} {f : T → T → Option T} {p q : Bool} {ta tb : TE} {ea eb : M T} {ra rb : RC} (ho : OpS Γ r f) (ha : SimE Γ E ms p ta ea ra) (hb : SimE Γ E ms q tb eb rb) (hst : Stay ra q) :
    SimE Γ E ms (p && q) (tOp r ta tb) (ea >>= fun x => eb >>= fun y => M.of (f x y)) .fz := by
  intro W τ σ hs Q hF hp
  refine ha W τ σ hs _ hF (Pst.bind hp fun W1 x τ1 g1 hp1 vx h1 => ?_)
  refine hb W1 τ1 σ hs _ h1.fr ?_
  have hp1' : Pst Γ E ms W1 σ hs (q && true) τ1 (fun W' w τ' => ∀ v, Has Γ W' ms τ' σ hs .fz w v → Q v W'.H) ((eb >>= fun y => M.of (f x y)) τ1) := by rw [Bool.and_true]; exact hp1
  refine Pst.bind hp1' fun W2 y τ2 g2 hp2 vy h2 => ?_
  have h1' := h1.later g2 h2.fr hst
  cases hf : f x y with
  | none => rw [hf] at hp2; exact hp2.elim
  | some w =>
    rw [hf] at hp2
    exact ho W2.F W2.H x y w vx vy Q h1'.now h2.now hf fun v hv => hp2 W2 Go.refl v ⟨h2.fr, hv.rep⟩
/-- what is found in the left one, at the right one -/
def ElS (Γ : Gm) (r : R2) (f : T → T → Option T) : Prop := ∀ (F G H : Hp) (x y w : T) (vx vy : V) (Q : VK), Same F H → Same G H → Rep Γ F G x vx → Rep Γ F H y vy → f x y = some w → (∀ v, Rep Γ F G w v → Q v H) → r vx vy H Q
def Kept : RC → Prop
  | .own _ => False
  | _ => True
theorem sim_el {r : R2} {f : T → T → Option T} {p q : Bool} {ta tb : TE} {ea eb : M T} {ra rb : RC} (ho : ElS Γ r f) (ha : SimE Γ E ms p ta ea ra) (hb : SimE Γ E ms q tb eb rb) (hst : Stay ra q) (hns : ∀ i, ra ≠ .slot i := by intro i h; cases h) :
    SimE Γ E ms (p && q) (tOp r ta tb) (ea >>= fun x => eb >>= fun y => M.of (f x y)) ra := by
  intro W τ σ hs Q hF hp
  refine ha W τ σ hs _ hF (Pst.bind hp fun W1 x τ1 g1 hp1 vx h1 => ?_)
  refine hb W1 τ1 σ hs _ h1.fr ?_
  have hp1' : Pst Γ E ms W1 σ hs (q && true) τ1 (fun W' w τ' => ∀ v, Has Γ W' ms τ' σ hs ra w v → Q v W'.H) ((eb >>= fun y => M.of (f x y)) τ1) := by rw [Bool.and_true]; exact hp1
  refine Pst.bind hp1' fun W2 y τ2 g2 hp2 vy h2 => ?_
  have h1' := h1.later g2 h2.fr hst
  have fb := h2.fr.fr.fb
  have bh := h2.fr.fr.bh
  cases hf : f x y with
  | none => rw [hf] at hp2; exact hp2.elim
  | some w =>
    rw [hf] at hp2
    cases ra with
    | now => exact ho W2.F W2.H W2.H x y w vx vy Q (fb.trans bh) (Same.refl _) h1'.2 h2.now hf fun v hv => hp2 W2 Go.refl v ⟨h2.fr, hv⟩
    | sh => exact ho W2.F W2.B W2.H x y w vx vy Q (fb.trans bh) bh h1'.2 h2.now hf fun v hv => hp2 W2 Go.refl v ⟨h2.fr, hv⟩
    | fz => exact ho W2.F W2.F W2.H x y w vx vy Q (fb.trans bh) (fb.trans bh) h1'.2 h2.now hf fun v hv => hp2 W2 Go.refl v ⟨h2.fr, hv⟩
    | slot i => exact (hns i rfl).elim
    | own n => exact hst.elim
/-! ### tests -/
theorem Pst.imp {α : Type} {p : Bool} {ok ok' : Wd → α → Tau → Prop} {r : RE α} (h : Pst Γ E ms W σ hs p τ ok r) (hi : ∀ W' a τ', Go p W W' τ τ' → ok W' a τ' → ok' W' a τ') : Pst Γ E ms W σ hs p τ ok' r := by
  cases r with
  | stuck => exact h
  | exc x τ' => exact h
  | ok a τ' => exact fun W' g => hi W' a τ' g (h W' g)
theorem Pst.bind1 {α β : Type} {p : Bool} {m : M α} {f : α → M β} {ok : Wd → β → Tau → Prop} {ok1 : Wd → α → Tau → Prop} (h : Pst Γ E ms W σ hs p τ ok ((m >>= f) τ))
    (hok : ∀ W1 a τ1, Go p W W1 τ τ1 → Pst Γ E ms W1 σ hs true τ1 ok (f a τ1) → ok1 W1 a τ1) : Pst Γ E ms W σ hs p τ ok1 (m τ) :=
  Pst.bind (q := true) (by rw [Bool.and_true]; exact h) hok
theorem sim_test {p : Bool} {te : TE} {e : M T} {r : RC} (h : SimE Γ E ms p te e r) : SimT Γ E ms p (tTest te) (e >>= asB) := by
  intro W τ σ hs Q hF hp
  refine h W τ σ hs _ hF (Pst.bind1 hp fun W1 x τ1 g1 hp1 v h1 => ?_)
  cases x with
  | bl b =>
    have e : v = .bl b := h1.now
    exact ⟨b, e, hp1 W1 Go.refl h1.fr⟩
  | _ => exact (show False from hp1).elim
theorem sim_tB {p : Bool} {te : TE} {e : M T} {r : RC} (h : SimE Γ E ms p te e r) : SimT Γ E ms p (tB te) (e >>= asB) := sim_test h
theorem sim_and {p q : Bool} {t u : TT} {e f : M Bool} (h1 : SimT Γ E ms p t e) (h2 : SimT Γ E ms q u f) : SimT Γ E ms (p && q) (tAnd t u) (e >>= fun b => if b = true then f else M.pure false) := by
  intro W τ σ hs Q hF hp
  refine h1 W τ σ hs _ hF (Pst.bind hp fun W1 b τ1 g1 hp1 hF1 => ?_)
  cases b with
  | true => exact iteT (h2 W1 τ1 σ hs Q hF1 hp1)
  | false => exact iteF (hp1 W1 ⟨.refl _, fun _ => ⟨Same.refl _, rfl⟩⟩ hF1)
theorem sim_or {p q : Bool} {t u : TT} {e f : M Bool} (h1 : SimT Γ E ms p t e) (h2 : SimT Γ E ms q u f) : SimT Γ E ms (p && q) (tOr t u) (e >>= fun b => if b = true then M.pure true else f) := by
  intro W τ σ hs Q hF hp
  refine h1 W τ σ hs _ hF (Pst.bind hp fun W1 b τ1 g1 hp1 hF1 => ?_)
  cases b with
  | false => exact iteF (h2 W1 τ1 σ hs Q hF1 hp1)
  | true => exact iteT (hp1 W1 ⟨.refl _, fun _ => ⟨Same.refl _, rfl⟩⟩ hF1)
theorem sim_not {p : Bool} {t : TT} {e : M Bool} (h : SimT Γ E ms p t e) : SimT Γ E ms p (tNot t) (e >>= fun b => M.pure (!b)) := by
  intro W τ σ hs Q hF hp
  refine h W τ σ hs _ hF (Pst.bind1 hp fun W1 b τ1 g1 hp1 hF1 => hp1 W1 Go.refl hF1)
theorem sim_if {p q q' : Bool} {t : TT} {e : M Bool} {ta tb : TE} {ea eb : M T} {r : RC} (h : SimT Γ E ms p t e) (ha : SimE Γ E ms q ta ea r) (hb : SimE Γ E ms q' tb eb r) :
    SimE Γ E ms (p && (q && q')) (tIf t ta tb) (e >>= fun b => if b = true then ea else eb) r := by
  intro W τ σ hs Q hF hp
  refine h W τ σ hs _ hF (Pst.bind hp fun W1 b τ1 g1 hp1 hF1 => ?_)
  have weak : ∀ {k : Bool} {ok : Wd → T → Tau → Prop} {x : RE T}, ((q && q') = true → k = true) → Pst Γ E ms W1 σ hs (q && q') τ1 ok x → Pst Γ E ms W1 σ hs k τ1 ok x := by
    intro k ok x hk hx
    cases x with
    | stuck => exact hx
    | exc y τ' => exact fun W' cls d g => hx W' cls d ⟨g.1, fun z => g.2 (hk z)⟩
    | ok y τ' => exact fun W' g => hx W' ⟨g.1, fun z => g.2 (hk z)⟩
  cases b with
  | true => exact iteT (ha W1 τ1 σ hs Q hF1 (weak (fun z => (Bool.and_eq_true_iff.mp z).1) hp1))
  | false => exact iteF (hb W1 τ1 σ hs Q hF1 (weak (fun z => (Bool.and_eq_true_iff.mp z).2) hp1))
end
end TL
end
section
set_option Elab.async false
set_option linter.all false
set_option autoImplicit false
set_option maxRecDepth 100000
set_option maxHeartbeats 4000000
/-! S7: statements -/
namespace TL
open PySem PySem.Spec L2
/-- what is lent stays where it is -/
structure Nx (ms : List Md) (W : Wd) (σ : St) (W' : Wd) (σ' : St) : Prop where
  le : W.Le W'
  kl : ∀ (i : Nat) (m : Md), (ms[i]? = some m ∧ m.kept = true) → σ'[i]? = σ[i]?
theorem Nx.refl {ms : List Md} {W : Wd} {σ : St} : Nx ms W σ W σ := ⟨.refl _, fun _ _ _ => rfl⟩
theorem Nx.of {ms : List Md} {W W' : Wd} {σ : St} (l : W.Le W') : Nx ms W σ W' σ := ⟨l, fun _ _ _ => rfl⟩
theorem Nx.trans {ms : List Md} {W W1 W2 : Wd} {σ σ1 σ2 : St} (a : Nx ms W σ W1 σ1) (b : Nx ms W1 σ1 W2 σ2) : Nx ms W σ W2 σ2 := ⟨a.le.trans b.le, fun i n h => (b.kl i n h).trans (a.kl i n h)⟩
section
variable (Γ : Gm) (E : XK) (ms : List Md) (rr : RC)
def PstS (W : Wd) (σ : St) (hs : List Slot) (D : Ends) : RE Ctl → Prop
  | .ok .nx τ' => ∀ W' σ', Nx ms W σ W' σ' → FrS Γ W' ms τ' σ' hs → D.nx σ' W'.H
  | .ok (.rt w) τ' => ∀ W' σ' v, Nx ms W σ W' σ' → Has Γ W' ms τ' σ' hs rr w v → D.rt v W'.H
  | .ok .bk τ' => ∀ W' σ', Nx ms W σ W' σ' → FrS Γ W' ms τ' σ' hs → D.bk σ' W'.H
  | .ok .ct τ' => ∀ W' σ', Nx ms W σ W' σ' → FrS Γ W' ms τ' σ' hs → D.ct σ' W'.H
  | .exc x τ' => ∀ W' σ' cls d, Nx ms W σ W' σ' → FrS Γ W' ms τ' σ' hs → RepX Γ W' x cls d → E cls d W'.H
  | .stuck => False
def SimS (t : TS) (s : M Ctl) : Prop := ∀ W τ σ hs D, FrS Γ W ms τ σ hs → PstS Γ E ms rr W σ hs D (s τ) → t D σ W.H
end
section
variable {Γ : Gm} {E : XK} {ms : List Md} {rr : RC}
theorem PstS.le {W W1 : Wd} {σ σ1 : St} {hs : List Slot} {D : Ends} {r : RE Ctl} (l : Nx ms W σ W1 σ1) (h : PstS Γ E ms rr W σ hs D r) : PstS Γ E ms rr W1 σ1 hs D r := by
  cases r with
  | stuck => exact h
  | exc x τ => exact fun W' σ' cls d g => h W' σ' cls d (l.trans g)
  | ok c τ =>
    cases c with
    | nx => exact fun W' σ' g => h W' σ' (l.trans g)
    | bk => exact fun W' σ' g => h W' σ' (l.trans g)
    | ct => exact fun W' σ' g => h W' σ' (l.trans g)
    | rt w => exact fun W' σ' v g => h W' σ' v (l.trans g)
/-- an expression's step, then a statement's -/
theorem PstS.bind {α : Type} {W : Wd} {τ : Tau} {σ : St} {hs : List Slot} {D : Ends} {p : Bool} {m : M α} {f : α → M Ctl} {ok1 : Wd → α → Tau → Prop} (h : PstS Γ E ms rr W σ hs D ((m >>= f) τ))
    (hok : ∀ W1 a τ1, W.Le W1 → PstS Γ E ms rr W1 σ hs D (f a τ1) → ok1 W1 a τ1) : Pst Γ E ms W σ hs p τ ok1 (m τ) := by
  have e : (m >>= f) τ = (m τ).next f := rfl
  rw [e] at h
  cases hm : m τ with
  | stuck => rw [hm] at h; exact h
  | exc x τ1 => rw [hm] at h; exact fun W' cls d g hF hx => h W' σ cls d (.of g.1) hF hx
  | ok a τ1 => rw [hm] at h; exact fun W1 g => hok W1 a τ1 g.1 (h.le (.of g.1))
theorem sim_next : SimS Γ E ms rr tNext sNx := fun W τ σ hs D hF hp => hp W σ .refl hF
theorem sim_break : SimS Γ E ms rr tBreak (M.pure .bk) := fun W τ σ hs D hF hp => hp W σ .refl hF
theorem sim_cont : SimS Γ E ms rr tCont (M.pure .ct) := fun W τ σ hs D hF hp => hp W σ .refl hF
theorem sim_never : SimS Γ E ms rr tNever M.stuck := fun W τ σ hs D hF hp => hp
theorem sim_seq {t u : TS} {a b : M Ctl} (h1 : SimS Γ E ms rr t a) (h2 : SimS Γ E ms rr u b) : SimS Γ E ms rr (tSeq t u) (sSeq a b) := by
  intro W τ σ hs D hF hp
  refine h1 W τ σ hs { D with nx := u D } hF ?_
  have e : sSeq a b τ = (a τ).next fun c => match c with
    | .nx => b
    | c => M.pure c := rfl
  rw [e] at hp
  cases ha : a τ with
  | stuck => rw [ha] at hp; exact hp
  | exc x τ1 => rw [ha] at hp; exact hp
  | ok c τ1 =>
    rw [ha] at hp
    cases c with
    | nx => exact fun W' σ' l hF' => h2 W' τ1 σ' hs D hF' (hp.le l)
    | bk => exact hp
    | ct => exact hp
    | rt w => exact hp
theorem sim_ret {p : Bool} {te : TE} {e : M T} (h : SimE Γ E ms p te e rr) : SimS Γ E ms rr (tRet te) (sRet e) := by
  intro W τ σ hs D hF hp
  exact h W τ σ hs D.rt hF (PstS.bind hp fun W1 w τ1 l hp1 v hv => hp1 W1 σ v .refl hv)
theorem sim_drop {p : Bool} {te : TE} {e : M T} {r : RC} (h : SimE Γ E ms p te e r) : SimS Γ E ms rr (tDrop te) (sDrop e) := by
  intro W τ σ hs D hF hp
  exact h W τ σ hs _ hF (PstS.bind hp fun W1 w τ1 l hp1 v hv => hp1 W1 σ .refl hv.fr)
theorem sim_ifS {p : Bool} {c : TT} {e : M Bool} {t u : TS} {a b : M Ctl} (h : SimT Γ E ms p c e) (h1 : SimS Γ E ms rr t a) (h2 : SimS Γ E ms rr u b) : SimS Γ E ms rr (tIfS c t u) (sIf e a b) := by
  intro W τ σ hs D hF hp
  refine h W τ σ hs _ hF (PstS.bind hp fun W1 x τ1 l hp1 hF1 => ?_)
  cases x with
  | true => exact iteT (h1 W1 τ1 σ hs D hF1 hp1)
  | false => exact iteF (h2 W1 τ1 σ hs D hF1 hp1)
/-- a value into a slot -/
def Into : RC → Md → Prop
  | .sh, .sh => True
  | .fz, .sh => True
  | .fz, .own 0 => True
  | .own n, .own m => n = m
  | _, _ => False
theorem FrS.set {W : Wd} {τ : Tau} {σ : St} {hs : List Slot} {r : RC} {m : Md} {i : Nat} {w : T} {v : V} (h : Has Γ W ms τ σ hs r w v) (hm : ms[i]? = some m) (hr : Into r m) : FrS Γ W ms (τ.set i (some w)) (σ.set i (some v)) hs := by
  have hF := h.fr
  obtain ⟨hi, _⟩ := List.getElem?_eq_some_iff.mp hm
  have hl := sl_len hF.lt hF.lv
  have fin : Fr Γ W (sl ms τ σ ++ hs ++ [(m, some w, some v)]) → FrS Γ W ms (τ.set i (some w)) (σ.set i (some v)) hs := fun f => by
    have := f.put i
    rw [List.set_append_left _ _ (by omega), sl_set _ _ hm] at this
    exact ⟨this, by rw [List.length_set]; exact hF.lt, by rw [List.length_set]; exact hF.lv⟩
  cases r with
  | now => exact hr.elim
  | sh =>
    cases m with
    | sh => exact fin (hF.fr.share h.2)
    | own n => exact hr.elim
    | obj => exact hr.elim
    | lent n => exact hr.elim
  | slot j => exact hr.elim
  | fz =>
    cases m with
    | sh => exact fin (hF.fr.share (Rep.of_fz hF.fr h.2))
    | own n =>
      cases n with
      | zero => exact fin (hF.fr.frozen h.2)
      | succ n => exact hr.elim
    | obj => exact hr.elim
    | lent n => exact hr.elim
  | own k =>
    cases m with
    | sh => exact hr.elim
    | obj => exact hr.elim
    | lent n => exact hr.elim
    | own n =>
      have e : k = n := hr
      subst e
      have h' : FrS Γ W ms τ σ (hs ++ [(.own k, some w, some v)]) := h
      exact fin (by rw [List.append_assoc]; exact h'.fr)
theorem sim_set {p : Bool} {te : TE} {e : M T} {r : RC} {m : Md} {i : Nat} (h : SimE Γ E ms p te e r) (hm : ms[i]? = some m) (hr : Into r m) : SimS Γ E ms rr (tAsg te (gName i)) (sSet i e) := by
  intro W τ σ hs D hF hp
  refine h W τ σ hs _ hF (PstS.bind hp fun W1 w τ1 l hp1 v hv => ?_)
  refine hp1 W1 _ ⟨.refl _, fun j n hj => ?_⟩ (FrS.set hv hm hr)
  by_cases e : i = j
  · subst e
    obtain ⟨hj, hk⟩ := hj
    rw [hm] at hj; cases hj
    cases m <;> first | (cases hk; done) | skip
    all_goals cases r <;> exact (show False from hr).elim
  · rw [List.getElem?_set_ne e]
/-! ### while -/
theorem sim_while {p : Bool} {c : TT} {e : M Bool} {tb : TS} {b : M Ctl} (h : SimT Γ E ms p c e) (hb : SimS Γ E ms rr tb b) (N : Nat) : SimS Γ E ms rr (tWhile c tb) (sWhile e b N) := by
  intro W τ σ hs D hF hp
  refine ⟨fun m σ' H' => ∃ W' τ', W'.H = H' ∧ FrS Γ W' ms τ' σ' hs ∧ PstS Γ E ms rr W' σ' hs D (sWhile e b m τ'), ⟨N, W, τ, rfl, hF, hp⟩, ?_⟩
  rintro m σ1 H1 ⟨W1, τ1, rfl, hF1, hp1⟩
  cases m with
  | zero => exact hp1.elim
  | succ m =>
    refine h W1 τ1 σ1 hs _ hF1 (PstS.bind (f := fun x => if x = true then b >>= turn (sWhile e b m) else M.pure .nx) hp1 fun W2 x τ2 l2 hp2 hF2 => ?_)
    cases x with
    | false => exact iteF (hp2 W2 σ1 .refl hF2)
    | true =>
      refine iteT ⟨fun σ' H' => ∃ W' τ', W'.H = H' ∧ FrS Γ W' ms τ' σ' hs ∧ PstS Γ E ms rr W' σ' hs D (sWhile e b m τ'), fun σ' H' q => ⟨m, Nat.lt_succ_self m, q⟩, ?_⟩
      refine hb W2 τ2 σ1 hs _ hF2 ?_
      have e3 : (b >>= turn (sWhile e b m)) τ2 = (b τ2).next (turn (sWhile e b m)) := rfl
      have hp3 : PstS Γ E ms rr W2 σ1 hs D ((b >>= turn (sWhile e b m)) τ2) := hp2
      rw [e3] at hp3
      cases hbt : b τ2 with
      | stuck => rw [hbt] at hp3; exact hp3
      | exc x τ3 => rw [hbt] at hp3; exact hp3
      | ok c τ3 =>
        rw [hbt] at hp3
        cases c with
        | nx => exact fun W' σ' l hF' => ⟨W', τ3, rfl, hF', hp3.le l⟩
        | ct => exact fun W' σ' l hF' => ⟨W', τ3, rfl, hF', hp3.le l⟩
        | bk => exact fun W' σ' l hF' => hp3 W' σ' l hF'
        | rt w => exact fun W' σ' v l hv => hp3 W' σ' v l hv
/-! ### for -/
variable (Γ) in
def GOf (W : Wd) : RC → Hp
  | .fz => W.F
  | _ => W.B
/-- the iterator J goes through xs (each item as r says) from the world W on -/
def Iter (Γ : Gm) (r : RC) (W : Wd) (J : It) (xs : List T) : Prop := ∀ (W' : Wd) (S : List Slot), W.Le W' → Fr Γ W' S → J.stop xs.length W'.H ∧ ∀ (i : Nat) (x : T), xs[i]? = some x → J.go i W'.H ∧ ∀ v H', J.yld i W'.H v H' →
  ∃ W'' : Wd, W''.H = H' ∧ W'.Le W'' ∧ Fr Γ W'' S ∧ Rep Γ W''.F (GOf W'' r) x v
def SimI (Γ : Gm) (E : XK) (ms : List Md) (p : Bool) (wi : TI) (e : M (List T)) (r : RC) : Prop := ∀ W τ σ hs R, FrS Γ W ms τ σ hs → Pst Γ E ms W σ hs p τ (fun W' xs τ' => ∀ J, FrS Γ W' ms τ' σ hs → Iter Γ r W' J xs → R J W'.H) (e τ) → wi σ W.H R
def SimG (Γ : Gm) (ms : List Md) (g : TG) (b : T → M Unit) (r : RC) : Prop := ∀ W τ σ hs x v R τ', FrS Γ W ms τ σ hs → Rep Γ W.F (GOf W r) x v → b x τ = .ok () τ' → (∀ W' σ', Nx ms W σ W' σ' → FrS Γ W' ms τ' σ' hs → R σ' W'.H) → g v σ W.H R
theorem sim_gname {i : Nat} {m : Md} {r : RC} (hm : ms[i]? = some m) (hr : Into r m) (hk : r = .sh ∨ r = .fz) : SimG Γ ms (gName i) (put i) r := by
  intro W τ σ hs x v R τ' hF hx hb hR
  have e : τ' = τ.set i (some x) := by injection hb with _ h; exact h.symm
  subst e
  refine hR W _ ⟨.refl _, fun j n hj => ?_⟩ (FrS.set (r := r) ?_ hm hr)
  · by_cases e : i = j
    · subst e
      obtain ⟨hj, hk⟩ := hj
      rw [hm] at hj; cases hj
      cases m <;> first | (cases hk; done) | skip
      all_goals cases r <;> exact (show False from hr).elim
    · rw [List.getElem?_set_ne e]
  · rcases hk with rfl | rfl
    · exact ⟨hF, hx⟩
    · exact ⟨hF, hx⟩
/-- a loop's body gives no error of the binding: it is stuck then -/
theorem sim_for {p : Bool} {wi : TI} {e : M (List T)} {g : TG} {bg : T → M Unit} {tb : TS} {b : M Ctl} {r : RC} (hi : SimI Γ E ms p wi e r) (hg : SimG Γ ms g bg r) (hb : SimS Γ E ms rr tb b) (hne : ∀ x τ, ∀ y τ', bg x τ ≠ .exc y τ') : SimS Γ E ms rr (tFor wi g tb) (e >>= sFor bg b) := by
  intro W τ σ hs D hF hp
  refine hi W τ σ hs _ hF (PstS.bind hp fun W1 xs τ1 l1 hp1 J hF1 hJ => ?_)
  refine ⟨fun i m σ' H' => ∃ W' τ', W'.H = H' ∧ W1.Le W' ∧ i ≤ xs.length ∧ m = xs.length - i ∧ FrS Γ W' ms τ' σ' hs ∧ PstS Γ E ms rr W' σ' hs D (sFor bg b (xs.drop i) τ'), ⟨xs.length, W1, τ1, rfl, .refl _, Nat.zero_le _, rfl, hF1, by simpa using hp1⟩, ?_⟩
  rintro i m σ2 H2 ⟨W2, τ2, rfl, l2, hi2, rfl, hF2, hp2⟩
  obtain ⟨hstop, hgo⟩ := hJ W2 _ l2 hF2.fr
  by_cases hlt : i < xs.length
  · right
    obtain ⟨g1, g2⟩ := hgo i xs[i] (List.getElem?_eq_getElem hlt)
    refine ⟨g1, fun σ' H' => ∃ W' τ', W'.H = H' ∧ W1.Le W' ∧ FrS Γ W' ms τ' σ' hs ∧ PstS Γ E ms rr W' σ' hs D (sFor bg b (xs.drop (i + 1)) τ'), ?_, ?_⟩
    · rintro σ' H' ⟨W', τ', rfl, l', hF', hp'⟩
      exact ⟨xs.length - (i + 1), by omega, W', τ', rfl, l', hlt, rfl, hF', hp'⟩
    · intro v H' hy
      obtain ⟨W3, rfl, l3, hF3, hr3⟩ := g2 v H' hy
      rw [List.drop_eq_getElem_cons hlt] at hp2
      have e4 : sFor bg b (xs[i] :: xs.drop (i + 1)) τ2 = (bg xs[i] τ2).next fun _ => b >>= turn (sFor bg b (xs.drop (i + 1))) := rfl
      rw [e4] at hp2
      cases hbg : bg xs[i] τ2 with
      | stuck => rw [hbg] at hp2; exact hp2.elim
      | exc y τ3 => exact (hne _ _ _ _ hbg).elim
      | ok u τ3 =>
        rw [hbg] at hp2
        refine hg W3 τ2 σ2 hs xs[i] v _ τ3 ⟨hF3, hF2.lt, hF2.lv⟩ hr3 hbg fun W4 σ4 l4 hF4 => ?_
        refine hb W4 τ3 σ4 hs _ hF4 ?_
        have hp4 : PstS Γ E ms rr W4 σ4 hs D ((b >>= turn (sFor bg b (xs.drop (i + 1)))) τ3) := PstS.le ((Nx.of l3).trans l4) hp2
        have e5 : (b >>= turn (sFor bg b (xs.drop (i + 1)))) τ3 = (b τ3).next (turn (sFor bg b (xs.drop (i + 1)))) := rfl
        rw [e5] at hp4
        have l14 : W1.Le W4 := (l2.trans l3).trans l4.le
        cases hbt : b τ3 with
        | stuck => rw [hbt] at hp4; exact hp4
        | exc x τ5 => rw [hbt] at hp4; exact hp4
        | ok c τ5 =>
          rw [hbt] at hp4
          cases c with
          | nx => exact fun W' σ' l hF' => ⟨W', τ5, rfl, l14.trans l.le, hF', hp4.le l⟩
          | ct => exact fun W' σ' l hF' => ⟨W', τ5, rfl, l14.trans l.le, hF', hp4.le l⟩
          | bk => exact fun W' σ' l hF' => hp4 W' σ' l hF'
          | rt w => exact fun W' σ' v l hv => hp4 W' σ' v l hv
  · left
    have e : i = xs.length := by omega
    subst e
    rw [List.drop_length] at hp2
    exact ⟨hstop, hp2 W2 σ2 .refl hF2⟩
end
end TL
end
section
set_option Elab.async false
set_option linter.all false
set_option autoImplicit false
set_option maxRecDepth 100000
set_option maxHeartbeats 4000000
/-! S8: calls -/
namespace TL
open PySem PySem.Spec L2
section
variable {Γ : Gm} {W : Wd} {S S' : List Slot}
/-- some slots forgotten -/
def Wk (s s' : Slot) : Prop := s' = s ∨ ∃ m ov, s' = (m, none, ov)
theorem Fr.weaken (h : Fr Γ W S) (hw : Paired Wk S S') : Fr Γ W S' := by
  obtain ⟨fps, h1, h2, h3⟩ := h.ex
  have go : ∀ {S S' : List Slot} {fps : List (List Addr)}, Paired Wk S S' → Paired (SlotOk Γ W) S fps → ∃ fps', Paired (SlotOk Γ W) S' fps' ∧ fps'.flatten.Sublist fps.flatten := by
    intro S S' fps hw
    induction hw generalizing fps with
    | nil => intro h; cases h; exact ⟨[], .nil, .refl _⟩
    | cons r t ih =>
      intro h
      cases h with
      | @cons _ fp _ fps r2 t2 =>
        obtain ⟨f', g1, g2⟩ := ih t2
        rcases r with rfl | ⟨m, ov, rfl⟩
        · exact ⟨fp :: f', .cons r2 g1, by rw [List.flatten_cons, List.flatten_cons]; exact List.Sublist.append (List.Sublist.refl _) g2⟩
        · exact ⟨[] :: f', .cons (by cases m <;> rfl) g1, by simpa using g2.trans (List.sublist_append_right _ _)⟩
  obtain ⟨f', g1, g2⟩ := go hw h1
  exact ⟨h.fb, h.bh, f', g1, g2.nodup h2, fun a ha => h3 a (g2.subset ha)⟩
/-- some slots are lent: the world of the callee, and the way back -/
def NoSh (R : List Slot) : Prop := ∀ s ∈ R, s.1 = .sh → s.2.1 = none
theorem Fr.call {Sl Sr : List Slot} (h : Fr Γ W (Sl ++ Sr)) : ∃ Wc : Wd, Wc.F = W.F ∧ Wc.H = W.H ∧ Fr Γ Wc Sl ∧ Same W.B Wc.B ∧ (Sl = [] → Wc.B = W.H) ∧
    ∀ (W' : Wd) (R : List Slot), Wc.Le W' → NoSh R → Fr Γ W' R → ∃ W2 : Wd, W2.F = W'.F ∧ W2.H = W'.H ∧ W.Le W2 ∧ Fr Γ W2 (R ++ Sr) ∧ (Sl = [] → Same W.H W'.H) := by
  obtain ⟨fps, h1, h2, h3⟩ := h.ex
  obtain ⟨fl, fr, rfl, g1, g2⟩ := pr_split h1
  rw [List.flatten_append, List.nodup_append] at h2
  obtain ⟨n1, n2, dis⟩ := h2
  have fh := h.fb.trans h.bh
  have bl : ∀ a ∈ fl.flatten, W.B a = none := fun a ha => h3 a (by rw [List.flatten_append]; exact List.mem_append_left _ ha)
  have br : ∀ a ∈ fr.flatten, W.B a = none := fun a ha => h3 a (by rw [List.flatten_append]; exact List.mem_append_right _ ha)
  let B' : Hp := fun a => if a ∈ fl.flatten then none else W.H a
  have bB : Same W.B B' := fun a o e => by
    show (if a ∈ fl.flatten then none else W.H a) = some o
    rw [if_neg (fun hm => by rw [bl a hm] at e; cases e)]
    exact h.bh _ _ e
  have Bh : Same B' W.H := fun a o e => by
    have e' : (if a ∈ fl.flatten then none else W.H a) = some o := e
    split at e'
    · cases e'
    · exact e'
  refine ⟨⟨W.F, B', W.H⟩, rfl, rfl, ⟨h.fb.trans bB, Bh, fl, pr_keep (W := W) (W' := ⟨W.F, B', W.H⟩) (Same.refl _) bB (fun _ _ q _ => q) g1 (fun _ _ _ q => q), n1, fun a ha => if_pos ha⟩, bB, fun e => ?_, fun W' R l ns hR => ?_⟩
  · subst e
    cases g1
    funext a
    show (if a ∈ ([] : List Addr) then none else W.H a) = W.H a
    rw [if_neg (by simp)]
  · obtain ⟨fps', k1, k2, k3⟩ := hR.ex
    have inB : ∀ a o, a ∉ fl.flatten → W.H a = some o → W'.B a = some o := fun a o hn e => l.b a o (by show (if a ∈ fl.flatten then none else W.H a) = some o; rw [if_neg hn]; exact e)
    have rout : ∀ a ∈ fr.flatten, a ∉ fl.flatten := fun a ha hl => dis a hl a ha rfl
    have WB' : Same W.B W'.B := bB.trans l.b
    have keep : ∀ a ∈ fr.flatten, ∀ o, W.H a = some o → W'.H a = some o := fun a ha o e => hR.bh _ _ (inB a o (rout a ha) e)
    have ht : ∀ a o, W.H a = some o → ¬ Mut (some o) → W'.H a = some o := fun a o e nm => hR.bh _ _ (inB a o (fun hm => by
      obtain ⟨o', e', m'⟩ := pr_there g1 a hm
      rw [e] at e'; cases e'; exact nm m') e)
    have fh' := hR.fb.trans hR.bh
    have bh' := WB'.trans hR.bh
    refine ⟨⟨W'.F, join W.B W'.F, W'.H⟩, rfl, rfl, ⟨l.f, join_b, fun a o e => ?_⟩, ⟨join_f bh' fh', join_h bh' fh', fps' ++ fr, pr_app ?_ ?_, ?_, ?_⟩, fun e => ?_⟩
    · rcases l.g a o e with q | q | q
      · exact .inl q
      · refine .inr (.inl ?_)
        have q' : (if a ∈ fl.flatten then none else W.H a) = none := q
        split at q'
        · rename_i hm; exact bl a hm
        · exact h.bh.free q'
      · exact .inr (.inr q)
    · have go : ∀ {R : List Slot} {f : List (List Addr)}, NoSh R → Paired (SlotOk Γ W') R f → Paired (SlotOk Γ ⟨W'.F, join W.B W'.F, W'.H⟩) R f := by
        intro R f ns h
        induction h with
        | nil => exact .nil
        | @cons s fp _ _ r t ih =>
          refine .cons ?_ (ih fun s hs => ns s (List.mem_cons_of_mem _ hs))
          obtain ⟨m, ot, ov⟩ := s
          cases ot with
          | none => cases m <;> exact r
          | some t =>
            cases m with
            | sh => exact absurd (ns (Md.sh, some t, ov) (by simp) rfl) (by simp)
            | own n => cases ov <;> exact r
            | lent n => cases ov <;> exact r
            | obj => cases ov <;> exact r
      exact go ns k1
    · exact pr_keep (W := W) (W' := ⟨W'.F, join W.B W'.F, W'.H⟩) l.f join_b ht g2 keep
    · rw [List.flatten_append, List.nodup_append]
      refine ⟨k2, n2, fun a ha b hb z => ?_⟩
      subst z
      obtain ⟨o, e, _⟩ := pr_there g2 a hb
      have := inB a o (rout a hb) e
      rw [k3 a ha] at this; cases this
    · intro a ha
      rw [List.flatten_append] at ha
      rcases List.mem_append.mp ha with ha | ha
      · have q := k3 a ha
        exact join_none (WB'.free q) (hR.fb.free q)
      · refine join_none (br a ha) ?_
        obtain ⟨o, e, m⟩ := pr_there g2 a ha
        cases q : W'.F a with
        | none => rfl
        | some o' =>
          exfalso
          have e1 := fh' _ _ q
          rw [keep a ha o e] at e1
          cases e1
          rcases l.g a o q with z | z | z
          · have z' : W.F a = some o := z
            rw [h.fb.free (br a ha)] at z'; cases z'
          · have z' : (if a ∈ fl.flatten then none else W.H a) = none := z
            rw [if_neg (rout a ha), e] at z'; cases z'
          · exact z m
    · subst e
      cases g1
      exact fun a o e => hR.bh _ _ (inB a o (by simp) e)
end
end TL
end
section
set_option Elab.async false
set_option linter.all false
set_option autoImplicit false
set_option maxRecDepth 100000
set_option maxHeartbeats 4000000
/-! S9: argument lists, promises, calls -/
namespace TL
open PySem PySem.Spec L2
section
variable {Γ : Gm} {E : XK} {ms : List Md}
def HasV (Γ : Gm) (W : Wd) (σ : St) : RC → T → V → Prop
  | .now, t, v => Rep Γ W.F W.H t v
  | .sh, t, v => Rep Γ W.F W.B t v
  | .fz, t, v => Rep Γ W.F W.F t v
  | .slot i, _, v => σ[i]? = some (some v)
  | .own _, _, _ => False
def HasA (Γ : Gm) (W : Wd) (σ : St) : List RC → List T → List V → Prop
  | [], [], [] => True
  | c :: cs, t :: ts, v :: vs => HasV Γ W σ c t v ∧ HasA Γ W σ cs ts vs
  | _, _, _ => False
def SimA (Γ : Gm) (E : XK) (ms : List Md) (p : Bool) (t : TA) (e : M (List T)) (cs : List RC) : Prop := ∀ W τ σ hs Q, FrS Γ W ms τ σ hs → Pst Γ E ms W σ hs p τ (fun W' ws τ' => ∀ vs, FrS Γ W' ms τ' σ hs → HasA Γ W' σ cs ws vs → Q vs W'.H) (e τ) → t σ W.H Q
theorem sim_nil : SimA Γ E ms true tNil (M.pure []) [] := fun W τ σ hs Q hF hp => hp W Go.refl [] hF True.intro
/-- a slot's own place stays whatever is done -/
def Stay' : RC → Bool → Prop
  | .slot _, _ => True
  | r, q => Stay r q
theorem Has.laterV {W W' : Wd} {τ τ' : Tau} {σ : St} {hs : List Slot} {r : RC} {q : Bool} {t : T} {v : V} (h : Has Γ W ms τ σ hs r t v) (g : Go q W W' τ τ') (hF : FrS Γ W' ms τ' σ hs) (hst : Stay' r q) : HasV Γ W' σ r t v := by
  cases r with
  | now => exact Rep.mono g.1.f t (g.2 hst).1 h.2
  | sh => exact Rep.mono g.1.f t g.1.b h.2
  | fz => exact Rep.mono g.1.f t g.1.f h.2
  | slot i => exact h.2.2
  | own n => exact (show False from hst).elim
theorem sim_cons {p q : Bool} {ta : TE} {tr : TA} {e : M T} {f : M (List T)} {r : RC} {cs : List RC} (h1 : SimE Γ E ms p ta e r) (h2 : SimA Γ E ms q tr f cs) (hst : Stay' r q) :
    SimA Γ E ms (p && q) (tCons ta tr) (e >>= fun x => f >>= fun xs => M.pure (x :: xs)) (r :: cs) := by
  intro W τ σ hs Q hF hp
  refine h1 W τ σ hs _ hF (Pst.bind hp fun W1 x τ1 g1 hp1 vx hx => ?_)
  refine h2 W1 τ1 σ hs _ hx.fr (Pst.bind1 hp1 fun W2 xs τ2 g2 hp2 vs hF2 hv => ?_)
  exact hp2 W2 Go.refl (vx :: vs) hF2 ⟨hx.laterV g2 hF2 hst, hv⟩
/-- a slot, to be lent -/
theorem sim_consS {q : Bool} {i : Nat} {m : Md} {tr : TA} {f : M (List T)} {cs : List RC} (hm : ms[i]? = some m) (h2 : SimA Γ E ms q tr f cs) :
    SimA Γ E ms q (tCons (tVar i) tr) (get i >>= fun x => f >>= fun xs => M.pure (x :: xs)) (.slot i :: cs) := by
  intro W τ σ hs Q hF hp
  have e : (get i >>= fun x => f >>= fun xs => M.pure (x :: xs)) τ = (get i τ).next fun x => f >>= fun xs => M.pure (x :: xs) := rfl
  rw [e] at hp
  unfold get at hp
  cases ht : τ[i]? with
  | none => rw [ht] at hp; exact hp.elim
  | some o =>
    cases o with
    | none => rw [ht] at hp; exact hp.elim
    | some t =>
      rw [ht] at hp
      obtain ⟨v, fp, hv, _, _, _, _⟩ := hF.slot hm ht
      refine ⟨v, hv, ?_⟩
      refine h2 W τ σ hs _ hF (Pst.bind1 (f := fun xs => M.pure (t :: xs)) hp fun W2 xs τ2 g2 hp2 vs hF2 hvs => ?_)
      exact hp2 W2 Go.refl (v :: vs) hF2 ⟨hv, hvs⟩
theorem HasA.len : ∀ {W : Wd} {σ : St} {cs : List RC} {ts : List T} {vs : List V}, HasA Γ W σ cs ts vs → ts.length = cs.length ∧ vs.length = cs.length
  | _, _, [], [], [], _ => ⟨rfl, rfl⟩
  | _, _, _ :: _, _ :: _, _ :: _, h => by
    obtain ⟨a, b⟩ := HasA.len h.2
    simp [a, b]
  | _, _, [], [], _ :: _, h => h.elim
  | _, _, [], _ :: _, _, h => h.elim
  | _, _, _ :: _, [], _, h => h.elim
  | _, _, _ :: _, _ :: _, [], h => h.elim
theorem HasA.now : ∀ {W : Wd} {S : List Slot} {σ : St} {cs : List RC} {ts : List T} {vs : List V}, Fr Γ W S → (∀ c ∈ cs, ∀ i, c ≠ .slot i) → HasA Γ W σ cs ts vs → RepL Γ W.F W.H ts vs
  | _, _, _, [], [], [], _, _, _ => rfl
  | W, _, _, c :: cs, t :: ts, v :: vs, f, hc, h => by
    refine ⟨v, vs, rfl, ?_, HasA.now f (fun c hm => hc c (List.mem_cons_of_mem _ hm)) h.2⟩
    have h1 := h.1
    cases c with
    | now => exact h1
    | sh => exact Rep.mono (Same.refl _) t f.bh h1
    | fz => exact Rep.mono (Same.refl _) t (f.fb.trans f.bh) h1
    | slot i => exact absurd rfl (hc (.slot i) (by simp) i)
    | own n => exact h1.elim
  | _, _, _, [], [], _ :: _, _, _, h => h.elim
  | _, _, _, [], _ :: _, _, _, _, h => h.elim
  | _, _, _, _ :: _, [], _, _, _, h => h.elim
  | _, _, _, _ :: _, _ :: _, [], _, _, h => h.elim
/-! ### promises -/
def mask : List Md → Tau → Tau
  | .lent _ :: ms, t :: τ => t :: mask ms τ
  | .obj :: ms, t :: τ => t :: mask ms τ
  | _ :: ms, _ :: τ => none :: mask ms τ
  | _, _ => []
theorem mask_len : ∀ {ms : List Md} {τ : Tau}, ms.length ≤ τ.length → (mask ms τ).length = ms.length
  | [], _, _ => by simp [mask]
  | _ :: _, [], h => by simp at h
  | m :: ms, t :: τ, h => by
    have := mask_len (ms := ms) (τ := τ) (by simpa using h)
    cases m <;> simp [mask, this]
/-- the promise of a def by its step m: parameters held as pms says, its answer as rr says -/
def spT (Γ : Gm) (pms : List Md) (rr : RC) (m : List T → RE T) : Sp := fun vs H Q E => ∃ W ts, W.H = H ∧ vs.length = pms.length ∧ FrS Γ W pms (ts.map some) (vs.map some) [] ∧ (match m ts with
  | .ok w τ' => ∀ W' v, W.Le W' → Has Γ W' pms (mask pms τ') (vs.map some) [] rr w v → Q v W'.H
  | .exc x τ' => ∀ W' cls d, W.Le W' → FrS Γ W' pms (mask pms τ') (vs.map some) [] → RepX Γ W' x cls d → E cls d W'.H
  | .stuck => False)
/-- an argument for a parameter -/
def Arg : RC → Md → Prop
  | .now, .sh => True
  | .sh, .sh => True
  | .fz, .sh => True
  | .fz, .own 0 => True
  | _, _ => False
def Args : List RC → List Md → Prop
  | [], [] => True
  | c :: cs, m :: ms => Arg c m ∧ Args cs ms
  | _, _ => False
/-- no value that stands now alone -/
def NoNow (cs : List RC) : Prop := ∀ c ∈ cs, c ≠ .now
theorem add_args {W Wc : Wd} {σ : St} (hF : Wc.F = W.F) (hB : Same W.B Wc.B) (fb : Same W.F W.B) : ∀ {cs : List RC} {pms : List Md} {ts : List T} {vs : List V} {A : List Slot}, (Wc.B = W.H ∨ NoNow cs) → Args cs pms → HasA Γ W σ cs ts vs → Fr Γ Wc A → Fr Γ Wc (A ++ sl pms (ts.map some) (vs.map some))
  | [], [], [], [], A, _, _, _, h => by simpa [sl] using h
  | c :: cs, m :: pms, t :: ts, v :: vs, A, hn, ha, hv, h => by
    have step : Fr Γ Wc (A ++ [(m, some t, some v)]) := by
      have a1 := ha.1
      have v1 := hv.1
      cases m with
      | sh =>
        refine h.share ?_
        cases c with
        | now =>
          rcases hn with hn | hn
          · rw [hn, hF]; exact v1
          · exact absurd rfl (hn .now (by simp))
        | sh => rw [hF]; exact Rep.mono (Same.refl _) t hB v1
        | fz => rw [hF]; exact Rep.mono (Same.refl _) t (fb.trans hB) v1
        | slot i => exact (show False from a1).elim
        | own n => exact (show False from a1).elim
      | own n =>
        cases n with
        | zero =>
          cases c with
          | fz => exact h.frozen (by rw [hF]; exact v1)
          | now => exact (show False from a1).elim
          | sh => exact (show False from a1).elim
          | slot i => exact (show False from a1).elim
          | own n => exact (show False from a1).elim
        | succ n => cases c <;> exact (show False from a1).elim
      | lent n => cases c <;> exact (show False from a1).elim
      | obj => cases c <;> exact (show False from a1).elim
    have := add_args (A := A ++ [(m, some t, some v)]) hF hB fb (cs := cs) (hn.imp id fun hn c hc => hn c (List.mem_cons_of_mem _ hc)) ha.2 hv.2 step
    simpa [sl] using this
  | [], [], [], _ :: _, _, _, _, h, _ => h.elim
  | [], [], _ :: _, _, _, _, _, h, _ => h.elim
  | [], _ :: _, _, _, _, _, h, _, _ => h.elim
  | _ :: _, [], _, _, _, _, h, _, _ => h.elim
  | _ :: _, _ :: _, [], _, _, _, _, h, _ => h.elim
  | _ :: _, _ :: _, _ :: _, [], _, _, _, h, _ => h.elim
theorem mask_nosh : ∀ {pms : List Md} {τ : Tau} {σ : St}, NoSh (sl pms (mask pms τ) σ)
  | [], _, _ => by intro s hs; simp [sl] at hs
  | m :: pms, [], _ => by intro s hs; cases m <;> simp [mask, sl] at hs
  | m :: pms, t :: τ, [] => by intro s hs; cases m <;> simp [mask, sl] at hs
  | m :: pms, t :: τ, v :: σ => by
    intro s hs
    have ih := mask_nosh (pms := pms) (τ := τ) (σ := σ)
    cases m with
    | sh =>
      simp only [mask, sl, List.mem_cons] at hs
      rcases hs with rfl | hs
      · exact fun _ => rfl
      · exact ih s hs
    | own n =>
      simp only [mask, sl, List.mem_cons] at hs
      rcases hs with rfl | hs
      · exact fun _ => rfl
      · exact ih s hs
    | lent n =>
      simp only [mask, sl, List.mem_cons] at hs
      rcases hs with rfl | hs
      · intro h; cases h
      · exact ih s hs
    | obj =>
      simp only [mask, sl, List.mem_cons] at hs
      rcases hs with rfl | hs
      · intro h; cases h
      · exact ih s hs
/-- what is given back by a def -/
def Back : RC → Prop
  | .fz => True
  | .own _ => True
  | _ => False
theorem sim_call0 {pms : List Md} {rr : RC} {m : List T → RE T} {p : Bool} {ta : TA} {e : M (List T)} {cs : List RC} (ha : SimA Γ E ms p ta e cs) (hc : Args cs pms) (hr : Back rr) :
    SimE Γ E ms p (tCall (spT Γ pms rr m) [] E ta) (e >>= call0 m) rr := by
  intro W τ σ hs Q hF hp
  refine ha W τ σ hs _ hF (Pst.bind1 hp fun W1 ts τ1 g1 hp1 vs hF1 hv => ?_)
  obtain ⟨Wc, e1, e2, f0, bB, eB, back⟩ := Fr.call (Sl := []) (Sr := sl ms τ1 σ ++ hs) (by simpa using hF1.fr)
  obtain ⟨l1, l2⟩ := hv.len
  have lc : ∀ {cs : List RC} {pms : List Md}, Args cs pms → cs.length = pms.length := by
    intro cs
    induction cs with
    | nil => intro pms h; cases pms with
      | nil => rfl
      | cons _ _ => exact h.elim
    | cons c cs ih => intro pms h; cases pms with
      | nil => exact h.elim
      | cons _ _ => simp [ih h.2]
  have l3 := lc hc
  have fa := add_args (A := []) e1 bB hF1.fr.fb (.inl (eB rfl)) hc hv f0
  rw [List.append_nil]
  refine ⟨Wc, ts, e2, by omega, ⟨by simpa using fa, by simp; omega, by simp; omega⟩, ?_⟩
  cases hm : m ts with
  | stuck => simp only [call0, hm] at hp1; exact hp1
  | exc x τ' =>
    simp only [call0, hm] at hp1
    intro W' cls d l hF' hx
    obtain ⟨W2, q1, q2, q3, q4, q5⟩ := back W' _ l (by simpa using mask_nosh) hF'.fr
    have := hp1 W2 cls d ⟨q3, fun _ => ⟨by rw [q2]; exact q5 rfl, rfl⟩⟩ ⟨(q4.perm List.perm_append_comm).pop, hF1.lt, hF1.lv⟩ (by
      obtain ⟨a, b⟩ := hx
      exact ⟨a, b.imp id fun ⟨a, fv, h1, h2, h3⟩ => ⟨a, fv, h1, by rw [q2]; exact h2, by rw [q1]; exact h3⟩⟩)
    rw [q2] at this
    exact this
  | ok w τ' =>
    simp only [call0, hm] at hp1
    intro W' v l hh
    cases rr with
    | now => exact hr.elim
    | sh => exact hr.elim
    | slot i => exact hr.elim
    | fz =>
      obtain ⟨W2, q1, q2, q3, q4, q5⟩ := back W' _ l (by simpa using mask_nosh) hh.1.fr
      have := hp1 W2 ⟨q3, fun _ => ⟨by rw [q2]; exact q5 rfl, rfl⟩⟩ v ⟨⟨(q4.perm List.perm_append_comm).pop, hF1.lt, hF1.lv⟩, by rw [q1]; exact hh.2⟩
      rw [q2] at this
      exact this
    | own n =>
      have h' : FrS Γ W' pms (mask pms τ') (vs.map some) ([] ++ [(.own n, some w, some v)]) := hh
      obtain ⟨W2, q1, q2, q3, q4, q5⟩ := back W' _ l (by
        intro s hs
        rcases List.mem_append.mp hs with hs | hs
        · exact mask_nosh s hs
        · simp at hs; subst hs; intro h; cases h) h'.fr
      have := hp1 W2 ⟨q3, fun _ => ⟨by rw [q2]; exact q5 rfl, rfl⟩⟩ v ⟨by
        refine Fr.pop (S' := sl pms (mask pms τ') (vs.map some)) (q4.perm ?_)
        rw [List.nil_append, List.append_assoc]
        refine List.perm_append_comm.trans ?_
        rw [← List.append_assoc, ← List.append_assoc (sl ms τ1 σ)]
        refine List.Perm.append_right _ ?_
        rw [List.append_assoc [_]]
        exact List.perm_append_comm, hF1.lt, hF1.lv⟩
      rw [q2] at this
      exact this
end
end TL
end
section
set_option Elab.async false
set_option linter.all false
set_option autoImplicit false
set_option maxRecDepth 100000
set_option maxHeartbeats 4000000
/-! S10: a call that is lent a slot; a def by its body -/
namespace TL
open PySem PySem.Spec L2
section
variable {Γ : Gm} {E : XK} {ms : List Md}
theorem Fr.conv {W : Wd} {S S' : List Slot} (h : Fr Γ W S) (hc : Paired (fun s s' => ∀ fp, SlotOk Γ W s fp → SlotOk Γ W s' fp) S S') : Fr Γ W S' := by
  obtain ⟨fps, h1, h2, h3⟩ := h.ex
  refine ⟨h.fb, h.bh, fps, ?_, h2, h3⟩
  clear h2 h3 h
  induction hc generalizing fps with
  | nil => exact h1
  | cons r t ih =>
    cases h1 with
    | cons q u => exact .cons (r _ q) (ih _ u)
theorem pr_refl {α : Type} {R : α → α → Prop} (h : ∀ a, R a a) : ∀ l : List α, Paired R l l
  | [] => .nil
  | a :: l => .cons (h a) (pr_refl h l)
/-- slots own n and lent n are alike -/
def Alike : Md → Md → Prop
  | .own n, .lent m => n = m
  | .lent n, .lent m => n = m
  | _, _ => False
theorem alike_ok {W : Wd} {m m' : Md} (h : Alike m m') {ot : Option T} {ov : Option V} {fp : List Addr} : (SlotOk Γ W (m, ot, ov) fp ↔ SlotOk Γ W (m', ot, ov) fp) := by
  cases m with
  | sh => cases m' <;> exact (show False from h).elim
  | obj => cases m' <;> exact (show False from h).elim
  | own n =>
    cases m' with
    | sh => exact (show False from h).elim
    | obj => exact (show False from h).elim
    | own k => exact (show False from h).elim
    | lent k =>
      have e : n = k := h
      subst e
      cases ot with
      | none => exact Iff.rfl
      | some t => cases ov <;> exact Iff.rfl
  | lent n =>
    cases m' with
    | sh => exact (show False from h).elim
    | obj => exact (show False from h).elim
    | own k => exact (show False from h).elim
    | lent k =>
      have e : n = k := h
      subst e
      exact Iff.rfl
theorem sl_app : ∀ {ms ms' : List Md} {τ τ' : Tau} {σ σ' : St}, τ.length = ms.length → σ.length = ms.length → sl (ms ++ ms') (τ ++ τ') (σ ++ σ') = sl ms τ σ ++ sl ms' τ' σ'
  | [], _, [], _, [], _, _, _ => rfl
  | _ :: ms, ms', _ :: τ, τ', _ :: σ, σ', h1, h2 => by
    have := sl_app (ms := ms) (ms' := ms') (τ := τ) (τ' := τ') (σ := σ) (σ' := σ') (by simpa using h1) (by simpa using h2)
    simp [sl, this]
  | [], _, _ :: _, _, _, _, h, _ => by simp at h
  | [], _, _, _, _ :: _, _, _, h => by simp at h
  | _ :: _, _, [], _, _, _, h, _ => by simp at h
  | _ :: _, _, _, _, [], _, _, h => by simp at h
theorem HasA.split {W : Wd} {σ : St} : ∀ {c1 c2 : List RC} {ts : List T} {vs : List V}, HasA Γ W σ (c1 ++ c2) ts vs → ∃ t1 t2 v1 v2, ts = t1 ++ t2 ∧ vs = v1 ++ v2 ∧ HasA Γ W σ c1 t1 v1 ∧ HasA Γ W σ c2 t2 v2
  | [], _, ts, vs, h => ⟨[], ts, [], vs, rfl, rfl, True.intro, h⟩
  | c :: c1, c2, [], _, h => h.elim
  | c :: c1, c2, _ :: _, [], h => h.elim
  | c :: c1, c2, t :: ts, v :: vs, h => by
    obtain ⟨t1, t2, v1, v2, rfl, rfl, h1, h2⟩ := HasA.split (c1 := c1) (c2 := c2) h.2
    exact ⟨t :: t1, t2, v :: v1, v2, rfl, rfl, ⟨h.1, h1⟩, h2⟩
theorem args_len : ∀ {cs : List RC} {pms : List Md}, Args cs pms → cs.length = pms.length
  | [], [], _ => rfl
  | [], _ :: _, h => h.elim
  | _ :: _, [], h => h.elim
  | _ :: _, _ :: _, h => by simp [args_len h.2]
theorem mask_app : ∀ {ms ms' : List Md} {τ τ' : Tau}, τ.length = ms.length → mask (ms ++ ms') (τ ++ τ') = mask ms τ ++ mask ms' τ'
  | [], _, [], _, _ => rfl
  | m :: ms, ms', t :: τ, τ', h => by
    have := mask_app (ms := ms) (ms' := ms') (τ := τ) (τ' := τ') (by simpa using h)
    cases m <;> simp [mask, this]
  | [], _, _ :: _, _, h => by simp at h
  | _ :: _, _, [], _, h => by simp at h
theorem sim_call1 (p1 p2 : List Md) (c1 c2 : List RC) (n i : Nat) {pms : List Md} {cs : List RC} {mi : Md} {rr : RC} {m : List T → RE T} {p : Bool} {ta : TA} {e : M (List T)} (ha : SimA Γ E ms p ta e cs) (ep : pms = p1 ++ .lent n :: p2) (ec : cs = c1 ++ .slot i :: c2)
    (hi : ms[i]? = some mi) (hal : Alike mi (.lent n)) (hc1 : Args c1 p1) (hc2 : Args c2 p2) (hn : NoNow (c1 ++ c2)) (hlen : ∀ ts w τ', m ts = .ok w τ' → τ'.length = pms.length) (hlen' : ∀ ts x τ', m ts = .exc x τ' → τ'.length = pms.length) (hr : Back rr) :
    SimE Γ E ms false (tCall (spT Γ pms rr m) [] E ta) (e >>= call1 m i p1.length) rr := by
  intro W τ σ hs Q hF hp
  have hp' : Pst Γ E ms W σ hs (p && false) τ (fun W' w τ' => ∀ v, Has Γ W' ms τ' σ hs rr w v → Q v W'.H) ((e >>= call1 m i p1.length) τ) := by rw [Bool.and_false]; exact hp
  refine ha W τ σ hs _ hF (Pst.bind hp' fun W1 ts τ1 g1 hp1 vs hF1 hv => ?_)
  subst ep ec
  obtain ⟨t1, t2', v1, v2', rfl, rfl, hv1, hv2'⟩ := hv.split
  obtain ⟨l1, k1⟩ := hv1.len
  have la1 := args_len hc1
  cases t2' with
  | nil => exact hv2'.elim
  | cons tj t2 =>
  cases v2' with
  | nil => exact hv2'.elim
  | cons vj v2 =>
  obtain ⟨hvj, hv2⟩ := hv2'
  have hvj : σ[i]? = some (some vj) := hvj
  obtain ⟨l2, k2⟩ := hv2.len
  have la2 := args_len hc2
  unfold call1 at hp1
  cases hti : τ1[i]? with
  | none => rw [hti] at hp1; exact hp1.elim
  | some ot =>
  cases ot with
  | none => rw [hti] at hp1; exact hp1.elim
  | some t =>
  rw [hti] at hp1
  obtain ⟨v', fp, hv', hg, hsl, _, _⟩ := hF1.slot hi hti
  rw [hvj] at hv'
  cases hv'
  have hset : (t1 ++ tj :: t2).set p1.length t = t1 ++ t :: t2 := by
    rw [List.set_append_right _ _ (by omega)]
    have : p1.length - t1.length = 0 := by omega
    rw [this]; rfl
  dsimp only at hp1
  rw [hset] at hp1
  have hls := sl_len hF1.lt hF1.lv
  obtain ⟨hilt, _⟩ := List.getElem?_eq_some_iff.mp hi
  -- the slot is taken out
  have tk := hF1.fr.take hg mi (some vj)
  have tk2 : Fr Γ W1 ([(.lent n, some t, some vj)] ++ (sl ms τ1 σ ++ hs).set i (mi, none, some vj)) := by
    refine Fr.perm (Fr.conv tk (S' := (sl ms τ1 σ ++ hs).set i (mi, none, some vj) ++ [(.lent n, some t, some vj)]) (pr_app (pr_refl (fun _ _ h => h) _) (.cons (fun fp h => (alike_ok hal).mp h) .nil))) List.perm_append_comm
  obtain ⟨Wc, e1, e2, f0, bB, _, back⟩ := Fr.call tk2
  have fa1 := add_args e1 bB hF1.fr.fb (.inr fun c hc => hn c (List.mem_append_left _ hc)) hc1 hv1 f0
  have fa2 := add_args e1 bB hF1.fr.fb (.inr fun c hc => hn c (List.mem_append_right _ hc)) hc2 hv2 fa1
  have fpar : Fr Γ Wc (sl (p1 ++ .lent n :: p2) ((t1 ++ t :: t2).map some) ((v1 ++ vj :: v2).map some)) := by
    rw [List.map_append, List.map_append, List.map_cons, List.map_cons, sl_app (by simp; omega) (by simp; omega)]
    refine fa2.perm ?_
    show ([(Md.lent n, some t, some vj)] ++ sl p1 (t1.map some) (v1.map some) ++ sl p2 (t2.map some) (v2.map some)).Perm (sl p1 (t1.map some) (v1.map some) ++ ((Md.lent n, some t, some vj) :: sl p2 (t2.map some) (v2.map some)))
    refine (List.Perm.append_right _ List.perm_append_comm).trans ?_
    rw [List.append_assoc]
    exact .refl _
  rw [List.append_nil]
  refine ⟨Wc, t1 ++ t :: t2, e2, by simp; omega, ⟨by simpa using fpar, by simp; omega, by simp; omega⟩, ?_⟩
  -- the way back
  have again : ∀ (W' : Wd) (τ' : Tau) (t' : T) (res : List Slot), Wc.Le W' → τ'.length = (p1 ++ Md.lent n :: p2).length → τ'[p1.length]? = some (some t') → NoSh res → Fr Γ W' (sl (p1 ++ .lent n :: p2) (mask (p1 ++ .lent n :: p2) τ') ((v1 ++ vj :: v2).map some) ++ res) →
      ∃ W2 : Wd, W2.F = W'.F ∧ W2.H = W'.H ∧ W1.Le W2 ∧ Fr Γ W2 (sl ms (τ1.set i (some t')) σ ++ (hs ++ res)) := by
    intro W' τ' t' res l hl ht' hns hfr
    have eτ : τ' = τ'.take p1.length ++ some t' :: τ'.drop (p1.length + 1) := by
      obtain ⟨hlt, e⟩ := List.getElem?_eq_some_iff.mp ht'
      rw [← e, List.getElem_cons_drop]
      exact (List.take_append_drop _ _).symm
    have hm : sl (p1 ++ .lent n :: p2) (mask (p1 ++ .lent n :: p2) τ') ((v1 ++ vj :: v2).map some) = sl p1 (mask p1 (τ'.take p1.length)) (v1.map some) ++ (.lent n, some t', some vj) :: sl p2 (mask p2 (τ'.drop (p1.length + 1))) (v2.map some) := by
      conv => lhs; rw [eτ]
      have hl1 : (τ'.take p1.length).length = p1.length := by rw [List.length_take, hl]; simp
      rw [mask_app hl1, List.map_append, List.map_cons, sl_app (by rw [mask_len (by omega)]) (by simp; omega)]
      rfl
    rw [hm] at hfr
    have hns2 : NoSh (sl p1 (mask p1 (τ'.take p1.length)) (v1.map some) ++ (.lent n, some t', some vj) :: sl p2 (mask p2 (τ'.drop (p1.length + 1))) (v2.map some) ++ res) := by
      rw [← hm]
      intro s hs
      rcases List.mem_append.mp hs with hs | hs
      · exact mask_nosh s hs
      · exact hns s hs
    obtain ⟨W2, q1, q2, q3, q4, _⟩ := back W' _ l hns2 hfr
    refine ⟨W2, q1, q2, q3, ?_⟩
    generalize sl p1 (mask p1 (τ'.take p1.length)) (v1.map some) = A at q4
    generalize sl p2 (mask p2 (τ'.drop (p1.length + 1))) (v2.map some) = B at q4
    have q5 : Fr Γ W2 ((sl ms τ1 σ ++ hs).set i (mi, none, some vj) ++ res ++ [(.lent n, some t', some vj)]) := by
      refine Fr.pop (S' := A ++ B) (q4.perm ?_)
      generalize (sl ms τ1 σ ++ hs).set i (mi, none, some vj) = C
      generalize (Md.lent n, some t', some vj) = s
      have h1 : (A ++ s :: B).Perm (s :: (A ++ B)) := List.perm_middle
      have h2 : (A ++ s :: B ++ res ++ C).Perm (s :: (A ++ B) ++ res ++ C) := List.Perm.append_right _ (List.Perm.append_right _ h1)
      refine h2.trans ?_
      have h3 : (s :: (A ++ B) ++ res ++ C).Perm (C ++ (s :: (A ++ B) ++ res)) := List.perm_append_comm
      refine h3.trans ?_
      rw [List.append_assoc C res, List.append_assoc C]
      refine List.Perm.append_left _ ?_
      have h4 : (s :: (A ++ B) ++ res).Perm (res ++ s :: (A ++ B)) := List.perm_append_comm
      refine h4.trans ?_
      rw [List.append_assoc]
      exact .refl _
    have q6 := q5.put i
    rw [List.set_append_left _ _ (by rw [List.length_set, List.length_append]; omega), List.set_set] at q6
    rw [List.set_append_left _ _ (by omega)] at q6
    have q7 : Fr Γ W2 (sl ms (τ1.set i (some t')) σ ++ hs ++ res) := by
      have e3 : sl ms (τ1.set i (some t')) σ = (sl ms τ1 σ).set i (mi, some t', some vj) := by
        rw [sl_set _ _ hi, set_self hvj]
      rw [e3]
      refine Fr.conv q6 (pr_app (pr_app ?_ (pr_refl (fun _ _ h => h) _)) (pr_refl (fun _ _ h => h) _))
      generalize sl ms τ1 σ = S
      have gen : ∀ (S : List Slot) (i : Nat), Paired (fun s s' => ∀ fp, SlotOk Γ W2 s fp → SlotOk Γ W2 s' fp) (S.set i (.lent n, some t', some vj)) (S.set i (mi, some t', some vj)) := by
        intro S
        induction S with
        | nil => intro i; exact .nil
        | cons a S ih =>
          intro i
          cases i with
          | zero => exact .cons (fun fp h => (alike_ok hal).mpr h) (pr_refl (fun _ _ h => h) _)
          | succ i => exact .cons (fun _ h => h) (ih i)
      exact gen S i
    rw [List.append_assoc] at q7
    exact q7
  cases hm : m (t1 ++ t :: t2) with
  | stuck => simp only [hm] at hp1; exact hp1
  | exc x τ' =>
    simp only [hm] at hp1
    cases htj : τ'[p1.length]? with
    | none => rw [htj] at hp1; exact hp1.elim
    | some ot =>
    cases ot with
    | none => rw [htj] at hp1; exact hp1.elim
    | some t' =>
    rw [htj] at hp1
    intro W' cls d l hF' hx
    obtain ⟨W2, q1, q2, q3, q4⟩ := again W' τ' t' [] l (hlen' _ _ _ hm) htj (by intro s hs; simp at hs) hF'.fr
    have := hp1 W2 cls d ⟨q3, fun z => nomatch z⟩ ⟨by simpa using q4, by rw [List.length_set]; exact hF1.lt, hF1.lv⟩ (by
      obtain ⟨a, b⟩ := hx
      exact ⟨a, b.imp id fun ⟨a, fv, h1, h2, h3⟩ => ⟨a, fv, h1, by rw [q2]; exact h2, by rw [q1]; exact h3⟩⟩)
    rw [q2] at this
    exact this
  | ok w τ' =>
    simp only [hm] at hp1
    cases htj : τ'[p1.length]? with
    | none => rw [htj] at hp1; exact hp1.elim
    | some ot =>
    cases ot with
    | none => rw [htj] at hp1; exact hp1.elim
    | some t' =>
    rw [htj] at hp1
    intro W' v l hh
    cases rr with
    | now => exact hr.elim
    | sh => exact hr.elim
    | slot i => exact hr.elim
    | fz =>
      obtain ⟨W2, q1, q2, q3, q4⟩ := again W' τ' t' [] l (hlen _ _ _ hm) htj (by intro s hs; simp at hs) hh.1.fr
      have := hp1 W2 ⟨q3, fun z => nomatch z⟩ v ⟨⟨by simpa using q4, by rw [List.length_set]; exact hF1.lt, hF1.lv⟩, by rw [q1]; exact hh.2⟩
      rw [q2] at this
      exact this
    | own k =>
      have h' : FrS Γ W' (p1 ++ .lent n :: p2) (mask (p1 ++ .lent n :: p2) τ') ((v1 ++ vj :: v2).map some) ([] ++ [(.own k, some w, some v)]) := hh
      obtain ⟨W2, q1, q2, q3, q4⟩ := again W' τ' t' [(.own k, some w, some v)] l (hlen _ _ _ hm) htj (by intro s hs; simp at hs; subst hs; intro h; cases h) h'.fr
      have := hp1 W2 ⟨q3, fun z => nomatch z⟩ v ⟨q4, by rw [List.length_set]; exact hF1.lt, hF1.lv⟩
      rw [q2] at this
      exact this
end
end TL
end
section
set_option Elab.async false
set_option linter.all false
set_option autoImplicit false
set_option maxRecDepth 100000
set_option maxHeartbeats 4000000
/-! S11: a def by its body -/
namespace TL
open PySem PySem.Spec L2
section
variable {Γ : Gm} {E : XK} {ms : List Md}
theorem wk_mask : ∀ {pms : List Md} {τ : Tau} {σ σ' : St}, τ.length = pms.length → σ.length = pms.length → σ'.length = pms.length → (∀ (i : Nat) (m : Md), (pms[i]? = some m ∧ m.kept = true) → σ[i]? = σ'[i]?) → Paired Wk (sl pms τ σ) (sl pms (mask pms τ) σ')
  | [], _, _, _, _, _, _, _ => by simp only [sl]; exact .nil
  | _ :: _, [], _, _, h, _, _, _ => by simp at h
  | _ :: _, _ :: _, [], _, _, h, _, _ => by simp at h
  | _ :: _, _ :: _, _ :: _, [], _, _, h, _ => by simp at h
  | m :: pms, t :: τ, v :: σ, v' :: σ', h1, h2, h3, hk => by
    have ih := wk_mask (pms := pms) (τ := τ) (σ := σ) (σ' := σ') (by simpa using h1) (by simpa using h2) (by simpa using h3) fun i n h => by simpa using hk (i + 1) n (by simpa using h)
    cases m with
    | sh => exact .cons (.inr ⟨_, _, rfl⟩) ih
    | own n => exact .cons (.inr ⟨_, _, rfl⟩) ih
    | lent n =>
      have e : v = v' := by simpa using hk 0 (.lent n) ⟨rfl, rfl⟩
      subst e
      exact .cons (.inl rfl) ih
    | obj =>
      have e : v = v' := by simpa using hk 0 .obj ⟨rfl, rfl⟩
      subst e
      exact .cons (.inl rfl) ih
/-- at a def's end: the parameters that were lent are left, with what is given back -/
theorem leave {W : Wd} {pms lms : List Md} {τ : Tau} {σ : St} {vs : List V} {R : List Slot} (hF : Fr Γ W (sl (pms ++ lms) τ σ ++ R)) (lt : τ.length = (pms ++ lms).length) (lv : σ.length = (pms ++ lms).length) (hl : vs.length = pms.length) (hk : ∀ (i : Nat) (m : Md), (pms[i]? = some m ∧ m.kept = true) → σ[i]? = (vs.map some)[i]?) :
    Fr Γ W (sl pms (mask pms (τ.take pms.length)) (vs.map some) ++ R) := by
  rw [List.length_append] at lt lv
  have e1 : τ = τ.take pms.length ++ τ.drop pms.length := (List.take_append_drop _ _).symm
  have e2 : σ = σ.take pms.length ++ σ.drop pms.length := (List.take_append_drop _ _).symm
  have h1 : (τ.take pms.length).length = pms.length := by rw [List.length_take]; omega
  have h2 : (σ.take pms.length).length = pms.length := by rw [List.length_take]; omega
  rw [e1, e2, sl_app h1 h2] at hF
  have h3 : Fr Γ W (sl pms (τ.take pms.length) (σ.take pms.length) ++ R) := by
    refine Fr.pop (S' := sl lms (τ.drop pms.length) (σ.drop pms.length)) (hF.perm ?_)
    rw [List.append_assoc, List.append_assoc]
    exact List.Perm.append_left _ List.perm_append_comm
  refine h3.weaken (pr_app (wk_mask h1 h2 (by simpa using hl) fun i n h => ?_) (pr_refl (fun _ => .inl rfl) _))
  obtain ⟨hi, _⟩ := List.getElem?_eq_some_iff.mp h.1
  rw [← hk i n h, List.getElem?_take_of_lt hi]
theorem Fr.scal {W : Wd} {S : List Slot} (h : Fr Γ W S) {n : Nat} {t : T} {v : V} (r : RepO Γ W.F W.H n t v []) : Fr Γ W (S ++ [(.own n, some t, some v)]) := by
  obtain ⟨fps, h1, h2, h3⟩ := h.ex
  exact ⟨h.fb, h.bh, fps ++ [[]], pr_app h1 (.cons r .nil), by simpa using h2, fun a ha => h3 a (by simpa using ha)⟩
theorem repO_non {F H : Hp} {n : Nat} : RepO Γ F H n .non .non [] := by
  cases n with
  | zero => rw [RepO_zero]; exact ⟨rfl, rfl⟩
  | succ n => exact ⟨rfl, rfl⟩
/-- the frame at a def's entry -/
theorem enter {W : Wd} {pms lms : List Md} {ts : List T} {vs : List V} (hF : FrS Γ W pms (ts.map some) (vs.map some) []) : FrS Γ W (pms ++ lms) (ts.map some ++ List.replicate lms.length none) (vs.map some ++ List.replicate lms.length none) [] := by
  refine ⟨?_, by rw [List.length_append, hF.lt, List.length_append, List.length_replicate], by rw [List.length_append, hF.lv, List.length_append, List.length_replicate]⟩
  rw [sl_app hF.lt hF.lv, List.append_nil]
  have hf : Fr Γ W (sl pms (ts.map some) (vs.map some)) := by simpa using hF.fr
  have go : ∀ (lms : List Md) (A : List Slot), Fr Γ W A → Fr Γ W (A ++ sl lms (List.replicate lms.length none) (List.replicate lms.length none)) := by
    intro lms
    induction lms with
    | nil => intro A h; simpa [sl] using h
    | cons m lms ih =>
      intro A h
      have := ih (A ++ [(m, none, none)]) (h.blank m none)
      simpa [sl, List.replicate_succ] using this
  exact go lms _ hf
/-- a reading that does what s does, entered as a def's body is -/
theorem body_sim {pms lms : List Md} {rr : RC} {t : TS} {s : M Ctl} (h : SimS Γ E0 (pms ++ lms) rr t s) (hr : Back rr) {N : List Str} (hN : N.length = (pms ++ lms).length) {vs : List V} {H : Hp} {Q : VK} {E : XK}
    (hsp : spT Γ pms rr (noX (runF s pms.length N.length)) vs H Q E) : t { nx := fun _ H' => Q .non H', rt := Q } (L2.start N vs) H := by
  obtain ⟨W, ts, rfl, hl, hF, hp⟩ := hsp
  have hlt : ts.length = pms.length := by simpa using hF.lt
  have es : L2.start N vs = vs.map some ++ List.replicate lms.length none := by
    unfold L2.start
    rw [hN, List.length_append, hl]
    congr 2
    omega
  have et : ts.map some ++ List.replicate (N.length - pms.length) none = ts.map some ++ List.replicate lms.length (none : Option T) := by
    rw [hN, List.length_append]
    congr 2
    omega
  rw [es]
  have hE := enter (lms := lms) hF
  refine h W _ _ [] _ hE ?_
  unfold noX runF at hp
  rw [et] at hp
  have kk : ∀ {W' : Wd} {σ' : St}, Nx (pms ++ lms) W (vs.map some ++ List.replicate lms.length none) W' σ' → ∀ (i : Nat) (m : Md), (pms[i]? = some m ∧ m.kept = true) → σ'[i]? = (vs.map some)[i]? := fun nx i n hi => by
    obtain ⟨hlt, _⟩ := List.getElem?_eq_some_iff.mp hi.1
    rw [nx.kl i n ⟨by rw [List.getElem?_append_left hlt]; exact hi.1, hi.2⟩, List.getElem?_append_left (by simp; omega)]
  cases hs : s (ts.map some ++ List.replicate lms.length none) with
  | stuck => rw [hs] at hp; exact hp
  | exc x τ' => rw [hs] at hp; exact hp.elim
  | ok c τ' =>
    rw [hs] at hp
    cases c with
    | bk => exact hp.elim
    | ct => exact hp.elim
    | nx =>
      intro W' σ' nx hF'
      have hf : Fr Γ W' (sl (pms ++ lms) τ' σ') := by simpa using hF'.fr
      have lm : (mask pms (τ'.take pms.length)).length = pms.length := mask_len (by rw [List.length_take, hF'.lt, List.length_append]; omega)
      dsimp only at hp
      rw [pad_take (by rw [hF'.lt, List.length_append]; omega)] at hp
      refine hp W' .non nx.le ?_
      cases rr with
      | now => exact hr.elim
      | sh => exact hr.elim
      | slot i => exact hr.elim
      | fz => exact ⟨⟨leave (R := []) (by simpa using hf) hF'.lt hF'.lv hl (kk nx), lm, by simpa using hl⟩, rfl⟩
      | own n => exact ⟨leave (R := [] ++ [(.own n, some .non, some .non)]) (by simpa using hf.scal repO_non) hF'.lt hF'.lv hl (kk nx), lm, by simpa using hl⟩
    | rt w =>
      intro W' σ' v nx hh
      have hF' := hh.fr
      have lm : (mask pms (τ'.take pms.length)).length = pms.length := mask_len (by rw [List.length_take, hF'.lt, List.length_append]; omega)
      dsimp only at hp
      rw [pad_take (by rw [hF'.lt, List.length_append]; omega)] at hp
      refine hp W' v nx.le ?_
      cases rr with
      | now => exact hr.elim
      | sh => exact hr.elim
      | slot i => exact hr.elim
      | fz => exact ⟨⟨leave (R := []) hF'.fr hF'.lt hF'.lv hl (kk nx), lm, by simpa using hl⟩, hh.2⟩
      | own n =>
        have h' : FrS Γ W' (pms ++ lms) τ' σ' ([] ++ [(.own n, some w, some v)]) := hh
        exact ⟨leave h'.fr hF'.lt hF'.lv hl (kk nx), lm, by simpa using hl⟩
end
end TL
end
section
set_option Elab.async false
set_option linter.all false
set_option autoImplicit false
set_option maxRecDepth 100000
set_option maxHeartbeats 4000000
/-! U1: dicts by their entries (DX): get, in, put, len, clear, new -/
namespace TL
open PySem PySem.Spec L2
/-- v is the key k in H -/
def Ky (Γ : Gm) (H : Hp) (k : NestedKey) (v : V) : Prop := k.depth ≤ 8 ∧ ∃ (F : Hp) (t : T), keyOf t = some k ∧ Rep Γ F H t v
section
variable {Γ : Gm} {X : Cx} {pins : List (Addr × Obj)} {σ : St} {H : Hp} {s : Shared}
mutual
theorem nested_of {F : Hp} (I : Inv X pins σ H s) (hK : Γ.K = X.K) : ∀ (t : T) {k : NestedKey} {v : V} {u : Value}, keyOf t = some k → Rep Γ F H t v → L2.RelV v u → NestedIs s.heap k u
  | .non, k, v, u, hk, hr, r => by
    cases hk; cases hr; cases r; exact .none
  | .bl b, k, v, u, hk, hr, r => by
    cases hk; cases hr; cases r; exact .bool rfl
  | .int i, k, v, u, hk, hr, r => by
    cases hk; cases hr; obtain ⟨t, rfl⟩ := r; exact .int i t
  | .str x, k, v, u, hk, hr, r => by
    cases hk; cases hr; obtain ⟨t, rfl⟩ := r; exact .text x t
  | .tup xs, k, v, u, hk, hr, r => by
    obtain ⟨a, vs, rfl, hs, hl⟩ := hr
    cases hks : keysOf xs with
    | none => simp only [keyOf, hks] at hk; cases hk
    | some ks =>
      simp only [keyOf, hks] at hk
      cases hk
      cases r
      obtain ⟨its, rv, ⟨o, ho, hc, n, hd⟩, _⟩ := I.tuple (by rw [← hK]; exact hs)
      exact .tup ho hc hd (by simpa using nested_all I hK xs hks hl rv)
  | .lst _, _, _, _, hk, _, _ => by cases hk
  | .dct _, _, _, _, hk, _, _ => by cases hk
  | .set _, _, _, _, hk, _, _ => by cases hk
  | .ins _ _, _, _, _, hk, _, _ => by cases hk
theorem nested_all {F : Hp} (I : Inv X pins σ H s) (hK : Γ.K = X.K) : ∀ (ts : List T) {ks : List NestedKey} {vs : List V} {us : List Value}, keysOf ts = some ks → RepL Γ F H ts vs → Vals vs us → NestedAll s.heap ks us
  | [], ks, vs, us, hk, hr, rv => by
    cases hk; cases hr; cases rv; exact .nil
  | t :: ts, ks, vs, us, hk, hr, rv => by
    obtain ⟨v, r, rfl, h1, h2⟩ := hr
    cases rv with
    | cons q rv =>
      cases h3 : keyOf t with
      | none => simp only [keysOf, h3] at hk; cases hk
      | some k =>
        cases h4 : keysOf ts with
        | none => simp only [keysOf, h3, h4] at hk; cases hk
        | some ks' =>
          simp only [keysOf, h3, h4] at hk
          cases hk
          exact .cons (nested_of I hK t h3 h1 q) (nested_all I hK ts h4 h2 rv)
end
theorem Ky.is {k : NestedKey} {v : V} {u : Value} (I : Inv X pins σ H s) (hK : Γ.K = X.K) (h : Ky Γ H k v) (r : L2.RelV v u) : NestedIs s.heap k u := by
  obtain ⟨_, F, t, h1, h2⟩ := h
  exact nested_of I hK t h1 h2 r
theorem Ky.mono {H' : Hp} {k : NestedKey} {v : V} (e : Same H H') (h : Ky Γ H k v) : Ky Γ H' k v := by
  obtain ⟨h0, F, t, h1, h2⟩ := h
  exact ⟨h0, F, t, h1, Rep.mono (Same.refl _) t e h2⟩
theorem Ky.tup {ks : List NestedKey} {v : V} (h : Ky Γ H (.tup ks) v) : ∃ a, v = .ref a := by
  obtain ⟨_, F, t, h1, h2⟩ := h
  cases t with
  | tup xs => obtain ⟨a, vs, e, _⟩ := h2; exact ⟨a, e⟩
  | non => cases h1
  | bl b => cases h1
  | int b => cases h1
  | str b => cases h1
  | lst b => cases h1
  | dct b => cases h1
  | set b => cases h1
  | ins b c => cases h1
theorem Ky.text {x : Str} {v : V} (h : Ky Γ H (.text x) v) : v = .str x := by
  obtain ⟨_, F, t, h1, h2⟩ := h
  cases t with
  | tup xs => simp only [keyOf] at h1; cases h3 : keysOf xs <;> rw [h3] at h1 <;> cases h1
  | non => cases h1
  | bl b => cases h1
  | int b => cases h1
  | str b => cases h1; exact h2
  | lst b => cases h1
  | dct b => cases h1
  | set b => cases h1
  | ins b c => cases h1
theorem pr_map {α β γ : Type} {R : α → β → Prop} {f : α → γ} {g : β → γ} {l : List α} {m : List β} (h : Paired R l m) (e : ∀ a b, R a b → f a = g b) : l.map f = m.map g := by
  induction h with
  | nil => rfl
  | cons r t ih => rw [List.map_cons, List.map_cons, ih, e _ _ r]
/-- keys of one kind: all tuples, or all texts -/
def kind : NestedKey → Nat
  | .tup _ => 0
  | .text _ => 1
  | .num _ => 2
  | .none => 3
def valE (es : List Ent) (k : NestedKey) : Option V := (es.find? fun e => decide (e.1 = k)).map (·.2.2)
def putE (es : List Ent) (k : NestedKey) (kv v : V) : List Ent := if (valE es k).isSome = true then es.map (fun e => if e.1 = k then (e.1, e.2.1, v) else e) else es ++ [(k, kv, v)]
/-- the dict at a may be asked for k, by y -/
structure Asks (Γ : Gm) (H : Hp) (a : Addr) (es : List Ent) (ep : Nat) (k : NestedKey) (y : V) : Prop where
  at_ : H a = some (DX Γ.w a es ep)
  nd : (es.map (·.1)).Nodup
  ks : ∀ e ∈ es, Ky Γ H e.1 e.2.1 ∧ kind e.1 = kind k
  ky : Ky Γ H k y
  kd : kind k ≤ 1
theorem dx_of {a : Addr} {es : List Ent} {ep : Nat} {w : World} (I : Inv X pins σ H s) (h : H a = some (DX w a es ep)) : (a == sysModules) = false ∧ es.length ≤ sizeLine ∧ ∃ (o : Obj) (xs : Array DictEntry), s.heap.get? a = some o ∧ o.ExactDict ∧ o.data = .dict xs ep ∧
    Paired (fun (e : Ent) (q : DictEntry) => q.hash = e.1.hash w ∧ L2.RelV e.2.1 q.key ∧ L2.RelV e.2.2 q.val) es xs.toList := (I.hok a _ h).1
/-- the two ways a dict is asked -/
theorem Asks.two {a : Addr} {es : List Ent} {ep : Nat} {k : NestedKey} {y : V} (I : Inv X pins σ H s) (hK : Γ.K = X.K) (hw : Γ.w = X.w) (q : Asks Γ H a es ep k y) :
    (∃ (ks : List NestedKey) (b : Addr) (xs : List (NestedKey × Addr × Value)), k = .tup ks ∧ y = .ref b ∧ (nestedKind X.prog X.w).is s.heap k b ∧ s.heap.DictOfH (nestedKind X.prog X.w) a xs ∧ Paired (fun (e : Ent) (x : NestedKey × Addr × Value) => x.1 = e.1 ∧ e.2.1 = .ref x.2.1 ∧ L2.RelV e.2.2 x.2.2) es xs) ∨
    (∃ (x : Str) (vs : List (Str × Value)), k = .text x ∧ y = .str x ∧ s.heap.DictOf (strKind X.prog X.w) a vs ∧ Paired (fun (e : Ent) (z : Str × Value) => e.1 = .text z.1 ∧ e.2.1 = .str z.1 ∧ L2.RelV e.2.2 z.2) es vs) := by
  obtain ⟨hd, hl, o, raw, ho, hx, hdt, pr⟩ := dx_of I q.at_
  cases k with
  | num i => exact absurd q.kd (by show ¬ 2 ≤ 1; decide)
  | none => exact absurd q.kd (by show ¬ 3 ≤ 1; decide)
  | tup ks =>
    left
    obtain ⟨b, rfl⟩ := q.ky.tup
    have go : ∀ {es : List Ent} {raw : List DictEntry}, (∀ e ∈ es, Ky Γ H e.1 e.2.1 ∧ kind e.1 = kind (.tup ks)) → Paired (fun (e : Ent) (q : DictEntry) => q.hash = e.1.hash Γ.w ∧ L2.RelV e.2.1 q.key ∧ L2.RelV e.2.2 q.val) es raw →
        ∃ xs : List (NestedKey × Addr × Value), raw = xs.map (entryOfKey (nestedKind X.prog X.w)) ∧ (∀ x ∈ xs, (nestedKind X.prog X.w).is s.heap x.1 x.2.1) ∧ Paired (fun (e : Ent) (x : NestedKey × Addr × Value) => x.1 = e.1 ∧ e.2.1 = .ref x.2.1 ∧ L2.RelV e.2.2 x.2.2) es xs := by
      intro es raw hks hp
      induction hp with
      | nil => exact ⟨[], rfl, (fun x hx => by cases hx), .nil⟩
      | @cons e r es raw h t ih =>
        obtain ⟨xs, e1, e2, e3⟩ := ih fun e he => hks e (List.mem_cons_of_mem _ he)
        obtain ⟨ke, kk⟩ := hks e (by simp)
        obtain ⟨k, kv, v⟩ := e
        cases k with
        | num i => exact absurd kk (by show ¬ (2 = 0); decide)
        | none => exact absurd kk (by show ¬ (3 = 0); decide)
        | text i => exact absurd kk (by show ¬ (1 = 0); decide)
        | tup ls =>
          obtain ⟨c, hc⟩ := ke.tup
          have hc : kv = .ref c := hc
          subst hc
          obtain ⟨h1, h2, h3⟩ := h
          have h2 : r.key = .ref c := h2
          refine ⟨(.tup ls, c, r.val) :: xs, ?_, ?_, .cons ⟨rfl, rfl, h3⟩ e3⟩
          · rw [List.map_cons, ← e1]
            congr 1
            obtain ⟨rh, rk, rv⟩ := r
            simp only [entryOfKey] at h1 h2 ⊢
            rw [h2, h1, hw]; rfl
          · intro x hx
            rcases List.mem_cons.mp hx with rfl | hx
            · exact ⟨ke.is I hK rfl, ke.1⟩
            · exact e2 x hx
    obtain ⟨xs, e1, e2, e3⟩ := go q.ks pr
    refine ⟨ks, b, xs, rfl, rfl, ⟨q.ky.is I hK rfl, q.ky.1⟩, ⟨o, raw, ep, ho, hx, hdt, e1, e2, ?_⟩, e3⟩
    rw [← pr_map (f := fun e : Ent => e.1) (g := fun x : NestedKey × Addr × Value => x.1) e3 fun a b h => h.1.symm]
    exact q.nd
  | text x =>
    right
    have hy := q.ky.text
    subst hy
    have go : ∀ {es : List Ent} {raw : List DictEntry}, (∀ e ∈ es, Ky Γ H e.1 e.2.1 ∧ kind e.1 = kind (.text x)) → Paired (fun (e : Ent) (q : DictEntry) => q.hash = e.1.hash Γ.w ∧ L2.RelV e.2.1 q.key ∧ L2.RelV e.2.2 q.val) es raw →
        ∃ vs : List (Str × Value), (∀ r ∈ raw, ∃ k, (strKind X.prog X.w).is k r.key = true ∧ r.hash = (strKind X.prog X.w).hash k) ∧ Pairs (strKind X.prog X.w) raw vs ∧ Paired (fun (e : Ent) (z : Str × Value) => e.1 = .text z.1 ∧ e.2.1 = .str z.1 ∧ L2.RelV e.2.2 z.2) es vs := by
      intro es raw hks hp
      induction hp with
      | nil => exact ⟨[], (fun r hr => by cases hr), .nil, .nil⟩
      | @cons e r es raw h t ih =>
        obtain ⟨vs, e1, e2, e3⟩ := ih fun e he => hks e (List.mem_cons_of_mem _ he)
        obtain ⟨ke, kk⟩ := hks e (by simp)
        obtain ⟨k, kv, v⟩ := e
        cases k with
        | num i => exact absurd kk (by show ¬ (2 = 1); decide)
        | none => exact absurd kk (by show ¬ (3 = 1); decide)
        | tup i => exact absurd kk (by show ¬ (0 = 1); decide)
        | text z =>
          have hc : kv = .str z := ke.text
          subst hc
          obtain ⟨h1, ⟨tk, h2⟩, h3⟩ := h
          have is : (strKind X.prog X.w).is z r.key = true := by rw [h2]; show Value.isStrOf z (.str z tk) = true; simp [Value.isStrOf]
          refine ⟨(z, r.val) :: vs, ?_, .cons is rfl e2, .cons ⟨rfl, rfl, h3⟩ e3⟩
          intro r' hr'
          rcases List.mem_cons.mp hr' with rfl | hr'
          · exact ⟨z, is, by rw [h1, hw]; rfl⟩
          · exact e1 r' hr'
    obtain ⟨vs, e1, e2, e3⟩ := go q.ks pr
    refine ⟨x, vs, rfl, rfl, ⟨o, raw, ep, ho, hx, hdt, fun r hr => e1 r (by simpa using hr), e2, ?_⟩, e3⟩
    have nd := q.nd
    rw [pr_map (f := fun e : Ent => e.1) (g := fun z : Str × Value => NestedKey.text z.1) e3 fun a b h => h.1] at nd
    rw [List.Nodup, List.pairwise_map] at nd ⊢
    exact nd.imp fun h e => h (by rw [e])
end
end TL
end
section
set_option Elab.async false
set_option linter.all false
set_option autoImplicit false
set_option maxRecDepth 100000
set_option maxHeartbeats 4000000
/-! U2: what is done to a dict -/
namespace TL
open PySem PySem.Spec L2
abbrev RelE (w : World) : Ent → DictEntry → Prop := fun e q => q.hash = e.1.hash w ∧ L2.RelV e.2.1 q.key ∧ L2.RelV e.2.2 q.val
abbrev RelT : Ent → NestedKey × Addr × Value → Prop := fun e x => x.1 = e.1 ∧ e.2.1 = .ref x.2.1 ∧ L2.RelV e.2.2 x.2.2
abbrev RelS : Ent → Str × Value → Prop := fun e z => e.1 = .text z.1 ∧ e.2.1 = .str z.1 ∧ L2.RelV e.2.2 z.2
theorem valE_pos {e : Ent} {es : List Ent} {k : NestedKey} (h : e.1 = k) : valE (e :: es) k = some e.2.2 := by simp [valE, List.find?_cons, h]
theorem valE_neg {e : Ent} {es : List Ent} {k : NestedKey} (h : ¬ e.1 = k) : valE (e :: es) k = valE es k := by simp [valE, List.find?_cons, h]
theorem relT_val {es : List Ent} {xs : List (NestedKey × Addr × Value)} (h : Paired RelT es xs) (k : NestedKey) : L2.RelO (valE es k) ((atKey xs k).map (·.2)) := by
  induction h with
  | nil => exact True.intro
  | @cons e x es xs r t ih =>
    obtain ⟨h1, _, h2⟩ := r
    by_cases q : e.1 = k
    · have b : atKey (x :: xs) k = some x.2 := by simp [atKey, List.find?_cons, h1.trans q]
      rw [valE_pos q, b]; exact h2
    · have q' : ¬ x.1 = k := fun z => q (h1.symm.trans z)
      have b : atKey (x :: xs) k = atKey xs k := by simp [atKey, List.find?_cons, q']
      rw [valE_neg q, b]; exact ih
theorem relS_val {es : List Ent} {vs : List (Str × Value)} (h : Paired RelS es vs) (x : Str) : L2.RelO (valE es (.text x)) (valueAt vs x) := by
  induction h with
  | nil => exact True.intro
  | @cons e z es vs r t ih =>
    obtain ⟨h1, _, h2⟩ := r
    by_cases q : z.1 = x
    · have b : valueAt (z :: vs) x = some z.2 := by simp [valueAt, List.find?_cons, q]
      rw [valE_pos (h1.trans (by rw [q])), b]; exact h2
    · have b : valueAt (z :: vs) x = valueAt vs x := by simp [valueAt, List.find?_cons, q]
      rw [valE_neg (fun e => q (by rw [h1] at e; injection e)), b]; exact ih
theorem relT_put {es : List Ent} {xs : List (NestedKey × Addr × Value)} (h : Paired RelT es xs) {k : NestedKey} {b : Addr} {v : V} {r : Value} (rv : L2.RelV v r) : Paired RelT (putE es k (.ref b) v) (storedH xs k b r) := by
  have hv := (relT_val h k).isSome_eq
  rw [Option.isSome_map] at hv
  unfold putE storedH
  rw [hv]
  by_cases q : (atKey xs k).isSome = true
  · rw [if_pos q, if_pos q]
    clear hv q
    induction h with
    | nil => exact .nil
    | @cons e x es xs r0 t ih =>
      rw [List.map_cons, List.map_cons]
      refine .cons ?_ ih
      obtain ⟨h1, h2, h3⟩ := r0
      unfold putAt
      by_cases z : e.1 = k
      · rw [if_pos z, if_pos (h1.trans z)]; exact ⟨h1, h2, rv⟩
      · rw [if_neg z, if_neg (fun y => z (h1.symm.trans y))]; exact ⟨h1, h2, h3⟩
  · rw [if_neg q, if_neg q]
    exact Paired.snoc h ⟨rfl, rfl, rv⟩
theorem relS_put {es : List Ent} {vs : List (Str × Value)} (h : Paired RelS es vs) {x : Str} {v : V} {r : Value} (rv : L2.RelV v r) : Paired RelS (putE es (.text x) (.str x) v) (stored vs x r) := by
  have hv := (relS_val h x).isSome_eq
  have ha : (valueAt vs x).isSome = vs.any (fun kv => kv.1 = x) := by
    clear hv h
    induction vs with
    | nil => rfl
    | cons z vs ih =>
      by_cases q : z.1 = x
      · simp [valueAt, List.find?_cons, q]
      · simp [valueAt, List.find?_cons, q] at ih ⊢; exact ih
  unfold putE stored
  rw [hv, ha]
  by_cases q : (vs.any (fun kv => decide (kv.1 = x))) = true
  · rw [if_pos q, if_pos q]
    clear hv ha q
    induction h with
    | nil => exact .nil
    | @cons e z es vs r0 t ih =>
      rw [List.map_cons, List.map_cons]
      refine .cons ?_ ih
      obtain ⟨h1, h2, h3⟩ := r0
      by_cases y : z.1 = x
      · rw [if_pos y, if_pos (h1.trans (by rw [y]))]; exact ⟨h1, h2, rv⟩
      · rw [if_neg y, if_neg (fun u => y (by rw [h1] at u; injection u))]; exact ⟨h1, h2, h3⟩
  · rw [if_neg q, if_neg q]
    exact Paired.snoc h ⟨rfl, rfl, rv⟩
section
variable {Γ : Gm} {X : Cx} {pins : List (Addr × Obj)} {σ : St} {H : Hp} {s : Shared} {a : Addr} {es : List Ent} {ep : Nat} {k : NestedKey} {y v : V} {u r : Value} {A : Around} {E : Value → Shared → Prop}
theorem room_in1 {P : Program} {w : World} (hu : A.units + 9 < cLine) : (nestedKind P w).room A.in1 := by
  show A.units + 1 + 8 < cLine
  omega
/-- d[y], there -/
theorem x_getItem {Q : Value → Shared → Prop} (hu : A.units + 9 < cLine) (I : Inv X pins σ H s) (hK : Γ.K = X.K) (hw : Γ.w = X.w) (g : Asks Γ H a es ep k y) (hv : valE es k = some v) (ry : L2.RelV y u) (h : ∀ w' s', Inv X pins σ H s' → L2.RelV v w' → Q w' s') :
    wpAny (model X.prog X.w) A (getItem (.ref a) u) Q E s := by
  rcases g.two I hK hw with ⟨ks, b, xs, rfl, rfl, is, dd, rel⟩ | ⟨x, vs, rfl, rfl, dd, rel⟩
  · cases (show u = Value.ref b from ry)
    obtain ⟨w', hw', rw'⟩ := RelO.some_of (v := v) (o := (atKey xs (.tup ks)).map (·.2)) (by rw [← hv]; exact relT_val rel _)
    obtain ⟨p, hp, hp2⟩ := Option.map_eq_some_iff.mp hw'
    refine wpAny_getItem_heap (room_in1 hu) is dd hp ?_
    rw [hp2]
    exact h w' _ (I.tok _) rw'
  · obtain ⟨t, rfl⟩ := ry
    obtain ⟨w', hw', rw'⟩ := RelO.some_of (v := v) (o := valueAt vs x) (by rw [← hv]; exact relS_val rel _)
    exact wpAny_getItem_of (knd := strKind X.prog X.w) (k := x) (by show Value.isStrOf x (.str x t) = true; simp [Value.isStrOf]) dd.mapOf hw' (h w' _ (I.tok _) rw')
theorem x_in {Q : Value → Shared → Prop} (hu : A.units + 9 < cLine) (I : Inv X pins σ H s) (hK : Γ.K = X.K) (hw : Γ.w = X.w) (g : Asks Γ H a es ep k y) (ry : L2.RelV y u) (h : ∀ s', Inv X pins σ H s' → Q (.bool (valE es k).isSome) s') :
    wpAny (model X.prog X.w) A (compareOp .In u (.ref a)) Q E s := by
  have hd := (dx_of I g.at_).1
  rcases g.two I hK hw with ⟨ks, b, xs, rfl, rfl, is, dd, rel⟩ | ⟨x, vs, rfl, rfl, dd, rel⟩
  · cases (show u = Value.ref b from ry)
    refine wpAny_in_heap (room_in1 hu) is hd dd ?_
    have q := (relT_val rel (.tup ks)).isSome_eq
    rw [Option.isSome_map] at q
    rw [← q]
    exact h _ (I.tok _)
  · obtain ⟨t, rfl⟩ := ry
    refine wpAny_in_of (knd := strKind X.prog X.w) (k := x) (by show Value.isStrOf x (.str x t) = true; simp [Value.isStrOf]) hd dd.mapOf ?_
    rw [← (relS_val rel x).isSome_eq]
    exact h _ (I.tok _)
theorem x_notIn {Q : Value → Shared → Prop} (hu : A.units + 9 < cLine) (I : Inv X pins σ H s) (hK : Γ.K = X.K) (hw : Γ.w = X.w) (g : Asks Γ H a es ep k y) (ry : L2.RelV y u) (h : ∀ s', Inv X pins σ H s' → Q (.bool (!(valE es k).isSome)) s') :
    wpAny (model X.prog X.w) A (compareOp .NotIn u (.ref a)) Q E s := by
  have hd := (dx_of I g.at_).1
  rcases g.two I hK hw with ⟨ks, b, xs, rfl, rfl, is, dd, rel⟩ | ⟨x, vs, rfl, rfl, dd, rel⟩
  · cases (show u = Value.ref b from ry)
    refine PyProof.Rows.wpAny_notIn_heap (room_in1 hu) is hd dd ?_
    have q := (relT_val rel (.tup ks)).isSome_eq
    rw [Option.isSome_map] at q
    rw [← q]
    exact h _ (I.tok _)
  · obtain ⟨t, rfl⟩ := ry
    refine wpAny_notIn_of (knd := strKind X.prog X.w) (k := x) (by show Value.isStrOf x (.str x t) = true; simp [Value.isStrOf]) hd dd.mapOf ?_
    rw [← (relS_val rel x).isSome_eq]
    exact h _ (I.tok _)
theorem dx_ok {P : Program} {w : World} {H' : Hp} {h' : Heap} {o : Obj} {xs : Array DictEntry} (hd : (a == sysModules) = false) (hl : es.length ≤ sizeLine) (ho : h'.get? a = some o) (hx : o.ExactDict) (hdt : o.data = .dict xs ep) (hp : Paired (RelE w) es xs.toList) : ObjOk P w H' h' a (DX w a es ep) :=
  ⟨⟨hd, hl, o, xs, ho, hx, hdt, hp⟩, ⟨o, ho⟩, fun h1 h2 ⟨p1, p2, o, xs, p3, p4⟩ k => ⟨p1, p2, o, xs, k o p3, p4⟩⟩
theorem relT_raw {P : Program} {w : World} {es : List Ent} {xs : List (NestedKey × Addr × Value)} (h : Paired RelT es xs) : Paired (RelE w) es (xs.map (entryOfKey (nestedKind P w))) := by
  induction h with
  | nil => exact .nil
  | @cons e x es xs r t ih =>
    obtain ⟨h1, h2, h3⟩ := r
    rw [List.map_cons]
    refine .cons ⟨?_, ?_, h3⟩ ih
    · show x.1.hash w = e.1.hash w
      rw [h1]
    · rw [h2]; rfl
theorem relS_raw {P : Program} {w : World} {es : List Ent} {vs : List (Str × Value)} {raw : List DictEntry} (h : Paired RelS es vs) (hp : Pairs (strKind P w) raw vs) (hk : ∀ q ∈ raw, ∃ k, (strKind P w).is k q.key = true ∧ q.hash = (strKind P w).hash k) : Paired (RelE w) es raw := by
  induction h generalizing raw with
  | nil => cases hp; exact .nil
  | @cons e z es vs r t ih =>
    cases hp with
    | @cons q _ raw _ h1 h2 hp =>
      obtain ⟨h3, h4, h5⟩ := r
      obtain ⟨k, hk1, hk2⟩ := hk q (by simp)
      have hkz : k = z.1 := (strKind P w).inj _ _ _ hk1 h1
      subst hkz
      refine .cons ⟨?_, ?_, ?_⟩ (ih hp fun q hq => hk q (List.mem_cons_of_mem _ hq))
      · rw [hk2, h3]; rfl
      · rw [h4]
        obtain ⟨tk, e1⟩ := Value.isStrOf_shape (show Value.isStrOf z.1 q.key = true from h1)
        exact ⟨tk, e1⟩
      · rw [h2]; exact h5
theorem putE_len (es : List Ent) (k : NestedKey) (kv v : V) : (putE es k kv v).length ≤ es.length + 1 := by
  unfold putE
  split
  · rw [List.length_map]; omega
  · rw [List.length_append]; simp
/-- d[y] = v -/
theorem x_setItem {Q : Unit → Shared → Prop} (hu : A.units + 9 < cLine) (I : Inv X pins σ H s) (hK : Γ.K = X.K) (hw : Γ.w = X.w) (g : Asks Γ H a es ep k y) (hl : es.length < sizeLine) (ry : L2.RelV y u) (rv : L2.RelV v r) (h : ∀ ep' s', Inv X pins σ (upd H a (DX Γ.w a (putE es k y v) ep')) s' → Q () s') :
    wpAny (model X.prog X.w) A (setItem (.ref a) u r) Q E s := by
  obtain ⟨hd, _, _⟩ := dx_of I g.at_
  have mu : Mut (H a) := by rw [g.at_]; exact True.intro
  have hl2 : (putE es k y v).length ≤ sizeLine := by have := putE_len es k y v; omega
  rcases g.two I hK hw with ⟨ks, b, xs, rfl, rfl, is, dd, rel⟩ | ⟨x, vs, rfl, rfl, dd, rel⟩
  · cases (show u = Value.ref b from ry)
    have hz : xs.length ≤ sizeLine := by rw [← Paired.length rel]; omega
    refine wpAny_setItem_heap (hsz := hz) (room_in1 hu) is dd fun h' dd' hs => ?_
    obtain ⟨q, raw, ep', hq, h2, h3, h4, _, _⟩ := dd'
    refine h ep' _ (d_write I mu hs ⟨q, hq⟩ ?_)
    rw [hw]
    refine dx_ok hd hl2 hq h2 h3 ?_
    rw [h4]
    exact relT_raw (relT_put rel rv)
  · obtain ⟨t, rfl⟩ := ry
    have hz : vs.length ≤ sizeLine := by rw [← Paired.length rel]; omega
    refine wpAny_setItem_pairs (knd := strKind X.prog X.w) (k := x) (hsz := hz) (by show Value.isStrOf x (.str x t) = true; simp [Value.isStrOf]) dd fun h' dd' hs => ?_
    obtain ⟨q, raw, ep', hq, h2, h3, h4, h5, _⟩ := dd'
    refine h ep' _ (d_write I mu hs ⟨q, hq⟩ ?_)
    rw [hw]
    refine dx_ok hd hl2 hq h2 h3 ?_
    exact relS_raw (relS_put rel rv) h5 fun q hq => h4 q (by simpa using hq)
/-- len(d) -/
theorem x_len {w : World} {Q : Value → Shared → Prop} (I : Inv X pins σ H s) (g : H a = some (DX w a es ep)) (h : ∀ t s', Inv X pins σ H s' → Q (.int es.length t) s') : wpAny (model X.prog X.w) A (call (.builtin "len") [.ref a]) Q E s := by
  obtain ⟨hd, hl, o, xs, ho, hx, hdt, hp⟩ := dx_of I g
  have e : es.length = xs.size := by rw [Paired.length hp, Array.length_toList]
  have dr : s.heap.DictRaw a xs ep := ⟨o, ho, hx, hdt⟩
  have hl' : xs.size ≤ sizeLine := by omega
  rw [e] at h
  exact PyProof.Rows.call_len_slot (n := xs.size) dr.typeIs PySem.F.slot_dict_len (fun Q' hq => call_len_raw hd dr hq) (by omega) (by rw [sizeLine_eq] at hl'; omega) (h _ _ (I.tok _))
/-- d.clear() -/
theorem x_clear {w : World} {Q : Value → Shared → Prop} (I : Inv X pins σ H s) (hw : w = X.w) (g : H a = some (DX w a es ep)) (h : ∀ ep' s', Inv X pins σ (upd H a (DX w a [] ep')) s' → Q .none s') : wpAny (model X.prog X.w) A (call (.builtin "dict.clear") [.ref a]) Q E s := by
  obtain ⟨hd, hl, o, xs, ho, hx, hdt, hp⟩ := dx_of I g
  have e : es.length = xs.size := by rw [Paired.length hp, Array.length_toList]
  have dr : s.heap.DictRaw a xs ep := ⟨o, ho, hx, hdt⟩
  refine call_meetsIn PySem.F.slot_dict_clear dr.typeIs PySem.F.entry_dict_clear (PySem.F.args_dict_clear_1 _) (meets_dict_clear_raw a) ⟨xs, ep, dr, by omega, fun h' hr' hs => ?_⟩
  obtain ⟨o', ho', hx', hd'⟩ := hr'
  refine h (ep + 1) _ (d_write (t' := s.toks) I (by rw [g]; exact True.intro) hs ⟨o', ho'⟩ ?_)
  subst hw
  exact dx_ok hd (Nat.zero_le _) ho' hx' hd' .nil
end
end TL
end
section
set_option Elab.async false
set_option linter.all false
set_option autoImplicit false
set_option maxRecDepth 100000
set_option maxHeartbeats 4000000
/-! U3: rules of the hand layer as unions over kinds of values -/
namespace TL
open PySem PySem.Spec L2
open PyProof.Rows (subscriptTail)
def tDX (w : World) : TE := fun _ H Q => ∀ p ep, H p = none → Q (.ref p) (upd H p (DX w p [] ep))
def rIxD (Γ : Gm) : R2 := fun x y H Q => ∃ a es ep k v, x = .ref a ∧ Asks Γ H a es ep k y ∧ valE es k = some v ∧ Q v H
def rIxU (Γ : Gm) : R2 := fun x y H Q => rIx Γ.K x y H Q ∨ rIxD Γ x y H Q
def rInD (Γ : Gm) (neg : Bool) : R2 := fun y x H Q => ∃ a es ep k, x = .ref a ∧ Asks Γ H a es ep k y ∧ Q (.bl (if neg then !(valE es k).isSome else (valE es k).isSome)) H
def rInU (Γ : Gm) : R2 := fun x y H Q => rInC x y H Q ∨ rIn Γ.K false x y H Q ∨ rInD Γ false x y H Q
def rNotInU (Γ : Gm) : R2 := fun x y H Q => rNotInC x y H Q ∨ rIn Γ.K true x y H Q ∨ rInD Γ true x y H Q
def rLenU (Γ : Gm) : List V → Hp → VK → Prop := fun vs H Q => rLenV Γ.K vs H Q ∨ ∃ a es ep, vs = [.ref a] ∧ H a = some (DX Γ.w a es ep) ∧ Q (.int es.length) H
def rSetU (Γ : Gm) : TSet := fun o i v H Q => rSetL o i v H Q ∨ ∃ a es ep k, o = .ref a ∧ Asks Γ H a es ep k i ∧ es.length < sizeLine ∧ ∀ ep', Q (upd H a (DX Γ.w a (putE es k i v) ep'))
def tGet1 (Γ : Gm) (td ty : TE) : TE := fun σ H Q => td σ H fun x H1 => ∃ a, x = .ref a ∧ (∃ es ep, H1 a = some (DX Γ.w a es ep)) ∧ ty σ H1 fun y H2 => ∃ es ep k, Asks Γ H2 a es ep k y ∧ Q ((valE es k).getD .non) H2
def tGet2 (Γ : Gm) (td ty tx : TE) : TE := fun σ H Q => td σ H fun x H1 => ∃ a, x = .ref a ∧ (∃ es ep, H1 a = some (DX Γ.w a es ep)) ∧ ty σ H1 fun y H2 => tx σ H2 fun z H3 => ∃ es ep k, Asks Γ H3 a es ep k y ∧ Q ((valE es k).getD z) H3
def tClear (Γ : Gm) (to : TE) : TE := fun σ H Q => to σ H fun x H1 => ∃ a, x = .ref a ∧ ((∃ xs, H1 a = some (.lst xs) ∧ Q .non (upd H1 a (.lst []))) ∨ ∃ es ep, H1 a = some (DX Γ.w a es ep) ∧ ∀ ep', Q .non (upd H1 a (DX Γ.w a [] ep')))
section
variable {Γ : Gm} {X : Cx}
theorem pe_dnewX {pos : Pos} (hw : Γ.w = X.w) : PE X (.Dict [] [] pos) (tDX Γ.w) := ⟨fun pins s σ H Q I h => by
  refine wpAny_Dict_empty ⟨.ref s.heap.objs.size, _, I.laid (a := s.heap.objs.size) (o := DX Γ.w s.heap.objs.size [] 0) (t' := s.toks) (fun _ _ q => Heap.get?_push_of_some _ q) (Nat.le_refl _) ?_, rfl, h _ _ (I.hok.fresh (Nat.le_refl _))⟩
  rw [hw]
  exact dx_ok (beq_eq_false_iff_ne.mpr (Nat.ne_of_gt I.big)) (Nat.zero_le _) (Heap.get?_push_size _ rfl) ⟨rfl, rfl, rfl⟩ rfl .nil⟩
theorem dx_typeIs {pins : List (Addr × Obj)} {σ : St} {H : Hp} {s : Shared} {w : World} {a : Addr} {es : List Ent} {ep : Nat} (I : Inv X pins σ H s) (h : H a = some (DX w a es ep)) : s.TypeIs (.ref a) "dict" := by
  obtain ⟨_, _, o, xs, ho, hx, _⟩ := dx_of I h
  exact ⟨o, ho, hx.1⟩
theorem ix_dx (hu : X.A.units + 9 < cLine) (hK : Γ.K = X.K) (hw : Γ.w = X.w) : IxR X (rIxD Γ) := by
  intro value slice pins s σ H x y v u Q I rx ry h hs
  obtain ⟨a, es, ep, k, z, rfl, g, hv, q⟩ := h
  cases (show v = Value.ref a from rx)
  have hT := dx_typeIs I g.at_
  unfold subscriptTail
  refine wpAny_bind ?_
  rw [getitemInPython_of_ne hT.not_modules]
  refine wpAny_bind (wpAny_specialOf hT PySem.F.slot_dict_getitem.lookup ?_)
  have fin : wpAny (model X.prog X.w) X.A (subscripted slice false (.ref a) u) (fun r s₃ => wpAny (model X.prog X.w) X.A (letTemporaryGo value (.ref a) r >>= fun _ => pure r) (EP X pins σ Q) X.xe s₃) X.xe s := by
    rw [hs]
    exact wpAny_operating (x_getItem hu I hK hw g hv ry fun w' s' I' r' => wpAny_bind (wpAny_letTemporaryGo (wpAny_pure ⟨z, H, I', r', q⟩)))
  first
    | exact wpAny_pure (wpAny_bind fin)
    | exact wpAny_bind (wpAny_pure (wpAny_bind fin))
    | exact wpAny_bind fin
theorem ixU (hu : X.A.units + 9 < cLine) (hK : Γ.K = X.K) (hw : Γ.w = X.w) : IxR X (rIxU Γ) := by
  have h1 : IxR X (rIx Γ.K) := by rw [hK]; exact ix_seq
  exact IxR.or h1 (ix_dx hu hK hw)
theorem op_or {f : Value → Value → Sem Value} {r r' : R2} (h : OpR X f r) (h' : OpR X f r') : OpR X f (fun x y H Q => r x y H Q ∨ r' x y H Q) := by
  intro pins s σ H x y v u Q I rx ry q
  rcases q with q | q
  · exact h pins s σ H x y v u Q I rx ry q
  · exact h' pins s σ H x y v u Q I rx ry q
theorem op_inD (hu : X.A.units + 9 < cLine) (hK : Γ.K = X.K) (hw : Γ.w = X.w) : OpR X (compareOp .In) (rInD Γ false) := by
  intro pins s σ H y x u v Q I ry rx h
  obtain ⟨a, es, ep, k, rfl, g, q⟩ := h
  cases (show v = Value.ref a from rx)
  exact x_in hu I hK hw g ry fun s' I' => ⟨.bl (valE es k).isSome, H, I', rfl, q⟩
theorem op_notInD (hu : X.A.units + 9 < cLine) (hK : Γ.K = X.K) (hw : Γ.w = X.w) : OpR X (compareOp .NotIn) (rInD Γ true) := by
  intro pins s σ H y x u v Q I ry rx h
  obtain ⟨a, es, ep, k, rfl, g, q⟩ := h
  cases (show v = Value.ref a from rx)
  exact x_notIn hu I hK hw g ry fun s' I' => ⟨.bl (!(valE es k).isSome), H, I', rfl, q⟩
theorem opU_in (hu : X.A.units + 9 < cLine) (hK : Γ.K = X.K) (hw : Γ.w = X.w) : OpR X (compareOp .In) (rInU Γ) := by
  have h1 : OpR X (compareOp .In) (rIn Γ.K false) := by rw [hK]; exact op_in_seq
  exact op_or op_in_sign (op_or h1 (op_inD hu hK hw))
theorem opU_notIn (hu : X.A.units + 9 < cLine) (hK : Γ.K = X.K) (hw : Γ.w = X.w) : OpR X (compareOp .NotIn) (rNotInU Γ) := by
  have h1 : OpR X (compareOp .NotIn) (rIn Γ.K true) := by rw [hK]; exact op_notIn_seq
  exact op_or op_notIn_sign (op_or h1 (op_notInD hu hK hw))
theorem lenU (hK : Γ.K = X.K) : CallR X (.builtin "len") (rLenU Γ) := by
  intro pins s σ H xs us Q I r h
  rcases h with h | ⟨a, es, ep, rfl, g, q⟩
  · exact call_len pins s σ H xs us Q I r (by rw [← hK]; exact h)
  · obtain ⟨u, rfl, rx⟩ := vals1 r
    cases (show u = Value.ref a from rx)
    exact x_len I g fun t s' I' => ⟨.int es.length, H, I', ⟨t, rfl⟩, q⟩
theorem setU (hu : X.A.units + 9 < cLine) (hK : Γ.K = X.K) (hw : Γ.w = X.w) : PSet X (rSetU Γ) := by
  intro pins s σ H o i v ov iv u Q I ro ri rv h
  rcases h with h | ⟨a, es, ep, k, rfl, g, hl, q⟩
  · exact set_list pins s σ H o i v ov iv u Q I ro ri rv h
  · cases (show ov = Value.ref a from ro)
    exact x_setItem hu I hK hw g hl ri rv fun ep' s' I' => ⟨_, I', q ep'⟩
theorem x_get1 {pins : List (Addr × Obj)} {σ : St} {H : Hp} {s : Shared} {a : Addr} {es : List Ent} {ep : Nat} {k : NestedKey} {y : V} {u : Value} {Q : Value → Shared → Prop} {E : Value → Shared → Prop} {A : Around} (hu : A.units + 9 < cLine) (I : Inv X pins σ H s) (hK : Γ.K = X.K) (hw : Γ.w = X.w) (g : Asks Γ H a es ep k y) (ry : L2.RelV y u) (h : ∀ w' s', Inv X pins σ H s' → L2.RelV ((valE es k).getD .non) w' → Q w' s') :
    wpAny (model X.prog X.w) A (call (.builtin "dict.get") [.ref a, u]) Q E s := by
  have hd := (dx_of I g.at_).1
  rcases g.two I hK hw with ⟨ks, b, xs, rfl, rfl, is, dd, rel⟩ | ⟨x, vs, rfl, rfl, dd, rel⟩
  · cases (show u = Value.ref b from ry)
    refine get_keyed (room_in1 hu) is hd ⟨xs, dd, rfl⟩ ?_
    refine h _ _ (I.tok _) ?_
    rw [valueAt_pairsH]
    exact (relT_val rel _).getD (d := .non) (d' := .none) rfl
  · obtain ⟨t, rfl⟩ := ry
    exact call_meetsIn PySem.F.slot_dict_get dd.typeIs PySem.F.entry_dict_get (PySem.F.args_dict_get_2 _ _) (meets_dict_get (strKind X.prog X.w) a (show (strKind X.prog X.w).is x (.str x t) = true by show Value.isStrOf x (.str x t) = true; simp [Value.isStrOf]) hd) ⟨_, dd.mapOf, h _ _ (I.tok _) ((relS_val rel _).getD (d := .non) (d' := .none) rfl)⟩
end
end TL
end
section
set_option Elab.async false
set_option linter.all false
set_option autoImplicit false
set_option maxRecDepth 100000
set_option maxHeartbeats 4000000
/-! U4: dicts: get, clear, walks, list(d); isinstance -/
namespace TL
open PySem PySem.Spec L2
def Itx (w : World) (d : Addr) (es : List Ent) (ep : Nat) : It :=
  ⟨fun i H => H d = some (DX w d es ep) ∧ i < es.length, fun i H x H' => H' = H ∧ ∃ e, es[i]? = some e ∧ x = e.2.1, fun i H => H d = some (DX w d es ep) ∧ es.length ≤ i⟩
theorem pr_get2 {α β : Type} {R : α → β → Prop} {l : List α} {m : List β} {i : Nat} {a : α} (h : Paired R l m) (e : l[i]? = some a) : ∃ b, m[i]? = some b ∧ R a b := pr_get h e
theorem turn_dx {P : Program} {w : World} {K : PySem.W.Frag} {tg : Expr} {d : Addr} {es : List Ent} {ep : Nat} (it : Addr) : Turn P w K tg (Itx w d es ep) [it] it (fun i h => h.IsKeyIter it d i es.length ep) where
  mem := by simp
  obj := fun i h st b hb => by
    have e : b = it := by simpa using hb
    subst e
    obtain ⟨oi, e, c, dd⟩ := st
    exact ⟨oi, e, fun v z => by rw [dd] at z; cases z⟩
  keep := fun i h h' st k => st.at fun oi e => k it (by simp) oi e
  item := by
    intro X hP hw hK hc i pins s σ H E I hf st hg
    subst hP hw hK
    obtain ⟨hd, hi⟩ := hg
    obtain ⟨f0, f1, f2, f3, f4, f5⟩ := hf it (by simp)
    obtain ⟨_, _, o, xs, ho, hx, hdt, hp⟩ := dx_of I hd
    have hl : es.length = xs.size := by rw [Paired.length hp, Array.length_toList]
    obtain ⟨en, hen, _, hkey, _⟩ := pr_get hp (List.getElem?_eq_getElem hi)
    refine next_key_item st ho hdt hl.symm (by rw [← Array.getElem?_toList]; exact hen) fun h' st' sb => ?_
    have I1 : Inv X pins σ H { s with heap := h' } := I.turned (t' := s.toks) (fun b ob hb e => (sb.2 b hb).trans e) f0 f1 f3 f4 f5
    obtain ⟨oi, e, c, dd⟩ := id st'
    exact ⟨en.key, rfl, go_of (s := { s with heap := h' }) e c dd (by decide) ⟨_, H, I1, hkey, ⟨rfl, _, List.getElem?_eq_getElem hi, rfl⟩, st', fun b hb => (hf b hb).1⟩⟩
  done := by
    intro X hP hw hK hc i pins s σ H E I hf st hg
    subst hP hw hK
    obtain ⟨hd, hi⟩ := hg
    obtain ⟨f0, f1, f2, f3, f4, f5⟩ := hf it (by simp)
    obtain ⟨_, _, o, xs, ho, hx, hdt, hp⟩ := dx_of I hd
    have hl : es.length = xs.size := by rw [Paired.length hp, Array.length_toList]
    exact next_key_end (I.ok.hd hc) st ho hdt hl.symm hi fun h' eb => ⟨rfl, I.turned (t' := s.toks) (fun b ob hb e => eb b ob hb e) f0 f1 f3 f4 f5⟩
  self := fun A i s Q E st h => by
    refine wpAny_pyIter_slot st.typeIs F.slot_dict_keyiterator_iter (wpAny_call_entry F.slot_dict_keyiterator_iter st.typeIs F.entry_dict_keyiterator_iter ?_ (F.args_dict_keyiterator_iter_1 _))
    show wpAny _ _ (ret (.ref it)) _ _ s
    exact wpAny_pure ⟨_, rfl, "dict_keyiterator", _, st.typeIs, F.slot_dict_keyiterator_next.lookup, h⟩
def iU (Γ : Gm) (te : TE) : TI := fun σ H R => te σ H fun x H1 => (∃ z, x = .str z ∧ R (Its z) H1) ∨ ∃ a, x = .ref a ∧ (((∃ xs, SqL Γ.K H1 a xs) ∧ R (Itl Γ.K a) H1) ∨ ((∃ xs, SqT Γ.K H1 a xs) ∧ R (Itt Γ.K a) H1) ∨ ∃ es ep, H1 a = some (DX Γ.w a es ep) ∧ R (Itx Γ.w a es ep) H1)
section
variable {Γ : Gm} {X : Cx}
theorem piU {tg e : Expr} {te : TE} (hK : Γ.K = X.K) (hw : Γ.w = X.w) (he : PE X e te) : PI X tg e (iU Γ te) := by
  refine ⟨fun pins s σ H R I h => ?_⟩
  refine thn (he.run pins s σ H _ I h) fun v s1 ⟨y, H1, I1, r1, q1⟩ => ?_
  rcases q1 with ⟨x, rfl, q⟩ | ⟨a, rfl, q1⟩
  · obtain ⟨t, rfl⟩ := r1
    cases ha : x.cps.all (· < 128)
    · exact wpAny_pyIter_wide ha (pi_one (tk := s1.toks) I1 _ (turn_str _ x t "str_iterator" (.inr rfl)) ⟨_, Heap.get?_push_size _ rfl, rfl, rfl⟩ q)
    · exact wpAny_pyIter_ascii ha (pi_one (tk := s1.toks) I1 _ (turn_str _ x t "str_ascii_iterator" (.inl rfl)) ⟨_, Heap.get?_push_size _ rfl, rfl, rfl⟩ q)
  · cases r1
    rw [hK, hw] at q1
    rcases q1 with ⟨⟨xs, hq⟩, q⟩ | ⟨⟨xs, hq⟩, q⟩ | ⟨es, ep, hd, q⟩
    · obtain ⟨its, rv, p, hz⟩ := I1.list hq
      exact wpAny_pyIter_list p.isList (pi_one (tk := s1.toks) I1 _ (turn_list a _) ⟨_, Heap.get?_push_size _ rfl, rfl, rfl⟩ q)
    · obtain ⟨its, rv, p, hz⟩ := I1.tuple hq
      exact wpAny_pyIter_tuple (show s1.heap.IsTuple a its.toArray from p) (pi_one (tk := s1.toks) I1 _ (turn_tuple a _) ⟨_, Heap.get?_push_size _ rfl, rfl, rfl⟩ q)
    · obtain ⟨hs, _, o, xs, ho, hx, hdt, hp⟩ := dx_of I1 hd
      have hl : es.length = xs.size := by rw [Paired.length hp, Array.length_toList]
      refine iter_keys hs ho hx hdt (pi_one (tk := s1.toks) I1 _ (turn_dx _) ⟨_, Heap.get?_push_size _ rfl, rfl, ?_⟩ q)
      rw [hl]; rfl
theorem pe_get1U {o e : Expr} {apos cpos : Pos} {td ty : TE} (hu : X.A.units + 9 < cLine) (hK : Γ.K = X.K) (hw : Γ.w = X.w) (ho : PE X o td) (he : PE X e ty) (m : M1 X o "get" apos e cpos) : PE X (.Call (.Attribute o "get" apos) [e] [] cpos) (tGet1 Γ td ty) := by
  refine ⟨fun pins s σ H Q I h => ?_⟩
  refine wpAny_Call_method m.base m.few m.line PySem.F.plainAttrs_dict PySem.F.slot_dict_get PySem.F.type_dict_get (thn (ho.run pins s σ H _ I h) fun u s1 ⟨x, H1, I1, rx, a, ex, ⟨es, ep, d⟩, q1⟩ => ?_)
  subst ex
  obtain rfl : u = Value.ref a := rx
  obtain ⟨_, _, ob, xs, hob, hx, _⟩ := dx_of I1 d
  refine ⟨dx_typeIs I1 d, fun b q => by cases q; exact ⟨ob, hob, hx.2.1⟩, ?_⟩
  rw [m.trees]
  refine Calls.callWith_builtin rfl (Calls.evalArgs_plain (Calls.spliced_cons (thn (he.run pins s1 σ H1 _ I1 q1) fun iv s2 ⟨y, H2, I2, ry, es2, ep2, k, g, q2⟩ => Calls.spliced_nil ?_)))
  exact x_get1 hu I2 hK hw g ry fun w' s3 I3 rw' => ⟨_, H2, I3, rw', q2⟩
theorem x_get2 {pins : List (Addr × Obj)} {σ : St} {H : Hp} {s : Shared} {a : Addr} {es : List Ent} {ep : Nat} {k : NestedKey} {y d : V} {u r : Value} {Q : Value → Shared → Prop} {E : Value → Shared → Prop} {A : Around} (hu : A.units + 9 < cLine) (I : Inv X pins σ H s) (hK : Γ.K = X.K) (hw : Γ.w = X.w) (g : Asks Γ H a es ep k y) (ry : L2.RelV y u) (rd : L2.RelV d r) (h : ∀ w' s', Inv X pins σ H s' → L2.RelV ((valE es k).getD d) w' → Q w' s') :
    wpAny (model X.prog X.w) A (call (.builtin "dict.get") [.ref a, u, r]) Q E s := by
  have hd := (dx_of I g.at_).1
  rcases g.two I hK hw with ⟨ks, b, xs, rfl, rfl, is, dd, rel⟩ | ⟨x, vs, rfl, rfl, dd, rel⟩
  · cases (show u = Value.ref b from ry)
    refine getOr_keyed (room_in1 hu) is hd ⟨xs, dd, rfl⟩ ?_
    refine h _ _ (I.tok _) ?_
    rw [valueAt_pairsH]
    exact (relT_val rel _).getD rd
  · obtain ⟨t, rfl⟩ := ry
    exact call_meetsIn PySem.F.slot_dict_get dd.typeIs PySem.F.entry_dict_get (PySem.F.args_dict_get_3 _ _ _) (meets_dict_get_default (strKind X.prog X.w) a (show (strKind X.prog X.w).is x (.str x t) = true by show Value.isStrOf x (.str x t) = true; simp [Value.isStrOf]) hd r) ⟨_, dd.mapOf, h _ _ (I.tok _) ((relS_val rel _).getD rd)⟩
theorem pe_get2U {o e f : Expr} {apos cpos : Pos} {td ty tx : TE} (hu : X.A.units + 9 < cLine) (hK : Γ.K = X.K) (hw : Γ.w = X.w) (ho : PE X o td) (he : PE X e ty) (hf : PE X f tx) (m : M2 X o "get" apos e f cpos) : PE X (.Call (.Attribute o "get" apos) [e, f] [] cpos) (tGet2 Γ td ty tx) := by
  refine ⟨fun pins s σ H Q I h => ?_⟩
  refine wpAny_Call_method m.base m.few m.line PySem.F.plainAttrs_dict PySem.F.slot_dict_get PySem.F.type_dict_get (thn (ho.run pins s σ H _ I h) fun u s1 ⟨x, H1, I1, rx, a, ex, ⟨es, ep, d⟩, q1⟩ => ?_)
  subst ex
  obtain rfl : u = Value.ref a := rx
  obtain ⟨_, _, ob, xs, hob, hx, _⟩ := dx_of I1 d
  refine ⟨dx_typeIs I1 d, fun b q => by cases q; exact ⟨ob, hob, hx.2.1⟩, ?_⟩
  rw [m.trees]
  refine Calls.callWith_builtin rfl (Calls.evalArgs_plain (Calls.spliced_cons (thn (he.run pins s1 σ H1 _ I1 q1) fun iv s2 ⟨y, H2, I2, ry, q2⟩ =>
    Calls.spliced_cons (thn (hf.run pins s2 σ H2 _ I2 q2) fun fv s3 ⟨z, H3, I3, rz, es2, ep2, k, g, q3⟩ => Calls.spliced_nil ?_))))
  exact x_get2 hu I3 hK hw g ry rz fun w' s4 I4 rw' => ⟨_, H3, I4, rw', q3⟩
theorem pe_clearU {o : Expr} {to : TE} {apos cpos : Pos} (hw : Γ.w = X.w) (ho : PE X o to) (hbase : attributeBase o "clear" X.env (eval o X.env) = eval o X.env := by rfl) (hline : (apos.endLine == cpos.line) = true := by rfl) : PE X (.Call (.Attribute o "clear" apos) [] [] cpos) (tClear Γ to) := by
  refine ⟨fun pins s σ H Q I h => ?_⟩
  refine wpAny_Call_method0_late hbase hline (thn (ho.run pins s σ H _ I h) fun v s1 ⟨x, H1, I1, r1, a, ex, q1⟩ => ?_)
  subst ex
  cases (show v = Value.ref a from r1)
  rcases q1 with ⟨xs, e, q⟩ | ⟨es, ep, e, q⟩
  · obtain ⟨h1, h2⟩ := tyV_is (X := X) I1 (x := .ref a) (T := "list") rfl (.inl ⟨rfl, xs, sqL e⟩)
    exact ⟨"list", _, PySem.F.plainAttrs_list, PySem.F.slot_list_clear, PySem.F.type_list_clear, h1, h2, Calls.callWith_builtin rfl (PySem.evalArgs_none (mt_clear pins s1 σ H1 (.ref a) [] (.ref a) [] Q I1 rfl .nil ⟨a, xs, rfl, rfl, e, q⟩))⟩
  · obtain ⟨_, _, ob, raw, hob, hx, _⟩ := dx_of I1 e
    exact ⟨"dict", _, PySem.F.plainAttrs_dict, PySem.F.slot_dict_clear, PySem.F.type_dict_clear, dx_typeIs I1 e, fun b q => by cases q; exact ⟨ob, hob, hx.2.1⟩, Calls.callWith_builtin rfl (PySem.evalArgs_none (x_clear I1 hw e fun ep' s' I' => ⟨.non, _, I', rfl, q ep'⟩))⟩
/-- list(d) -/
theorem call_list_dx (hc : X.calm = true) : CallR X (.type "list") (fun xs H Q => ∃ d es ep, xs = [V.ref d] ∧ H d = some (DX Γ.w d es ep) ∧ ∀ p, H p = none → Q (.ref p) (upd H p (.lst (es.map (·.2.1))))) := by
  intro pins s σ H xs us Q I r h
  obtain ⟨d, es, ep, rfl, hd, q⟩ := h
  obtain ⟨u, rfl, rx⟩ := r.one
  cases rx
  obtain ⟨hs, hl, o, raw, ho, hx, hdt, hp⟩ := dx_of I hd
  have l1 : es.length = raw.size := by rw [Paired.length hp, Array.length_toList]
  refine PySem.W.kdl_call (KdlSrc.rawDict (es := raw) (ep := ep) hs) (I.ok.hd hc) ⟨o, ho, hx, hdt⟩ (by omega) fun h' tk acc' c' kp e it => ?_
  have va : Vals (es.map (·.2.1)) acc'.toList := by
    have hl2 : acc'.toList.length = es.length := by rw [Array.length_toList, it.1]; omega
    have gen : ∀ {xs : List V} {us : List Value}, xs.length = us.length → (∀ (i : Nat) (x : V), xs[i]? = some x → ∃ u, us[i]? = some u ∧ L2.RelV x u) → Vals xs us := by
      intro xs
      induction xs with
      | nil => intro us hl _; cases us with
        | nil => exact .nil
        | cons _ _ => simp at hl
      | cons x xs ih =>
        intro us hl h
        cases us with
        | nil => simp at hl
        | cons u us =>
          obtain ⟨u', e, r⟩ := h 0 x rfl
          cases e
          exact .cons r (ih (by simpa using hl) fun i x hx => by simpa using h (i + 1) x (by simpa using hx))
    refine gen (by simp [hl2]) fun i x hx => ?_
    rw [List.getElem?_map] at hx
    cases he : es[i]? with
    | none => rw [he] at hx; cases hx
    | some en =>
      rw [he] at hx
      cases hx
      obtain ⟨q1, q2, q3, q4, _⟩ := pr_get hp he
      obtain ⟨hi, _⟩ := List.getElem?_eq_some_iff.mp he
      have hai : i < acc'.size := by rw [it.1]; omega
      obtain ⟨hi2, hv⟩ := it.2 i acc'[i] (Array.getElem?_eq_getElem hai)
      refine ⟨acc'[i], by rw [Array.getElem?_toList]; exact Array.getElem?_eq_getElem hai, ?_⟩
      rw [hv]
      rw [Array.getElem?_toList, Array.getElem?_eq_getElem hi2] at q2
      cases q2
      exact q4
  exact ⟨.ref s.heap.objs.size, _, I.laid (a := s.heap.objs.size) (o := .lst (es.map (·.2.1))) (t' := tk) kp (Nat.le_refl _) ⟨by simpa using hl, acc'.toList, c', va, by simpa using e⟩, rfl, q _ (I.hok.fresh (Nat.le_refl _))⟩
end
end TL
end
section
set_option Elab.async false
set_option linter.all false
set_option autoImplicit false
set_option maxRecDepth 100000
set_option maxHeartbeats 4000000
/-! S12: operators over trees -/
namespace TL
open PySem PySem.Spec L2
theorem szL_eq : szL = sizeLine := by rw [sizeLine_eq]; rfl
def rEqU (Γ : Gm) : R2 := fun x y H Q => rEq x y H Q ∨ rEqD Γ.K x y H Q
def rNeU (Γ : Gm) : R2 := fun x y H Q => rNe x y H Q ∨ rNeD Γ.K x y H Q
def rAddU : R2 := fun x y H Q => rI0 (fun i j => .int (i + j)) x y H Q ∨ rAddS x y H Q
section
variable {Γ : Gm} {X : Cx}
theorem opU_eq (hK : Γ.K = X.K) (hu : X.A.units + 64 < cLine) : OpR X (compareOp .Eq) (rEqU Γ) := by
  have h1 : OpR X (compareOp .Eq) (rEqD Γ.K) := by rw [hK]; exact op_eqD hu
  exact op_or op_eq h1
theorem opU_ne (hK : Γ.K = X.K) (hu : X.A.units + 64 < cLine) : OpR X (compareOp .NotEq) (rNeU Γ) := by
  have h1 : OpR X (compareOp .NotEq) (rNeD Γ.K) := by rw [hK]; exact op_neD hu
  exact op_or op_ne h1
theorem opU_add : OpR X (binaryOp .Add) rAddU := op_or op_add op_add_str
end
mutual
def toData : T → PyData
  | .non => .none
  | .bl b => .bool b
  | .int i => .int i
  | .str x => .str x
  | .tup xs => .tuple (toDatas xs)
  | .lst xs => .list (toDatas xs)
  | .dct _ => .none
  | .set _ => .none
  | .ins _ _ => .none
def toDatas : List T → List PyData
  | [] => []
  | x :: xs => toData x :: toDatas xs
end
section
variable {Γ : Gm}
mutual
theorem dp_of {F H : Hp} : ∀ (t : T) {v : V}, plain t = true → Rep Γ F H t v → Dp Γ.K H v (toData t)
  | .non, v, _, h => by cases h; exact .non
  | .bl b, v, _, h => by cases h; exact .bl b
  | .int b, v, _, h => by cases h; exact .int b
  | .str b, v, _, h => by cases h; exact .str b
  | .tup xs, v, hp, h => by
    obtain ⟨a, vs, rfl, h1, h2⟩ := h
    exact .tup h1 (dp_all xs hp h2)
  | .lst xs, v, hp, h => by
    obtain ⟨a, vs, rfl, h1, h2⟩ := h
    exact .lst h1 (dp_all xs hp h2)
  | .dct _, v, hp, _ => by cases hp
  | .set _, v, hp, _ => by cases hp
  | .ins _ _, v, hp, _ => by cases hp
theorem dp_all {F H : Hp} : ∀ (ts : List T) {vs : List V}, plains ts = true → RepL Γ F H ts vs → DpAll Γ.K H vs (toDatas ts)
  | [], vs, _, h => by cases h; exact .nil
  | t :: ts, vs, hp, h => by
    obtain ⟨v, r, rfl, h1, h2⟩ := h
    simp only [plains, Bool.and_eq_true] at hp
    exact .cons (dp_of t hp.1 h1) (dp_all ts hp.2 h2)
end
mutual
theorem canLay_of : ∀ (t : T), plain t = true → (toData t).canLay0 = true
  | .non, _ => rfl
  | .bl _, _ => rfl
  | .int _, _ => rfl
  | .str x, h => h
  | .tup xs, h => canLay_all xs h
  | .lst xs, h => canLay_all xs h
  | .dct _, h => by cases h
  | .set _, h => by cases h
  | .ins _ _, h => by cases h
theorem canLay_all : ∀ (ts : List T), plains ts = true → PyData.canLayAll0 (toDatas ts) = true
  | [], _ => rfl
  | t :: ts, h => by
    simp only [plains, Bool.and_eq_true] at h
    simp only [toDatas, PyData.canLayAll0, canLay_of t h.1, canLay_all ts h.2, Bool.and_self]
end
mutual
theorem depth_of : ∀ (t : T), (toData t).depth = dep t
  | .non => rfl
  | .bl _ => rfl
  | .int _ => rfl
  | .str _ => rfl
  | .tup xs => by simp only [toData, PyData.depth, dep, depth_all xs]
  | .lst xs => by simp only [toData, PyData.depth, dep, depth_all xs]
  | .dct _ => rfl
  | .set _ => rfl
  | .ins _ _ => rfl
theorem depth_all : ∀ (ts : List T), PyData.depthAll (toDatas ts) = deps ts
  | [] => rfl
  | t :: ts => by simp only [toDatas, PyData.depthAll, deps, depth_of t, depth_all ts]
end
mutual
theorem eqv_of : ∀ (x y : T), plain x = true → plain y = true → PyData.eqv (toData x) (toData y) = tEq x y
  | .non, y, _, hy => by cases y <;> first | rfl | cases hy
  | .bl b, y, _, hy => by cases y <;> first | rfl | cases hy
  | .int b, y, _, hy => by cases y <;> first | rfl | cases hy
  | .str b, y, _, hy => by cases y <;> first | rfl | cases hy
  | .tup xs, y, hx, hy => by
    cases y with
    | tup ys => simp only [toData, PyData.eqv, tEq]; exact eqv_all xs ys hx hy
    | _ => first | rfl | cases hy
  | .lst xs, y, hx, hy => by
    cases y with
    | lst ys => simp only [toData, PyData.eqv, tEq]; exact eqv_all xs ys hx hy
    | _ => first | rfl | cases hy
  | .dct _, y, hx, _ => by cases hx
  | .set _, y, hx, _ => by cases hx
  | .ins _ _, y, hx, _ => by cases hx
theorem eqv_all : ∀ (xs ys : List T), plains xs = true → plains ys = true → PyData.eqvAll (toDatas xs) (toDatas ys) = tEqs xs ys
  | [], [], _, _ => rfl
  | [], _ :: _, _, _ => rfl
  | _ :: _, [], _, _ => rfl
  | x :: xs, y :: ys, hx, hy => by
    simp only [plains, Bool.and_eq_true] at hx hy
    simp only [toDatas, PyData.eqvAll, tEqs, eqv_of x y hx.1 hy.1, eqv_all xs ys hx.2 hy.2]
end
theorem shaped_of {t : T} (h : eqOk t = true) : SeqAt.shaped (toData t) = true := by
  simp only [eqOk, Bool.and_eq_true, decide_eq_true_eq] at h
  simp only [SeqAt.shaped, canLay_of t h.1, Bool.true_and, decide_eq_true_eq, depth_of]
  omega
theorem eqOk_plain {t : T} (h : eqOk t = true) : plain t = true := by
  simp only [eqOk, Bool.and_eq_true] at h
  exact h.1
/-- scalars -/
theorem scal_of {F H : Hp} {x y : T} {vx vy : V} (h : scP x y = true) (hx : Rep Γ F H x vx) (hy : Rep Γ F H y vy) : scal vx vy = true ∧ decide (vx = vy) = tEq x y := by
  cases x with
  | non =>
    cases hx
    cases y with
    | non => cases hy; exact ⟨rfl, rfl⟩
    | bl b => cases hy; exact ⟨rfl, rfl⟩
    | int b => cases hy; exact ⟨rfl, rfl⟩
    | str b => cases hy; exact ⟨rfl, rfl⟩
    | _ => cases h
  | bl a =>
    cases hx
    cases y with
    | non => cases hy; exact ⟨rfl, rfl⟩
    | bl b => cases hy; exact ⟨rfl, by cases a <;> cases b <;> rfl⟩
    | int b => cases h
    | str b => cases hy; exact ⟨rfl, rfl⟩
    | _ => cases h
  | int a =>
    cases hx
    cases y with
    | non => cases hy; exact ⟨rfl, rfl⟩
    | bl b => cases h
    | int b => cases hy; exact ⟨rfl, by rw [dec_int]; rfl⟩
    | str b => cases hy; exact ⟨rfl, rfl⟩
    | _ => cases h
  | str a =>
    cases hx
    cases y with
    | non => cases hy; exact ⟨rfl, rfl⟩
    | bl b => cases hy; exact ⟨rfl, rfl⟩
    | int b => cases hy; exact ⟨rfl, rfl⟩
    | str b =>
      cases hy
      refine ⟨rfl, ?_⟩
      show _ = (a == b)
      by_cases e : a = b
      · subst e; simp
      · have : ¬ V.str a = V.str b := fun q => e (by injection q)
        rw [decide_eq_false this]
        exact (beq_eq_false_iff_ne.mpr e).symm
    | _ => cases h
  | _ => cases y <;> cases h
theorem opS_eq : OpS Γ (rEqU Γ) oEq := by
  intro F H x y w vx vy Q hx hy hf hq
  unfold oEq at hf
  split at hf
  · rename_i hc
    cases hf
    have q := hq _ Rep0.bl
    unfold cmpOk at hc
    rw [Bool.or_eq_true] at hc
    rcases hc with hc | hc
    · obtain ⟨h1, h2⟩ := scal_of hc hx hy
      exact .inl ⟨h1, by rw [h2]; exact q⟩
    · rw [Bool.and_eq_true] at hc
      exact .inr ⟨_, _, dp_of x (eqOk_plain hc.1) hx, dp_of y (eqOk_plain hc.2) hy, shaped_of hc.1, shaped_of hc.2, by rw [eqv_of x y (eqOk_plain hc.1) (eqOk_plain hc.2)]; exact q⟩
  · cases hf
theorem opS_ne : OpS Γ (rNeU Γ) oNe := by
  intro F H x y w vx vy Q hx hy hf hq
  unfold oNe at hf
  split at hf
  · rename_i hc
    cases hf
    have q := hq _ Rep0.bl
    unfold cmpOk at hc
    rw [Bool.or_eq_true] at hc
    rcases hc with hc | hc
    · obtain ⟨h1, h2⟩ := scal_of hc hx hy
      exact .inl ⟨h1, by rw [h2]; exact q⟩
    · rw [Bool.and_eq_true] at hc
      exact .inr ⟨_, _, dp_of x (eqOk_plain hc.1) hx, dp_of y (eqOk_plain hc.2) hy, shaped_of hc.1, shaped_of hc.2, by rw [eqv_of x y (eqOk_plain hc.1) (eqOk_plain hc.2)]; exact q⟩
  · cases hf
/-! ### numbers -/
theorem opS_I0 {g : Int → Int → V} {f : Int → Int → Option T} (h : ∀ i j, ∃ w, f i j = some w ∧ Rep0 Γ w (g i j)) : OpS Γ (rI0 g) (oI f) := by
  intro F H x y w vx vy Q hx hy hf hq
  cases x with
  | int i =>
    cases y with
    | int j =>
      cases hx; cases hy
      obtain ⟨w', e, r⟩ := h i j
      have hf : f i j = some w := hf
      rw [e] at hf; cases hf
      exact ⟨i, j, rfl, rfl, hq _ r⟩
    | _ => cases hf
  | _ => cases hf
theorem opS_I {C : Int → Int → Prop} {g : Int → Int → V} {f : Int → Int → Option T} (h : ∀ i j w, f i j = some w → C i j ∧ Rep0 Γ w (g i j)) : OpS Γ (rI C g) (oI f) := by
  intro F H x y w vx vy Q hx hy hf hq
  cases x with
  | int i =>
    cases y with
    | int j =>
      cases hx; cases hy
      obtain ⟨c, r⟩ := h i j w hf
      exact ⟨i, j, rfl, rfl, c, hq _ r⟩
    | _ => cases hf
  | _ => cases hf
theorem opS_sub : OpS Γ (rI0 fun i j => .int (i - j)) oSub := opS_I0 fun i j => ⟨_, rfl, rfl⟩
theorem opS_lt : OpS Γ (rI0 fun i j => .bl (decide (i < j))) oLt := opS_I0 fun i j => ⟨_, rfl, rfl⟩
theorem opS_le : OpS Γ (rI0 fun i j => .bl (decide (i ≤ j))) oLe := opS_I0 fun i j => ⟨_, rfl, rfl⟩
theorem opS_gt : OpS Γ (rI0 fun i j => .bl (decide (j < i))) oGt := opS_I0 fun i j => ⟨_, rfl, rfl⟩
theorem opS_ge : OpS Γ (rI0 fun i j => .bl (decide (j ≤ i))) oGe := opS_I0 fun i j => ⟨_, rfl, rfl⟩
theorem ite_some {c : Prop} [Decidable c] {a w : T} (h : (if c then some a else none) = some w) : c ∧ w = a := by
  split at h
  · cases h; exact ⟨‹_›, rfl⟩
  · cases h
theorem opS_mul : OpS Γ (rI CMul fun i j => .int (i * j)) oMul := opS_I fun i j w h => by
  obtain ⟨c, rfl⟩ := ite_some h
  exact ⟨c, rfl⟩
theorem opS_div : OpS Γ (rI CDiv fun i j => .int (i / j)) oDiv := opS_I fun i j w h => by
  obtain ⟨c, rfl⟩ := ite_some h
  exact ⟨c, rfl⟩
theorem opS_mod : OpS Γ (rI (fun _ j => 0 < j) fun i j => .int (i % j)) oMod := opS_I fun i j w h => by
  obtain ⟨c, rfl⟩ := ite_some h
  exact ⟨c, rfl⟩
theorem opS_pow : OpS Γ (rI CPow fun i j => .int (i ^ j.toNat)) oPow := opS_I fun i j w h => by
  obtain ⟨c, rfl⟩ := ite_some h
  exact ⟨c, rfl⟩
theorem opS_add : OpS Γ rAddU oAdd := by
  intro F H x y w vx vy Q hx hy hf hq
  cases x with
  | int i =>
    cases y with
    | int j => cases hx; cases hy; cases hf; exact .inl ⟨i, j, rfl, rfl, hq _ rfl⟩
    | _ => cases hf
  | str i =>
    cases y with
    | str j =>
      cases hx; cases hy
      obtain ⟨c, rfl⟩ := ite_some hf
      exact .inr ⟨i, j, rfl, rfl, by rw [← szL_eq]; exact c, hq _ rfl⟩
    | _ => cases hf
  | _ => cases hf
theorem isNon_of {F H : Hp} {x : T} {v : V} (h : Rep Γ F H x v) : decide (v = .non) = isNon x := by
  cases x with
  | non => cases h; rfl
  | bl _ => cases h; rfl
  | int _ => cases h; rfl
  | str _ => cases h; rfl
  | tup _ => obtain ⟨a, vs, rfl, _⟩ := h; rfl
  | lst _ => obtain ⟨a, vs, rfl, _⟩ := h; rfl
  | dct _ => obtain ⟨a, vs, ep, rfl, _⟩ := h; rfl
  | set _ => exact (show False from h).elim
  | ins _ _ => obtain ⟨a, vs, fv, rfl, _⟩ := h; rfl
theorem isNon_v {F H : Hp} {y : T} {v : V} (e : isNon y = true) (h : Rep Γ F H y v) : v = .non := by
  cases y with
  | non => exact h
  | _ => cases e
theorem opS_isN : OpS Γ rIsN oIsN := by
  intro F H x y w vx vy Q hx hy hf hq
  obtain ⟨c, rfl⟩ := ite_some hf
  exact ⟨isNon_v c hy, by rw [isNon_of hx]; exact hq _ rfl⟩
theorem opS_notN : OpS Γ rNotN oNotN := by
  intro F H x y w vx vy Q hx hy hf hq
  obtain ⟨c, rfl⟩ := ite_some hf
  exact ⟨isNon_v c hy, by rw [isNon_of hx]; exact hq _ rfl⟩
end
end TL
end
section
set_option Elab.async false
set_option linter.all false
set_option autoImplicit false
set_option maxRecDepth 100000
set_option maxHeartbeats 4000000
/-! S13: keys, in, subscripts, len -/
namespace TL
open PySem PySem.Spec L2
section
variable {Γ : Gm}
mutual
theorem key_ok : ∀ (t : T), isKey t = true → ∃ k, keyOf t = some k ∧ k.depth = dep t
  | .non, _ => ⟨_, rfl, rfl⟩
  | .bl _, _ => ⟨_, rfl, rfl⟩
  | .int _, _ => ⟨_, rfl, rfl⟩
  | .str _, _ => ⟨_, rfl, rfl⟩
  | .tup xs, h => by
    obtain ⟨ks, e1, e2⟩ := keys_ok xs h
    exact ⟨.tup ks, by simp only [keyOf, e1]; rfl, by simp only [NestedKey.depth, dep, e2]⟩
  | .lst _, h => by cases h
  | .dct _, h => by cases h
  | .set _, h => by cases h
  | .ins _ _, h => by cases h
theorem keys_ok : ∀ (ts : List T), isKeys ts = true → ∃ ks, keysOf ts = some ks ∧ NestedKey.depthAll ks = deps ts
  | [], _ => ⟨[], rfl, rfl⟩
  | t :: ts, h => by
    simp only [isKeys, Bool.and_eq_true] at h
    obtain ⟨k, e1, e2⟩ := key_ok t h.1
    obtain ⟨ks, e3, e4⟩ := keys_ok ts h.2
    exact ⟨k :: ks, by simp only [keysOf, e1, e3], by simp only [NestedKey.depthAll, deps, e2, e4]⟩
end
theorem key_tup {xs : List T} {k : NestedKey} (h : keyOf (.tup xs) = some k) : ∃ ks, k = .tup ks ∧ keysOf xs = some ks := by
  simp only [keyOf] at h
  cases e : keysOf xs with
  | none => rw [e] at h; cases h
  | some ks => rw [e] at h; cases h; exact ⟨ks, rfl, rfl⟩
theorem keys_cons {x : T} {xs : List T} {ks : List NestedKey} (h : keysOf (x :: xs) = some ks) : ∃ k r, ks = k :: r ∧ keyOf x = some k ∧ keysOf xs = some r := by
  simp only [keysOf] at h
  cases e1 : keyOf x with
  | none => rw [e1] at h; cases h
  | some k =>
    cases e2 : keysOf xs with
    | none => rw [e1, e2] at h; cases h
    | some r => rw [e1, e2] at h; cases h; exact ⟨k, r, rfl, rfl, rfl⟩
mutual
theorem key_beq : ∀ (x y : T) {k l : NestedKey}, keyOf x = some k → keyOf y = some l → tEq x y = NestedKey.beq k l
  | .non, y, k, l, hx, hy => by
    cases hx
    cases y with
    | tup ys => obtain ⟨ks, rfl, _⟩ := key_tup hy; rfl
    | _ => first | (cases hy; done) | (cases hy; rfl)
  | .bl b, y, k, l, hx, hy => by
    cases hx
    cases y with
    | tup ys => obtain ⟨ks, rfl, _⟩ := key_tup hy; rfl
    | bl c => cases hy; cases b <;> cases c <;> rfl
    | int c => cases hy; cases b <;> rfl
    | _ => first | (cases hy; done) | (cases hy; rfl)
  | .int b, y, k, l, hx, hy => by
    cases hx
    cases y with
    | tup ys => obtain ⟨ks, rfl, _⟩ := key_tup hy; rfl
    | bl c => cases hy; cases c <;> rfl
    | int c => cases hy; rfl
    | _ => first | (cases hy; done) | (cases hy; rfl)
  | .str b, y, k, l, hx, hy => by
    cases hx
    cases y with
    | tup ys => obtain ⟨ks, rfl, _⟩ := key_tup hy; rfl
    | str c =>
      cases hy
      show (b == c) = decide (b = c)
      by_cases e : b = c
      · subst e; simp
      · rw [decide_eq_false e]; exact beq_eq_false_iff_ne.mpr e
    | _ => first | (cases hy; done) | (cases hy; rfl)
  | .tup xs, y, k, l, hx, hy => by
    obtain ⟨ks, rfl, e⟩ := key_tup hx
    cases y with
    | tup ys =>
      obtain ⟨ls, rfl, e'⟩ := key_tup hy
      simp only [tEq, NestedKey.beq]
      exact keys_beq xs ys e e'
    | _ => first | (cases hy; done) | (cases hy; rfl)
  | .lst _, _, _, _, hx, _ => by cases hx
  | .dct _, _, _, _, hx, _ => by cases hx
  | .set _, _, _, _, hx, _ => by cases hx
  | .ins _ _, _, _, _, hx, _ => by cases hx
theorem keys_beq : ∀ (xs ys : List T) {ks ls : List NestedKey}, keysOf xs = some ks → keysOf ys = some ls → tEqs xs ys = NestedKey.beqAll ks ls
  | [], [], ks, ls, hx, hy => by cases hx; cases hy; rfl
  | [], y :: ys, ks, ls, hx, hy => by
    cases hx
    obtain ⟨k, r, rfl, _, _⟩ := keys_cons hy
    rfl
  | x :: xs, [], ks, ls, hx, hy => by
    cases hy
    obtain ⟨k, r, rfl, _, _⟩ := keys_cons hx
    rfl
  | x :: xs, y :: ys, ks, ls, hx, hy => by
    obtain ⟨k, r, rfl, h1, h2⟩ := keys_cons hx
    obtain ⟨k', r', rfl, h3, h4⟩ := keys_cons hy
    simp only [tEqs, NestedKey.beqAll, key_beq x y h1 h3, keys_beq xs ys h2 h4]
end
theorem key_eq {x y : T} {k l : NestedKey} (hx : keyOf x = some k) (hy : keyOf y = some l) : tEq x y = decide (k = l) := by rw [NestedKey.decide_eq]; exact key_beq x y hx hy
theorem kind_of {t : T} {k : NestedKey} (h : keyOf t = some k) (hk : knd t ≤ 1) : kind k = knd t := by
  cases t with
  | tup xs => obtain ⟨ks, rfl, _⟩ := key_tup h; rfl
  | str x => cases h; rfl
  | non => exact absurd hk (by show ¬ 2 ≤ 1; decide)
  | bl _ => exact absurd hk (by show ¬ 2 ≤ 1; decide)
  | int _ => exact absurd hk (by show ¬ 2 ≤ 1; decide)
  | lst _ => cases h
  | dct _ => cases h
  | set _ => cases h
  | ins _ _ => cases h
theorem repD_get {F G : Hp} : ∀ {kvs : List (T × T)} {es : List Ent}, RepD Γ F G kvs es → ∀ (k : T) {nk : NestedKey}, keyOf k = some nk → match look kvs k with
    | some w => ∃ v, valE es nk = some v ∧ Rep Γ F G w v
    | none => valE es nk = none
  | [], es, h, k, nk, hk => by cases h; rfl
  | (k0, x) :: kvs, es, h, k, nk, hk => by
    obtain ⟨n0, kv, v, r, rfl, h1, h2, h3, h4⟩ := h
    have e := key_eq h1 hk
    have ih := repD_get h4 k hk
    by_cases q : n0 = nk
    · have e' : tEq k0 k = true := by rw [e]; exact decide_eq_true q
      have l : look ((k0, x) :: kvs) k = some x := by simp [look, List.find?_cons, e']
      rw [l]
      exact ⟨v, valE_pos q, h3⟩
    · have e' : tEq k0 k = false := by rw [e]; exact decide_eq_false q
      have l : look ((k0, x) :: kvs) k = look kvs k := by simp [look, List.find?_cons, e']
      rw [l, valE_neg q]
      exact ih
theorem repD_keys {F G : Hp} : ∀ {kvs : List (T × T)} {es : List Ent}, RepD Γ F G kvs es → ∀ (k : T) {nk : NestedKey}, keyOf k = some nk → (kvs.all fun e => decide (knd e.1 = knd k) && decide (dep e.1 ≤ 8)) = true → knd k ≤ 1 → ∀ e ∈ es, Ky Γ G e.1 e.2.1 ∧ kind e.1 = kind nk
  | [], es, h, _, _, _, _, _, e, he => by cases h; cases he
  | (k0, x) :: kvs, es, h, k, nk, hk, ha, hl, e, he => by
    obtain ⟨n0, kv, v, r, rfl, h1, h2, h3, h4⟩ := h
    rw [List.all_cons, Bool.and_eq_true, Bool.and_eq_true, decide_eq_true_eq, decide_eq_true_eq] at ha
    dsimp only at ha
    rcases List.mem_cons.mp he with rfl | he
    · have hd : n0.depth ≤ 8 := by
        have hi : isKey k0 = true ∨ isKey k0 = false := by cases isKey k0 <;> simp
        have : n0.depth = dep k0 := by
          clear ha h4 he h2 h3
          exact depth_key k0 h1
        omega
      exact ⟨⟨hd, F, k0, h1, h2⟩, by rw [kind_of h1 (by omega), kind_of hk hl]; exact ha.1.1⟩
    · exact repD_keys h4 k hk ha.2 hl e he
where
  depth_key : ∀ (t : T) {k : NestedKey}, keyOf t = some k → k.depth = dep t := fun t k h => by
    have : isKey t = true := isKey_of t h
    obtain ⟨k', e1, e2⟩ := key_ok t this
    rw [h] at e1; cases e1; exact e2
  isKey_of : ∀ (t : T) {k : NestedKey}, keyOf t = some k → isKey t = true := fun t k h => isk t h
  isk (t : T) {k : NestedKey} (h : keyOf t = some k) : isKey t = true := by
    have go : (∀ (t : T) (k : NestedKey), keyOf t = some k → isKey t = true) := by
      intro t
      exact T.rec (motive_1 := fun t => ∀ k, keyOf t = some k → isKey t = true) (motive_2 := fun ts => ∀ ks, keysOf ts = some ks → isKeys ts = true) (motive_3 := fun _ => True) (motive_4 := fun _ => True) (motive_5 := fun _ => True) (motive_6 := fun _ => True)
        (fun k h => rfl) (fun b k h => rfl) (fun b k h => rfl) (fun b k h => rfl) (fun xs ih k h => by obtain ⟨ks, _, e⟩ := key_tup h; exact ih ks e) (fun xs _ k h => by cases h) (fun xs _ k h => by cases h) (fun xs _ k h => by cases h) (fun c fs _ k h => by cases h)
        (fun ks h => rfl) (fun x xs ih1 ih2 ks h => by obtain ⟨k, r, _, e1, e2⟩ := keys_cons h; simp only [isKeys, ih1 k e1, ih2 r e2, Bool.and_self])
        True.intro (fun _ _ _ _ => True.intro) True.intro (fun _ _ _ _ => True.intro) (fun _ _ _ _ => True.intro) (fun _ _ _ => True.intro) t
    exact go t k h
/-- asking a dict -/
theorem asks_of {F G H : Hp} {kvs : List (T × T)} {k : T} {v y : V} (hG : Same G H) (hx : Rep Γ F G (.dct kvs) v) (hy : Rep Γ F H k y) (ha : askOk kvs k = true) :
    ∃ a es ep nk, v = .ref a ∧ Asks Γ H a es ep nk y ∧ keyOf k = some nk ∧ RepD Γ F G kvs es := by
  obtain ⟨a, es, ep, rfl, hd, nd, hD⟩ := hx
  simp only [askOk, Bool.and_eq_true, decide_eq_true_eq] at ha
  obtain ⟨⟨⟨h1, h2⟩, h3⟩, h4⟩ := ha
  obtain ⟨nk, e1, e2⟩ := key_ok k h1
  refine ⟨a, es, ep, nk, rfl, ⟨hG _ _ hd, nd, fun e he => ?_, ⟨by omega, F, k, e1, hy⟩, by rw [kind_of e1 h3]; exact h3⟩, e1, hD⟩
  obtain ⟨q1, q2⟩ := repD_keys hD k e1 (by simpa using h4) h3 e he
  exact ⟨q1.mono hG, q2⟩
theorem atI_eq {α : Type} (xs : List α) (i : Int) : atI xs i = pyAt xs i := rfl
theorem repL_get {F G : Hp} : ∀ {ts : List T} {vs : List V}, RepL Γ F G ts vs → ts.length = vs.length ∧ ∀ (i : Nat) (t : T), ts[i]? = some t → ∃ v, vs[i]? = some v ∧ Rep Γ F G t v
  | [], vs, h => by cases h; exact ⟨rfl, fun i t h => by simp at h⟩
  | t :: ts, vs, h => by
    obtain ⟨v, r, rfl, h1, h2⟩ := h
    obtain ⟨l, g⟩ := repL_get h2
    refine ⟨by simp [l], fun i t' h => ?_⟩
    cases i with
    | zero => simp at h; subst h; exact ⟨v, rfl, h1⟩
    | succ i => simpa using g i t' (by simpa using h)
theorem repL_at {F G : Hp} {ts : List T} {vs : List V} (h : RepL Γ F G ts vs) {i : Int} {w : T} (hw : pyAt ts i = some w) : ∃ v, atI vs i = some v ∧ Rep Γ F G w v := by
  obtain ⟨l, g⟩ := repL_get h
  unfold pyAt at hw
  cases e : pyIx ts.length i with
  | none => rw [e] at hw; cases hw
  | some j =>
    rw [e] at hw
    obtain ⟨v, h1, h2⟩ := g j w hw
    refine ⟨v, ?_, h2⟩
    show (pyIx vs.length i).bind _ = _
    rw [← l, e]; exact h1
theorem elS_get : ElS Γ (rIxU Γ) oGet := by
  intro F G H x y w vx vy Q hF hG hx hy hf hq
  cases x with
  | lst xs =>
    cases y with
    | int i =>
      cases hy
      obtain ⟨a, vs, rfl, h1, h2⟩ := hx
      obtain ⟨v, e, r⟩ := repL_at h2 hf
      exact .inl (.inl ⟨a, vs, i, v, rfl, rfl, sqL_sub hG h1, e, hq v r⟩)
    | _ => cases hf
  | tup xs =>
    cases y with
    | int i =>
      cases hy
      obtain ⟨a, vs, rfl, h1, h2⟩ := hx
      obtain ⟨v, e, r⟩ := repL_at h2 hf
      exact .inl (.inr (.inl ⟨a, vs, i, v, rfl, rfl, sqT_sub hG h1, e, hq v r⟩))
    | _ => cases hf
  | str z =>
    cases y with
    | int i =>
      cases hx; cases hy
      have hf : (if z.length ≤ szL then (pyAt z.cps.toList i).map fun c => T.str ⟨#[c]⟩ else none) = some w := hf
      split at hf
      · rename_i hl
        cases e : pyAt z.cps.toList i with
        | none => rw [e] at hf; cases hf
        | some c =>
          rw [e] at hf; cases hf
          exact .inl (.inr (.inr ⟨z, i, c, rfl, rfl, by rw [← szL_eq]; exact hl, e, hq _ rfl⟩))
      · cases hf
    | _ => cases hf
  | dct kvs =>
    have hf : (if askOk kvs y = true then look kvs y else none) = some w := by
      cases y <;> exact hf
    split at hf
    · rename_i ha
      obtain ⟨a, es, ep, nk, rfl, g, hk, hD⟩ := asks_of hG hx hy ha
      have := repD_get hD y hk
      rw [hf] at this
      obtain ⟨v, e, r⟩ := this
      exact .inr ⟨a, es, ep, nk, v, rfl, g, e, hq v r⟩
    · cases hf
  | non => cases y <;> cases hf
  | bl _ => cases y <;> cases hf
  | int _ => cases y <;> cases hf
  | set _ => cases y <;> cases hf
  | ins _ _ => cases y <;> cases hf
end
end TL
end
section
set_option Elab.async false
set_option linter.all false
set_option autoImplicit false
set_option maxRecDepth 100000
set_option maxHeartbeats 4000000
/-! S14: in, len, isinstance, built-ins; what is imm may be frozen; new lists -/
namespace TL
open PySem PySem.Spec L2
section
variable {Γ : Gm} {E : XK} {ms : List Md}
theorem flat_of {F G : Hp} {t : T} {v : V} (h : isScal t = true) (r : Rep Γ F G t v) : flatV v = true := by
  cases t with
  | non => cases r; rfl
  | bl _ => cases r; rfl
  | int _ => cases r; rfl
  | str _ => cases r; rfl
  | _ => cases h
theorem eqV_of {F G : Hp} {x y : T} {vx vy : V} (hx : isScal x = true) (hy : isScal y = true) (rx : Rep Γ F G x vx) (ry : Rep Γ F G y vy) : L2.eqV vx vy = tEq x y := by
  cases x with
  | non => cases rx; cases y with
    | non => cases ry; rfl
    | bl _ => cases ry; rfl
    | int _ => cases ry; rfl
    | str _ => cases ry; rfl
    | _ => cases hy
  | bl _ => cases rx; cases y with
    | non => cases ry; rfl
    | bl _ => cases ry; rfl
    | int _ => cases ry; rfl
    | str _ => cases ry; rfl
    | _ => cases hy
  | int _ => cases rx; cases y with
    | non => cases ry; rfl
    | bl _ => cases ry; rfl
    | int _ => cases ry; rfl
    | str _ => cases ry; rfl
    | _ => cases hy
  | str _ => cases rx; cases y with
    | non => cases ry; rfl
    | bl _ => cases ry; rfl
    | int _ => cases ry; rfl
    | str _ => cases ry; rfl
    | _ => cases hy
  | _ => cases hx
theorem inV_of {F G : Hp} {x : T} {vx : V} (hx : isScal x = true) (rx : Rep Γ F G x vx) : ∀ {ts : List T} {vs : List V}, ts.all isScal = true → RepL Γ F G ts vs → vs.all flatV = true ∧ L2.inV vx vs = ts.any fun y => tEq y x
  | [], vs, _, h => by cases h; exact ⟨rfl, rfl⟩
  | t :: ts, vs, ha, h => by
    obtain ⟨v, r, rfl, h1, h2⟩ := h
    rw [List.all_cons, Bool.and_eq_true] at ha
    obtain ⟨i1, i2⟩ := inV_of hx rx ha.2 h2
    refine ⟨by rw [List.all_cons, flat_of ha.1 h1, i1]; rfl, ?_⟩
    have i2' : (r.any fun y => L2.eqV y vx) = ts.any fun y => tEq y x := i2
    show ((v :: r).any fun y => L2.eqV y vx) = _
    rw [List.any_cons, List.any_cons, i2', eqV_of ha.1 hx h1 rx]
theorem inB_of {F H : Hp} {x y : T} {vx vy : V} {b : Bool} (hx : Rep Γ F H x vx) (hy : Rep Γ F H y vy) (hf : inB x y = some b) :
    (∃ (c : Nat) (z : Str), vx = .str ⟨#[c]⟩ ∧ vy = .str z ∧ b = decide (c ∈ z.cps.toList)) ∨ (∃ p vs, vy = .ref p ∧ (SqL Γ.K H p vs ∨ SqT Γ.K H p vs) ∧ flatV vx = true ∧ vs.all flatV = true ∧ b = L2.inV vx vs) ∨ ∃ a es ep k, vy = .ref a ∧ Asks Γ H a es ep k vx ∧ b = (valE es k).isSome := by
  cases y with
  | str z =>
    cases x with
    | str x =>
      cases hx; cases hy
      have hf : (if x.cps.size = 1 then some (decide (x.cps.toList.headD 0 ∈ z.cps.toList)) else none) = some b := hf
      split at hf
      · rename_i hs
        cases hf
        left
        obtain ⟨⟨l⟩⟩ := x
        match l, hs with
        | [c], _ => exact ⟨c, z, rfl, rfl, rfl⟩
      · cases hf
    | _ => cases hf
  | lst ys =>
    have hf : (if isScal x = true ∧ ys.all isScal = true then some (ys.any fun y => tEq y x) else none) = some b := by cases x <;> exact hf
    split at hf
    · rename_i hc
      cases hf
      obtain ⟨a, vs, rfl, h1, h2⟩ := hy
      obtain ⟨q1, q2⟩ := inV_of hc.1 hx hc.2 h2
      exact .inr (.inl ⟨a, vs, rfl, .inl h1, flat_of hc.1 hx, q1, q2.symm⟩)
    · cases hf
  | tup ys =>
    have hf : (if isScal x = true ∧ ys.all isScal = true then some (ys.any fun y => tEq y x) else none) = some b := by cases x <;> exact hf
    split at hf
    · rename_i hc
      cases hf
      obtain ⟨a, vs, rfl, h1, h2⟩ := hy
      obtain ⟨q1, q2⟩ := inV_of hc.1 hx hc.2 h2
      exact .inr (.inl ⟨a, vs, rfl, .inr h1, flat_of hc.1 hx, q1, q2.symm⟩)
    · cases hf
  | dct kvs =>
    have hf : (if askOk kvs x = true then some (look kvs x).isSome else none) = some b := by cases x <;> exact hf
    split at hf
    · rename_i ha
      cases hf
      obtain ⟨a, es, ep, nk, rfl, g, hk, hD⟩ := asks_of (Same.refl _) hy hx ha
      have := repD_get hD x hk
      refine .inr (.inr ⟨a, es, ep, nk, rfl, g, ?_⟩)
      cases e : look kvs x with
      | none => rw [e] at this; rw [show valE es nk = none from this]; rfl
      | some w => rw [e] at this; obtain ⟨v, q, _⟩ := this; rw [q]; rfl
    · cases hf
  | _ => cases x <;> cases hf
theorem opS_in : OpS Γ (rInU Γ) oIn := by
  intro F H x y w vx vy Q hx hy hf hq
  unfold oIn at hf
  cases e : inB x y with
  | none => rw [e] at hf; cases hf
  | some b =>
    rw [e] at hf; cases hf
    have q := hq _ Rep0.bl
    rcases inB_of hx hy e with ⟨c, z, rfl, rfl, rfl⟩ | ⟨p, vs, rfl, h1, h2, h3, rfl⟩ | ⟨a, es, ep, k, rfl, g, rfl⟩
    · exact .inl ⟨c, z, rfl, rfl, q⟩
    · exact .inr (.inl ⟨p, vs, rfl, h1, h2, h3, q⟩)
    · exact .inr (.inr ⟨a, es, ep, k, rfl, g, q⟩)
theorem opS_notIn : OpS Γ (rNotInU Γ) oNotIn := by
  intro F H x y w vx vy Q hx hy hf hq
  unfold oNotIn at hf
  cases e : inB x y with
  | none => rw [e] at hf; cases hf
  | some b =>
    rw [e] at hf; cases hf
    have q := hq _ Rep0.bl
    rcases inB_of hx hy e with ⟨c, z, rfl, rfl, rfl⟩ | ⟨p, vs, rfl, h1, h2, h3, rfl⟩ | ⟨a, es, ep, k, rfl, g, rfl⟩
    · exact .inl ⟨c, z, rfl, rfl, q⟩
    · exact .inr (.inl ⟨p, vs, rfl, h1, h2, h3, q⟩)
    · exact .inr (.inr ⟨a, es, ep, k, rfl, g, q⟩)
/-! ### built-ins with a scalar answer -/
def CallS (Γ : Gm) (r : List V → Hp → VK → Prop) (f : List T → Option T) : Prop := ∀ (F H : Hp) (ts : List T) (w : T) (vs : List V) (Q : VK), RepL Γ F H ts vs → f ts = some w → (∀ v, Rep0 Γ w v → Q v H) → r vs H Q
def NoSlot : List RC → Prop
  | [] => True
  | .slot _ :: _ => False
  | _ :: cs => NoSlot cs
theorem NoSlot.all : ∀ {cs : List RC}, NoSlot cs → ∀ c ∈ cs, ∀ i, c ≠ .slot i
  | [], _, c, hc, _ => by cases hc
  | c :: cs, h, d, hd, i => by
    cases c with
    | slot j => exact (show False from h).elim
    | now =>
      rcases List.mem_cons.mp hd with rfl | hd
      · intro z; cases z
      · exact NoSlot.all (cs := cs) h d hd i
    | sh =>
      rcases List.mem_cons.mp hd with rfl | hd
      · intro z; cases z
      · exact NoSlot.all (cs := cs) h d hd i
    | fz =>
      rcases List.mem_cons.mp hd with rfl | hd
      · intro z; cases z
      · exact NoSlot.all (cs := cs) h d hd i
    | own n =>
      rcases List.mem_cons.mp hd with rfl | hd
      · intro z; cases z
      · exact NoSlot.all (cs := cs) h d hd i
theorem sim_cb {r : List V → Hp → VK → Prop} {f : List T → Option T} {p : Bool} {ta : TA} {e : M (List T)} {cs : List RC} (hr : CallS Γ r f) (ha : SimA Γ E ms p ta e cs) (hn : NoSlot cs) : SimE Γ E ms p (tCB r ta) (e >>= fun ts => M.of (f ts)) .fz := by
  intro W τ σ hs Q hF hp
  refine ha W τ σ hs _ hF (Pst.bind1 hp fun W1 ts τ1 g1 hp1 vs hF1 hv => ?_)
  have hl := HasA.now hF1.fr hn.all hv
  cases hf : f ts with
  | none => rw [hf] at hp1; exact hp1.elim
  | some w =>
    rw [hf] at hp1
    exact hr W1.F W1.H ts w vs Q hl hf fun v hv => hp1 W1 Go.refl v ⟨hF1, hv.rep⟩
theorem repD_len {F G : Hp} : ∀ {kvs : List (T × T)} {es : List Ent}, RepD Γ F G kvs es → kvs.length = es.length
  | [], es, h => by cases h; rfl
  | (k, x) :: kvs, es, h => by
    obtain ⟨nk, kv, v, r, rfl, _, _, _, h3⟩ := h
    simp [repD_len h3]
theorem callS_len : CallS Γ (rLenU Γ) fLen := by
  intro F H ts w vs Q hl hf hq
  match ts, hf with
  | [x], hf =>
    obtain ⟨v, r, rfl, h1, h2⟩ := hl
    cases h2
    cases x with
    | str z =>
      cases h1
      obtain ⟨c, rfl⟩ := ite_some (show (if z.length ≤ szL then some (T.int z.length) else none) = some w from hf)
      exact .inl ⟨_, z.length, rfl, ⟨by rw [← szL_eq]; exact c, rfl⟩, hq _ rfl⟩
    | lst xs =>
      cases hf
      obtain ⟨a, vs, rfl, h1, h2⟩ := h1
      rw [(repL_get h2).1] at hq
      exact .inl ⟨_, vs.length, rfl, .inl ⟨vs, h1, rfl⟩, hq _ rfl⟩
    | tup xs =>
      cases hf
      obtain ⟨a, vs, rfl, h1, h2⟩ := h1
      rw [(repL_get h2).1] at hq
      exact .inl ⟨_, vs.length, rfl, .inr ⟨vs, h1, rfl⟩, hq _ rfl⟩
    | dct kvs =>
      cases hf
      obtain ⟨a, es, ep, rfl, h1, h2, h3⟩ := h1
      rw [repD_len h3] at hq
      exact .inr ⟨a, es, ep, rfl, h1, hq _ rfl⟩
    | _ => cases hf
theorem callS_abs : CallS Γ rAbs fAbs := by
  intro F H ts w vs Q hl hf hq
  match ts, hf with
  | [.int i], hf =>
    obtain ⟨v, r, rfl, h1, h2⟩ := hl
    cases h2; cases h1; cases hf
    exact ⟨i, rfl, hq _ rfl⟩
theorem callS_int : CallS Γ rInt1 fInt := by
  intro F H ts w vs Q hl hf hq
  match ts, hf with
  | [.int i], hf =>
    obtain ⟨v, r, rfl, h1, h2⟩ := hl
    cases h2; cases h1; cases hf
    exact .inl ⟨i, rfl, hq _ rfl⟩
  | [.bl b], hf =>
    obtain ⟨v, r, rfl, h1, h2⟩ := hl
    cases h2; cases h1; cases hf
    exact .inr ⟨b, rfl, hq _ rfl⟩
/-! ### what is imm may be frozen -/
noncomputable def Wd.fix (W : Wd) : Wd := ⟨frz W.F W.H [], join W.B (frz W.F W.H []), W.H⟩
theorem Fr.fix {W : Wd} {S : List Slot} (h : Fr Γ W S) : W.Le W.fix ∧ Fr Γ W.fix S := by
  have fh := h.fb.trans h.bh
  obtain ⟨fps, h1, h2, h3⟩ := h.ex
  refine ⟨⟨frz_f, join_b, fun a o e => ?_⟩, ⟨join_f h.bh (frz_h fh), join_h h.bh (frz_h fh), fps, ?_, h2, fun a ha => ?_⟩⟩
  · have e' : frz W.F W.H [] a = some o := e
    unfold frz at e'
    split at e'
    · exact .inl e'
    · split at e'
      · rename_i hh
        rcases hh with hh | hh
        · cases hh
        · rw [e'] at hh
          exact .inr (.inr hh)
      · cases e'
  · exact pr_keep (W := W) (W' := W.fix) frz_f join_b (fun _ _ q _ => q) h1 fun _ _ _ q => q
  · have hb : W.B a = none := h3 a ha
    refine join_none hb ?_
    show (if _ then _ else _) = _
    rw [if_neg (by rw [h.fb.free hb]; simp), if_neg]
    rintro (hm | hm)
    · cases hm
    · obtain ⟨o, e, m⟩ := pr_there h1 a ha
      rw [e] at hm
      exact hm m
mutual
theorem imm_rep {F H F' : Hp} (hF : Same F F') (ht : ∀ a o, H a = some o → ¬ Mut (some o) → F' a = some o) : ∀ (t : T) {v : V}, imm t = true → Rep Γ F H t v → Rep Γ F' F' t v
  | .non, _, _, h => h
  | .bl _, _, _, h => h
  | .int _, _, _, h => h
  | .str _, _, _, h => h
  | .tup xs, _, hi, h => by
    obtain ⟨a, vs, e, h1, h2⟩ := h
    exact ⟨a, vs, e, sqT_fix ht h1, imms_rep hF ht xs hi h2⟩
  | .lst _, _, hi, _ => by cases hi
  | .dct _, _, hi, _ => by cases hi
  | .set _, _, hi, _ => by cases hi
  | .ins c fs, _, _, h => by
    obtain ⟨a, dx, fv, e, h1, h2, h3⟩ := h
    exact ⟨a, dx, fv, e, hF _ _ h1, hF _ _ h2, RepF.mono hF fs hF h3⟩
theorem imms_rep {F H F' : Hp} (hF : Same F F') (ht : ∀ a o, H a = some o → ¬ Mut (some o) → F' a = some o) : ∀ (ts : List T) {vs : List V}, imms ts = true → RepL Γ F H ts vs → RepL Γ F' F' ts vs
  | [], _, _, h => h
  | x :: xs, _, hi, h => by
    obtain ⟨v, r, e, h1, h2⟩ := h
    simp only [imms, Bool.and_eq_true] at hi
    exact ⟨v, r, e, imm_rep hF ht x hi.1 h1, imms_rep hF ht xs hi.2 h2⟩
end
theorem fix_t {W : Wd} {S : List Slot} (h : Fr Γ W S) : ∀ a o, W.H a = some o → ¬ Mut (some o) → W.fix.F a = some o := fun a o e m => frz_at (h.fb.trans h.bh) (.inr (by unfold isFix; rw [e]; exact m)) e
/-- what is imm counts as frozen -/
theorem SimE.imm {p : Bool} {t : TE} {e : M T} {r : RC} (h : SimE Γ E ms p t e r) : SimE Γ E ms p t (e >>= immC) .fz := by
  intro W τ σ hs Q hF hp
  refine h W τ σ hs _ hF (Pst.bind1 hp fun W1 w τ1 g1 hp1 v hv => ?_)
  unfold immC at hp1
  split at hp1
  · rename_i hi
    have f := hv.fr
    obtain ⟨l, f2⟩ := f.fr.fix
    exact hp1 W1.fix ⟨l, fun _ => ⟨Same.refl _, rfl⟩⟩ v ⟨⟨f2, f.lt, f.lv⟩, imm_rep l.f (fix_t f.fr) w hi hv.now⟩
  · exact hp1.elim
/-- a scalar is whatever one wants -/
theorem repO_scal {F H : Hp} {n : Nat} {t : T} {v : V} (hs : isScal t = true) (h : Rep Γ F H t v) : RepO Γ F H n t v [] := by
  cases n with
  | zero =>
    rw [RepO_zero]
    refine ⟨rfl, ?_⟩
    cases t <;> first | exact h | cases hs
  | succ n => cases t <;> first | exact ⟨rfl, h⟩ | cases hs
theorem SimE.scal {p : Bool} {t : TE} {e : M T} {r : RC} (n : Nat) (h : SimE Γ E ms p t e r) : SimE Γ E ms p t (e >>= scalC) (.own n) := by
  intro W τ σ hs Q hF hp
  refine h W τ σ hs _ hF (Pst.bind1 hp fun W1 w τ1 g1 hp1 v hv => ?_)
  unfold scalC at hp1
  split at hp1
  · rename_i hi
    have f := hv.fr
    refine hp1 W1 Go.refl v ⟨?_, f.lt, f.lv⟩
    have := f.fr.scal (n := n) (repO_scal hi hv.now)
    rwa [List.append_assoc] at this
  · exact hp1.elim
/-- frozen is owned at depth nought -/
theorem SimE.fz0 {p : Bool} {t : TE} {e : M T} (h : SimE Γ E ms p t e .fz) : SimE Γ E ms p t e (.own 0) := by
  intro W τ σ hs Q hF hp
  refine h W τ σ hs Q hF (hp.imp fun W' w τ' g k v hv => k v ⟨?_, hv.1.lt, hv.1.lv⟩)
  have := hv.1.fr.frozen hv.2
  rwa [List.append_assoc] at this
end
end TL
end
section
set_option Elab.async false
set_option linter.all false
set_option autoImplicit false
set_option maxRecDepth 100000
set_option maxHeartbeats 4000000
/-! S15: tuples, lists made; append; list comprehensions -/
namespace TL
open PySem PySem.Spec L2
section
variable {Γ : Gm} {E : XK} {ms : List Md}
theorem upd_sub {H : Hp} {p : Addr} {o : HO} (h : H p = none) : Same H (upd H p o) := Same.new h
theorem upd_sub2 {G H : Hp} {p : Addr} {o : HO} (h : Same G H) : Same (upd G p o) (upd H p o) := fun a u e => by
  by_cases q : a = p
  · subst q; rw [upd_same] at e ⊢; exact e
  · rw [upd_ne q] at e ⊢; exact h _ _ e
/-- a new thing, shared at once -/
theorem Fr.newB {W : Wd} {S : List Slot} (h : Fr Γ W S) {p : Addr} (o : HO) (hp : W.H p = none) : W.Le ⟨W.F, upd W.B p o, upd W.H p o⟩ ∧ Fr Γ ⟨W.F, upd W.B p o, upd W.H p o⟩ S := by
  have hb := h.bh.free hp
  obtain ⟨fps, h1, h2, h3⟩ := h.ex
  refine ⟨⟨Same.refl _, upd_sub hb, fun a u e => .inl e⟩, ⟨h.fb.trans (upd_sub hb), upd_sub2 h.bh, fps, ?_, h2, fun a ha => ?_⟩⟩
  · exact pr_keep (W := W) (W' := ⟨W.F, upd W.B p o, upd W.H p o⟩) (Same.refl _) (upd_sub hb) (fun a u q _ => upd_sub hp _ _ q) h1 fun a _ u q => upd_sub hp _ _ q
  · obtain ⟨u, q, _⟩ := pr_there h1 a ha
    show upd W.B p o a = none
    rw [upd_ne (ne_of_none q hp)]
    exact h3 a ha
/-- a new thing, frozen at once -/
theorem Fr.newF {W : Wd} {S : List Slot} (h : Fr Γ W S) {p : Addr} (o : HO) (hp : W.H p = none) : W.Le ⟨upd W.F p o, upd W.B p o, upd W.H p o⟩ ∧ Fr Γ ⟨upd W.F p o, upd W.B p o, upd W.H p o⟩ S := by
  have hb := h.bh.free hp
  have hf := h.fb.free hb
  obtain ⟨fps, h1, h2, h3⟩ := h.ex
  refine ⟨⟨upd_sub hf, upd_sub hb, fun a u e => ?_⟩, ⟨upd_sub2 h.fb, upd_sub2 h.bh, fps, ?_, h2, fun a ha => ?_⟩⟩
  · by_cases q : a = p
    · subst q; exact .inr (.inl hb)
    · left
      have e' : upd W.F p o a = some u := e
      rw [upd_ne q] at e'; exact e'
  · exact pr_keep (W := W) (W' := ⟨upd W.F p o, upd W.B p o, upd W.H p o⟩) (upd_sub hf) (upd_sub hb) (fun a u q _ => upd_sub hp _ _ q) h1 fun a _ u q => upd_sub hp _ _ q
  · obtain ⟨u, q, _⟩ := pr_there h1 a ha
    show upd W.B p o a = none
    rw [upd_ne (ne_of_none q hp)]
    exact h3 a ha
def All (c : RC) : List RC → Prop
  | [] => True
  | d :: cs => d = c ∧ All c cs
theorem hasA_fz {W : Wd} {σ : St} : ∀ {cs : List RC} {ts : List T} {vs : List V}, All .fz cs → HasA Γ W σ cs ts vs → RepL Γ W.F W.F ts vs
  | [], [], [], _, _ => rfl
  | c :: cs, t :: ts, v :: vs, ha, h => by
    obtain ⟨rfl, ha⟩ := ha
    exact ⟨v, vs, rfl, h.1, hasA_fz ha h.2⟩
  | [], [], _ :: _, _, h => h.elim
  | [], _ :: _, _, _, h => h.elim
  | _ :: _, [], _, _, h => h.elim
  | _ :: _, _ :: _, [], _, h => h.elim
def Shs : List RC → Prop
  | [] => True
  | .fz :: cs => Shs cs
  | .sh :: cs => Shs cs
  | _ => False
theorem hasA_sh {W : Wd} {σ : St} (fb : Same W.F W.B) : ∀ {cs : List RC} {ts : List T} {vs : List V}, Shs cs → HasA Γ W σ cs ts vs → RepL Γ W.F W.B ts vs
  | [], [], [], _, _ => rfl
  | c :: cs, t :: ts, v :: vs, ha, h => by
    cases c with
    | fz => exact ⟨v, vs, rfl, Rep.mono (Same.refl _) t fb h.1, hasA_sh fb (show Shs cs from ha) h.2⟩
    | sh => exact ⟨v, vs, rfl, h.1, hasA_sh fb (show Shs cs from ha) h.2⟩
    | now => exact (show False from ha).elim
    | own n => exact (show False from ha).elim
    | slot n => exact (show False from ha).elim
  | [], [], _ :: _, _, h => h.elim
  | [], _ :: _, _, _, h => h.elim
  | _ :: _, [], _, _, h => h.elim
  | _ :: _, _ :: _, [], _, h => h.elim
theorem len_le {ts : List T} {vs : List V} {F G : Hp} (h : RepL Γ F G ts vs) (hl : ts.length ≤ szL) : vs.length ≤ sizeLine := by rw [← (repL_get h).1, ← szL_eq]; exact hl
theorem sim_tup_fz {p : Bool} {ta : TA} {e : M (List T)} {cs : List RC} (ha : SimA Γ E ms p ta e cs) (hc : All .fz cs) : SimE Γ E ms p (tTup ta) (e >>= fun ts => M.of (oTup ts)) .fz := by
  intro W τ σ hs Q hF hp
  refine ha W τ σ hs _ hF (Pst.bind1 hp fun W1 ts τ1 g1 hp1 vs hF1 hv => ?_)
  have hl := hasA_fz hc hv
  unfold oTup at hp1
  split at hp1
  · rename_i hz
    refine ⟨len_le hl hz, fun q hq => ?_⟩
    obtain ⟨l, f⟩ := hF1.fr.newF (.tup vs) hq
    have := hp1 _ ⟨l, fun _ => ⟨upd_sub hq, rfl⟩⟩ (.ref q) ⟨⟨f, hF1.lt, hF1.lv⟩, q, vs, rfl, .inl (.inl upd_same), RepL.mono l.f ts l.f hl⟩
    exact this
  · exact hp1.elim
theorem sim_tup_sh {p : Bool} {ta : TA} {e : M (List T)} {cs : List RC} (ha : SimA Γ E ms p ta e cs) (hc : Shs cs) : SimE Γ E ms p (tTup ta) (e >>= fun ts => M.of (oTup ts)) .sh := by
  intro W τ σ hs Q hF hp
  refine ha W τ σ hs _ hF (Pst.bind1 hp fun W1 ts τ1 g1 hp1 vs hF1 hv => ?_)
  have hl := hasA_sh hF1.fr.fb hc hv
  unfold oTup at hp1
  split at hp1
  · rename_i hz
    refine ⟨len_le hl hz, fun q hq => ?_⟩
    obtain ⟨l, f⟩ := hF1.fr.newB (.tup vs) hq
    have := hp1 _ ⟨l, fun _ => ⟨upd_sub hq, rfl⟩⟩ (.ref q) ⟨⟨f, hF1.lt, hF1.lv⟩, q, vs, rfl, .inl (.inl upd_same), RepL.mono l.f ts l.b hl⟩
    exact this
  · exact hp1.elim
theorem sim_tup_now {p : Bool} {ta : TA} {e : M (List T)} {cs : List RC} (ha : SimA Γ E ms p ta e cs) (hc : NoSlot cs) : SimE Γ E ms p (tTup ta) (e >>= fun ts => M.of (oTup ts)) .now := by
  intro W τ σ hs Q hF hp
  refine ha W τ σ hs _ hF (Pst.bind1 hp fun W1 ts τ1 g1 hp1 vs hF1 hv => ?_)
  have hl := HasA.now hF1.fr hc.all hv
  unfold oTup at hp1
  split at hp1
  · rename_i hz
    refine ⟨len_le hl hz, fun q hq => ?_⟩
    have f := hF1.fr.grow (upd_sub (o := .tup vs) hq)
    have := hp1 ⟨W1.F, W1.B, upd W1.H q (.tup vs)⟩ ⟨⟨Same.refl _, Same.refl _, fun _ _ h => .inl h⟩, fun _ => ⟨upd_sub hq, rfl⟩⟩ (.ref q) ⟨⟨f, hF1.lt, hF1.lv⟩, q, vs, rfl, .inl (.inl upd_same), RepL.mono (Same.refl _) ts (upd_sub hq) hl⟩
    exact this
  · exact hp1.elim
theorem repOL_zero {F H : Hp} : ∀ {ts : List T} {vs : List V}, RepL Γ F F ts vs → RepOL Γ F H 0 ts vs []
  | [], vs, h => by cases h; exact ⟨rfl, rfl⟩
  | t :: ts, vs, h => by
    obtain ⟨v, r, rfl, h1, h2⟩ := h
    exact ⟨v, r, [], [], rfl, rfl, by rw [RepO_zero]; exact ⟨rfl, h1⟩, repOL_zero h2⟩
theorem of_repOL_zero {F H : Hp} : ∀ {ts : List T} {vs : List V} {fp : List Addr}, RepOL Γ F H 0 ts vs fp → fp = [] ∧ RepL Γ F F ts vs
  | [], vs, fp, h => ⟨h.2, h.1⟩
  | t :: ts, vs, fp, h => by
    obtain ⟨v, r, p, q, rfl, rfl, h1, h2⟩ := h
    rw [RepO_zero] at h1
    obtain ⟨e, h3⟩ := of_repOL_zero h2
    exact ⟨by rw [h1.1, e]; rfl, v, r, rfl, h1.2, h3⟩
/-- a new list of frozen things -/
theorem Fr.newL {W : Wd} {S : List Slot} (h : Fr Γ W S) {p : Addr} (hp : W.H p = none) {ts : List T} {vs : List V} (hl : RepL Γ W.F W.F ts vs) : Fr Γ ⟨W.F, W.B, upd W.H p (.lst vs)⟩ (S ++ [(.own 1, some (.lst ts), some (.ref p))]) :=
  h.new (H' := upd W.H p (.lst vs)) (upd_sub hp) (fp := [p]) ⟨p, vs, [], rfl, upd_same, rfl, repOL_zero hl⟩ (by simp) fun a ha => by
    rw [List.mem_singleton.mp ha]; exact hp
theorem grow_le {W : Wd} {H' : Hp} : W.Le ⟨W.F, W.B, H'⟩ := ⟨Same.refl _, Same.refl _, fun _ _ h => .inl h⟩
theorem sim_lst {p : Bool} {ta : TA} {e : M (List T)} {cs : List RC} (ha : SimA Γ E ms p ta e cs) (hc : All .fz cs) : SimE Γ E ms p (tLst ta) (e >>= fun ts => M.of (oLst ts)) (.own 1) := by
  intro W τ σ hs Q hF hp
  refine ha W τ σ hs _ hF (Pst.bind1 hp fun W1 ts τ1 g1 hp1 vs hF1 hv => ?_)
  have hl := hasA_fz hc hv
  unfold oLst at hp1
  split at hp1
  · rename_i hz
    refine ⟨len_le hl hz, fun q hq => ?_⟩
    exact hp1 ⟨W1.F, W1.B, upd W1.H q (.lst vs)⟩ ⟨grow_le, fun _ => ⟨upd_sub hq, rfl⟩⟩ (.ref q) ⟨by have := hF1.fr.newL hq hl; rwa [List.append_assoc] at this, hF1.lt, hF1.lv⟩
  · exact hp1.elim
/-! ### a list of one's own things -/
def owns (n : Nat) : List T → List V → List Slot
  | t :: ts, v :: vs => (.own n, some t, some v) :: owns n ts vs
  | _, _ => []
def SimAO (Γ : Gm) (E : XK) (ms : List Md) (n : Nat) (t : TA) (e : M (List T)) : Prop := ∀ W τ σ hs Q, FrS Γ W ms τ σ hs → Pst Γ E ms W σ hs false τ (fun W' ws τ' => ∀ vs, ws.length = vs.length → FrS Γ W' ms τ' σ (hs ++ owns n ws vs) → Q vs W'.H) (e τ) → t σ W.H Q
theorem sim_nilO {n : Nat} : SimAO Γ E ms n tNil (M.pure []) := fun W τ σ hs Q hF hp => hp W Go.refl [] rfl (by simpa [owns] using hF)
theorem Pst.hs {α : Type} {W : Wd} {τ : Tau} {σ : St} {hs hs' : List Slot} {p : Bool} {ok : Wd → α → Tau → Prop} {r : RE α} (hd : ∀ W' τ', FrS Γ W' ms τ' σ hs' → FrS Γ W' ms τ' σ hs) (h : Pst Γ E ms W σ hs p τ ok r) : Pst Γ E ms W σ hs' p τ ok r := by
  cases r with
  | stuck => exact h
  | exc x τ' => exact fun W' cls d g hF => h W' cls d g (hd W' τ' hF)
  | ok a τ' => exact h
theorem FrS.drop {W : Wd} {τ : Tau} {σ : St} {hs hs' : List Slot} (h : FrS Γ W ms τ σ (hs ++ hs')) : FrS Γ W ms τ σ hs := ⟨Fr.pop (S' := hs') (by rw [List.append_assoc]; exact h.fr), h.lt, h.lv⟩
theorem sim_consO {n : Nat} {p : Bool} {ta : TE} {tr : TA} {e : M T} {f : M (List T)} (h1 : SimE Γ E ms p ta e (.own n)) (h2 : SimAO Γ E ms n tr f) : SimAO Γ E ms n (tCons ta tr) (e >>= fun x => f >>= fun xs => M.pure (x :: xs)) := by
  intro W τ σ hs Q hF hp
  refine h1.impure W τ σ hs _ hF ?_
  have hp' : Pst Γ E ms W σ hs (false && false) τ (fun W' ws τ' => ∀ vs, ws.length = vs.length → FrS Γ W' ms τ' σ (hs ++ owns n ws vs) → Q vs W'.H) ((e >>= fun x => f >>= fun xs => M.pure (x :: xs)) τ) := hp
  refine Pst.bind hp' fun W1 x τ1 g1 hp1 vx hx => ?_
  have hx' : FrS Γ W1 ms τ1 σ (hs ++ [(.own n, some x, some vx)]) := hx
  refine h2 W1 τ1 σ _ _ hx' (Pst.hs (hs := hs) (fun _ _ h => h.drop) (Pst.bind1 hp1 fun W2 xs τ2 g2 hp2 vs hl hF2 => ?_))
  refine hp2 W2 Go.refl (vx :: vs) (by simp [hl]) ?_
  rw [List.append_assoc] at hF2
  exact hF2
theorem owns_gather {W : Wd} {n : Nat} : ∀ {ws : List T} {vs : List V} {fps : List (List Addr)}, ws.length = vs.length → Paired (SlotOk Γ W) (owns n ws vs) fps → RepOL Γ W.F W.H n ws vs fps.flatten
  | [], [], _, _, h => by cases h; exact ⟨rfl, rfl⟩
  | w :: ws, v :: vs, _, hl, h => by
    cases h with
    | cons r t => exact ⟨v, vs, _, _, rfl, by rw [List.flatten_cons], r, owns_gather (by simpa using hl) t⟩
  | [], _ :: _, _, hl, _ => by simp at hl
  | _ :: _, [], _, hl, _ => by simp at hl
theorem sim_lstO {n : Nat} {ta : TA} {e : M (List T)} (ha : SimAO Γ E ms n ta e) : SimE Γ E ms false (tLst ta) (e >>= fun ts => M.of (oLst ts)) (.own (n + 1)) := by
  intro W τ σ hs Q hF hp
  refine ha W τ σ hs _ hF (Pst.bind1 hp fun W1 ts τ1 g1 hp1 vs hl hF1 => ?_)
  unfold oLst at hp1
  split at hp1
  · rename_i hz
    refine ⟨by rw [← hl, ← szL_eq]; exact hz, fun q hq => ?_⟩
    refine hp1 ⟨W1.F, W1.B, upd W1.H q (.lst vs)⟩ ⟨grow_le, fun _ => ⟨upd_sub hq, rfl⟩⟩ (.ref q) ⟨?_, hF1.lt, hF1.lv⟩
    have hfr := hF1.fr
    rw [← List.append_assoc] at hfr
    obtain ⟨fps, h1, h2, h3⟩ := hfr.ex
    obtain ⟨m1, m2, rfl, k1, k2⟩ := pr_split h1
    have ko := owns_gather hl k2
    rw [List.flatten_append, List.nodup_append] at h2
    have hk : ∀ a ∈ m2.flatten, ∀ o, W1.H a = some o → upd W1.H q (.lst vs) a = some o := fun a _ o e => upd_sub hq _ _ e
    have notq : ∀ a ∈ m1.flatten ++ m2.flatten, a ≠ q := fun a ha e => by
      rcases List.mem_append.mp ha with ha | ha
      · obtain ⟨u, z, _⟩ := pr_there k1 a ha; rw [e, hq] at z; cases z
      · obtain ⟨u, z, _⟩ := pr_there k2 a ha; rw [e, hq] at z; cases z
    rw [← List.append_assoc]
    refine ⟨hfr.fb, hfr.bh.trans (upd_sub hq), m1 ++ [q :: m2.flatten], pr_app (pr_keep (W := W1) (W' := ⟨W1.F, W1.B, upd W1.H q (.lst vs)⟩) (Same.refl _) (Same.refl _) (fun a o e _ => upd_sub hq _ _ e) k1 fun a _ o e => upd_sub hq _ _ e) (.cons ?_ .nil), ?_, ?_⟩
    · exact ⟨q, vs, m2.flatten, rfl, upd_same, rfl, RepOL.keep (Same.refl _) (fun a o e _ => upd_sub hq _ _ e) ts hk ko⟩
    · rw [List.flatten_append, List.nodup_append]
      simp only [List.flatten_cons, List.flatten_nil, List.append_nil]
      refine ⟨h2.1, List.nodup_cons.mpr ⟨fun hm => notq q (List.mem_append_right _ hm) rfl, h2.2.1⟩, fun a ha b hb e => ?_⟩
      rcases List.mem_cons.mp hb with rfl | hb
      · exact notq a (List.mem_append_left _ ha) e
      · exact h2.2.2 a ha b hb e
    · intro a ha
      rw [List.flatten_append] at ha
      simp only [List.flatten_cons, List.flatten_nil, List.append_nil] at ha
      rcases List.mem_append.mp ha with ha | ha
      · exact h3 a (by rw [List.flatten_append]; exact List.mem_append_left _ ha)
      · rcases List.mem_cons.mp ha with rfl | ha
        · exact hfr.bh.free hq
        · exact h3 a (by rw [List.flatten_append]; exact List.mem_append_right _ ha)
  · exact hp1.elim
end
end TL
end
section
set_option Elab.async false
set_option linter.all false
set_option autoImplicit false
set_option maxRecDepth 100000
set_option maxHeartbeats 4000000
/-! S16: what is changed in place -/
namespace TL
open PySem PySem.Spec L2
section
variable {Γ : Gm} {E : XK} {ms : List Md}
theorem Fr.head2 {W : Wd} {s t : Slot} {R : List Slot} (h : Fr Γ W (s :: t :: R)) : ∃ fs ft, SlotOk Γ W s fs ∧ SlotOk Γ W t ft ∧ (fs ++ ft).Nodup ∧ (∀ a ∈ fs ++ ft, W.B a = none) ∧
    ∀ (H' : Hp) (s' : Slot) (fp' : List Addr), (∀ a o, a ∉ fs ++ ft → W.H a = some o → H' a = some o) → SlotOk Γ { W with H := H' } s' fp' → fp'.Nodup → (∀ a ∈ fp', a ∈ fs ++ ft ∨ W.H a = none) → Fr Γ { W with H := H' } (s' :: R) := by
  obtain ⟨fps, h1, h2, h3⟩ := h.ex
  cases h1 with
  | @cons _ fs _ _ r1 h1 =>
  cases h1 with
  | @cons _ ft _ fr r2 h1 =>
  rw [List.flatten_cons, List.flatten_cons, ← List.append_assoc] at h2 h3
  rw [List.nodup_append] at h2
  obtain ⟨n1, n2, dis⟩ := h2
  refine ⟨fs, ft, r1, r2, n1, fun a ha => h3 a (List.mem_append_left _ ha), fun H' s' fp' hk hok hn hf => ?_⟩
  have mu : ∀ a ∈ fs ++ ft, ∃ o, W.H a = some o ∧ Mut (some o) := fun a ha => by
    rcases List.mem_append.mp ha with ha | ha
    · exact r1.there a ha
    · exact r2.there a ha
  have ht : ∀ a o, W.H a = some o → ¬ Mut (some o) → H' a = some o := fun a o e nm => hk a o (fun hm => by
    obtain ⟨o', e', m⟩ := mu a hm
    rw [e] at e'; cases e'; exact nm m) e
  have hr : ∀ a ∈ fr.flatten, a ∉ fs ++ ft := fun a ha hm => dis a hm a ha rfl
  refine ⟨h.fb, fun a o e => hk a o (fun hm => ?_) (h.bh _ _ e), fp' :: fr, .cons hok (pr_keep (W := W) (W' := { W with H := H' }) (Same.refl _) (Same.refl _) ht h1 fun a ha o e => hk a o (hr a ha) e), ?_, ?_⟩
  · have e' : W.B a = some o := e
    rw [h3 a (List.mem_append_left _ hm)] at e'; cases e'
  · rw [List.flatten_cons, List.nodup_append]
    refine ⟨hn, n2, fun a ha b hb e => ?_⟩
    subst e
    rcases hf a ha with hm | hm
    · exact hr a hb hm
    · obtain ⟨o, e, _⟩ := pr_there h1 a hb
      rw [hm] at e; cases e
  · intro a ha
    rw [List.flatten_cons] at ha
    rcases List.mem_append.mp ha with ha | ha
    · rcases hf a ha with hm | hm
      · exact h3 a (List.mem_append_left _ hm)
      · exact h.bh.free hm
    · exact h3 a (List.mem_append_right _ ha)
theorem erase_perm {S : List Slot} {i : Nat} {s : Slot} (h : S[i]? = some s) : S.Perm (s :: S.eraseIdx i) := by
  induction S generalizing i with
  | nil => simp at h
  | cons a S ih =>
    cases i with
    | zero => simp at h; subst h; simp
    | succ i =>
      have := ih (i := i) (by simpa using h)
      simp only [List.eraseIdx_cons_succ]
      exact (List.Perm.cons a this).trans (List.Perm.swap _ _ _)
theorem set_perm {S : List Slot} {i : Nat} (s' : Slot) (h : i < S.length) : (S.set i s').Perm (s' :: S.eraseIdx i) := by
  induction S generalizing i with
  | nil => simp at h
  | cons a S ih =>
    cases i with
    | zero => simp
    | succ i =>
      have := ih (i := i) (by simpa using h)
      simp only [List.eraseIdx_cons_succ, List.set_cons_succ]
      exact (List.Perm.cons a this).trans (List.Perm.swap _ _ _)
/-- slot i and a temporary become slot i anew -/
theorem FrS.merge {W : Wd} {τ : Tau} {σ : St} {hs : List Slot} {n i : Nat} {m : Md} {w x : T} {v vx : V} (h : FrS Γ W ms τ σ (hs ++ [(.own n, some w, some v)])) (hm : ms[i]? = some m) (hx : τ[i]? = some (some x)) (hv : σ[i]? = some (some vx)) :
    ∃ fs ft, SlotOk Γ W (m, some x, some vx) fs ∧ RepO Γ W.F W.H n w v ft ∧ (fs ++ ft).Nodup ∧ (∀ a ∈ fs ++ ft, W.B a = none) ∧ ∀ (H' : Hp) (y : T) (fp' : List Addr), (∀ a o, a ∉ fs ++ ft → W.H a = some o → H' a = some o) → SlotOk Γ { W with H := H' } (m, some y, some vx) fp' → fp'.Nodup → (∀ a ∈ fp', a ∈ fs ++ ft ∨ W.H a = none) → FrS Γ { W with H := H' } ms (τ.set i (some y)) σ hs := by
  have hg := sl_get hm hx hv
  have hl := sl_len h.lt h.lv
  obtain ⟨hi, _⟩ := List.getElem?_eq_some_iff.mp hm
  have hg' : (sl ms τ σ ++ hs)[i]? = some (m, some x, some vx) := by rw [List.getElem?_append_left (by omega)]; exact hg
  have p1 : (sl ms τ σ ++ (hs ++ [(Md.own n, some w, some v)])).Perm ((m, some x, some vx) :: (.own n, some w, some v) :: (sl ms τ σ ++ hs).eraseIdx i) := by
    rw [← List.append_assoc]
    refine (List.Perm.append_right _ (erase_perm hg')).trans ?_
    exact List.Perm.cons _ (List.perm_append_comm (l₂ := [_]))
  obtain ⟨fs, ft, r1, r2, h2, h3, h4⟩ := (h.fr.perm p1).head2
  refine ⟨fs, ft, r1, r2, h2, h3, fun H' y fp' hk hok hn hf => ⟨?_, by rw [List.length_set]; exact h.lt, h.lv⟩⟩
  have := (h4 H' (m, some y, some vx) fp' hk hok hn hf).perm (set_perm (i := i) _ (by rw [List.length_append]; omega)).symm
  rw [List.set_append_left _ _ (by omega), sl_set _ _ hm, set_self hv] at this
  exact this
/-- slots that are lists of one's own -/
def OwnM (n : Nat) : Md → Prop
  | .own k => k = n
  | .lent k => k = n
  | .sh => False
  | .obj => False
theorem ownM_ok {W : Wd} {n : Nat} {m : Md} (h : OwnM n m) {t : T} {v : V} {fp : List Addr} : SlotOk Γ W (m, some t, some v) fp ↔ RepO Γ W.F W.H n t v fp := by
  cases m with
  | sh => exact (show False from h).elim
  | obj => exact (show False from h).elim
  | own k => have e : k = n := h; subst e; exact Iff.rfl
  | lent k => have e : k = n := h; subst e; exact Iff.rfl
theorem repOL_snoc {F H : Hp} {n : Nat} {w : T} {v : V} {fw : List Addr} (hw : RepO Γ F H n w v fw) : ∀ {ts : List T} {vs : List V} {fp : List Addr}, RepOL Γ F H n ts vs fp → RepOL Γ F H n (ts ++ [w]) (vs ++ [v]) (fp ++ fw)
  | [], vs, fp, h => by
    obtain ⟨rfl, rfl⟩ := h
    exact ⟨v, [], fw, [], rfl, by simp, hw, rfl, rfl⟩
  | t :: ts, vs, fp, h => by
    obtain ⟨u, r, p, q, rfl, rfl, h1, h2⟩ := h
    exact ⟨u, r ++ [v], p, q ++ fw, rfl, by simp, h1, repOL_snoc hw h2⟩
theorem repOL_get {F H : Hp} {n : Nat} : ∀ {ts : List T} {vs : List V} {fp : List Addr}, RepOL Γ F H n ts vs fp → ts.length = vs.length ∧ ∀ (j : Nat) (t : T), ts[j]? = some t → ∃ v p q r, vs[j]? = some v ∧ fp = p ++ q ++ r ∧ RepO Γ F H n t v q ∧
      ∀ (F' H' : Hp) (w : T) (u : V) (q' : List Addr), Same F F' → (∀ a o, H a = some o → ¬ Mut (some o) → H' a = some o) → (∀ a ∈ p ++ r, ∀ o, H a = some o → H' a = some o) → RepO Γ F' H' n w u q' → RepOL Γ F' H' n (ts.set j w) (vs.set j u) (p ++ q' ++ r)
  | [], vs, fp, h => by
    obtain ⟨rfl, rfl⟩ := h
    exact ⟨rfl, fun j t h => by simp at h⟩
  | t :: ts, vs, fp, h => by
    obtain ⟨u, r, p, q, rfl, rfl, h1, h2⟩ := h
    obtain ⟨l, g⟩ := repOL_get h2
    refine ⟨by simp [l], fun j t' hj => ?_⟩
    cases j with
    | zero =>
      simp at hj; subst hj
      refine ⟨u, [], p, q, rfl, by simp, h1, fun F' H' w u' q' hF ht hk hw => ?_⟩
      exact ⟨u', r, q', q, rfl, by simp, hw, RepOL.keep hF ht ts (fun a ha => hk a (by simp [ha])) h2⟩
    | succ j =>
      obtain ⟨v, p2, q2, r2, e1, rfl, e3, e4⟩ := g j t' (by simpa using hj)
      refine ⟨v, p ++ p2, q2, r2, by simpa using e1, by simp, e3, fun F' H' w u' q' hF ht hk hw => ?_⟩
      refine ⟨u, r.set j u', p, p2 ++ q' ++ r2, rfl, by simp, RepO.keep hF ht t (fun a ha => hk a (by simp [ha])) h1, e4 F' H' w u' q' hF ht (fun a ha => hk a ?_) hw⟩
      rcases List.mem_append.mp ha with ha | ha <;> simp [ha]
/-- x.append(e) -/
theorem sim_append {n i : Nat} {m : Md} {p : Bool} {te : TE} {e : M T} (hm : ms[i]? = some m) (ho : OwnM (n + 1) m) (he : SimE Γ E ms p te e (.own n)) :
    SimE Γ E ms false (tBM Γ.K "list" rAppend (tVar i) (tCons te tNil)) (get i >>= fun x => asL x >>= fun _ => e >>= fun w => appM i w) .fz := by
  intro W τ σ hs Q hF hp
  change Pst Γ E ms W σ hs false τ _ ((get i τ).next fun x => asL x >>= fun _ => e >>= fun w => appM i w) at hp
  unfold get at hp
  cases ht : τ[i]? with
  | none => rw [ht] at hp; exact hp.elim
  | some ox =>
  cases ox with
  | none => rw [ht] at hp; exact hp.elim
  | some x =>
  rw [ht] at hp
  cases x with
  | lst xs =>
    obtain ⟨vi, fp, hv, _, hsl, _, _⟩ := hF.slot hm ht
    obtain ⟨a, vs, fp', rfl, h1, rfl, h2⟩ := (ownM_ok ho).mp hsl
    refine ⟨.ref a, hv, .inl ⟨rfl, vs, .inl (.inl h1)⟩, ?_⟩
    have hp' : Pst Γ E ms W σ hs false τ (fun W' w τ' => ∀ v, Has Γ W' ms τ' σ hs .fz w v → Q v W'.H) ((e >>= fun w => appM i w) τ) := hp
    refine he.impure W τ σ hs _ hF ?_
    refine Pst.bind (q := false) hp' fun W1 w τ1 g1 hp1 vw hw => ?_
    have hw' : FrS Γ W1 ms τ1 σ (hs ++ [(.own n, some w, some vw)]) := hw
    change Pst Γ E ms W1 σ hs false τ1 _ ((get i τ1).next _) at hp1
    unfold get at hp1
    cases ht1 : τ1[i]? with
    | none => rw [ht1] at hp1; exact hp1.elim
    | some ox =>
    cases ox with
    | none => rw [ht1] at hp1; exact hp1.elim
    | some x1 =>
    rw [ht1] at hp1
    cases x1 with
    | lst xs1 =>
      obtain ⟨fs, ft, r1, r2, nd, hb, h4⟩ := hw'.merge hm ht1 hv
      obtain ⟨a', vs1, fp1, e1, k1, rfl, k2⟩ := (ownM_ok ho).mp r1
      cases e1
      have hp2 : Pst Γ E ms W1 σ hs false τ1 (fun W' w τ' => ∀ v, Has Γ W' ms τ' σ hs .fz w v → Q v W'.H) (((if xs1.length < szL then M.pure () else M.stuck) >>= fun _ => put i (.lst (xs1 ++ [w])) >>= fun _ => M.pure .non) τ1) := hp1
      by_cases hz : xs1.length < szL
      · rw [if_pos hz] at hp2
        have hlen : xs1.length = vs1.length := (repOL_get k2).1
        refine ⟨a, vs1, vw, rfl, rfl, k1, by rw [← hlen, ← szL_eq]; exact hz, ?_⟩
        have keepH : ∀ b o, b ≠ a → W1.H b = some o → upd W1.H a (.lst (vs1 ++ [vw])) b = some o := fun b o hb e => by rw [upd_ne hb]; exact e
        have hnot : a ∉ fp1 ++ ft := by
          rw [List.cons_append, List.nodup_cons] at nd
          exact nd.1
        have mu : Mut (W1.H a) := by rw [k1]; exact True.intro
        have ht' : ∀ b o, W1.H b = some o → ¬ Mut (some o) → upd W1.H a (.lst (vs1 ++ [vw])) b = some o := fun b o e nm => keepH b o (fun z => by subst z; rw [k1] at e; cases e; exact nm True.intro) e
        refine hp2 { W1 with H := upd W1.H a (.lst (vs1 ++ [vw])) } ⟨grow_le, fun z => nomatch z⟩ .non ⟨h4 (upd W1.H a (.lst (vs1 ++ [vw]))) (.lst (xs1 ++ [w])) (a :: (fp1 ++ ft)) ?_ ?_ ?_ ?_, rfl⟩
        · exact fun b o hb e => keepH b o (fun z => hb (by rw [z]; simp)) e
        · refine (ownM_ok ho).mpr ⟨a, vs1 ++ [vw], fp1 ++ ft, rfl, upd_same, rfl, repOL_snoc ?_ ?_⟩
          · exact RepO.keep (Same.refl _) ht' w (fun b hb o e => keepH b o (fun z => hnot (by rw [← z]; simp [hb])) e) r2
          · exact RepOL.keep (Same.refl _) ht' xs1 (fun b hb o e => keepH b o (fun z => hnot (by rw [← z]; simp [hb])) e) k2
        · simpa using nd
        · intro b hb; left; simpa using hb
      · rw [if_neg hz] at hp2; exact hp2.elim
    | _ => exact hp1.elim
  | _ => exact hp.elim
end
end TL
end
section
set_option Elab.async false
set_option linter.all false
set_option autoImplicit false
set_option maxRecDepth 100000
set_option maxHeartbeats 4000000
/-! S17: x[k] = w -/
namespace TL
open PySem PySem.Spec L2
section
variable {Γ : Gm} {E : XK} {ms : List Md} {rr : RC}
theorem asks_at {F H : Hp} {kvs : List (T × T)} {k : T} {a : Addr} {es : List Ent} {ep : Nat} {y : V} (hd : H a = some (DX Γ.w a es ep)) (nd : (es.map (·.1)).Nodup) (hD : RepD Γ F H kvs es) (hy : Rep Γ F H k y) (ha : askOk kvs k = true) : ∃ nk, Asks Γ H a es ep nk y ∧ keyOf k = some nk := by
  simp only [askOk, Bool.and_eq_true, decide_eq_true_eq] at ha
  obtain ⟨⟨⟨h1, h2⟩, h3⟩, h4⟩ := ha
  obtain ⟨nk, e1, e2⟩ := key_ok k h1
  exact ⟨nk, ⟨hd, nd, fun e he => repD_keys hD k e1 (by simpa using h4) h3 e he, ⟨by omega, F, k, e1, hy⟩, by rw [kind_of e1 h3]; exact h3⟩, e1⟩
theorem repD_app {F G : Hp} : ∀ {kvs kvs' : List (T × T)} {es es' : List Ent}, RepD Γ F G kvs es → RepD Γ F G kvs' es' → RepD Γ F G (kvs ++ kvs') (es ++ es')
  | [], _, es, _, h, h' => by cases h; exact h'
  | (k, x) :: kvs, _, es, _, h, h' => by
    obtain ⟨nk, kv, v, r, rfl, h1, h2, h3, h4⟩ := h
    exact ⟨nk, kv, v, r ++ _, rfl, h1, h2, h3, repD_app h4 h'⟩
theorem look_val {F G : Hp} {kvs : List (T × T)} {es : List Ent} (h : RepD Γ F G kvs es) (k : T) {nk : NestedKey} (hk : keyOf k = some nk) : (valE es nk).isSome = (look kvs k).isSome := by
  have := repD_get h k hk
  cases e : look kvs k with
  | none => rw [e] at this; rw [show valE es nk = none from this]; rfl
  | some w => rw [e] at this; obtain ⟨v, q, _⟩ := this; rw [q]; rfl
theorem repD_put {F G : Hp} {kvs : List (T × T)} {es : List Ent} (h : RepD Γ F G kvs es) {k w : T} {nk : NestedKey} {vk vw : V} (hk : keyOf k = some nk) (rk : Rep Γ F G k vk) (rw' : Rep Γ F G w vw) : RepD Γ F G (store kvs k w) (putE es nk vk vw) := by
  have hv := look_val h k hk
  unfold store putE
  rw [hv]
  split
  · clear hv
    have go : ∀ {kvs : List (T × T)} {es : List Ent}, RepD Γ F G kvs es → RepD Γ F G (kvs.map fun e => if tEq e.1 k = true then (e.1, w) else e) (es.map fun e => if e.1 = nk then (e.1, e.2.1, vw) else e) := by
      intro kvs
      induction kvs with
      | nil => intro es h; cases h; rfl
      | cons k0 kvs ih =>
        obtain ⟨k0, x⟩ := k0
        intro es h
        obtain ⟨n0, kv, v, r, rfl, h1, h2, h3, h4⟩ := h
        have e := key_eq h1 hk
        rw [List.map_cons, List.map_cons]
        by_cases q : n0 = nk
        · have e' : tEq k0 k = true := by rw [e]; exact decide_eq_true q
          rw [if_pos e', if_pos q]
          exact ⟨n0, kv, vw, _, rfl, h1, h2, rw', ih h4⟩
        · have e' : ¬ tEq k0 k = true := by rw [e]; simp [q]
          rw [if_neg e', if_neg q]
          exact ⟨n0, kv, v, _, rfl, h1, h2, h3, ih h4⟩
    exact go h
  · exact repD_app h ⟨nk, vk, vw, [], rfl, hk, rk, rw', rfl⟩
theorem valE_none : ∀ {es : List Ent} {k : NestedKey}, valE es k = none → k ∉ es.map (·.1)
  | [], _, _ => by simp
  | e :: es, k, h => by
    by_cases q : e.1 = k
    · rw [valE_pos q] at h; cases h
    · rw [valE_neg q] at h
      simp only [List.map_cons, List.mem_cons, not_or]
      exact ⟨fun z => q z.symm, valE_none h⟩
theorem putE_nodup {es : List Ent} {k : NestedKey} {kv v : V} (h : (es.map (·.1)).Nodup) : ((putE es k kv v).map (·.1)).Nodup := by
  unfold putE
  split
  · have : (es.map fun e => if e.1 = k then (e.1, e.2.1, v) else e).map (·.1) = es.map (·.1) := by
      rw [List.map_map]
      refine List.map_congr_left fun e _ => ?_
      simp only [Function.comp]
      split <;> rfl
    rw [this]; exact h
  · rename_i hn
    rw [List.map_append, List.nodup_append]
    refine ⟨h, by simp, fun a ha b hb e => ?_⟩
    simp at hb
    subst hb e
    refine valE_none ?_ ha
    cases q : valE es a with
    | none => rfl
    | some x => rw [q] at hn; exact (hn rfl).elim
theorem imm_of_key : ∀ {k : T}, isKey k = true → imm k = true := fun {k} h => by
  have go : ∀ t : T, isKey t = true → imm t = true := fun t =>
    T.rec (motive_1 := fun t => isKey t = true → imm t = true) (motive_2 := fun ts => isKeys ts = true → imms ts = true) (motive_3 := fun _ => True) (motive_4 := fun _ => True) (motive_5 := fun _ => True) (motive_6 := fun _ => True)
      (fun _ => rfl) (fun _ _ => rfl) (fun _ _ => rfl) (fun _ _ => rfl) (fun xs ih h => ih h) (fun xs _ h => by cases h) (fun xs _ h => by cases h) (fun xs _ h => by cases h) (fun c fs _ h => by cases h)
      (fun _ => rfl) (fun x xs ih1 ih2 h => by
        simp only [isKeys, Bool.and_eq_true] at h
        simp only [imms, ih1 h.1, ih2 h.2, Bool.and_self])
      True.intro (fun _ _ _ _ => True.intro) True.intro (fun _ _ _ _ => True.intro) (fun _ _ _ _ => True.intro) (fun _ _ _ => True.intro) t
  exact go k h
theorem FrS.fix {W : Wd} {τ : Tau} {σ : St} {hs : List Slot} (h : FrS Γ W ms τ σ hs) : W.Le W.fix ∧ FrS Γ W.fix ms τ σ hs := ⟨h.fr.fix.1, h.fr.fix.2, h.lt, h.lv⟩
theorem nodup_tail {a : Addr} {p q r fp : List Addr} (nd : (a :: (p ++ q ++ r) ++ fp).Nodup) : (a :: (p ++ fp ++ r)).Nodup := by
  have h : (a :: (p ++ q ++ r) ++ fp).Perm (q ++ (a :: (p ++ fp ++ r))) := by
    have h1 : (p ++ q ++ r).Perm (q ++ (p ++ r)) := by
      refine (List.Perm.append_right _ List.perm_append_comm).trans ?_
      rw [List.append_assoc]
    have h2 : (a :: (p ++ q ++ r) ++ fp).Perm (a :: (q ++ (p ++ r)) ++ fp) := List.Perm.append_right _ (List.Perm.cons _ h1)
    refine h2.trans ?_
    have h3 : (a :: (q ++ (p ++ r)) ++ fp).Perm (a :: (q ++ (p ++ fp ++ r))) := by
      simp only [List.cons_append]
      refine List.Perm.cons _ ?_
      rw [List.append_assoc, List.append_assoc, List.append_assoc]
      refine List.Perm.append_left _ (List.Perm.append_left _ List.perm_append_comm)
    refine h3.trans ?_
    exact List.perm_middle.symm
  have := h.nodup_iff.mp nd
  exact (List.nodup_append.mp this).2.1
/-- slot i [k] = w: what follows -/
theorem setL_step {W : Wd} {τ : Tau} {σ : St} {hs : List Slot} {n i : Nat} {m : Md} {w k : T} {vw vk vi : V} {xs ys : List T} {Q : Hp → Prop} (h : FrS Γ W ms τ σ (hs ++ [(.own n, some w, some vw)])) (hm : ms[i]? = some m) (ho : OwnM (n + 1) m) (hx : τ[i]? = some (some (.lst xs))) (hv : σ[i]? = some (some vi)) (hk : Rep Γ W.F W.H k vk) (hy : setL xs k w = some ys)
    (q : ∀ H', FrS Γ { W with H := H' } ms (τ.set i (some (.lst ys))) σ hs → Q H') : rSetL vi vk vw W.H Q := by
  cases k with
  | int k =>
    cases hk
    have hy : (pyIx xs.length k).map (fun j => xs.set j w) = some ys := hy
    cases hj : pyIx xs.length k with
    | none => rw [hj] at hy; cases hy
    | some j =>
      rw [hj] at hy; cases hy
      obtain ⟨fs, ft, r1, r2, nd, hb, h4⟩ := h.merge hm hx hv
      obtain ⟨a, vs, fp1, rfl, k1, rfl, k2⟩ := (ownM_ok ho).mp r1
      obtain ⟨hl, hg⟩ := repOL_get k2
      have hjl : j < xs.length := by
        unfold pyIx at hj
        split at hj
        · split at hj
          · cases hj; omega
          · cases hj
        · split at hj
          · cases hj; omega
          · cases hj
      obtain ⟨v0, p, q0, r, e1, rfl, e3, e4⟩ := hg j xs[j] (List.getElem?_eq_getElem hjl)
      refine ⟨a, vs, k, j, rfl, rfl, k1, by rw [← hl]; exact hj, ?_⟩
      have keepH : ∀ b o, b ≠ a → W.H b = some o → upd W.H a (.lst (vs.set j vw)) b = some o := fun b o hb e => by rw [upd_ne hb]; exact e
      have hnot : a ∉ p ++ q0 ++ r ++ ft := by
        rw [List.cons_append, List.nodup_cons] at nd
        exact nd.1
      have ht' : ∀ b o, W.H b = some o → ¬ Mut (some o) → upd W.H a (.lst (vs.set j vw)) b = some o := fun b o e nm => keepH b o (fun z => by subst z; rw [k1] at e; cases e; exact nm True.intro) e
      refine q _ (h4 (upd W.H a (.lst (vs.set j vw))) (.lst (xs.set j w)) (a :: (p ++ ft ++ r)) (fun b o hb e => keepH b o (fun z => hb (by rw [z]; simp)) e) ((ownM_ok ho).mpr ⟨a, vs.set j vw, p ++ ft ++ r, rfl, upd_same, rfl, e4 _ _ w vw ft (Same.refl _) ht' (fun b hb o e => keepH b o (fun z => hnot ?_) e) ?_⟩) (nodup_tail nd) fun b hb => .inl ?_)
      · rw [← z]
        rcases List.mem_append.mp hb with hb | hb <;> simp [hb]
      · exact RepO.keep (Same.refl _) ht' w (fun b hb o e => keepH b o (fun z => hnot (by rw [← z]; simp [hb])) e) r2
      · rcases List.mem_cons.mp hb with rfl | hb
        · simp
        · rcases List.mem_append.mp hb with hb | hb
          · rcases List.mem_append.mp hb with hb | hb <;> simp [hb]
          · simp [hb]
  | _ => cases hy
theorem setD_step {W : Wd} {τ : Tau} {σ : St} {hs : List Slot} {n i : Nat} {m : Md} {w k : T} {vw vk vi : V} {kvs : List (T × T)} {Q : Hp → Prop} (h : FrS Γ W ms τ σ (hs ++ [(.own 0, some w, some vw)])) (hm : ms[i]? = some m) (ho : OwnM (n + 1) m) (hx : τ[i]? = some (some (.dct kvs))) (hv : σ[i]? = some (some vi)) (hk : Rep Γ W.F W.H k vk) (ha : askOk kvs k = true) (hz : kvs.length < szL)
    (q : ∀ W' : Wd, W.Le W' → FrS Γ W' ms (τ.set i (some (.dct (store kvs k w)))) σ hs → Q W'.H) : ∃ a es ep nk, vi = .ref a ∧ Asks Γ W.H a es ep nk vk ∧ es.length < sizeLine ∧ ∀ ep', Q (upd W.H a (DX Γ.w a (putE es nk vk vw) ep')) := by
  obtain ⟨l, hF⟩ := h.fix
  obtain ⟨fs, ft, r1, r2, nd, hb, h4⟩ := hF.merge hm hx hv
  have fh : Same W.fix.F W.H := hF.fr.fb.trans hF.fr.bh
  obtain ⟨a, es, ep, rfl, k1, k2, rfl, k3⟩ := (ownM_ok ho).mp r1
  rw [RepO_zero] at r2
  obtain ⟨rfl, r2⟩ := r2
  have hk' : Rep Γ W.fix.F W.H k vk := Rep.mono l.f k (Same.refl _) hk
  obtain ⟨nk, g, e1⟩ := asks_at (F := W.fix.F) k1 k2 (RepD.mono (Same.refl _) kvs fh k3) hk' ha
  have hik : isKey k = true := by
    simp only [askOk, Bool.and_eq_true] at ha
    exact ha.1.1.1
  have hk2 : Rep Γ W.fix.F W.fix.F k vk := imm_rep (Same.refl _) (fun a o e nm => fix_t h.fr a o e nm) k (imm_of_key hik) hk'
  refine ⟨a, es, ep, nk, rfl, g, by rw [← repD_len k3, ← szL_eq]; exact hz, fun ep' => ?_⟩
  refine q { W.fix with H := upd W.H a (DX Γ.w a (putE es nk vk vw) ep') } ⟨l.f, l.b, l.g⟩ (h4 _ (.dct (store kvs k w)) [a] (fun b o hb e => ?_) ((ownM_ok ho).mpr ⟨a, putE es nk vk vw, ep', rfl, upd_same, putE_nodup k2, rfl, repD_put k3 e1 hk2 r2⟩) (by simp) fun b hb => .inl (by simpa using hb))
  rw [upd_ne (fun z => hb (by rw [z]; simp))]
  exact e
theorem getM_ok {i : Nat} {τ : Tau} {f : T → M Ctl} {W : Wd} {σ : St} {hs : List Slot} {D : Ends} (h : PstS Γ E ms rr W σ hs D ((get i >>= f) τ)) : ∃ x, τ[i]? = some (some x) ∧ PstS Γ E ms rr W σ hs D (f x τ) := by
  change PstS Γ E ms rr W σ hs D ((get i τ).next f) at h
  unfold get at h
  cases e : τ[i]? with
  | none => rw [e] at h; exact h.elim
  | some o =>
    cases o with
    | none => rw [e] at h; exact h.elim
    | some x => rw [e] at h; exact ⟨x, rfl, h⟩
theorem PstS.hs {W : Wd} {σ : St} {hs hs' : List Slot} {D : Ends} {r : RE Ctl} (hd : ∀ W' τ' σ', FrS Γ W' ms τ' σ' hs' → FrS Γ W' ms τ' σ' hs) (hq : Back rr) (h : PstS Γ E ms rr W σ hs D r) (hn : ∀ w τ, r ≠ .ok (.rt w) τ) : PstS Γ E ms rr W σ hs' D r := by
  cases r with
  | stuck => exact h
  | exc x τ => exact fun W' σ' cls d g hF hx => h W' σ' cls d g (hd W' τ σ' hF) hx
  | ok c τ =>
    cases c with
    | nx => exact fun W' σ' g hF => h W' σ' g (hd W' τ σ' hF)
    | bk => exact fun W' σ' g hF => h W' σ' g (hd W' τ σ' hF)
    | ct => exact fun W' σ' g hF => h W' σ' g (hd W' τ σ' hF)
    | rt w => exact absurd rfl (hn w τ)
theorem sim_setL {n i : Nat} {m : Md} {p q : Bool} {te tk : TE} {e ek : M T} {rk : RC} (hm : ms[i]? = some m) (ho : OwnM (n + 1) m) (he : SimE Γ E ms p te e (.own n)) (hk : SimE Γ E ms q tk ek rk) : SimS Γ E ms rr (tAsg te (gSub (tVar i) tk (rSetU Γ))) (sSetL i e ek) := by
  intro W τ σ hs D hF hp
  refine he W τ σ hs _ hF (PstS.bind hp fun W1 w τ1 l1 hp1 vw hw => ?_)
  have hw' : FrS Γ W1 ms τ1 σ (hs ++ [(.own n, some w, some vw)]) := hw
  obtain ⟨x0, hx0, hp1⟩ := getM_ok hp1
  obtain ⟨vi, _, hv, _⟩ := hw'.slot hm hx0
  refine ⟨vi, hv, hk W1 τ1 σ _ _ hw' (Pst.hs (hs := hs) (fun _ _ h => h.drop) (PstS.bind hp1 fun W2 k τ2 l2 hp2 vk hvk => ?_))⟩
  have hF2 : FrS Γ W2 ms τ2 σ (hs ++ [(.own n, some w, some vw)]) := hvk.fr
  have hp2' : PstS Γ E ms rr W2 σ hs D ((get i >>= fun x => asL x >>= fun xs => M.of (setL xs k w) >>= fun ys => put i (.lst ys) >>= fun _ => M.pure .nx) τ2) := by
    have : (setML i w k >>= fun _ => (M.pure .nx : M Ctl)) τ2 = (get i >>= fun x => asL x >>= fun xs => M.of (setL xs k w) >>= fun ys => put i (.lst ys) >>= fun _ => M.pure .nx) τ2 := by
      show ((setML i w k) τ2).next _ = ((get i) τ2).next _
      unfold setML
      show (((get i) τ2).next _).next _ = _
      cases h1 : get i τ2 with
      | stuck => rfl
      | exc x τ => rfl
      | ok x τ =>
        cases x with
        | lst xs => cases h2 : setL xs k w with
          | none => simp [RE.next, asL, M.of, h2, bind, M.bind, M.pure, M.stuck]
          | some ys => simp [RE.next, asL, M.of, h2, bind, M.bind, M.pure, put]
        | _ => rfl
    rw [← this]; exact hp2
  obtain ⟨x, hx, hp3⟩ := getM_ok hp2'
  cases x with
  | lst xs =>
    have hp4 : PstS Γ E ms rr W2 σ hs D ((M.of (setL xs k w) >>= fun ys => put i (.lst ys) >>= fun _ => M.pure .nx) τ2) := hp3
    cases hy : setL xs k w with
    | none => rw [hy] at hp4; exact hp4.elim
    | some ys =>
      rw [hy] at hp4
      have hp5 : PstS Γ E ms rr W2 σ hs D (.ok .nx (τ2.set i (some (.lst ys)))) := hp4
      exact .inl (setL_step hF2 hm ho hx hv hvk.now hy fun H' hF' => hp5 _ σ ⟨grow_le, fun _ _ _ => rfl⟩ hF')
  | _ => exact hp3.elim
theorem sim_set1 {i n : Nat} {m : Md} {p q : Bool} {te tk : TE} {e ek : M T} {rk : RC} (hm : ms[i]? = some m) (ho : OwnM (n + 1) m) (hn : n = 0) (he : SimE Γ E ms p te e .fz) (hk : SimE Γ E ms q tk ek rk) : SimS Γ E ms rr (tAsg te (gSub (tVar i) tk (rSetU Γ))) (sSetI i e ek) := by
  subst hn
  intro W τ σ hs D hF hp
  refine he.fz0 W τ σ hs _ hF (PstS.bind hp fun W1 w τ1 l1 hp1 vw hw => ?_)
  have hw' : FrS Γ W1 ms τ1 σ (hs ++ [(.own 0, some w, some vw)]) := hw
  obtain ⟨x0, hx0, hp1⟩ := getM_ok hp1
  obtain ⟨vi, _, hv, _⟩ := hw'.slot hm hx0
  refine ⟨vi, hv, hk W1 τ1 σ _ _ hw' (Pst.hs (hs := hs) (fun _ _ h => h.drop) (PstS.bind hp1 fun W2 k τ2 l2 hp2 vk hvk => ?_))⟩
  have hF2 : FrS Γ W2 ms τ2 σ (hs ++ [(.own 0, some w, some vw)]) := hvk.fr
  have hp2' : PstS Γ E ms rr W2 σ hs D ((get i >>= fun x => M.of (setC x k w) >>= fun y => put i y >>= fun _ => M.pure .nx) τ2) := by
    have : (setM i w k >>= fun _ => (M.pure .nx : M Ctl)) τ2 = (get i >>= fun x => M.of (setC x k w) >>= fun y => put i y >>= fun _ => M.pure .nx) τ2 := by
      show (((get i) τ2).next _).next _ = _
      show _ = ((get i) τ2).next _
      cases h1 : get i τ2 with
      | stuck => rfl
      | exc x τ => rfl
      | ok x τ => cases h2 : setC x k w with
        | none => simp [RE.next, M.of, h2, bind, M.bind, M.pure, M.stuck]
        | some ys => simp [RE.next, M.of, h2, bind, M.bind, M.pure, put]
    rw [← this]; exact hp2
  obtain ⟨x, hx, hp3⟩ := getM_ok hp2'
  cases hy : setC x k w with
  | none => rw [hy] at hp3; exact hp3.elim
  | some y =>
    rw [hy] at hp3
    have hp5 : PstS Γ E ms rr W2 σ hs D (.ok .nx (τ2.set i (some y))) := hp3
    cases x with
    | lst xs =>
      have hy : (setL xs k w).map T.lst = some y := hy
      cases hz : setL xs k w with
      | none => rw [hz] at hy; cases hy
      | some ys =>
        rw [hz] at hy; cases hy
        exact .inl (setL_step hF2 hm ho hx hv hvk.now hz fun H' hF' => hp5 _ σ ⟨grow_le, fun _ _ _ => rfl⟩ hF')
    | dct kvs =>
      have hy : (if askOk kvs k = true ∧ kvs.length < szL then some (T.dct (store kvs k w)) else none) = some y := hy
      obtain ⟨⟨ha, hz⟩, rfl⟩ := ite_some hy
      exact .inr (setD_step hF2 hm ho hx hv hvk.now ha hz fun W' l hF' => hp5 W' σ ⟨l, fun _ _ _ => rfl⟩ hF')
    | _ => cases hy
end
end TL
end
section
set_option Elab.async false
set_option linter.all false
set_option autoImplicit false
set_option maxRecDepth 100000
set_option maxHeartbeats 4000000
/-! S18: what is walked; targets -/
namespace TL
open PySem PySem.Spec L2
section
variable {Γ : Gm} {E : XK} {ms : List Md} {rr : RC}
def Firm (r : RC) : Prop := r = .sh ∨ r = .fz
theorem GOf.le {W W' : Wd} {r : RC} (hr : Firm r) (l : W.Le W') : Same (GOf W r) (GOf W' r) := by
  rcases hr with rfl | rfl
  · exact l.b
  · exact l.f
theorem GOf.h {W : Wd} {S : List Slot} {r : RC} (hr : Firm r) (f : Fr Γ W S) : Same (GOf W r) W.H := by
  rcases hr with rfl | rfl
  · exact f.bh
  · exact f.fb.trans f.bh
theorem Has.firm {W : Wd} {τ : Tau} {σ : St} {hs : List Slot} {r : RC} (hr : Firm r) {t : T} {v : V} (h : Has Γ W ms τ σ hs r t v) : Rep Γ W.F (GOf W r) t v := by
  rcases hr with rfl | rfl
  · exact h.2
  · exact h.2
theorem iter_list {W : Wd} {r : RC} (hr : Firm r) {ts : List T} {a : Addr} {vs : List V} (h1 : SqL Γ.K (GOf W r) a vs) (h2 : RepL Γ W.F (GOf W r) ts vs) : Iter Γ r W (Itl Γ.K a) ts := by
  intro W' S l f
  obtain ⟨hl, hg⟩ := repL_get h2
  have q : SqL Γ.K W'.H a vs := sqL_sub ((GOf.le hr l).trans (GOf.h hr f)) h1
  refine ⟨⟨vs, q, by omega⟩, fun i x hx => ?_⟩
  obtain ⟨v, e, rv⟩ := hg i x hx
  refine ⟨⟨vs, v, q, e⟩, fun v' H' hy => ?_⟩
  obtain ⟨rfl, hy⟩ := hy
  have e' := hy vs q
  rw [e] at e'; cases e'
  exact ⟨W', rfl, .refl _, f, Rep.mono l.f x (GOf.le hr l) rv⟩
theorem iter_tup {W : Wd} {r : RC} (hr : Firm r) {ts : List T} {a : Addr} {vs : List V} (h1 : SqT Γ.K (GOf W r) a vs) (h2 : RepL Γ W.F (GOf W r) ts vs) : Iter Γ r W (Itt Γ.K a) ts := by
  intro W' S l f
  obtain ⟨hl, hg⟩ := repL_get h2
  have q : SqT Γ.K W'.H a vs := sqT_sub ((GOf.le hr l).trans (GOf.h hr f)) h1
  refine ⟨⟨vs, q, by omega⟩, fun i x hx => ?_⟩
  obtain ⟨v, e, rv⟩ := hg i x hx
  refine ⟨⟨vs, v, q, e⟩, fun v' H' hy => ?_⟩
  obtain ⟨rfl, hy⟩ := hy
  have e' := hy vs q
  rw [e] at e'; cases e'
  exact ⟨W', rfl, .refl _, f, Rep.mono l.f x (GOf.le hr l) rv⟩
theorem iter_str {W : Wd} {r : RC} (z : Str) : Iter Γ r W (Its z) (z.cps.toList.map fun c => .str ⟨#[c]⟩) := by
  intro W' S l f
  refine ⟨by show z.cps.size ≤ _; simp, fun i x hx => ?_⟩
  rw [List.getElem?_map] at hx
  cases e : z.cps.toList[i]? with
  | none => rw [e] at hx; cases hx
  | some c =>
    rw [e] at hx; cases hx
    obtain ⟨hi, _⟩ := List.getElem?_eq_some_iff.mp e
    refine ⟨(show i < z.cps.size by simpa using hi), fun v H' hy => ?_⟩
    obtain ⟨rfl, c', hc, rfl⟩ := hy
    rw [← Array.getElem?_toList, e] at hc
    cases hc
    exact ⟨W', rfl, .refl _, f, rfl⟩
theorem repD_at {F G : Hp} : ∀ {kvs : List (T × T)} {es : List Ent}, RepD Γ F G kvs es → ∀ (i : Nat) (p : T × T), kvs[i]? = some p → ∃ e, es[i]? = some e ∧ Rep Γ F G p.1 e.2.1 ∧ Rep Γ F G p.2 e.2.2
  | [], es, h, i, p, hp => by simp at hp
  | (k, x) :: kvs, es, h, i, p, hp => by
    obtain ⟨nk, kv, v, r, rfl, _, h2, h3, h4⟩ := h
    cases i with
    | zero => simp at hp; subst hp; exact ⟨_, rfl, h2, h3⟩
    | succ i => simpa using repD_at h4 i p (by simpa using hp)
theorem iter_dct {W : Wd} {r : RC} (hr : Firm r) {kvs : List (T × T)} {a : Addr} {es : List Ent} {ep : Nat} (h1 : GOf W r a = some (DX Γ.w a es ep)) (h2 : RepD Γ W.F (GOf W r) kvs es) : Iter Γ r W (Itx Γ.w a es ep) (kvs.map (·.1)) := by
  intro W' S l f
  have q : W'.H a = some (DX Γ.w a es ep) := ((GOf.le hr l).trans (GOf.h hr f)) _ _ h1
  have hl := repD_len h2
  refine ⟨⟨q, by simp; omega⟩, fun i x hx => ?_⟩
  rw [List.getElem?_map] at hx
  cases e : kvs[i]? with
  | none => rw [e] at hx; cases hx
  | some p =>
    rw [e] at hx; cases hx
    obtain ⟨en, he, rk, _⟩ := repD_at h2 i p e
    obtain ⟨hi, _⟩ := List.getElem?_eq_some_iff.mp he
    refine ⟨⟨q, hi⟩, fun v H' hy => ?_⟩
    obtain ⟨rfl, en', he', rfl⟩ := hy
    rw [he] at he'; cases he'
    exact ⟨W', rfl, .refl _, f, Rep.mono l.f p.1 (GOf.le hr l) rk⟩
theorem sim_iU {p : Bool} {te : TE} {e : M T} {r : RC} (h : SimE Γ E ms p te e r) (hr : Firm r) : SimI Γ E ms p (iU Γ te) (e >>= fun x => M.of (oElems x)) r := by
  intro W τ σ hs R hF hp
  refine h W τ σ hs _ hF (Pst.bind1 hp fun W1 x τ1 g1 hp1 v hv => ?_)
  have rv := hv.firm hr
  have hF1 := hv.fr
  have gh := GOf.h hr hF1.fr
  cases x with
  | lst xs =>
    obtain ⟨a, vs, rfl, h1, h2⟩ := rv
    exact .inr ⟨a, rfl, .inl ⟨⟨vs, sqL_sub gh h1⟩, hp1 W1 Go.refl _ hF1 (iter_list hr h1 h2)⟩⟩
  | tup xs =>
    obtain ⟨a, vs, rfl, h1, h2⟩ := rv
    exact .inr ⟨a, rfl, .inr (.inl ⟨⟨vs, sqT_sub gh h1⟩, hp1 W1 Go.refl _ hF1 (iter_tup hr h1 h2)⟩)⟩
  | str z =>
    cases rv
    exact .inl ⟨z, rfl, hp1 W1 Go.refl _ hF1 (iter_str z)⟩
  | dct kvs =>
    obtain ⟨a, es, ep, rfl, h1, h2, h3⟩ := rv
    exact .inr ⟨a, rfl, .inr (.inr ⟨es, ep, gh _ _ h1, hp1 W1 Go.refl _ hF1 (iter_dct hr h1 h3)⟩)⟩
  | _ => exact hp1.elim
theorem iter_ints {W : Wd} {r : RC} (lo : Int) (n : Nat) : Iter Γ r W (Itr lo n) (intsL lo n) := by
  intro W' S l f
  refine ⟨by show n ≤ _; simp [intsL], fun i x hx => ?_⟩
  unfold intsL at hx
  rw [List.getElem?_map] at hx
  cases e : (List.range n)[i]? with
  | none => rw [e] at hx; cases hx
  | some j =>
    rw [e] at hx; cases hx
    obtain ⟨hi, hj⟩ := List.getElem?_eq_some_iff.mp e
    simp at hj hi
    subst hj
    refine ⟨hi, fun v H' hy => ?_⟩
    obtain ⟨rfl, rfl⟩ := hy
    exact ⟨W', rfl, .refl _, f, rfl⟩
theorem sim_range1 {p : Bool} {ta : TA} {e : M (List T)} {cs : List RC} {r : RC} (ha : SimA Γ E ms p ta e cs) (hn : NoSlot cs) : SimI Γ E ms p (iRng1 ta) (e >>= fun ts => M.of (fRange1 ts)) r := by
  intro W τ σ hs R hF hp
  refine ha W τ σ hs _ hF (Pst.bind1 hp fun W1 ts τ1 g1 hp1 vs hF1 hv => ?_)
  have hl := HasA.now hF1.fr hn.all hv
  match ts, hp1 with
  | [.int j], hp1 =>
    obtain ⟨v, u, rfl, h1, h2⟩ := hl
    cases h1; cases h2
    have hp2 : Pst Γ E ms W1 σ hs true τ1 (fun W' xs τ' => ∀ J, FrS Γ W' ms τ' σ hs → Iter Γ r W' J xs → R J W'.H) (M.of (if -(2 ^ 62) ≤ j ∧ j < 2 ^ 62 then some (intsL 0 j.toNat) else none) τ1) := hp1
    by_cases hc : -(2 ^ 62) ≤ j ∧ j < 2 ^ 62
    · rw [if_pos hc] at hp2
      exact ⟨j, rfl, hc.1, hc.2, hp2 W1 Go.refl _ hF1 (iter_ints 0 j.toNat)⟩
    · rw [if_neg hc] at hp2; exact hp2.elim
theorem sim_range2 {p : Bool} {ta : TA} {e : M (List T)} {cs : List RC} {r : RC} (ha : SimA Γ E ms p ta e cs) (hn : NoSlot cs) : SimI Γ E ms p (iRng2 ta) (e >>= fun ts => M.of (fRange2 ts)) r := by
  intro W τ σ hs R hF hp
  refine ha W τ σ hs _ hF (Pst.bind1 hp fun W1 ts τ1 g1 hp1 vs hF1 hv => ?_)
  have hl := HasA.now hF1.fr hn.all hv
  match ts, hp1 with
  | [.int i, .int j], hp1 =>
    obtain ⟨v, u, rfl, h1, v', u', rfl, h2, h3⟩ := hl
    cases h1; cases h2; cases h3
    have hp2 : Pst Γ E ms W1 σ hs true τ1 (fun W' xs τ' => ∀ J, FrS Γ W' ms τ' σ hs → Iter Γ r W' J xs → R J W'.H) (M.of (if (-(2 ^ 62) ≤ i ∧ i < 2 ^ 62) ∧ (-(2 ^ 62) ≤ j ∧ j < 2 ^ 62) then some (intsL i (j - i).toNat) else none) τ1) := hp1
    by_cases hc : (-(2 ^ 62) ≤ i ∧ i < 2 ^ 62) ∧ (-(2 ^ 62) ≤ j ∧ j < 2 ^ 62)
    · rw [if_pos hc] at hp2
      exact ⟨i, j, rfl, ⟨hc.1.1, hc.1.2, hc.2.1, hc.2.2⟩, hp2 W1 Go.refl _ hF1 (iter_ints i (j - i).toNat)⟩
    · rw [if_neg hc] at hp2; exact hp2.elim
/-! ### targets -/
def SimGs (Γ : Gm) (ms : List Md) (g : TGs) (b : List T → M Unit) (r : RC) : Prop := ∀ W τ σ hs xs vs R τ', FrS Γ W ms τ σ hs → RepL Γ W.F (GOf W r) xs vs → b xs τ = .ok () τ' → (∀ W' σ', Nx ms W σ W' σ' → FrS Γ W' ms τ' σ' hs → R σ' W'.H) → g vs σ W.H R
theorem sim_gnil {r : RC} : SimGs Γ ms gNil (puts []) r := by
  intro W τ σ hs xs vs R τ' hF hx hb hR
  cases xs with
  | nil => cases hx; cases hb; exact ⟨rfl, hR W σ .refl hF⟩
  | cons x xs => cases hb
theorem sim_gcons {i : Nat} {m : Md} {r : RC} {is : List Nat} {g : TGs} (hm : ms[i]? = some m) (hr : Into r m) (hk : Firm r) (h : SimGs Γ ms g (puts is) r) : SimGs Γ ms (gCons (gName i) g) (puts (i :: is)) r := by
  intro W τ σ hs xs vs R τ' hF hx hb hR
  cases xs with
  | nil => cases hb
  | cons x xs =>
    obtain ⟨v, u, rfl, h1, h2⟩ := hx
    have hb : (put i x >>= fun _ => puts is xs) τ = .ok () τ' := hb
    have hb : puts is xs (τ.set i (some x)) = .ok () τ' := hb
    refine ⟨v, u, rfl, ?_⟩
    have hF2 : FrS Γ W ms (τ.set i (some x)) (σ.set i (some v)) hs := FrS.set (r := r) (by rcases hk with rfl | rfl <;> exact ⟨hF, h1⟩) hm hr
    refine h W (τ.set i (some x)) (σ.set i (some v)) hs xs u R τ' hF2 h2 hb fun W' σ' nx hF' => hR W' σ' (Nx.trans ⟨.refl _, fun j n hj => ?_⟩ nx) hF'
    by_cases e : i = j
    · subst e
      obtain ⟨hj, hkk⟩ := hj
      rw [hm] at hj; cases hj
      cases m <;> first | (cases hkk; done) | skip
      all_goals (rcases hk with rfl | rfl <;> exact (show False from hr).elim)
    · rw [List.getElem?_set_ne e]
theorem sim_gtup {n : Nat} {r : RC} {is : List Nat} {g : TGs} (hk : Firm r) (hn : is.length = n) (h : SimGs Γ ms g (puts is) r) : SimG Γ ms (gTup Γ.K n g) (putT is) r := by
  intro W τ σ hs x v R τ' hF hx hb hR
  cases x with
  | tup xs =>
    obtain ⟨a, vs, rfl, h1, h2⟩ := hx
    have hb : puts is xs τ = .ok () τ' := hb
    have hl : xs.length = is.length := by
      clear h2 hn h
      induction is generalizing xs τ with
      | nil => cases xs with
        | nil => rfl
        | cons _ _ => cases hb
      | cons i is ih =>
        cases xs with
        | nil => cases hb
        | cons x xs =>
          have hb' : puts is xs (τ.set i (some x)) = .ok () τ' := hb
          have go : ∀ (is : List Nat) (xs : List T) (τ : Tau), puts is xs τ = .ok () τ' → xs.length = is.length := by
            intro is
            induction is with
            | nil => intro xs τ h; cases xs with
              | nil => rfl
              | cons _ _ => cases h
            | cons i is ih =>
              intro xs τ h
              cases xs with
              | nil => cases h
              | cons x xs => simp [ih xs _ (show puts is xs (τ.set i (some x)) = .ok () τ' from h)]
          simp [go is xs _ hb']
    exact ⟨a, vs, rfl, sqT_sub (GOf.h hk hF.fr) h1, by rw [← (repL_get h2).1, hl, hn], h W τ σ hs xs vs R τ' hF h2 hb hR⟩
  | _ => cases hb
theorem put_ne {i : Nat} : ∀ x τ, ∀ y τ', put i x τ ≠ .exc y τ' := fun _ _ _ _ h => by cases h
theorem puts_ne : ∀ (is : List Nat) (xs : List T) (τ : Tau), ∀ y τ', puts is xs τ ≠ .exc y τ'
  | [], [], τ, y, τ', h => by cases h
  | [], _ :: _, τ, y, τ', h => by cases h
  | _ :: _, [], τ, y, τ', h => by cases h
  | i :: is, x :: xs, τ, y, τ', h => puts_ne is xs _ y τ' (show puts is xs (τ.set i (some x)) = .exc y τ' from h)
theorem putT_ne {is : List Nat} : ∀ x τ, ∀ y τ', putT is x τ ≠ .exc y τ' := fun x τ y τ' h => by
  cases x with
  | tup xs => exact puts_ne is xs τ y τ' h
  | _ => cases h
end
end TL
end
section
set_option Elab.async false
set_option linter.all false
set_option autoImplicit false
set_option maxRecDepth 100000
set_option maxHeartbeats 4000000
/-! S19: enumerate; list comprehensions -/
namespace TL
open PySem PySem.Spec L2
section
variable {Γ : Gm} {E : XK} {ms : List Md} {rr : RC}
theorem numF_get : ∀ {xs : List T} {k i : Nat} {x : T}, (numberedF k xs)[i]? = some x → ∃ y, xs[i]? = some y ∧ x = .tup [.int ((k + i : Nat) : Int), y]
  | [], _, _, _, h => by simp [numberedF] at h
  | y :: xs, k, 0, x, h => by simp [numberedF] at h; exact ⟨y, rfl, h.symm⟩
  | y :: xs, k, i + 1, x, h => by
    have h' : (numberedF (k + 1) xs)[i]? = some x := by simpa [numberedF] using h
    obtain ⟨z, e, q⟩ := numF_get h'
    refine ⟨z, by simpa using e, ?_⟩
    rw [q]; congr 4; omega
theorem numF_len : ∀ (xs : List T) (k : Nat), (numberedF k xs).length = xs.length
  | [], _ => rfl
  | _ :: xs, k => by simp [numberedF, numF_len xs]
theorem iter_enum {W : Wd} {r : RC} (hr : Firm r) {ts : List T} {a : Addr} {vs : List V} (h1 : SqL Γ.K (GOf W r) a vs ∨ SqT Γ.K (GOf W r) a vs) (h2 : RepL Γ W.F (GOf W r) ts vs) (J : It) (hJ : (J = Ite Γ.K a ∧ SqL Γ.K (GOf W r) a vs) ∨ (J = Ittn Γ.K a ∧ SqT Γ.K (GOf W r) a vs)) : Iter Γ .sh W J (numbered ts) := by
  intro W' S l f
  obtain ⟨hl, hg⟩ := repL_get h2
  have hln : (numbered ts).length = ts.length := numF_len ts 0
  have fin : ∀ (i : Nat) (x : T) (v v' : V) (T0 : Addr) (H' : Hp), ts[i]? = some x → vs[i]? = some v → Rep Γ W.F (GOf W r) x v → W'.H T0 = none → H' = upd W'.H T0 (.tup [.int (i : Nat), v]) → v' = .ref T0 → ∃ W'' : Wd, W''.H = H' ∧ W'.Le W'' ∧ Fr Γ W'' S ∧ Rep Γ W''.F (GOf W'' .sh) (.tup [.int ((0 + i : Nat) : Int), x]) v' := by
    rintro i x v v' T0 H' hx hv rv hT rfl rfl
    obtain ⟨l2, f2⟩ := f.newB (.tup [.int (i : Nat), v]) hT
    refine ⟨_, rfl, l2, f2, T0, [.int (i : Nat), v], rfl, .inl (.inl upd_same), .int (i : Nat), [v], rfl, by rw [Nat.zero_add]; rfl, v, [], rfl, ?_, rfl⟩
    have g1 : Same (GOf W r) W'.B := by
      rcases hr with rfl | rfl
      · exact l.b
      · exact l.f.trans f.fb
    exact Rep.mono (l.f.trans l2.f) x (g1.trans l2.b) rv
  rcases hJ with ⟨rfl, hs⟩ | ⟨rfl, hs⟩
  · have q : SqL Γ.K W'.H a vs := sqL_sub ((GOf.le hr l).trans (GOf.h hr f)) hs
    refine ⟨⟨vs, q, by omega⟩, fun i x hx => ?_⟩
    obtain ⟨y, hy, rfl⟩ := numF_get hx
    obtain ⟨v, e, rv⟩ := hg i y hy
    refine ⟨⟨vs, v, q, e⟩, fun v' H' hY => ?_⟩
    obtain ⟨T0, v2, rfl, hT, rfl, hv2⟩ := hY
    have e2 := hv2 vs q
    rw [e] at e2; cases e2
    exact fin i y v _ T0 _ hy e rv hT rfl rfl
  · have q : SqT Γ.K W'.H a vs := sqT_sub ((GOf.le hr l).trans (GOf.h hr f)) hs
    refine ⟨⟨vs, q, by omega⟩, fun i x hx => ?_⟩
    obtain ⟨y, hy, rfl⟩ := numF_get hx
    obtain ⟨v, e, rv⟩ := hg i y hy
    refine ⟨⟨vs, v, q, e⟩, fun v' H' hY => ?_⟩
    obtain ⟨T0, v2, rfl, hT, rfl, hv2⟩ := hY
    have e2 := hv2 vs q
    rw [e] at e2; cases e2
    exact fin i y v _ T0 _ hy e rv hT rfl rfl
theorem sim_enum {p : Bool} {te : TE} {e : M T} {r : RC} (h : SimE Γ E ms p te e r) (hr : Firm r) : SimI Γ E ms p (iEnumS Γ.K (tCons te tNil)) (e >>= fun x => M.of (fEnum [x])) .sh := by
  intro W τ σ hs R hF hp
  refine h W τ σ hs _ hF (Pst.bind1 hp fun W1 x τ1 g1 hp1 v hv => ?_)
  have rv := hv.firm hr
  have hF1 := hv.fr
  have gh := GOf.h hr hF1.fr
  cases x with
  | lst xs =>
    obtain ⟨a, vs, rfl, h1, h2⟩ := rv
    exact ⟨a, rfl, .inl ⟨⟨vs, sqL_sub gh h1⟩, hp1 W1 Go.refl _ hF1 (iter_enum hr (.inl h1) h2 _ (.inl ⟨rfl, h1⟩))⟩⟩
  | tup xs =>
    obtain ⟨a, vs, rfl, h1, h2⟩ := rv
    exact ⟨a, rfl, .inr ⟨⟨vs, sqT_sub gh h1⟩, hp1 W1 Go.refl _ hF1 (iter_enum hr (.inr h1) h2 _ (.inr ⟨rfl, h1⟩))⟩⟩
  | _ => exact hp1.elim
/-! ### the block of a comprehension -/
theorem wipeT_len (τ : Tau) : ∀ vs : List Nat, (wipeT τ vs).length = τ.length
  | [] => rfl
  | v :: vs => by unfold wipeT; rw [List.length_set, wipeT_len τ vs]
theorem FrS.wipe {W : Wd} {τ : Tau} {σ : St} {hs : List Slot} : ∀ (vs : List Nat), (∀ v ∈ vs, v < ms.length) → FrS Γ W ms τ σ hs → FrS Γ W ms (wipeT τ vs) (L2.wipe σ vs) hs
  | [], _, h => h
  | v :: vs, hv, h => by
    have ih := FrS.wipe vs (fun u hu => hv u (List.mem_cons_of_mem _ hu)) h
    have hvl := hv v (by simp)
    have hm : ms[v]? = some ms[v] := List.getElem?_eq_getElem hvl
    have hl := sl_len ih.lt ih.lv
    have := ih.fr.forget v ms[v] none
    rw [List.set_append_left _ _ (by omega), sl_set _ _ hm] at this
    exact ⟨this, by unfold wipeT; rw [List.length_set]; exact ih.lt, by unfold L2.wipe; rw [List.length_set]; exact ih.lv⟩
/-- slots that hold nothing may hold any value -/
theorem FrS.other {W : Wd} {τ : Tau} {σ σ' : St} {hs : List Slot} (h : FrS Γ W ms τ σ hs) (hl : σ'.length = ms.length) (he : ∀ (i : Nat) (t : T), τ[i]? = some (some t) → σ'[i]? = σ[i]?) : FrS Γ W ms τ σ' hs := by
  refine ⟨h.fr.weaken (pr_app ?_ (pr_refl (fun _ => .inl rfl) _)), h.lt, hl⟩
  have go : ∀ {ms : List Md} {τ : Tau} {σ σ' : St}, τ.length = ms.length → σ.length = ms.length → σ'.length = ms.length → (∀ (i : Nat) (t : T), τ[i]? = some (some t) → σ'[i]? = σ[i]?) → Paired Wk (sl ms τ σ) (sl ms τ σ') := by
    intro ms
    induction ms with
    | nil => intro τ σ σ' _ _ _ _; simp only [sl]; exact .nil
    | cons m ms ih =>
      intro τ σ σ' h1 h2 h3 he
      cases τ with
      | nil => simp at h1
      | cons t τ =>
      cases σ with
      | nil => simp at h2
      | cons v σ =>
      cases σ' with
      | nil => simp at h3
      | cons v' σ' =>
        refine .cons ?_ (ih (by simpa using h1) (by simpa using h2) (by simpa using h3) fun i t hi => by simpa using he (i + 1) t (by simpa using hi))
        cases t with
        | none => exact .inr ⟨m, v', rfl⟩
        | some t =>
          have : v' = v := by simpa using he 0 t rfl
          subst this
          exact .inl rfl
  exact go h.lt h.lv hl he
theorem wipeT_get {τ : Tau} {i : Nat} {t : T} : ∀ {vs : List Nat}, (wipeT τ vs)[i]? = some (some t) → i ∉ vs
  | [], _ => by simp
  | v :: vs, h => by
    unfold wipeT at h
    by_cases e : v = i
    · subst e
      exfalso
      rw [List.getElem?_set] at h
      simp at h
    · rw [List.getElem?_set_ne e] at h
      have := wipeT_get h
      simp only [List.mem_cons, not_or]
      exact ⟨fun z => e z.symm, this⟩
theorem wipe_get {σ : St} {i : Nat} : ∀ {vs : List Nat}, i ∉ vs → (L2.wipe σ vs)[i]? = σ[i]?
  | [], _ => rfl
  | v :: vs, h => by
    simp only [List.mem_cons, not_or] at h
    unfold L2.wipe
    rw [List.getElem?_set_ne (fun z => h.1 z.symm)]
    exact wipe_get h.2
/-- behind a turn: the block's own names are forgotten -/
theorem FrS.unwipe {W : Wd} {τ : Tau} {σ σ2 : St} {hs : List Slot} {vs : List Nat} (hv : ∀ v ∈ vs, v < ms.length) (h : FrS Γ W ms τ σ2 hs) (e : L2.wipe σ2 vs = L2.wipe σ vs) (hl : σ.length = ms.length) : FrS Γ W ms (wipeT τ vs) σ hs := by
  have h1 := h.wipe vs hv
  rw [e] at h1
  refine h1.other hl fun i t hi => ?_
  exact (wipe_get (wipeT_get hi)).symm
def SimGv (Γ : Gm) (ms : List Md) (vs : List Nat) (g : TG) (b : T → M Unit) (r : RC) : Prop := ∀ W τ σ hs x v R τ', FrS Γ W ms τ σ hs → Rep Γ W.F (GOf W r) x v → b x τ = .ok () τ' → (∀ W' σ', W.Le W' → L2.wipe σ' vs = L2.wipe σ vs → FrS Γ W' ms τ' σ' hs → R σ' W'.H) → g v σ W.H R
theorem wipe_set {σ : St} {i : Nat} {x : Option V} : ∀ {vs : List Nat}, i ∈ vs → L2.wipe (σ.set i x) vs = L2.wipe σ vs
  | [], h => by simp at h
  | v :: vs, h => by
    unfold L2.wipe
    by_cases e : i ∈ vs
    · rw [wipe_set e]
    · have : i = v := by
        rcases List.mem_cons.mp h with h | h
        · exact h
        · exact (e h).elim
      subst this
      have go : ∀ (us : List Nat), L2.wipe (σ.set i x) us = (L2.wipe σ us).set i (if i ∈ us then none else x) ∨ True := fun _ => .inr trivial
      have key : ∀ (us : List Nat), i ∉ us → L2.wipe (σ.set i x) us = (L2.wipe σ us).set i x := by
        intro us
        induction us with
        | nil => intro _; rfl
        | cons u us ih =>
          intro hu
          simp only [List.mem_cons, not_or] at hu
          unfold L2.wipe
          rw [ih hu.2, List.set_comm _ _ hu.1]
      rw [key vs e, List.set_set]
theorem sim_gvname {i : Nat} {vs : List Nat} {m : Md} {r : RC} (hi : i ∈ vs) (hm : ms[i]? = some m) (hr : Into r m) (hk : Firm r) : SimGv Γ ms vs (gName i) (put i) r := by
  intro W τ σ hs x v R τ' hF hx hb hR
  have e : τ' = τ.set i (some x) := by injection hb with _ h; exact h.symm
  subst e
  exact hR W _ (.refl _) (wipe_set hi) (FrS.set (r := r) (by rcases hk with rfl | rfl <;> exact ⟨hF, hx⟩) hm hr)
theorem sim_gvtup2 {i j : Nat} {vs : List Nat} {m m' : Md} {r : RC} (hi : i ∈ vs) (hj : j ∈ vs) (hm : ms[i]? = some m) (hm' : ms[j]? = some m') (hr : Into r m) (hr' : Into r m') (hk : Firm r) : SimGv Γ ms vs (gTup Γ.K 2 (gCons (gName i) (gCons (gName j) gNil))) (putT [i, j]) r := by
  intro W τ σ hs x v R τ' hF hx hb hR
  cases x with
  | tup xs =>
    obtain ⟨a, us, rfl, h1, h2⟩ := hx
    match xs, hb with
    | [x, y], hb =>
      obtain ⟨v1, r1, rfl, k1, v2, r2, rfl, k2, rfl⟩ := h2
      cases hb
      refine ⟨a, [v1, v2], rfl, sqT_sub (GOf.h hk hF.fr) h1, rfl, v1, [v2], rfl, v2, [], rfl, rfl, ?_⟩
      have f1 : FrS Γ W ms (τ.set i (some x)) (σ.set i (some v1)) hs := FrS.set (r := r) (by rcases hk with rfl | rfl <;> exact ⟨hF, k1⟩) hm hr
      have f2 : FrS Γ W ms ((τ.set i (some x)).set j (some y)) ((σ.set i (some v1)).set j (some v2)) hs := FrS.set (r := r) (by rcases hk with rfl | rfl <;> exact ⟨f1, k2⟩) hm' hr'
      exact hR W _ (.refl _) (by rw [wipe_set hj, wipe_set hi]) f2
  | _ => cases hb
theorem sim_lcX {n : Nat} {p q q' : Bool} {wi : TI} {ei : M (List T)} {g : TG} {bg : T → M Unit} {tt : TT} {et : M Bool} {te : TE} {ee : M T} {vs : List Nat} {r : RC} (hvs : ∀ v ∈ vs, v < ms.length) (hi : SimI Γ E ms p wi ei r) (hg : SimGv Γ ms vs g bg r) (ht : SimT Γ E0 ms q tt et) (he : SimE Γ E0 ms q' te ee (.own n)) (hne : ∀ x τ, ∀ y τ', bg x τ ≠ .exc y τ')
    (hx1 : ∀ τ, ∀ y τ', et τ ≠ .exc y τ') (hx2 : ∀ τ, ∀ y τ', ee τ ≠ .exc y τ') : SimE Γ E ms false (tLc wi g tt te vs) (sLc vs ei bg et ee) (.own (n + 1)) := by
  intro W τ σ hs Q hF hp
  have hp0 : Pst Γ E ms W σ hs (p && false) τ (fun W' w τ' => ∀ v, Has Γ W' ms τ' σ hs (.own (n + 1)) w v → Q v W'.H) (sLc vs ei bg et ee τ) := by rw [Bool.and_false]; exact hp
  refine hi W τ σ hs _ hF (Pst.bind hp0 fun W1 xs τ1 g1 hp1 J hF1 hJ => ?_)
  intro D hD
  -- the new list
  have f0 := hF1.fr.newL hD (ts := []) (vs := []) rfl
  have lv := hF1.lv
  refine ⟨fun i m H' => ∃ W' τ' ts, W'.H = H' ∧ W1.Le W' ∧ i ≤ xs.length ∧ m = xs.length - i ∧ FrS Γ W' ms τ' σ (hs ++ [(.own (n + 1), some (.lst ts), some (.ref D))]) ∧ Pst Γ E ms W' σ hs false τ' (fun W' w τ' => ∀ v, Has Γ W' ms τ' σ hs (.own (n + 1)) w v → Q v W'.H) ((lcM vs bg et ee (xs.drop i) ts >>= fun ws => M.pure (.lst ws)) τ'),
    ⟨xs.length, ⟨W1.F, W1.B, upd W1.H D (.lst [])⟩, τ1, [], rfl, grow_le, Nat.zero_le _, rfl, ⟨?_, hF1.lt, hF1.lv⟩, ?_⟩, ?_⟩
  · rw [← List.append_assoc]
    exact hF1.fr.new (H' := upd W1.H D (.lst [])) (upd_sub hD) (fp := [D]) ⟨D, [], [], rfl, upd_same, rfl, rfl, rfl⟩ (by simp) fun a ha => by rw [List.mem_singleton.mp ha]; exact hD
  · have hp1' : Pst Γ E ms W1 σ hs false τ1 (fun W' w τ' => ∀ v, Has Γ W' ms τ' σ hs (.own (n + 1)) w v → Q v W'.H) ((lcM vs bg et ee xs [] >>= fun ws => M.pure (.lst ws)) τ1) := hp1
    cases hr : (lcM vs bg et ee xs [] >>= fun ws => (M.pure (T.lst ws) : M T)) τ1 with
    | stuck => rw [hr] at hp1'; exact hp1'.elim
    | exc x τ' => rw [hr] at hp1'; simp only [List.drop_zero]; rw [hr]; exact fun W' cls d g => hp1' W' cls d ⟨grow_le.trans g.1, fun z => nomatch z⟩
    | ok x τ' => rw [hr] at hp1'; simp only [List.drop_zero]; rw [hr]; exact fun W' g => hp1' W' ⟨grow_le.trans g.1, fun z => nomatch z⟩
  · rintro i m H2 ⟨W2, τ2, ts, rfl, l2, hi2, rfl, hF2, hp2⟩
    obtain ⟨hstop, hgo⟩ := hJ W2 _ l2 hF2.fr
    by_cases hlt : i < xs.length
    · right
      obtain ⟨g1', g2⟩ := hgo i xs[i] (List.getElem?_eq_getElem hlt)
      refine ⟨g1', fun H' => ∃ W' τ' ts, W'.H = H' ∧ W1.Le W' ∧ FrS Γ W' ms τ' σ (hs ++ [(.own (n + 1), some (.lst ts), some (.ref D))]) ∧ Pst Γ E ms W' σ hs false τ' (fun W' w τ' => ∀ v, Has Γ W' ms τ' σ hs (.own (n + 1)) w v → Q v W'.H) ((lcM vs bg et ee (xs.drop (i + 1)) ts >>= fun ws => M.pure (.lst ws)) τ'), ?_, ?_⟩
      · rintro H' ⟨W', τ', ts', rfl, l', hF', hp'⟩
        exact ⟨xs.length - (i + 1), by omega, W', τ', ts', rfl, l', hlt, rfl, hF', hp'⟩
      · intro v H' hy
        obtain ⟨W3, rfl, l3, hF3, hr3⟩ := g2 v H' hy
        have hF3' : FrS Γ W3 ms τ2 σ (hs ++ [(.own (n + 1), some (.lst ts), some (.ref D))]) := ⟨hF3, hF2.lt, hF2.lv⟩
        have hFw := hF3'.wipe vs hvs
        rw [List.drop_eq_getElem_cons hlt] at hp2
        have hp3 : Pst Γ E ms W2 σ hs false τ2 (fun W' w τ' => ∀ v, Has Γ W' ms τ' σ hs (.own (n + 1)) w v → Q v W'.H) (((bg xs[i] (wipeT τ2 vs)).next fun _ => et >>= fun b => if b = true then ee >>= fun w => (if ts.length < szL then M.pure () else M.stuck) >>= fun _ => wipeM vs >>= fun _ => lcM vs bg et ee (xs.drop (i + 1)) (ts ++ [w]) else wipeM vs >>= fun _ => lcM vs bg et ee (xs.drop (i + 1)) ts).next fun ws => M.pure (.lst ws)) := hp2
        cases hbg : bg xs[i] (wipeT τ2 vs) with
        | stuck => rw [hbg] at hp3; exact hp3.elim
        | exc y τ3 => exact (hne _ _ _ _ hbg).elim
        | ok u τ3 =>
          rw [hbg] at hp3
          have hp4 : Pst Γ E ms W2 σ hs false τ2 (fun W' w τ' => ∀ v, Has Γ W' ms τ' σ hs (.own (n + 1)) w v → Q v W'.H) (((et τ3).next fun b => if b = true then ee >>= fun w => (if ts.length < szL then M.pure () else M.stuck) >>= fun _ => wipeM vs >>= fun _ => lcM vs bg et ee (xs.drop (i + 1)) (ts ++ [w]) else wipeM vs >>= fun _ => lcM vs bg et ee (xs.drop (i + 1)) ts).next fun ws => M.pure (.lst ws)) := hp3
          have later : ∀ {W' : Wd} {τ' : Tau} {r : RE T}, W2.Le W' → Pst Γ E ms W2 σ hs false τ2 (fun W' w τ' => ∀ v, Has Γ W' ms τ' σ hs (.own (n + 1)) w v → Q v W'.H) r → Pst Γ E ms W' σ hs false τ' (fun W' w τ' => ∀ v, Has Γ W' ms τ' σ hs (.own (n + 1)) w v → Q v W'.H) r := by
            intro W' τ' r l h
            cases r with
            | stuck => exact h
            | exc x τ'' => exact fun W'' cls d g => h W'' cls d ⟨l.trans g.1, fun z => nomatch z⟩
            | ok x τ'' => exact fun W'' g => h W'' ⟨l.trans g.1, fun z => nomatch z⟩
          refine hg W3 (wipeT τ2 vs) (L2.wipe σ vs) _ xs[i] v _ τ3 hFw hr3 hbg fun W4 σ4 l4 hw4 hF4 => ?_
          have hw4' : L2.wipe σ4 vs = L2.wipe σ vs := by
            rw [hw4]
            have idem : ∀ us : List Nat, (∀ u ∈ us, u ∈ vs) → L2.wipe (L2.wipe σ vs) us = L2.wipe σ vs := by
              intro us
              induction us with
              | nil => intro _; rfl
              | cons u us ih =>
                intro h
                show (L2.wipe (L2.wipe σ vs) us).set u none = L2.wipe σ vs
                rw [ih fun w hw => h w (List.mem_cons_of_mem _ hw)]
                have : ∀ {ws : List Nat}, u ∈ ws → (L2.wipe σ ws).set u none = L2.wipe σ ws := by
                  intro ws
                  induction ws with
                  | nil => intro h; simp at h
                  | cons w ws ih =>
                    intro h
                    unfold L2.wipe
                    by_cases e : w = u
                    · subst e; rw [List.set_set]
                    · rw [List.set_comm _ _ (fun z => e z), ih (by rcases List.mem_cons.mp h with h | h; exact (e h.symm).elim; exact h)]
                exact this (h u (by simp))
            exact idem vs fun u hu => hu
          refine ⟨hw4', ?_⟩
          refine ht W4 τ3 σ4 _ _ hF4 ?_
          cases het : et τ3 with
          | stuck => rw [het] at hp4; exact hp4.elim
          | exc y τ5 => exact (hx1 _ _ _ het).elim
          | ok b τ5 =>
            rw [het] at hp4
            intro W5 g5 hF5
            cases b with
            | false =>
              refine iteF ⟨W5, wipeT τ5 vs, ts, rfl, ((l2.trans l3).trans l4).trans g5.1, hF5.unwipe hvs hw4' lv, ?_⟩
              exact later ((l3.trans l4).trans g5.1) hp4
            | true =>
              have hp5 : Pst Γ E ms W2 σ hs false τ2 (fun W' w τ' => ∀ v, Has Γ W' ms τ' σ hs (.own (n + 1)) w v → Q v W'.H) (((ee τ5).next fun w => (if ts.length < szL then M.pure () else M.stuck) >>= fun _ => wipeM vs >>= fun _ => lcM vs bg et ee (xs.drop (i + 1)) (ts ++ [w])).next fun ws => M.pure (.lst ws)) := hp4
              refine iteT (he W5 τ5 σ4 _ _ hF5 ?_)
              cases hee : ee τ5 with
              | stuck => rw [hee] at hp5; exact hp5.elim
              | exc y τ6 => exact (hx2 _ _ _ hee).elim
              | ok w τ6 =>
                rw [hee] at hp5
                intro W6 g6 vw hvw
                have hw6 : FrS Γ W6 ms τ6 σ4 ((hs ++ [(.own (n + 1), some (.lst ts), some (.ref D))]) ++ [(.own n, some w, some vw)]) := hvw
                have hp6 : Pst Γ E ms W2 σ hs false τ2 (fun W' w τ' => ∀ v, Has Γ W' ms τ' σ hs (.own (n + 1)) w v → Q v W'.H) ((((if ts.length < szL then M.pure () else M.stuck) >>= fun _ => wipeM vs >>= fun _ => lcM vs bg et ee (xs.drop (i + 1)) (ts ++ [w])) τ6).next fun ws => M.pure (.lst ws)) := hp5
                by_cases hz : ts.length < szL
                · rw [if_pos hz] at hp6
                  -- the item joins the list
                  have fr6 := hw6.fr
                  have pm : (sl ms τ6 σ4 ++ (hs ++ [(Md.own (n + 1), some (T.lst ts), some (V.ref D))] ++ [(Md.own n, some w, some vw)])).Perm ((.own (n + 1), some (.lst ts), some (.ref D)) :: (.own n, some w, some vw) :: (sl ms τ6 σ4 ++ hs)) := by
                    rw [← List.append_assoc, ← List.append_assoc]
                    refine (List.Perm.append_right _ List.perm_append_comm).trans ?_
                    simp only [List.cons_append, List.nil_append]
                    exact List.Perm.cons _ List.perm_append_comm
                  obtain ⟨fs, ft, r1, r2, nd, hb, h4⟩ := (fr6.perm pm).head2
                  obtain ⟨a', us, fp1, e1, k1, rfl, k2⟩ := (show RepO Γ W6.F W6.H (n + 1) (.lst ts) (.ref D) fs from r1)
                  cases e1
                  have r2' : RepO Γ W6.F W6.H n w vw ft := r2
                  have hlen : ts.length = us.length := (repOL_get k2).1
                  refine ⟨us, k1, by rw [← hlen, ← szL_eq]; exact hz, ?_⟩
                  have keepH : ∀ b o, b ≠ D → W6.H b = some o → upd W6.H D (.lst (us ++ [vw])) b = some o := fun b o hb e => by rw [upd_ne hb]; exact e
                  have hnot : D ∉ fp1 ++ ft := by
                    rw [List.cons_append, List.nodup_cons] at nd
                    exact nd.1
                  have ht' : ∀ b o, W6.H b = some o → ¬ Mut (some o) → upd W6.H D (.lst (us ++ [vw])) b = some o := fun b o e nm => keepH b o (fun z => by subst z; rw [k1] at e; cases e; exact nm True.intro) e
                  have f7 := h4 (upd W6.H D (.lst (us ++ [vw]))) (.own (n + 1), some (.lst (ts ++ [w])), some (.ref D)) (D :: (fp1 ++ ft)) (fun b o hb e => keepH b o (fun z => hb (by rw [z]; simp)) e) ⟨D, us ++ [vw], fp1 ++ ft, rfl, upd_same, rfl, repOL_snoc (RepO.keep (Same.refl _) ht' w (fun b hb o e => keepH b o (fun z => hnot (by rw [← z]; simp [hb])) e) r2') (RepOL.keep (Same.refl _) ht' ts (fun b hb o e => keepH b o (fun z => hnot (by rw [← z]; simp [hb])) e) k2)⟩ (by simpa using nd) (fun b hb => .inl (by simpa using hb))
                  have f8 : FrS Γ { W6 with H := upd W6.H D (.lst (us ++ [vw])) } ms τ6 σ4 (hs ++ [(.own (n + 1), some (.lst (ts ++ [w])), some (.ref D))]) := ⟨by
                    rw [← List.append_assoc]
                    exact f7.perm (List.perm_append_comm (l₁ := [_])), hw6.lt, hw6.lv⟩
                  refine ⟨{ W6 with H := upd W6.H D (.lst (us ++ [vw])) }, wipeT τ6 vs, ts ++ [w], rfl, (((l2.trans l3).trans l4).trans (g5.1.trans g6.1)).trans grow_le, f8.unwipe hvs hw4' lv, ?_⟩
                  exact later (((l3.trans l4).trans (g5.1.trans g6.1)).trans grow_le) hp6
                · rw [if_neg hz] at hp6; exact hp6.elim
    · left
      have e : i = xs.length := by omega
      subst e
      rw [List.drop_length] at hp2
      have hp3 : Pst Γ E ms W2 σ hs false τ2 (fun W' w τ' => ∀ v, Has Γ W' ms τ' σ hs (.own (n + 1)) w v → Q v W'.H) (.ok (.lst ts) τ2) := hp2
      exact ⟨hstop, hp3 W2 Go.refl (.ref D) hF2⟩
theorem SimT.noE {q : Bool} {tt : TT} {et : M Bool} (h : SimT Γ E0 ms q tt et) : SimT Γ E0 ms q tt (TL.noE et) := by
  intro W τ σ hs Q hF hp
  refine h W τ σ hs Q hF ?_
  unfold TL.noE at hp
  cases e : et τ with
  | stuck => rw [e] at hp; exact hp
  | exc x τ' => rw [e] at hp; exact hp.elim
  | ok b τ' => rw [e] at hp; exact hp
theorem SimE.noE {q : Bool} {te : TE} {ee : M T} {r : RC} (h : SimE Γ E0 ms q te ee r) : SimE Γ E0 ms q te (TL.noE ee) r := by
  intro W τ σ hs Q hF hp
  refine h W τ σ hs Q hF ?_
  unfold TL.noE at hp
  cases e : ee τ with
  | stuck => rw [e] at hp; exact hp
  | exc x τ' => rw [e] at hp; exact hp.elim
  | ok b τ' => rw [e] at hp; exact hp
theorem sim_yes : SimT Γ E ms true tYes (M.pure true) := fun W τ σ hs Q hF hp => hp W Go.refl hF
theorem sim_lc {n : Nat} {p q q' : Bool} {wi : TI} {ei : M (List T)} {g : TG} {bg : T → M Unit} {tt : TT} {et : M Bool} {te : TE} {ee : M T} {vs : List Nat} {r : RC} (hvs : ∀ v ∈ vs, v < ms.length) (hi : SimI Γ E ms p wi ei r) (hg : SimGv Γ ms vs g bg r) (hne : ∀ x τ, ∀ y τ', bg x τ ≠ .exc y τ') (ht : SimT Γ E0 ms q tt et) (he : SimE Γ E0 ms q' te ee (.own n)) :
    SimE Γ E ms false (tLc wi g tt te vs) (sLc vs ei bg (TL.noE et) (TL.noE ee)) (.own (n + 1)) := sim_lcX hvs hi hg ht.noE he.noE hne (noE_ne et) (noE_ne ee)
end
end TL
end
section
set_option Elab.async false
set_option linter.all false
set_option autoImplicit false
set_option maxRecDepth 100000
set_option maxHeartbeats 4000000
/-! S20: list(..), sorted(..), all(..), slices -/
namespace TL
open PySem PySem.Spec L2
section
variable {Γ : Gm} {E : XK} {ms : List Md}
def NewS (Γ : Gm) (r : List V → Hp → VK → Prop) (f : List T → Option (List T)) : Prop := ∀ (F G H : Hp) (ts ws : List T) (vs : List V) (Q : VK), Same F H → Same G H → RepL Γ F G ts vs → f ts = some ws → (∀ ys, RepL Γ F G ws ys → ∀ p, H p = none → Q (.ref p) (upd H p (.lst ys))) → r vs H Q
theorem sim_new_fz {r : List V → Hp → VK → Prop} {f : List T → Option (List T)} {p : Bool} {ta : TA} {e : M (List T)} {cs : List RC} (hr : NewS Γ r f) (ha : SimA Γ E ms p ta e cs) (hc : All .fz cs) : SimE Γ E ms p (tCB r ta) (e >>= fun ts => M.of ((f ts).map .lst)) (.own 1) := by
  intro W τ σ hs Q hF hp
  refine ha W τ σ hs _ hF (Pst.bind1 hp fun W1 ts τ1 g1 hp1 vs hF1 hv => ?_)
  have hl := hasA_fz hc hv
  cases hf : f ts with
  | none => rw [hf] at hp1; exact hp1.elim
  | some ws =>
    rw [hf] at hp1
    have fh := hF1.fr.fb.trans hF1.fr.bh
    refine hr W1.F W1.F W1.H ts ws vs Q fh fh hl hf fun ys hy q hq => ?_
    exact hp1 ⟨W1.F, W1.B, upd W1.H q (.lst ys)⟩ ⟨grow_le, fun _ => ⟨upd_sub hq, rfl⟩⟩ (.ref q) ⟨by have := hF1.fr.newL hq hy; rwa [List.append_assoc] at this, hF1.lt, hF1.lv⟩
theorem sim_new_imm {r : List V → Hp → VK → Prop} {f : List T → Option (List T)} {p : Bool} {ta : TA} {e : M (List T)} {cs : List RC} (hr : NewS Γ r f) (ha : SimA Γ E ms p ta e cs) (hn : NoSlot cs) : SimE Γ E ms p (tCB r ta) (e >>= fun ts => newC (f ts)) (.own 1) := by
  intro W τ σ hs Q hF hp
  refine ha W τ σ hs _ hF (Pst.bind1 hp fun W1 ts τ1 g1 hp1 vs hF1 hv => ?_)
  have hl := HasA.now hF1.fr hn.all hv
  cases hf : f ts with
  | none => rw [hf] at hp1; exact hp1.elim
  | some ws =>
    rw [hf] at hp1
    have hp2 : Pst Γ E ms W1 σ hs true τ1 (fun W' w τ' => ∀ v, Has Γ W' ms τ' σ hs (.own 1) w v → Q v W'.H) ((immsC ws >>= fun ws => M.pure (.lst ws)) τ1) := hp1
    unfold immsC at hp2
    by_cases hi : imms ws = true
    · rw [if_pos hi] at hp2
      have fh := hF1.fr.fb.trans hF1.fr.bh
      obtain ⟨l, hF2⟩ := hF1.fix
      refine hr W1.F W1.H W1.H ts ws vs Q fh (Same.refl _) hl hf fun ys hy q hq => ?_
      have hy2 : RepL Γ W1.fix.F W1.fix.F ws ys := imms_rep l.f (fix_t hF1.fr) ws hi hy
      have hq2 : W1.fix.H q = none := hq
      exact hp2 ⟨W1.fix.F, W1.fix.B, upd W1.fix.H q (.lst ys)⟩ ⟨l.trans grow_le, fun _ => ⟨upd_sub hq, rfl⟩⟩ (.ref q) ⟨by have := hF2.fr.newL hq2 hy2; rwa [List.append_assoc] at this, hF1.lt, hF1.lv⟩
    · rw [if_neg hi] at hp2; exact hp2.elim
def rListU (Γ : Gm) : List V → Hp → VK → Prop := fun vs H Q => rListOf Γ.K vs H Q ∨ ∃ d es ep, vs = [V.ref d] ∧ H d = some (DX Γ.w d es ep) ∧ ∀ p, H p = none → Q (.ref p) (upd H p (.lst (es.map (·.2.1))))
theorem listU {X : Cx} (hc : X.calm = true) (hK : Γ.K = X.K) : CallR X (.type "list") (rListU Γ) := by
  intro pins s σ H xs us Q I r h
  rcases h with h | h
  · exact call_list_of pins s σ H xs us Q I r (by rw [← hK]; exact h)
  · exact call_list_dx hc pins s σ H xs us Q I r h
theorem repD_ks {F G : Hp} : ∀ {kvs : List (T × T)} {es : List Ent}, RepD Γ F G kvs es → RepL Γ F G (kvs.map (·.1)) (es.map (·.2.1))
  | [], es, h => by cases h; rfl
  | (k, x) :: kvs, es, h => by
    obtain ⟨nk, kv, v, r, rfl, _, h2, _, h4⟩ := h
    exact ⟨kv, _, rfl, h2, repD_ks h4⟩
theorem newS_list : NewS Γ (rListU Γ) fList := by
  intro F G H ts ws vs Q hF hG hl hf hq
  match ts, hf with
  | [.lst xs], hf =>
    cases hf
    obtain ⟨v, r, rfl, ⟨a, us, rfl, h1, h2⟩, h3⟩ := hl
    cases h3
    exact .inl ⟨a, us, rfl, .inl (sqL_sub hG h1), fun l hl => hq us h2 l hl⟩
  | [.tup xs], hf =>
    cases hf
    obtain ⟨v, r, rfl, ⟨a, us, rfl, h1, h2⟩, h3⟩ := hl
    cases h3
    exact .inl ⟨a, us, rfl, .inr (sqT_sub hG h1), fun l hl => hq us h2 l hl⟩
  | [.dct kvs], hf =>
    cases hf
    obtain ⟨v, r, rfl, ⟨a, es, ep, rfl, h1, h2, h3⟩, h4⟩ := hl
    cases h4
    exact .inr ⟨a, es, ep, rfl, hG _ _ h1, fun l hl => hq _ (repD_ks h3) l hl⟩
/-! ### sorted -/
mutual
theorem tok_eq : ∀ (t : T), PySem.W.keyToks (toData t) = tok t
  | .non => rfl
  | .bl _ => rfl
  | .int _ => rfl
  | .str _ => rfl
  | .tup xs => by simp only [toData, PySem.W.keyToks, tok, toks_eq xs]
  | .lst xs => by simp only [toData, PySem.W.keyToks, tok, toks_eq xs]
  | .dct _ => rfl
  | .set _ => rfl
  | .ins _ _ => rfl
theorem toks_eq : ∀ (ts : List T), PySem.W.keyToksAll (toDatas ts) = toks ts
  | [] => rfl
  | t :: ts => by simp only [toDatas, PySem.W.keyToksAll, toks, tok_eq t, toks_eq ts]
end
theorem lex_eq : ∀ (a b : List (Int ⊕ List Nat)), PyProof.Rows.lexLt PyProof.Rows.itemOrd a b = lexT a b
  | [], [] => rfl
  | [], _ :: _ => rfl
  | _ :: _, [] => rfl
  | x :: r, y :: t => by
    rw [PyProof.Rows.lex_cons, lexT, lex_eq r t]
    have h : ∀ u v : Int ⊕ List Nat, PyProof.Rows.itemOrd.blt u v = itLt u v := fun u v => by
      cases u <;> cases v <;> rfl
    rw [h x y, h y x]
theorem le_eq {β : Type} {k : β → T} (a b : β) : PySem.W.dataLe false (fun b => toData (k b)) a b = tLe (k a) (k b) := by
  show (!PyProof.Rows.lexLt PyProof.Rows.itemOrd (PySem.W.keyToks (toData (k b))) (PySem.W.keyToks (toData (k a)))) = _
  rw [tok_eq, tok_eq, lex_eq]; rfl
mutual
theorem alike_eq : ∀ (x y : T), alikeT x y = true → PySem.W.alike (toData x) (toData y) = true
  | .non, y, h => by cases y <;> first | rfl | cases h
  | .bl _, y, h => by cases y <;> first | rfl | cases h
  | .int _, y, h => by cases y <;> first | rfl | cases h
  | .str _, y, h => by cases y <;> first | rfl | cases h
  | .tup xs, y, h => by
    cases y with
    | tup ys => simp only [toData, PySem.W.alike]; exact alikes_eq xs ys h
    | _ => cases h
  | .lst xs, y, h => by
    cases y with
    | lst ys => simp only [toData, PySem.W.alike]; exact alikes_eq xs ys h
    | _ => cases h
  | .dct _, y, h => by cases y <;> cases h
  | .set _, y, h => by cases y <;> cases h
  | .ins _ _, y, h => by cases y <;> cases h
theorem alikes_eq : ∀ (xs ys : List T), alikesT xs ys = true → PySem.W.alikeAll (toDatas xs) (toDatas ys) = true
  | [], _, _ => by simp only [toDatas, PySem.W.alikeAll]
  | _ :: _, [], _ => by simp only [toDatas, PySem.W.alikeAll]
  | x :: xs, y :: ys, h => by
    simp only [alikesT, Bool.and_eq_true] at h
    simp only [toDatas, PySem.W.alikeAll, alike_eq x y h.1, alikes_eq xs ys h.2, Bool.and_self]
end
theorem toDatas_map : ∀ ts : List T, toDatas ts = ts.map toData
  | [] => rfl
  | t :: ts => by simp only [toDatas, List.map_cons, toDatas_map ts]
theorem plains_all : ∀ {ts : List T}, (∀ t ∈ ts, plain t = true) → plains ts = true
  | [], _ => rfl
  | t :: ts, h => by simp only [plains, h t (by simp), plains_all (ts := ts) fun u hu => h u (List.mem_cons_of_mem _ hu), Bool.and_self]
theorem repL_zip {F G : Hp} : ∀ {ts : List T} {vs : List V}, RepL Γ F G ts vs → ∀ x ∈ ts.zip vs, Rep Γ F G x.1 x.2
  | [], vs, h, x, hx => by simp at hx
  | t :: ts, vs, h, x, hx => by
    obtain ⟨v, r, rfl, h1, h2⟩ := h
    rw [List.zip_cons_cons] at hx
    rcases List.mem_cons.mp hx with rfl | hx
    · exact h1
    · exact repL_zip h2 x hx
theorem repL_of {F G : Hp} : ∀ {L : List (T × V)}, (∀ x ∈ L, Rep Γ F G x.1 x.2) → RepL Γ F G (L.map (·.1)) (L.map (·.2))
  | [], _ => rfl
  | x :: L, h => ⟨x.2, L.map (·.2), rfl, h x (by simp), repL_of fun y hy => h y (List.mem_cons_of_mem _ hy)⟩
theorem zip_fst {α β : Type} : ∀ {xs : List α} {ys : List β}, xs.length = ys.length → (xs.zip ys).map (·.1) = xs
  | [], [], _ => rfl
  | x :: xs, y :: ys, h => by
    show x :: (xs.zip ys).map (·.1) = x :: xs
    rw [zip_fst (by simpa using h)]
  | [], _ :: _, h => by simp at h
  | _ :: _, [], h => by simp at h
theorem zip_swap : ∀ {xs : List T} {us : List V}, xs.length = us.length → us.zip (xs.map toData) = (xs.zip us).map fun x => (x.2, toData x.1)
  | [], us, _ => by cases us <;> rfl
  | x :: xs, [], h => by simp at h
  | x :: xs, u :: us, h => by simp only [List.map_cons, List.zip_cons_cons, zip_swap (xs := xs) (us := us) (by simpa using h)]
theorem newS_sorted : NewS Γ (rSortD Γ.K) fSorted := by
  intro F G H ts ws vs Q hF hG hl hf hq
  match ts, hf with
  | [.lst xs], hf =>
    have hf : (if sortOk xs = true then some (tSort xs) else none) = some ws := hf
    split at hf
    · rename_i hs
      cases hf
      obtain ⟨v, r, rfl, ⟨a, us, rfl, h1, h2⟩, h3⟩ := hl
      cases h3
      simp only [sortOk, Bool.and_eq_true, List.all_eq_true, decide_eq_true_eq, Bool.or_eq_true] at hs
      obtain ⟨⟨hp, ha⟩, hk⟩ := hs
      have hlen := (repL_get h2).1
      have hd : DpAll Γ.K H us (toDatas xs) := dp_all xs (plains_all fun t ht => (hp t ht).1) (RepL.mono (Same.refl _) xs hG h2)
      refine ⟨a, us, toDatas xs, rfl, sqL_sub hG h1, hd, ?_, ?_, ?_, fun p hp0 => ?_⟩
      · intro d hd' d' hd''
        rw [toDatas_map, List.mem_map] at hd' hd''
        obtain ⟨t, ht, rfl⟩ := hd'
        obtain ⟨t', ht', rfl⟩ := hd''
        exact alike_eq t t' (ha t ht t' ht')
      · rcases hk with hk | hk
        · left
          intro d hd'
          rw [toDatas_map, List.mem_map] at hd'
          obtain ⟨t, ht, rfl⟩ := hd'
          have := hk t ht
          cases t with
          | tup ys =>
            cases ys with
            | nil => cases this
            | cons y ys => exact ⟨toData y, toDatas ys, by simp only [toData, toDatas]⟩
          | _ => cases this
        · right
          intro d hd'
          rw [toDatas_map, List.mem_map] at hd'
          obtain ⟨t, ht, rfl⟩ := hd'
          have h5 := hk t ht
          have h6 := (hp t ht).1
          cases t with
          | tup ys => cases h5
          | non => cases h5
          | dct _ => cases h6
          | set _ => cases h6
          | ins _ _ => cases h6
          | _ => exact ⟨fun z => by simp [toData] at z, fun ys z => by simp [toData] at z⟩
      · intro d hd'
        rw [toDatas_map, List.mem_map] at hd'
        obtain ⟨t, ht, rfl⟩ := hd'
        rw [depth_of]; exact (hp t ht).2
      · -- the sorted row, with the trees
        have key : srtD us (toDatas xs) = ((xs.zip us).mergeSort fun a b => tLe a.1 b.1).map (·.2) := by
          unfold srtD
          have e1 : us.zip (toDatas xs) = (xs.zip us).map fun x => (x.2, toData x.1) := by
            rw [toDatas_map]
            exact zip_swap hlen
          rw [e1, ← List.map_mergeSort (r := fun a b => tLe a.1 b.1) (f := fun x : T × V => (x.2, toData x.1))]
          · rw [List.map_map]; rfl
          · intro a _ b _
            exact (le_eq (k := fun x : T × V => x.1) a b).symm.trans rfl
        have key2 : tSort xs = ((xs.zip us).mergeSort fun a b => tLe a.1 b.1).map (·.1) := by
          unfold tSort
          rw [List.map_mergeSort (r := fun a b => tLe a.1 b.1) (s := tLe) (f := fun x : T × V => x.1) (fun a _ b _ => rfl), zip_fst hlen]
        rw [key]
        refine hq _ ?_ p hp0
        rw [key2]
        exact repL_of fun x hx => repL_zip h2 x ((List.mergeSort_perm _ _).mem_iff.mp hx)
    · cases hf
/-! ### all -/
theorem asBs_of {F G : Hp} : ∀ {xs : List T} {vs : List V} {bs : List Bool}, asBs xs = some bs → RepL Γ F G xs vs → vs = bs.map V.bl
  | [], vs, bs, h, hl => by cases h; cases hl; rfl
  | .bl b :: xs, vs, bs, h, hl => by
    obtain ⟨v, r, rfl, h1, h2⟩ := hl
    cases h1
    have h : (asBs xs).map (b :: ·) = some bs := h
    cases e : asBs xs with
    | none => rw [e] at h; cases h
    | some cs => rw [e] at h; cases h; rw [asBs_of e h2]; rfl
  | .non :: _, _, _, h, _ => by cases h
  | .int _ :: _, _, _, h, _ => by cases h
  | .str _ :: _, _, _, h, _ => by cases h
  | .tup _ :: _, _, _, h, _ => by cases h
  | .lst _ :: _, _, _, h, _ => by cases h
  | .dct _ :: _, _, _, h, _ => by cases h
  | .set _ :: _, _, _, h, _ => by cases h
  | .ins _ _ :: _, _, _, h, _ => by cases h
theorem callS_all : CallS Γ (rAll Γ.K) fAll := by
  intro F H ts w vs Q hl hf hq
  match ts, hf with
  | [.lst xs], hf =>
    obtain ⟨v, r, rfl, ⟨a, us, rfl, h1, h2⟩, h3⟩ := hl
    cases h3
    have hf : (asBs xs).map (fun bs => T.bl (bs.all id)) = some w := hf
    cases e : asBs xs with
    | none => rw [e] at hf; cases hf
    | some bs =>
      rw [e] at hf; cases hf
      have := asBs_of e h2
      subst this
      exact ⟨a, bs, rfl, h1, hq _ rfl⟩
/-! ### slices -/
theorem cut_rep {F G : Hp} {xs : List T} {vs : List V} (h : RepL Γ F G xs vs) (lo hi : Option Int) : RepL Γ F G (cut xs lo hi) (cutV vs lo hi) := by
  have hl := (repL_get h).1
  have drop : ∀ {xs : List T} {vs : List V} (n : Nat), RepL Γ F G xs vs → RepL Γ F G (xs.drop n) (vs.drop n) := by
    intro xs
    induction xs with
    | nil => intro vs n h; cases h; simp; rfl
    | cons x xs ih =>
      intro vs n h
      obtain ⟨v, r, rfl, h1, h2⟩ := h
      cases n with
      | zero => exact ⟨v, r, rfl, h1, h2⟩
      | succ n => simpa using ih n h2
  have take : ∀ {xs : List T} {vs : List V} (n : Nat), RepL Γ F G xs vs → RepL Γ F G (xs.take n) (vs.take n) := by
    intro xs
    induction xs with
    | nil => intro vs n h; cases h; simp; rfl
    | cons x xs ih =>
      intro vs n h
      obtain ⟨v, r, rfl, h1, h2⟩ := h
      cases n with
      | zero => rfl
      | succ n => exact ⟨v, r.take n, by simp, h1, ih n h2⟩
  have e : ∀ (n d : Nat) (o : Option Int), HT.sIx n d o = ixS n d o := fun n d o => by cases o <;> rfl
  unfold cut cutV
  rw [← hl, e, e]
  exact take _ (drop _ h)
/-- a part of a slice -/
def SimO (Γ : Gm) (E : XK) (ms : List Md) (p : Bool) (t : TO) (e : M (Option Int)) : Prop := ∀ W τ σ hs R, FrS Γ W ms τ σ hs → Pst Γ E ms W σ hs p τ (fun W' o τ' => FrS Γ W' ms τ' σ hs → R o W'.H) (e τ) → t σ W.H R
theorem sim_nopart : SimO Γ E ms true tNoPart (M.pure none) := fun W τ σ hs R hF hp => hp W Go.refl hF
theorem sim_part {p : Bool} {t : TE} {e : M T} {r : RC} (h : SimE Γ E ms p t e r) : SimO Γ E ms p (tPart t) (e >>= fun x => asI x >>= fun i => M.pure (some i)) := by
  intro W τ σ hs R hF hp
  refine h W τ σ hs _ hF (Pst.bind1 hp fun W1 x τ1 g1 hp1 v hv => ?_)
  cases x with
  | int i =>
    have e : v = .int i := hv.now
    exact ⟨i, e, hp1 W1 Go.refl hv.fr⟩
  | _ => exact (show False from hp1).elim
theorem sim_sl_now {p q q' : Bool} {te : TE} {tl th : TO} {e : M T} {el eh : M (Option Int)} {r : RC} (h : SimE Γ E ms p te e r) (h1 : SimO Γ E ms q tl el) (h2 : SimO Γ E ms q' th eh) (hst : Stay r (q && q')) : SimE Γ E ms (p && (q && q')) (tSl (rSlQ Γ.K) te tl th) (e >>= fun x => el >>= fun lo => eh >>= fun hi => M.of (oCut x lo hi)) .now := by
  intro W τ σ hs Q hF hp
  refine h W τ σ hs _ hF (Pst.bind hp fun W1 x τ1 g1 hp1 v hv => ?_)
  refine h1 W1 τ1 σ hs _ hv.fr (Pst.bind hp1 fun W2 lo τ2 g2 hp2 hF2 => ?_)
  refine h2 W2 τ2 σ hs _ hF2 (Pst.bind1 hp2 fun W3 hi τ3 g3 hp3 hF3 => ?_)
  have hv3 := (hv.later (g2.trans g3) hF3 hst).now
  have fin : ∀ (w : T) (u : V) (H' : Hp), Same W3.H H' → oCut x lo hi = some w → Rep Γ W3.F H' w u → Q u H' := fun w u H' e1 e2 e3 => by
    rw [e2] at hp3
    exact hp3 ⟨W3.F, W3.B, H'⟩ ⟨grow_le, fun _ => ⟨e1, rfl⟩⟩ u ⟨⟨hF3.fr.grow e1, hF3.lt, hF3.lv⟩, e3⟩
  cases x with
  | lst xs =>
    obtain ⟨a, us, rfl, k1, k2⟩ := hv3
    refine .inl ⟨a, us, rfl, k1, fun q hq => fin _ _ _ (upd_sub hq) rfl ⟨q, _, rfl, .inl (.inl upd_same), RepL.mono (Same.refl _) _ (upd_sub hq) (cut_rep k2 lo hi)⟩⟩
  | tup xs =>
    obtain ⟨a, us, rfl, k1, k2⟩ := hv3
    refine .inr ⟨a, us, rfl, k1, fun hw => ?_, fun _ q hq => fin _ _ _ (upd_sub hq) rfl ⟨q, _, rfl, .inl (.inl upd_same), RepL.mono (Same.refl _) _ (upd_sub hq) (cut_rep k2 lo hi)⟩⟩
    have ec : cutV us lo hi = us := by unfold cutV; rw [hw.1, hw.2]; simp
    have k3 := cut_rep k2 lo hi
    rw [ec] at k3
    exact fin _ _ _ (Same.refl _) rfl ⟨a, us, rfl, k1, k3⟩
  | _ => exact hp3.elim
theorem sim_sl_imm {p q q' : Bool} {te : TE} {tl th : TO} {e : M T} {el eh : M (Option Int)} {r : RC} (h : SimE Γ E ms p te e r) (h1 : SimO Γ E ms q tl el) (h2 : SimO Γ E ms q' th eh) (hst : Stay r (q && q')) : SimE Γ E ms (p && (q && q')) (tSl (rSlQ Γ.K) te tl th) (e >>= fun x => el >>= fun lo => eh >>= fun hi => newC (oCutL x lo hi)) (.own 1) := by
  intro W τ σ hs Q hF hp
  refine h W τ σ hs _ hF (Pst.bind hp fun W1 x τ1 g1 hp1 v hv => ?_)
  refine h1 W1 τ1 σ hs _ hv.fr (Pst.bind hp1 fun W2 lo τ2 g2 hp2 hF2 => ?_)
  refine h2 W2 τ2 σ hs _ hF2 (Pst.bind1 hp2 fun W3 hi τ3 g3 hp3 hF3 => ?_)
  have hv3 := (hv.later (g2.trans g3) hF3 hst).now
  cases x with
  | lst xs =>
    obtain ⟨a, us, rfl, k1, k2⟩ := hv3
    have hp4 : Pst Γ E ms W3 σ hs true τ3 (fun W' w τ' => ∀ v, Has Γ W' ms τ' σ hs (.own 1) w v → Q v W'.H) ((immsC (cut xs lo hi) >>= fun ws => M.pure (.lst ws)) τ3) := hp3
    unfold immsC at hp4
    by_cases hi0 : imms (cut xs lo hi) = true
    · rw [if_pos hi0] at hp4
      obtain ⟨l, hF4⟩ := hF3.fix
      refine .inl ⟨a, us, rfl, k1, fun q hq => ?_⟩
      have hy2 : RepL Γ W3.fix.F W3.fix.F (cut xs lo hi) (cutV us lo hi) := imms_rep l.f (fix_t hF3.fr) _ hi0 (cut_rep k2 lo hi)
      have hq2 : W3.fix.H q = none := hq
      exact hp4 ⟨W3.fix.F, W3.fix.B, upd W3.fix.H q (.lst (cutV us lo hi))⟩ ⟨l.trans grow_le, fun _ => ⟨upd_sub hq, rfl⟩⟩ (.ref q) ⟨by have := hF4.fr.newL hq2 hy2; rwa [List.append_assoc] at this, hF3.lt, hF3.lv⟩
    · rw [if_neg hi0] at hp4; exact hp4.elim
  | _ => exact hp3.elim
end
end TL
end
section
set_option Elab.async false
set_option linter.all false
set_option autoImplicit false
set_option maxRecDepth 100000
set_option maxHeartbeats 4000000
/-! S21: classes -/
namespace TL
open PySem PySem.Spec L2
section
variable {Γ : Gm} {E : XK} {ms : List Md} {rr : RC}
/-- the class at c has no attribute f of its own -/
structure ClsF (Γ : Gm) (c f : Str) : Prop where
  cls : Cls Γ.K (Γ.cl c)
  no : NoAttr Γ.K (Γ.cl c) f
theorem repF_look {F B : Hp} {f : Str} {w : T} : ∀ {fs : List (Str × T)} {fv : List (Str × V)}, RepF Γ F B fs fv → fs.lookup f = some w → ∃ v, fv.lookup f = some v ∧ Rep Γ F B w v
  | [], _, h, e => by simp at e
  | (g, x) :: fs, _, h, e => by
    obtain ⟨v, r, rfl, h1, h2⟩ := h
    rw [List.lookup_cons] at e ⊢
    cases hb : f == g with
    | true => rw [hb] at e; cases e; exact ⟨v, rfl, h1⟩
    | false => rw [hb] at e; exact repF_look h2 e
theorem repF_none {F B : Hp} {f : Str} : ∀ {fs : List (Str × T)} {fv : List (Str × V)}, RepF Γ F B fs fv → fs.lookup f = none → fv.lookup f = none
  | [], _, h, e => by rw [show _ = [] from h]; rfl
  | (g, x) :: fs, _, h, e => by
    obtain ⟨v, r, rfl, h1, h2⟩ := h
    rw [List.lookup_cons] at e ⊢
    cases hb : f == g with
    | true => rw [hb] at e; cases e
    | false => rw [hb] at e; exact repF_none h2 e
theorem repF_len {F B : Hp} : ∀ {fs : List (Str × T)} {fv : List (Str × V)}, RepF Γ F B fs fv → fv.length = fs.length
  | [], _, h => by rw [show _ = [] from h]; rfl
  | (g, x) :: fs, _, h => by
    obtain ⟨v, r, rfl, h1, h2⟩ := h
    simp [repF_len h2]
theorem repF_put {F B : Hp} {f : Str} {w : T} {v : V} (hw : Rep Γ F B w v) : ∀ {fs : List (Str × T)} {fv : List (Str × V)}, RepF Γ F B fs fv → RepF Γ F B (putFT f w fs) (putF f v fv)
  | [], _, h => by rw [show _ = [] from h]; exact ⟨v, [], rfl, hw, rfl⟩
  | (g, x) :: fs, _, h => by
    obtain ⟨u, r, rfl, h1, h2⟩ := h
    unfold putFT putF
    by_cases e : g = f
    · rw [if_pos e, if_pos e]; exact ⟨v, r, rfl, hw, h2⟩
    · rw [if_neg e, if_neg e]; exact ⟨u, _, rfl, h1, repF_put hw h2⟩
/-! ### attributes -/
theorem oFld_some {c f : Str} {x w : T} (h : oFld c f x = some w) : ∃ fs, x = .ins c fs ∧ fs.lookup f = some w := by
  cases x with
  | ins c' fs =>
    have h1 : (if c' = c then fs.lookup f else none) = some w := h
    by_cases e : c' = c
    · rw [if_pos e] at h1; subst e; exact ⟨fs, rfl, h1⟩
    · rw [if_neg e] at h1; cases h1
  | _ => cases h
theorem sim_fld {c f : Str} {p : Bool} {ta : TE} {ea : M T} {r : RC} (hc : ClsF Γ c f) (ha : SimE Γ E ms p ta ea r) : SimE Γ E ms p (tFld Γ.K ta f) (ea >>= fun x => M.of (oFld c f x)) .fz := by
  intro W τ σ hs Q hF hp
  refine ha W τ σ hs _ hF (Pst.bind1 hp fun W1 x τ1 g1 hp1 vx h1 => ?_)
  cases hf : oFld c f x with
  | none => rw [hf] at hp1; exact hp1.elim
  | some w =>
    rw [hf] at hp1
    obtain ⟨fs, rfl, hl⟩ := oFld_some hf
    obtain ⟨a, dx, fv, rfl, e1, e2, e3⟩ := h1.now
    obtain ⟨v, k1, k2⟩ := repF_look e3 hl
    have fr := h1.fr.fr
    exact ⟨a, Γ.cl c, dx, fv, v, rfl, (fr.fb.trans fr.bh) _ _ e1, hc.cls, hc.no, k1, hp1 W1 Go.refl v ⟨h1.fr, k2⟩⟩
theorem sim_fldO {c f : Str} {i : Nat} (hc : ClsF Γ c f) (hm : ms[i]? = some .obj) : SimE Γ E ms true (tFld Γ.K (tVar i) f) (get i >>= fun x => M.of (oFld c f x)) .fz := by
  intro W τ σ hs Q hF hp
  obtain ⟨x, hx, hp1⟩ : ∃ x, τ[i]? = some (some x) ∧ Pst Γ E ms W σ hs true τ (fun W' w τ' => ∀ v, Has Γ W' ms τ' σ hs .fz w v → Q v W'.H) (M.of (oFld c f x) τ) := by
    have hp0 : Pst Γ E ms W σ hs true τ (fun W' w τ' => ∀ v, Has Γ W' ms τ' σ hs .fz w v → Q v W'.H) ((get i τ).next fun x => M.of (oFld c f x)) := hp
    unfold get at hp0
    cases ht : τ[i]? with
    | none => rw [ht] at hp0; exact hp0.elim
    | some o =>
      cases o with
      | none => rw [ht] at hp0; exact hp0.elim
      | some t => rw [ht] at hp0; exact ⟨t, rfl, hp0⟩
  obtain ⟨v, fp, hv, _, hsl, _, _⟩ := hF.slot hm hx
  cases hf : oFld c f x with
  | none => rw [hf] at hp1; exact hp1.elim
  | some w =>
    rw [hf] at hp1
    obtain ⟨fs, rfl, hl⟩ := oFld_some hf
    obtain ⟨a, dx, fv, rfl, e1, e2, rfl, e3⟩ := (show RepI Γ W.F W.H (.ins c fs) v fp from hsl)
    obtain ⟨u, k1, k2⟩ := repF_look e3 hl
    exact ⟨.ref a, hv, a, Γ.cl c, dx, fv, u, rfl, e1, hc.cls, hc.no, k1, hp1 W Go.refl u ⟨hF, k2⟩⟩
theorem setFT_some {c f : Str} {w x y : T} (h : setFT c f w x = some y) : ∃ fs, x = .ins c fs ∧ fs.length < 1000 ∧ y = .ins c (putFT f w fs) := by
  cases x with
  | ins c' fs =>
    have h1 : (if c' = c ∧ fs.length < 1000 then some (T.ins c' (putFT f w fs)) else none) = some y := h
    by_cases e : c' = c ∧ fs.length < 1000
    · rw [if_pos e] at h1; obtain ⟨rfl, e⟩ := e; cases h1; exact ⟨fs, rfl, e, rfl⟩
    · rw [if_neg e] at h1; cases h1
  | _ => cases h
theorem sim_sfld {c f : Str} {i : Nat} {p : Bool} {te : TE} {e : M T} (hc : ClsF Γ c f) (hm : ms[i]? = some .obj) (he : SimE Γ E ms p te e .fz) : SimS Γ E ms rr (sFld Γ.K (tVar i) te f) (sFldM c i f e) := by
  intro W τ σ hs D hF hp
  refine he W τ σ hs _ hF (PstS.bind hp fun W1 w τ1 l1 hp1 vw hw => ?_)
  obtain ⟨x, hx, hp2⟩ := getM_ok hp1
  obtain ⟨v, _, hv, hg, _, _, _⟩ := hw.1.slot hm hx
  cases hy : setFT c f w x with
  | none => rw [hy] at hp2; exact hp2.elim
  | some y =>
    rw [hy] at hp2
    obtain ⟨fs, rfl, hl, rfl⟩ := setFT_some hy
    obtain ⟨fp, hsl, nd, hb, ch⟩ := hw.1.fr.change hg
    obtain ⟨a, dx, fv, rfl, e1, e2, rfl, e3⟩ := (show RepI Γ W1.F W1.H (.ins c fs) v fp from hsl)
    refine ⟨.ref a, hv, a, Γ.cl c, dx, fv, rfl, e1, hc.cls, hc.no, by rw [repF_len e3]; exact hl, ?_⟩
    have hp5 : PstS Γ E ms rr W1 σ hs D (.ok .nx (τ1.set i (some (.ins c (putFT f w fs))))) := hp2
    have hls := sl_len hw.1.lt hw.1.lv
    obtain ⟨hi, _⟩ := List.getElem?_eq_some_iff.mp hm
    have ne : dx ≠ a := fun z => by subst z; rw [e1] at e2; cases e2
    have := ch (upd W1.H a (.ins (Γ.cl c) dx (putF f vw fv))) (.obj, some (.ins c (putFT f w fs)), some (.ref a)) [a] (fun b o hb e => by rw [upd_ne (by simpa using hb)]; exact e)
      ⟨a, dx, putF f vw fv, rfl, upd_same, (upd_ne ne).trans e2, rfl, repF_put hw.2 e3⟩ (by simp) (fun b hb => .inl hb)
    rw [List.set_append_left _ _ (by omega), sl_set _ _ hm, set_self hv] at this
    exact hp5 _ σ ⟨grow_le, fun _ _ _ => rfl⟩ ⟨this, by rw [List.length_set]; exact hw.1.lt, hw.1.lv⟩
end
end TL
end
section
set_option Elab.async false
set_option linter.all false
set_option autoImplicit false
set_option maxRecDepth 100000
set_option maxHeartbeats 4000000
/-! S22: methods, properties, instances made -/
namespace TL
open PySem PySem.Spec L2
section
variable {Γ : Gm} {E : XK} {ms : List Md} {rr : RC}
def tChkM (C : Addr) (m : Str) (ta : TE) : TE := fun σ H Q => ta σ H fun x H1 => ∃ a dx fs, x = .ref a ∧ H1 a = some (.ins C dx fs) ∧ fs.lookup m = none ∧ Q x H1
def tChkP (C : Addr) (ta : TE) : TE := fun σ H Q => ta σ H fun x H1 => ∃ a dx fs, x = .ref a ∧ H1 a = some (.ins C dx fs) ∧ Q x H1
theorem sim_chkM {c m : Str} {p : Bool} {ta : TE} {ea : M T} {r : RC} (ha : SimE Γ E ms p ta ea r) : SimE Γ E ms p (tChkM (Γ.cl c) m ta) (ea >>= fun x => M.of (oIns c m x)) r := by
  intro W τ σ hs Q hF hp
  refine ha W τ σ hs _ hF (Pst.bind1 hp fun W1 x τ1 g1 hp1 vx h1 => ?_)
  cases x with
  | ins c' fs =>
    by_cases e : c' = c ∧ fs.lookup m = none
    · have hp2 : Pst Γ E ms W1 σ hs true τ1 (fun W' w τ' => ∀ v, Has Γ W' ms τ' σ hs r w v → Q v W'.H) (M.of (if c' = c ∧ fs.lookup m = none then some (T.ins c' fs) else none) τ1) := hp1
      rw [if_pos e] at hp2
      obtain ⟨rfl, e⟩ := e
      obtain ⟨a, dx, fv, rfl, e1, e2, e3⟩ := h1.now
      have fr := h1.fr.fr
      exact ⟨a, dx, fv, rfl, (fr.fb.trans fr.bh) _ _ e1, repF_none e3 e, hp2 W1 Go.refl _ h1⟩
    · have hp2 : Pst Γ E ms W1 σ hs true τ1 (fun W' w τ' => ∀ v, Has Γ W' ms τ' σ hs r w v → Q v W'.H) (M.of (if c' = c ∧ fs.lookup m = none then some (T.ins c' fs) else none) τ1) := hp1
      rw [if_neg e] at hp2
      exact hp2.elim
  | _ => exact (show False from hp1).elim
theorem sim_chkP {c : Str} {p : Bool} {ta : TE} {ea : M T} {r : RC} (ha : SimE Γ E ms p ta ea r) : SimE Γ E ms p (tChkP (Γ.cl c) ta) (ea >>= fun x => M.of (oCls c x)) r := by
  intro W τ σ hs Q hF hp
  refine ha W τ σ hs _ hF (Pst.bind1 hp fun W1 x τ1 g1 hp1 vx h1 => ?_)
  cases x with
  | ins c' fs =>
    by_cases e : c' = c
    · have hp2 : Pst Γ E ms W1 σ hs true τ1 (fun W' w τ' => ∀ v, Has Γ W' ms τ' σ hs r w v → Q v W'.H) (M.of (if c' = c then some (T.ins c' fs) else none) τ1) := hp1
      rw [if_pos e] at hp2
      subst e
      obtain ⟨a, dx, fv, rfl, e1, e2, e3⟩ := h1.now
      have fr := h1.fr.fr
      exact ⟨a, dx, fv, rfl, (fr.fb.trans fr.bh) _ _ e1, hp2 W1 Go.refl _ h1⟩
    · have hp2 : Pst Γ E ms W1 σ hs true τ1 (fun W' w τ' => ∀ v, Has Γ W' ms τ' σ hs r w v → Q v W'.H) (M.of (if c' = c then some (T.ins c' fs) else none) τ1) := hp1
      rw [if_neg e] at hp2
      exact hp2.elim
  | _ => exact (show False from hp1).elim
/-- o.m(..): the object's step, then the arguments' -/
def sSelf (c m : Str) (ea : M T) (e : M (List T)) : M (List T) := (ea >>= fun x => M.of (oIns c m x)) >>= fun x => e >>= fun xs => M.pure (x :: xs)
theorem sim_meth {c mn : Str} {pms : List Md} {rr : RC} {m : List T → RE T} {p q : Bool} {ta : TE} {ea : M T} {r : RC} {t : TA} {e : M (List T)} {cs : List RC} (ha : SimE Γ E ms p ta ea r) (ht : SimA Γ E ms q t e cs) (hst : Stay' r q) (hc : Args (r :: cs) pms) (hr : Back rr) :
    SimE Γ E ms (p && q) (tMeth (Γ.cl c) mn (spT Γ pms rr m) [] E ta t) (sSelf c mn ea e >>= call0 m) rr := by
  have h := sim_call0 (m := m) (sim_cons (sim_chkM (c := c) (m := mn) ha) ht hst) hc hr
  intro W τ σ hs Q hF hp
  exact h W τ σ hs Q hF hp
def sProp (c : Str) (ea : M T) : M (List T) := (ea >>= fun x => M.of (oCls c x)) >>= fun x => M.pure [] >>= fun xs => M.pure (x :: xs)
theorem sim_prop {c : Str} {pms : List Md} {rr : RC} {m : List T → RE T} {p : Bool} {ta : TE} {ea : M T} {r : RC} (ha : SimE Γ E ms p ta ea r) (hst : Stay' r true) (hc : Args [r] pms) (hr : Back rr) :
    SimE Γ E ms (p && true) (tProp (Γ.cl c) (spT Γ pms rr m) [] E ta) (sProp c ea >>= call0 m) rr := by
  have h := sim_call0 (m := m) (sim_cons (sim_chkP (c := c) ha) sim_nil hst) hc hr
  intro W τ σ hs Q hF hp
  have h1 := h W τ σ hs Q hF hp
  have e : tProp (Γ.cl c) (spT Γ pms rr m) [] E ta = tCall (spT Γ pms rr m) [] E (tCons (tChkP (Γ.cl c) ta) tNil) := by
    funext σ H Q
    show ta σ H _ = ta σ H _
    congr 1
    funext x H1
    apply propext
    constructor
    · rintro ⟨a, dx, fs, rfl, e, h⟩; exact ⟨a, dx, fs, rfl, e, h⟩
    · rintro ⟨a, dx, fs, rfl, e, h⟩; exact ⟨a, dx, fs, rfl, e, h⟩
  rw [e]
  exact h1
/-! ### made -/
theorem Fr.freezeI {W : Wd} {S : List Slot} {t : T} {v : V} (h : Fr Γ W (S ++ [(.obj, some t, some v)])) : ∃ W' : Wd, W.Le W' ∧ W'.H = W.H ∧ Fr Γ W' S ∧ Rep Γ W'.F W'.F t v := by
  obtain ⟨fps, h1, h2, h3⟩ := h.ex
  obtain ⟨m1, m2, rfl, g1, g2⟩ := pr_split h1
  cases g2 with
  | @cons _ fp _ _ r g2 =>
  cases g2
  have fh := h.fb.trans h.bh
  have r' : RepI Γ W.F W.H t v fp := r
  rw [List.flatten_append, List.nodup_append] at h2
  obtain ⟨n1, n2, dis⟩ := h2
  have key : ∀ a o, W.H a = some o → ¬ Mut (some o) → frz W.F W.H fp a = some o := fun a o e m => frz_at fh (.inr (by unfold isFix; rw [e]; exact m)) e
  refine ⟨⟨frz W.F W.H fp, join W.B (frz W.F W.H fp), W.H⟩, ⟨frz_f, join_b, fun a o e => ?_⟩, rfl, ⟨join_f h.bh (frz_h fh), join_h h.bh (frz_h fh), m1, ?_, n1, fun a ha => ?_⟩, ?_⟩
  · have e' : frz W.F W.H fp a = some o := e
    unfold frz at e'
    split at e'
    · exact .inl e'
    · split at e'
      · rename_i hh
        rcases hh with hh | hh
        · exact .inr (.inl (h3 a (by simp [hh])))
        · rw [e'] at hh
          exact .inr (.inr hh)
      · cases e'
  · exact pr_keep (W := W) (W' := ⟨frz W.F W.H fp, join W.B (frz W.F W.H fp), W.H⟩) frz_f join_b (fun _ _ q _ => q) g1 fun _ _ _ q => q
  · have hb : W.B a = none := h3 a (by simp at ha ⊢; exact .inl ha)
    refine join_none hb ?_
    show (if _ then _ else _) = _
    rw [if_neg (by rw [h.fb.free hb]; simp), if_neg]
    rintro (hm | hm)
    · exact dis a ha a (by simpa using hm) rfl
    · obtain ⟨o, e, m⟩ := pr_there g1 a ha
      rw [e] at hm
      exact hm m
  · cases t with
    | ins c fs =>
      obtain ⟨a, dx, fv, rfl, e1, e2, rfl, e3⟩ := r'
      exact ⟨a, dx, fv, rfl, frz_at fh (.inl (by simp)) e1, key _ _ e2 (fun z => z), RepF.mono frz_f fs frz_f e3⟩
    | _ => exact (show False from r').elim
theorem Args.len : ∀ {cs : List RC} {pms : List Md}, Args cs pms → cs.length = pms.length
  | [], [], _ => rfl
  | _ :: _, _ :: _, h => by simp [Args.len h.2]
  | [], _ :: _, h => h.elim
  | _ :: _, [], h => h.elim
theorem sim_make {c : Str} {pms : List Md} {m : List T → RE T} {p : Bool} {t : TA} {e : M (List T)} {cs : List RC} (ha : SimA Γ E ms p t e cs) (hc : Args cs pms) (hlen : ∀ ts w τ', m ts = .ok w τ' → τ'.length = pms.length + 1) :
    SimE Γ E ms p (tMake (Γ.cl c) (spT Γ (.obj :: pms) .fz m) [] E t) (e >>= makeM c m) .fz := by
  intro W τ σ hs Q hF hp
  refine ha W τ σ hs _ hF (Pst.bind1 hp fun W1 ts τ1 g1 hp1 vs hF1 hv => ?_)
  intro x dx hx hdx hne
  obtain ⟨Wc, e1, e2, f0, bB, eB, back⟩ := Fr.call (Sl := []) (Sr := sl ms τ1 σ ++ hs) (by simpa using hF1.fr)
  obtain ⟨l1, l2⟩ := hv.len
  have l3 := hc.len
  have fa := add_args (A := []) e1 bB hF1.fr.fb (.inl (eB rfl)) hc hv f0
  rw [List.nil_append] at fa
  rw [← e2] at hx hdx ⊢
  have sub : Same Wc.H (upd (upd Wc.H dx (.own x)) x (.ins (Γ.cl c) dx [])) := fun a o h => by
    rw [upd_ne (fun z => by subst z; rw [hx] at h; cases h), upd_ne (fun z => by subst z; rw [hdx] at h; cases h)]; exact h
  have fn := fa.new (s := (.obj, some (.ins c []), some (.ref x))) (fp := [x]) sub ⟨x, dx, [], rfl, upd_same, (upd_ne hne).trans upd_same, rfl, rfl⟩ (by simp) (fun a ha => by rw [List.mem_singleton.mp ha]; exact hx)
  have fn2 := fn.perm List.perm_append_comm
  rw [List.append_nil]
  refine ⟨_, .ins c [] :: ts, rfl, by simp; omega, ⟨by simpa [sl] using fn2, by simp; omega, by simp; omega⟩, ?_⟩
  unfold makeM at hp1
  cases hm : m (.ins c [] :: ts) with
  | stuck => simp only [hm] at hp1; exact hp1
  | exc y τ' =>
    simp only [hm] at hp1
    intro W' cls d l hF' hx'
    obtain ⟨W2, q1, q2, q3, q4, q5⟩ := back W' _ ⟨l.f, l.b, l.g⟩ (by simpa using mask_nosh) hF'.fr
    have := hp1 W2 cls d ⟨q3, fun _ => ⟨by rw [q2]; exact q5 rfl, rfl⟩⟩ ⟨(q4.perm List.perm_append_comm).pop, hF1.lt, hF1.lv⟩ (by
      obtain ⟨a, b⟩ := hx'
      exact ⟨a, b.imp id fun ⟨a, fv, h1, h2, h3⟩ => ⟨a, fv, h1, by rw [q2]; exact h2, by rw [q1]; exact h3⟩⟩)
    rw [q2] at this
    exact this
  | ok w τ' =>
    simp only [hm] at hp1
    cases w with
    | non =>
      have hl := hlen _ _ _ hm
      cases τ' with
      | nil => simp at hl
      | cons o τ' =>
        cases o with
        | none => exact hp1.elim
        | some y =>
          have hp2 : Pst Γ E ms W1 σ hs true τ1 (fun W' w τ' => ∀ v, Has Γ W' ms τ' σ hs .fz w v → Q v W'.H) (.ok y τ1) := hp1
          intro W' v l hh
          obtain ⟨hF', hr'⟩ := hh
          refine ⟨hr', ?_⟩
          obtain ⟨W2, q1, q2, q3, q4, q5⟩ := back W' _ ⟨l.f, l.b, l.g⟩ (by simpa using mask_nosh) hF'.fr
          have q6 : Fr Γ W2 ((Md.obj, some y, some (V.ref x)) :: (sl pms (mask pms τ') (vs.map some) ++ (sl ms τ1 σ ++ hs))) := by simpa [mask, sl] using q4
          have q7 : Fr Γ W2 (sl ms τ1 σ ++ hs ++ [(Md.obj, some y, some (V.ref x))]) := by
            refine Fr.pop (S' := sl pms (mask pms τ') (vs.map some)) (q6.perm ?_)
            generalize sl pms (mask pms τ') (vs.map some) = A
            generalize sl ms τ1 σ ++ hs = B
            have h1 : ((Md.obj, some y, some (V.ref x)) :: (A ++ B)).Perm ((Md.obj, some y, some (V.ref x)) :: (B ++ A)) := .cons _ List.perm_append_comm
            refine h1.trans ?_
            rw [List.append_assoc]
            exact List.perm_middle.symm
          obtain ⟨W3, l3, eH, f3, r3⟩ := q7.freezeI
          have := hp2 W3 ⟨q3.trans l3, fun _ => ⟨by rw [eH, q2]; exact q5 rfl, rfl⟩⟩ (.ref x) ⟨⟨f3, hF1.lt, hF1.lv⟩, r3⟩
          rw [eH, q2] at this
          exact this
    | _ => exact hp1.elim
end
end TL
end
section
set_option Elab.async false
set_option linter.all false
set_option autoImplicit false
set_option maxRecDepth 100000
set_option maxHeartbeats 4000000
/-! S23: isinstance; dicts made, asked, emptied; chains -/
namespace TL
open PySem PySem.Spec L2
def TyU (Γ : Gm) (H : Hp) (x : V) (t : Value) : Prop := TyW Γ.K H x t ∨ ∃ a es ep, x = .ref a ∧ H a = some (DX Γ.w a es ep) ∧ t = .type "dict"
def rIsi1 (Γ : Gm) : List V → Hp → VK → Prop := fun xs H Q => ∃ (x c : V) (t u : Value) (b : Bool), xs = [x, c] ∧ ClsV c u ∧ TyU Γ H x t ∧ PySem.W.kitOne Γ.K t u = some b ∧ Q (.bl b) H
def rIsi2 (Γ : Gm) : List V → Hp → VK → Prop := fun xs H Q => ∃ (x : V) (tp : Addr) (cs : List V) (t : Value) (us : List Value) (b : Bool), xs = [x, .ref tp] ∧ H tp = some (.tup cs) ∧ Paired ClsV cs us ∧ TyU Γ H x t ∧ PySem.W.kitAny Γ.K t us = some b ∧ Q (.bl b) H
section
variable {X : Cx} {Γ : Gm}
theorem kit_ofU (hK : Γ.K = X.K) {pins : List (Addr × Obj)} {σ : St} {H : Hp} {s : Shared} {x : V} {u t : Value} (I : Inv X pins σ H s) (rx : L2.RelV x u) (ty : TyU Γ H x t) : ∃ P : Heap → Prop, PySem.W.KitX X.K u t P ∧ P s.heap ∧ u ≠ .builtin "__main__.__loader__#opaque" := by
  rcases ty with h | ⟨a, es, ep, rfl, h, rfl⟩
  · rw [hK] at h; exact kit_ofW I rx h
  · cases (show u = Value.ref a from rx)
    obtain ⟨_, _, o, xs, ho, hx, _⟩ := dx_of I h
    exact ⟨_, PySem.W.kitx_dict, ⟨o, ho, hx.1⟩, fun z => nomatch z⟩
theorem isiU1 (hK : Γ.K = X.K) : CallR X (.builtin "isinstance") (rIsi1 Γ) := by
  intro pins s σ H xs us Q I r h
  obtain ⟨x, c, t, u, b, rfl, k, ty, e, q⟩ := h
  obtain ⟨u1, u2, rfl, r1, r2⟩ := vals2 r
  have e2 := k.eq r2
  subst e2
  obtain ⟨P, Z, p, hx⟩ := kit_ofU hK I r1 ty
  rw [hK] at e
  exact PySem.W.kia_one Z I.kIn p e hx fun tk => ⟨.bl b, H, I.tok tk, rfl, q⟩
theorem isiU2 (hK : Γ.K = X.K) : CallR X (.builtin "isinstance") (rIsi2 Γ) := by
  intro pins s σ H xs us Q I r h
  obtain ⟨x, tp, cs, t, ws, b, rfl, hT, k, ty, e, q⟩ := h
  obtain ⟨u1, u2, rfl, r1, r2⟩ := vals2 r
  cases (show u2 = Value.ref tp from r2)
  obtain ⟨P, Z, p, hx⟩ := kit_ofU hK I r1 ty
  obtain ⟨_, its, rv, o, h1, h2, n, h3⟩ := (show ObjOk X.prog X.w H s.heap tp (.tup cs) from I.hok tp _ hT)
  have e3 := ClsV.all k rv
  subst e3
  obtain ⟨oc, od, dt, sl⟩ := o
  simp only at h2 h3
  subst h2 h3
  rw [hK] at e
  exact PySem.W.kia_tup Z I.kIn p h1 e hx fun tk => ⟨.bl b, H, I.tok tk, rfl, q⟩
end
section
variable {Γ : Gm} {E : XK} {ms : List Md} {rr : RC}
theorem tyU_of {F H : Hp} {t : T} {v : V} {nm : String} (hF : Same F H) (h : Rep Γ F H t v) (hn : tyName t = some nm) : TyU Γ H v (.type nm) := by
  cases t with
  | non => cases hn; cases (show v = .non from h); exact .inl (.x ty_non)
  | bl b => cases hn; cases (show v = .bl b from h); exact .inl (.x ty_bl)
  | int i => cases hn; cases (show v = .int i from h); exact .inl (.x ty_int)
  | str z => cases hn; cases (show v = .str z from h); exact .inl (.x ty_str)
  | tup xs => cases hn; obtain ⟨a, vs, rfl, h1, _⟩ := h; exact .inl (.x (ty_tup h1))
  | lst xs => cases hn; obtain ⟨a, vs, rfl, h1, _⟩ := h; exact .inl (.x (ty_lst h1))
  | dct kvs => cases hn; obtain ⟨a, es, ep, rfl, h1, _⟩ := h; exact .inr ⟨a, es, ep, rfl, h1, rfl⟩
  | set xs => cases hn
  | ins c fs => cases hn
def tyNames : List String := ["NoneType", "bool", "int", "str", "tuple", "list", "dict"]
theorem tyName_mem {t : T} {nm : String} (h : tyName t = some nm) : nm ∈ tyNames := by
  cases t <;> cases h <;> decide
def KitOk (t : String) : Prop := ∀ nm ∈ tyNames, kitB nm t = some (isA1 nm t)
theorem sim_isa1 {p : Bool} {ta : TE} {ea : M T} {r : RC} {t : String} (hk : KitOk t) (ha : SimE Γ E ms p ta ea r) : SimE Γ E ms p (tCB (rIsi1 Γ) (tCons ta (tCons (tC (.ty t)) tNil))) (ea >>= fun x => M.of (oIsA x [t])) .fz := by
  intro W τ σ hs Q hF hp
  refine ha W τ σ hs _ hF (Pst.bind1 hp fun W1 x τ1 g1 hp1 vx h1 => ?_)
  unfold oIsA at hp1
  cases hn : tyName x with
  | none => rw [hn] at hp1; exact hp1.elim
  | some nm =>
    rw [hn] at hp1
    have hb := hk nm (tyName_mem hn)
    have e : ([t].any (isA1 nm)) = isA1 nm t := by simp
    have hp2 : Pst Γ E ms W1 σ hs true τ1 (fun W' w τ' => ∀ v, Has Γ W' ms τ' σ hs .fz w v → Q v W'.H) (.ok (.bl ([t].any (isA1 nm))) τ1) := hp1
    rw [e] at hp2
    have fr := h1.fr.fr
    exact ⟨vx, .ty t, .type nm, .type t, isA1 nm t, rfl, .ty t, tyU_of (fr.fb.trans fr.bh) h1.now hn, kit_ty hb, hp2 W1 Go.refl _ ⟨h1.fr, rfl⟩⟩
theorem sim_isa2 {p : Bool} {ta : TE} {ea : M T} {r : RC} {t u : String} (hk : KitOk t) (hk' : KitOk u) (ha : SimE Γ E ms p ta ea r) : SimE Γ E ms p (tCB (rIsi2 Γ) (tCons ta (tCons (tTup (tCons (tC (.ty t)) (tCons (tC (.ty u)) tNil))) tNil))) (ea >>= fun x => M.of (oIsA x [t, u])) .fz := by
  intro W τ σ hs Q hF hp
  refine ha W τ σ hs _ hF (Pst.bind1 hp fun W1 x τ1 g1 hp1 vx h1 => ?_)
  unfold oIsA at hp1
  cases hn : tyName x with
  | none => rw [hn] at hp1; exact hp1.elim
  | some nm =>
    rw [hn] at hp1
    have hb := hk nm (tyName_mem hn)
    have hb' := hk' nm (tyName_mem hn)
    have e : ([t, u].any (isA1 nm)) = (isA1 nm t || isA1 nm u) := by simp
    have hp2 : Pst Γ E ms W1 σ hs true τ1 (fun W' w τ' => ∀ v, Has Γ W' ms τ' σ hs .fz w v → Q v W'.H) (.ok (.bl ([t, u].any (isA1 nm))) τ1) := hp1
    rw [e] at hp2
    have fr := h1.fr.fr
    refine ⟨by show 2 ≤ sizeLine; decide, fun q hq => ?_⟩
    obtain ⟨l, fB⟩ := fr.newB (.tup [.ty t, .ty u]) hq
    have sub : Same W1.H (upd W1.H q (.tup [.ty t, .ty u])) := upd_sub hq
    have hT := tyU_of (Γ := Γ) ((fr.fb.trans fr.bh).trans sub) (Rep.mono (Same.refl _) x sub h1.now) hn
    refine ⟨vx, q, _, .type nm, [.type t, .type u], isA1 nm t || isA1 nm u, rfl, upd_same, .cons (.ty _) (.cons (.ty _) .nil), hT, ?_, hp2 _ ⟨l, fun _ => ⟨sub, rfl⟩⟩ _ ⟨⟨fB, h1.fr.lt, h1.fr.lv⟩, rfl⟩⟩
    refine kitAny_cons (kit_ty hb) (fun e => kitAny_cons (kit_ty hb') (fun e2 => ?_) (fun e2 => ?_)) (fun e => ?_)
    · rw [e, e2]; exact kitAny_nil
    · rw [e, e2]; rfl
    · rw [e]; rfl
/-! ### dicts -/
theorem sim_dnew : SimE Γ E ms true (tDX Γ.w) (M.pure (.dct [])) (.own 1) := by
  intro W τ σ hs Q hF hp p ep hq
  have fn := hF.fr.new (H' := upd W.H p (DX Γ.w p [] ep)) (s := (.own 1, some (.dct []), some (.ref p))) (fp := [p]) (upd_sub hq) ⟨p, [], ep, rfl, upd_same, by simp, rfl, rfl⟩ (by simp) (fun a ha => by rw [List.mem_singleton.mp ha]; exact hq)
  exact hp ⟨W.F, W.B, upd W.H p (DX Γ.w p [] ep)⟩ ⟨grow_le, fun _ => ⟨upd_sub hq, rfl⟩⟩ (.ref p) ⟨by rw [← List.append_assoc]; exact fn, hF.lt, hF.lv⟩
theorem sim_get1 {p q : Bool} {td ty : TE} {ed ek : M T} {r rk : RC} (hd : SimE Γ E ms p td ed r) (hk : SimE Γ E ms q ty ek rk) (hst : Stay r q) (hns : Firm r ∨ r = .now) :
    SimE Γ E ms (p && q) (tGet1 Γ td ty) (ed >>= fun x => asD x >>= fun _ => ek >>= fun k => M.of (oGet1 x k)) r := by
  intro W τ σ hs Q hF hp
  refine hd W τ σ hs _ hF (Pst.bind hp fun W1 x τ1 g1 hp1 vx h1 => ?_)
  cases x with
  | dct kvs =>
    obtain ⟨a, es, ep, rfl, e1, nd, rD⟩ := h1.now
    refine ⟨a, rfl, ⟨es, ep, e1⟩, ?_⟩
    have hp1' : Pst Γ E ms W1 σ hs q τ1 (fun W' w τ' => ∀ v, Has Γ W' ms τ' σ hs r w v → Q v W'.H) ((ek >>= fun k => M.of (oGet1 (.dct kvs) k)) τ1) := hp1
    refine hk W1 τ1 σ hs _ h1.fr (Pst.bind1 hp1' fun W2 k τ2 g2 hp2 vk h2 => ?_)
    have h1' := h1.later g2 h2.fr hst
    have hp3 : Pst Γ E ms W2 σ hs true τ2 (fun W' w τ' => ∀ v, Has Γ W' ms τ' σ hs r w v → Q v W'.H) (M.of (if askOk kvs k = true then some ((look kvs k).getD .non) else none) τ2) := hp2
    by_cases hao : askOk kvs k = true
    · rw [if_pos hao] at hp3
      have fr := h2.fr.fr
      have go : ∀ G : Hp, Same G W2.H → Rep Γ W2.F G (.dct kvs) (.ref a) → (∀ v, Rep Γ W2.F G ((look kvs k).getD .non) v → Q v W2.H) → ∃ es ep nk, Asks Γ W2.H a es ep nk vk ∧ Q ((valE es nk).getD .non) W2.H := by
        intro G hG hr hq
        obtain ⟨a', es', ep', e, k1, k2, k3⟩ := hr
        cases e
        obtain ⟨nk, ask, hkey⟩ := asks_at (hG _ _ k1) k2 (RepD.mono (Same.refl _) kvs hG k3) h2.now hao
        refine ⟨es', ep', nk, ask, hq _ ?_⟩
        have := repD_get k3 k hkey
        cases hl : look kvs k with
        | none => rw [hl] at this; simp only at this; rw [this]; rfl
        | some w => rw [hl] at this; obtain ⟨v, e1, e2⟩ := this; rw [e1]; exact e2
      cases r with
      | now => exact go W2.H (Same.refl _) h1'.2 fun v hv => hp3 W2 Go.refl v ⟨h2.fr, hv⟩
      | sh => exact go W2.B fr.bh h1'.2 fun v hv => hp3 W2 Go.refl v ⟨h2.fr, hv⟩
      | fz => exact go W2.F (fr.fb.trans fr.bh) h1'.2 fun v hv => hp3 W2 Go.refl v ⟨h2.fr, hv⟩
      | own n => exact (show False from hst).elim
      | slot i => rcases hns with (h | h) | h <;> cases h
    · rw [if_neg hao] at hp3; exact hp3.elim
  | _ => exact (show False from hp1).elim
end
end TL
end
section
set_option Elab.async false
set_option linter.all false
set_option autoImplicit false
set_option maxRecDepth 100000
set_option maxHeartbeats 4000000
/-! S24: changes of a list or dict, in a slot or inside a slot's list -/
namespace TL
open PySem PySem.Spec L2
section
variable {Γ : Gm} {E : XK} {ms : List Md} {rr : RC}
theorem pyIx_lt {n j : Nat} {k : Int} (h : pyIx n k = some j) : j < n := by
  unfold pyIx at h
  split at h
  · split at h
    · cases h; omega
    · cases h
  · split at h
    · cases h; omega
    · cases h
/-- y[k] = w -/
theorem setL_in {F H : Hp} {n : Nat} {ys zs : List T} {u vw vk : V} {q ft : List Addr} {k w : T} (r1 : RepO Γ F H (n + 1) (.lst ys) u q) (r2 : RepO Γ F H n w vw ft) (nd : (q ++ ft).Nodup) (hk : Rep Γ F H k vk) (hz : setL ys k w = some zs) {Q : Hp → Prop}
    (hq : ∀ H' q', (∀ c o, c ∉ q ++ ft → H c = some o → H' c = some o) → RepO Γ F H' (n + 1) (.lst zs) u q' → q'.Nodup → (∀ c ∈ q', c ∈ q ++ ft) → Q H') : rSetL u vk vw H Q := by
  cases k with
  | int k =>
    cases hk
    have hz1 : (pyIx ys.length k).map (fun j => ys.set j w) = some zs := hz
    cases hj : pyIx ys.length k with
    | none => rw [hj] at hz1; cases hz1
    | some j =>
      rw [hj] at hz1; cases hz1
      obtain ⟨a, vs, fp1, rfl, k1, rfl, k2⟩ := r1
      obtain ⟨hl, hg⟩ := repOL_get k2
      obtain ⟨v0, p, q0, r, e1, rfl, e3, e4⟩ := hg j (ys[j]'(pyIx_lt hj)) (List.getElem?_eq_getElem (pyIx_lt hj))
      refine ⟨a, vs, k, j, rfl, rfl, k1, by rw [← hl]; exact hj, ?_⟩
      have keepH : ∀ b o, b ≠ a → H b = some o → upd H a (.lst (vs.set j vw)) b = some o := fun b o hb e => by rw [upd_ne hb]; exact e
      have hnot : a ∉ p ++ q0 ++ r ++ ft := by
        rw [List.cons_append, List.nodup_cons] at nd
        exact nd.1
      have ht' : ∀ b o, H b = some o → ¬ Mut (some o) → upd H a (.lst (vs.set j vw)) b = some o := fun b o e nm => keepH b o (fun z => by subst z; rw [k1] at e; cases e; exact nm True.intro) e
      refine hq (upd H a (.lst (vs.set j vw))) (a :: (p ++ ft ++ r)) (fun b o hb e => keepH b o (fun z => hb (by rw [z]; simp)) e) ⟨a, vs.set j vw, p ++ ft ++ r, rfl, upd_same, rfl, e4 _ _ w vw ft (Same.refl _) ht' (fun b hb o e => keepH b o (fun z => hnot ?_) e) ?_⟩ (nodup_tail nd) fun b hb => ?_
      · rw [← z]
        rcases List.mem_append.mp hb with hb | hb <;> simp [hb]
      · exact RepO.keep (Same.refl _) ht' w (fun b hb o e => keepH b o (fun z => hnot (by rw [← z]; simp [hb])) e) r2
      · rcases List.mem_cons.mp hb with rfl | hb
        · simp
        · rcases List.mem_append.mp hb with hb | hb
          · rcases List.mem_append.mp hb with hb | hb <;> simp [hb]
          · simp [hb]
  | _ => cases hz
/-- y.append(w) -/
theorem app_in {F H : Hp} {n : Nat} {ys : List T} {u vw : V} {q ft : List Addr} {w : T} (r1 : RepO Γ F H (n + 1) (.lst ys) u q) (r2 : RepO Γ F H n w vw ft) (nd : (q ++ ft).Nodup) (hz : ys.length < szL) {Q : VK}
    (hq : ∀ H' q', (∀ c o, c ∉ q ++ ft → H c = some o → H' c = some o) → RepO Γ F H' (n + 1) (.lst (ys ++ [w])) u q' → q'.Nodup → (∀ c ∈ q', c ∈ q ++ ft) → Q .non H') : rAppend u [vw] H Q := by
  obtain ⟨a, vs, fp1, rfl, k1, rfl, k2⟩ := r1
  refine ⟨a, vs, vw, rfl, rfl, k1, by rw [← (repOL_get k2).1, ← szL_eq]; exact hz, ?_⟩
  have keepH : ∀ b o, b ≠ a → H b = some o → upd H a (.lst (vs ++ [vw])) b = some o := fun b o hb e => by rw [upd_ne hb]; exact e
  have hnot : a ∉ fp1 ++ ft := by
    rw [List.cons_append, List.nodup_cons] at nd
    exact nd.1
  have ht' : ∀ b o, H b = some o → ¬ Mut (some o) → upd H a (.lst (vs ++ [vw])) b = some o := fun b o e nm => keepH b o (fun z => by subst z; rw [k1] at e; cases e; exact nm True.intro) e
  refine hq (upd H a (.lst (vs ++ [vw]))) (a :: (fp1 ++ ft)) (fun b o hb e => keepH b o (fun z => hb (by rw [z]; simp)) e) ⟨a, vs ++ [vw], fp1 ++ ft, rfl, upd_same, rfl, repOL_snoc ?_ ?_⟩ (by simpa using nd) (fun b hb => by simpa using hb)
  · exact RepO.keep (Same.refl _) ht' w (fun b hb o e => keepH b o (fun z => hnot (by rw [← z]; simp [hb])) e) r2
  · exact RepOL.keep (Same.refl _) ht' ys (fun b hb o e => keepH b o (fun z => hnot (by rw [← z]; simp [hb])) e) k2
/-- y.clear() -/
theorem clear_in {F H : Hp} {n : Nat} {y z : T} {u : V} {q : List Addr} (r1 : RepO Γ F H (n + 1) y u q) (nd : q.Nodup) (hz : oClear y = some z) {Q : VK}
    (hq : ∀ H' q', (∀ c o, c ∉ q → H c = some o → H' c = some o) → RepO Γ F H' (n + 1) z u q' → q'.Nodup → (∀ c ∈ q', c ∈ q) → Q .non H') : ∃ a, u = .ref a ∧ ((∃ xs, H a = some (.lst xs) ∧ Q .non (upd H a (.lst []))) ∨ ∃ es ep, H a = some (DX Γ.w a es ep) ∧ ∀ ep', Q .non (upd H a (DX Γ.w a [] ep'))) := by
  cases y with
  | lst ys =>
    cases hz
    obtain ⟨a, vs, fp1, rfl, k1, rfl, k2⟩ := r1
    refine ⟨a, rfl, .inl ⟨vs, k1, hq _ [a] (fun b o hb e => ?_) ⟨a, [], [], rfl, upd_same, rfl, rfl, rfl⟩ (by simp) (fun b hb => by rw [List.mem_singleton.mp hb]; simp)⟩⟩
    rw [upd_ne (fun z => hb (by rw [z]; simp))]; exact e
  | dct kvs =>
    cases hz
    obtain ⟨a, es, ep, rfl, k1, k2, rfl, k3⟩ := r1
    refine ⟨a, rfl, .inr ⟨es, ep, k1, fun ep' => hq _ [a] (fun b o hb e => ?_) ⟨a, [], ep', rfl, upd_same, by simp, rfl, rfl⟩ (by simp) (fun b hb => hb)⟩⟩
    rw [upd_ne (fun z => hb (by rw [z]; simp))]; exact e
  | _ => cases hz
/-- the element j of slot i's list, and a temporary -/
theorem FrS.path {W : Wd} {τ : Tau} {σ : St} {hs : List Slot} {n k i j : Nat} {m : Md} {w y : T} {vw vi : V} {xs : List T} (h : FrS Γ W ms τ σ (hs ++ [(.own k, some w, some vw)])) (hm : ms[i]? = some m) (ho : OwnM (n + 1) m) (hx : τ[i]? = some (some (.lst xs))) (hv : σ[i]? = some (some vi)) (hj : xs[j]? = some y) :
    ∃ a vs u q ft, vi = .ref a ∧ W.H a = some (.lst vs) ∧ xs.length = vs.length ∧ vs[j]? = some u ∧ RepO Γ W.F W.H n y u q ∧ RepO Γ W.F W.H k w vw ft ∧ (q ++ ft).Nodup ∧
      ∀ H' y' q', (∀ c o, c ∉ q ++ ft → W.H c = some o → H' c = some o) → RepO Γ W.F H' n y' u q' → q'.Nodup → (∀ c ∈ q', c ∈ q ++ ft) → FrS Γ { W with H := H' } ms (τ.set i (some (.lst (xs.set j y')))) σ hs := by
  obtain ⟨fs, ft, r1, r2, nd, hb, h4⟩ := h.merge hm hx hv
  obtain ⟨a, vs, fp1, rfl, k1, rfl, k2⟩ := (ownM_ok ho).mp r1
  obtain ⟨hl, hg⟩ := repOL_get k2
  obtain ⟨u, p, q, r, e1, rfl, e3, e4⟩ := hg j y hj
  have nd0 : a ∉ p ++ q ++ r ++ ft := by
    rw [List.cons_append, List.nodup_cons] at nd
    exact nd.1
  have nd1 : (p ++ q ++ r ++ ft).Nodup := by
    rw [List.cons_append, List.nodup_cons] at nd
    exact nd.2
  have nd2 := nd1
  rw [List.nodup_append] at nd1
  obtain ⟨npqr, nft, dft⟩ := nd1
  rw [List.nodup_append] at npqr
  obtain ⟨npq, nr, dr⟩ := npqr
  rw [List.nodup_append] at npq
  obtain ⟨np, nq, dq⟩ := npq
  have nqf : (q ++ ft).Nodup := by
    rw [List.nodup_append]
    exact ⟨nq, nft, fun x hx y hy => dft x (by simp [hx]) y hy⟩
  have out : ∀ c, c ∈ p ++ r → c ∉ q ++ ft := fun c hc hh => by
    rcases List.mem_append.mp hc with hc | hc <;> rcases List.mem_append.mp hh with hh | hh
    · exact dq c hc c hh rfl
    · exact dft c (by simp [hc]) c hh rfl
    · exact dr c (by simp [hh]) c hc rfl
    · exact dft c (by simp [hc]) c hh rfl
  have aout : a ∉ q ++ ft := fun hh => nd0 (by rcases List.mem_append.mp hh with hh | hh <;> simp [hh])
  refine ⟨a, vs, u, q, ft, rfl, k1, hl, e1, e3, r2, nqf, fun H' y' q' hk hr hn hs' => ?_⟩
  have ht' : ∀ b o, W.H b = some o → ¬ Mut (some o) → H' b = some o := fun b o e nm => hk b o (fun hh => by
    rcases List.mem_append.mp hh with hh | hh
    · have := RepO.mut y e3 b hh; rw [e] at this; exact nm this
    · have := RepO.mut w r2 b hh; rw [e] at this; exact nm this) e
  have evs : vs.set j u = vs := by
    obtain ⟨hlt, e⟩ := List.getElem?_eq_some_iff.mp e1
    rw [← e]; exact List.set_getElem_self hlt
  have e5 := e4 W.F H' y' u q' (Same.refl _) ht' (fun b hb o e => hk b o (out b hb) e) hr
  rw [evs] at e5
  refine h4 H' (.lst (xs.set j y')) (a :: (p ++ q' ++ r)) (fun b o hb e => hk b o (fun hh => hb ?_) e) ((ownM_ok ho).mpr ⟨a, vs, p ++ q' ++ r, rfl, hk a _ aout k1, rfl, e5⟩) ?_ fun b hb => .inl ?_
  · rcases List.mem_append.mp hh with hh | hh <;> simp [hh]
  · rw [List.nodup_cons]
    refine ⟨fun hh => ?_, ?_⟩
    · rcases List.mem_append.mp hh with hh | hh
      · rcases List.mem_append.mp hh with hh | hh
        · exact nd0 (by simp [hh])
        · exact aout (hs' _ hh)
      · exact nd0 (by simp [hh])
    · rw [List.nodup_append, List.nodup_append]
      refine ⟨⟨np, hn, fun x hx y hy z => ?_⟩, nr, fun x hx y hy z => ?_⟩
      · subst z; exact out x (by simp [hx]) (hs' x hy)
      · subst z
        rcases List.mem_append.mp hx with hx | hx
        · exact dr x (by simp [hx]) x hy rfl
        · exact out x (by simp [hy]) (hs' x hx)
  · rcases List.mem_cons.mp hb with rfl | hb
    · simp
    · rcases List.mem_append.mp hb with hb | hb
      · rcases List.mem_append.mp hb with hb | hb
        · simp [hb]
        · have := hs' b hb
          rcases List.mem_append.mp this with this | this <;> simp [this]
      · simp [hb]
end
end TL
end
section
set_option Elab.async false
set_option linter.all false
set_option autoImplicit false
set_option maxRecDepth 100000
set_option maxHeartbeats 4000000
/-! S25: rules for changes inside a slot's list; emptying -/
namespace TL
open PySem PySem.Spec L2
section
variable {Γ : Gm} {E : XK} {ms : List Md} {rr : RC}
theorem PstS.bindG {α : Type} {W : Wd} {τ : Tau} {σ : St} {hs : List Slot} {D : Ends} {p : Bool} {m : M α} {f : α → M Ctl} {ok1 : Wd → α → Tau → Prop} (h : PstS Γ E ms rr W σ hs D ((m >>= f) τ))
    (hok : ∀ W1 a τ1, Go p W W1 τ τ1 → PstS Γ E ms rr W1 σ hs D (f a τ1) → ok1 W1 a τ1) : Pst Γ E ms W σ hs p τ ok1 (m τ) := by
  have e : (m >>= f) τ = (m τ).next f := rfl
  rw [e] at h
  cases hm : m τ with
  | stuck => rw [hm] at h; exact h
  | exc x τ1 => rw [hm] at h; exact fun W' cls d g hF hx => h W' σ cls d (.of g.1) hF hx
  | ok a τ1 => rw [hm] at h; exact fun W1 g => hok W1 a τ1 g (h.le (.of g.1))
theorem ofM_ok {α : Type} {o : Option α} {τ : Tau} {f : α → M Ctl} {W : Wd} {σ : St} {hs : List Slot} {D : Ends} (h : PstS Γ E ms rr W σ hs D ((M.of o >>= f) τ)) : ∃ x, o = some x ∧ PstS Γ E ms rr W σ hs D (f x τ) := by
  cases o with
  | none => exact (show False from h).elim
  | some x => exact ⟨x, rfl, h⟩
theorem getP_ok {α : Type} {i : Nat} {τ : Tau} {f : T → M α} {W : Wd} {σ : St} {hs : List Slot} {p : Bool} {ok : Wd → α → Tau → Prop} (h : Pst Γ E ms W σ hs p τ ok ((get i >>= f) τ)) : ∃ x, τ[i]? = some (some x) ∧ Pst Γ E ms W σ hs p τ ok (f x τ) := by
  have h0 : Pst Γ E ms W σ hs p τ ok ((get i τ).next f) := h
  unfold get at h0
  cases ht : τ[i]? with
  | none => rw [ht] at h0; exact h0.elim
  | some o =>
    cases o with
    | none => rw [ht] at h0; exact h0.elim
    | some t => rw [ht] at h0; exact ⟨t, rfl, h0⟩
theorem ofP_ok {α β : Type} {o : Option β} {τ : Tau} {f : β → M α} {W : Wd} {σ : St} {hs : List Slot} {p : Bool} {ok : Wd → α → Tau → Prop} (h : Pst Γ E ms W σ hs p τ ok ((M.of o >>= f) τ)) : ∃ x, o = some x ∧ Pst Γ E ms W σ hs p τ ok (f x τ) := by
  cases o with
  | none => exact (show False from h).elim
  | some x => exact ⟨x, rfl, h⟩
theorem at2_some {x j y : T} (h : at2 x j = some y) : ∃ xs jj k, x = .lst xs ∧ j = .int jj ∧ pyIx xs.length jj = some k ∧ xs[k]? = some y := by
  cases x with
  | lst xs =>
    cases j with
    | int jj =>
      have h1 : pyAt xs jj = some y := h
      unfold pyAt at h1
      cases e : pyIx xs.length jj with
      | none => rw [e] at h1; cases h1
      | some k => rw [e] at h1; exact ⟨xs, jj, k, rfl, rfl, e, h1⟩
    | _ => cases h
  | _ => cases h
theorem put2_of {xs : List T} {jj : Int} {k : Nat} (h : pyIx xs.length jj = some k) (z : T) : put2 (.lst xs) (.int jj) z = some (.lst (xs.set k z)) := by
  show (pyIx xs.length jj).map _ = _
  rw [h]; rfl
theorem atI_of {vs : List V} {jj : Int} {k n : Nat} {u : V} (h : pyIx n jj = some k) (hl : n = vs.length) (e : vs[k]? = some u) : atI vs jj = some u := by
  show (pyIx vs.length jj).bind _ = _
  rw [← hl, h]; exact e
theorem sim_set2 {n i : Nat} {m : Md} {p : Bool} {te tj tk : TE} {e ej ek : M T} {rj rk : RC} (hm : ms[i]? = some m) (ho : OwnM (n + 2) m) (he : SimE Γ E ms p te e (.own n)) (hj : SimE Γ E ms true tj ej rj) (hk : SimE Γ E ms true tk ek rk) :
    SimS Γ E ms rr (tAsg te (gSub (tOp (rIxU Γ) (tVar i) tj) tk (rSetU Γ))) (sSet2 i e ej ek) := by
  intro W τ σ hs D hF hp
  refine he W τ σ hs _ hF (PstS.bind hp fun W1 w τ1 l1 hp1 vw hw => ?_)
  have hw' : FrS Γ W1 ms τ1 σ (hs ++ [(.own n, some w, some vw)]) := hw
  obtain ⟨x0, hx0, hp1⟩ := getM_ok hp1
  obtain ⟨vi, _, hv, _⟩ := hw'.slot hm hx0
  refine ⟨vi, hv, hj W1 τ1 σ _ _ hw' (Pst.hs (hs := hs) (fun _ _ h => h.drop) (PstS.bindG hp1 fun W2 j τ2 g2 hp2 vj hvj => ?_))⟩
  obtain ⟨_, e2⟩ := g2.2 rfl
  subst e2
  obtain ⟨x, hx, hp2⟩ := getM_ok hp2
  obtain ⟨y, hat, hp2⟩ := ofM_ok hp2
  obtain ⟨xs, jj, k, rfl, rfl, hix, hy⟩ := at2_some hat
  have hF2 : FrS Γ W2 ms τ2 σ (hs ++ [(.own n, some w, some vw)]) := hvj.fr
  obtain ⟨a, vs, u, q, ft, rfl, k1, hl, hu, r1, r2, nd, ch⟩ := hF2.path hm ho hx hv hy
  cases hvj.now
  refine .inl (.inl ⟨a, vs, jj, u, rfl, rfl, .inl (.inl k1), atI_of hix hl hu, ?_⟩)
  refine hk W2 τ2 σ _ _ hF2 (Pst.hs (hs := hs) (fun _ _ h => h.drop) (PstS.bindG hp2 fun W3 kk τ3 g3 hp3 vk hvk => ?_))
  obtain ⟨sH, e3⟩ := g3.2 rfl
  subst e3
  have hF3 : FrS Γ W3 ms τ3 σ (hs ++ [(.own n, some w, some vw)]) := hvk.fr
  obtain ⟨a', vs', u', q', ft', e', k1', hl', hu', r1', r2', nd', ch'⟩ := hF3.path hm ho hx hv hy
  cases e'
  have hvs := sH _ _ k1
  rw [k1'] at hvs
  cases hvs
  rw [hu] at hu'
  cases hu'
  obtain ⟨z, hz, hp3⟩ := ofM_ok hp3
  obtain ⟨x', hx', hp3⟩ := ofM_ok hp3
  rw [put2_of hix] at hx'
  cases hx'
  have hp5 : PstS Γ E ms rr W3 σ hs D (.ok .nx (τ3.set i (some (.lst (xs.set k z))))) := hp3
  cases y with
  | lst ys =>
    have hz1 : (setL ys kk w).map T.lst = some z := hz
    cases hzs : setL ys kk w with
    | none => rw [hzs] at hz1; cases hz1
    | some zs =>
      rw [hzs] at hz1; cases hz1
      exact .inl (setL_in r1' r2' nd' hvk.now hzs fun H' q'' c1 c2 c3 c4 => hp5 _ σ ⟨grow_le, fun _ _ _ => rfl⟩ (ch' H' _ q'' c1 c2 c3 c4))
  | _ => cases hz
theorem sim_app2 {n i : Nat} {m : Md} {te tj : TE} {e ej : M T} {rj : RC} (hm : ms[i]? = some m) (ho : OwnM (n + 2) m) (hj : SimE Γ E ms true tj ej rj) (he : SimE Γ E ms true te e (.own n)) :
    SimE Γ E ms false (tBM Γ.K "list" rAppend (tOp (rIxU Γ) (tVar i) tj) (tCons te tNil)) (sApp2 i ej e) .fz := by
  intro W τ σ hs Q hF hp
  obtain ⟨x0, hx0, hp1⟩ := getP_ok hp
  obtain ⟨vi, _, hv, _⟩ := hF.slot hm hx0
  refine ⟨vi, hv, hj W τ σ _ _ hF (Pst.bind (p := true) (q := false) hp1 fun W2 j τ2 g2 hp2 vj hvj => ?_)⟩
  obtain ⟨_, e2⟩ := g2.2 rfl
  subst e2
  obtain ⟨x, hx, hp2⟩ := getP_ok hp2
  obtain ⟨y, hat, hp2⟩ := ofP_ok hp2
  obtain ⟨xs, jj, k, rfl, rfl, hix, hy⟩ := at2_some hat
  have hF2 : FrS Γ W2 ms τ2 σ hs := hvj.fr
  have hF2' : FrS Γ W2 ms τ2 σ (hs ++ [(.own 0, some .non, some .non)]) := ⟨by rw [← List.append_assoc]; exact hF2.fr.scal repO_non, hF2.lt, hF2.lv⟩
  obtain ⟨a, vs, u, q, ft, rfl, k1, hl, hu, r1, r2, nd, ch⟩ := hF2'.path hm ho hx hv hy
  cases hvj.now
  refine .inl (.inl ⟨a, vs, jj, u, rfl, rfl, .inl (.inl k1), atI_of hix hl hu, ?_⟩)
  cases y with
  | lst ys =>
    have r1b := r1
    obtain ⟨b, us, fp', rfl, b1, b2, b3⟩ := r1b
    refine ⟨.inl ⟨rfl, us, .inl (.inl b1)⟩, ?_⟩
    have hp3 : Pst Γ E ms W2 σ hs false τ2 (fun W' w τ' => ∀ v, Has Γ W' ms τ' σ hs .fz w v → Q v W'.H) ((e >>= fun w => M.of (appIn (.lst ys) w) >>= fun z => M.of (put2 (.lst xs) (.int jj) z) >>= fun x' => put i x' >>= fun _ => M.pure .non) τ2) := hp2
    refine he W2 τ2 σ hs _ hF2 (Pst.bind (p := true) (q := false) hp3 fun W3 w τ3 g3 hp4 vw hw => ?_)
    obtain ⟨sH, e3⟩ := g3.2 rfl
    subst e3
    have hF3 : FrS Γ W3 ms τ3 σ (hs ++ [(.own n, some w, some vw)]) := hw
    obtain ⟨a', vs', u', q', ft', e', k1', hl', hu', r1', r2', nd', ch'⟩ := hF3.path hm ho hx hv hy
    cases e'
    have hvs := sH _ _ k1
    rw [k1'] at hvs
    cases hvs
    rw [hu] at hu'
    cases hu'
    obtain ⟨z, hz, hp4⟩ := ofP_ok hp4
    obtain ⟨x', hx', hp4⟩ := ofP_ok hp4
    rw [put2_of hix] at hx'
    cases hx'
    have hz1 : (if ys.length < szL then some (T.lst (ys ++ [w])) else none) = some z := hz
    obtain ⟨hlt, rfl⟩ := ite_some hz1
    have hp5 : Pst Γ E ms W3 σ hs false τ3 (fun W' w τ' => ∀ v, Has Γ W' ms τ' σ hs .fz w v → Q v W'.H) (.ok .non (τ3.set i (some (.lst (xs.set k (.lst (ys ++ [w]))))))) := hp4
    exact app_in r1' r2' nd' hlt fun H' q'' c1 c2 c3 c4 => hp5 _ ⟨grow_le, fun z => nomatch z⟩ .non ⟨ch' H' _ q'' c1 c2 c3 c4, rfl⟩
  | _ => exact (show False from hp2).elim
theorem sim_clear2 {n i : Nat} {m : Md} {tj : TE} {ej : M T} {rj : RC} (hm : ms[i]? = some m) (ho : OwnM (n + 2) m) (hj : SimE Γ E ms true tj ej rj) :
    SimE Γ E ms false (tClear Γ (tOp (rIxU Γ) (tVar i) tj)) (sClear2 i ej) .fz := by
  intro W τ σ hs Q hF hp
  obtain ⟨x0, hx0, hp1⟩ := getP_ok hp
  obtain ⟨vi, _, hv, _⟩ := hF.slot hm hx0
  refine ⟨vi, hv, hj W τ σ _ _ hF (Pst.bind (p := true) (q := false) hp1 fun W2 j τ2 g2 hp2 vj hvj => ?_)⟩
  obtain ⟨_, e2⟩ := g2.2 rfl
  subst e2
  obtain ⟨x, hx, hp2⟩ := getP_ok hp2
  obtain ⟨y, hat, hp2⟩ := ofP_ok hp2
  obtain ⟨xs, jj, k, rfl, rfl, hix, hy⟩ := at2_some hat
  have hF2 : FrS Γ W2 ms τ2 σ hs := hvj.fr
  have hF2' : FrS Γ W2 ms τ2 σ (hs ++ [(.own 0, some .non, some .non)]) := ⟨by rw [← List.append_assoc]; exact hF2.fr.scal repO_non, hF2.lt, hF2.lv⟩
  obtain ⟨a, vs, u, q, ft, rfl, k1, hl, hu, r1, r2, nd, ch⟩ := hF2'.path hm ho hx hv hy
  cases hvj.now
  refine .inl (.inl ⟨a, vs, jj, u, rfl, rfl, .inl (.inl k1), atI_of hix hl hu, ?_⟩)
  obtain ⟨z, hz, hp3⟩ := ofP_ok hp2
  obtain ⟨x', hx', hp4⟩ := ofP_ok hp3
  rw [put2_of hix] at hx'
  cases hx'
  have hp5 : Pst Γ E ms W2 σ hs false τ2 (fun W' w τ' => ∀ v, Has Γ W' ms τ' σ hs .fz w v → Q v W'.H) (.ok .non (τ2.set i (some (.lst (xs.set k z))))) := hp4
  exact clear_in r1 (List.nodup_append.mp nd).1 hz fun H' q'' c1 c2 c3 c4 => hp5 _ ⟨grow_le, fun z => nomatch z⟩ .non ⟨ch H' _ q'' (fun c o hc e => c1 c o (fun h => hc (List.mem_append_left _ h)) e) c2 c3 (fun c hc => List.mem_append_left _ (c4 c hc)), rfl⟩
theorem sim_clear {n i : Nat} {m : Md} (hm : ms[i]? = some m) (ho : OwnM (n + 1) m) : SimE Γ E ms false (tClear Γ (tVar i)) (clearM i) .fz := by
  intro W τ σ hs Q hF hp
  obtain ⟨x, hx, hp1⟩ := getP_ok hp
  obtain ⟨vi, _, hv, hg, _⟩ := hF.slot hm hx
  obtain ⟨z, hz, hp2⟩ := ofP_ok hp1
  have hp5 : Pst Γ E ms W σ hs false τ (fun W' w τ' => ∀ v, Has Γ W' ms τ' σ hs .fz w v → Q v W'.H) (.ok .non (τ.set i (some z))) := hp2
  obtain ⟨fp, hsl, nd, hb, ch⟩ := hF.fr.change hg
  have hls := sl_len hF.lt hF.lv
  obtain ⟨hi, _⟩ := List.getElem?_eq_some_iff.mp hm
  refine ⟨vi, hv, clear_in ((ownM_ok ho).mp hsl) nd hz fun H' q'' c1 c2 c3 c4 => hp5 _ ⟨grow_le, fun z => nomatch z⟩ .non ⟨⟨?_, by rw [List.length_set]; exact hF.lt, hF.lv⟩, rfl⟩⟩
  have := ch H' (m, some z, some vi) q'' c1 ((ownM_ok (W := { W with H := H' }) ho).mpr c2) c3 (fun c hc => .inl (c4 c hc))
  rw [List.set_append_left _ _ (by omega), sl_set _ _ hm, set_self hv] at this
  exact this
end
end TL
end
section
set_option Elab.async false
set_option linter.all false
set_option autoImplicit false
set_option maxRecDepth 100000
set_option maxHeartbeats 4000000
/-! U5: dict comprehensions -/
namespace TL
open PySem PySem.Spec L2
section
variable {Γ : Gm} {X : Cx} {pins : List (Addr × Obj)} {σ : St} {H : Hp} {s : Shared} {a : Addr} {es : List Ent} {ep : Nat} {k : NestedKey} {y v : V} {u r : Value} {E : Value → Shared → Prop} {A : Around}
theorem room_9 {P : Program} {w : World} (hu : A.units + 9 < cLine) : (nestedKind P w).room A := by
  show A.units + 8 < cLine
  omega
theorem x_dictSet {Q : Unit → Shared → Prop} (hu : A.units + 9 < cLine) (I : Inv X pins σ H s) (hK : Γ.K = X.K) (hw : Γ.w = X.w) (g : Asks Γ H a es ep k y) (hl : es.length < sizeLine) (ry : L2.RelV y u) (rv : L2.RelV v r) (h : ∀ ep' s', Inv X pins σ (upd H a (DX Γ.w a (putE es k y v) ep')) s' → Q () s') :
    wpAny (model X.prog X.w) A (dictSet a u r) Q E s := by
  obtain ⟨hd, _, _⟩ := dx_of I g.at_
  have mu : Mut (H a) := by rw [g.at_]; exact True.intro
  have hl2 : (putE es k y v).length ≤ sizeLine := by have := putE_len es k y v; omega
  rcases g.two I hK hw with ⟨ks, b, xs, rfl, rfl, is, dd, rel⟩ | ⟨x, vs, rfl, rfl, dd, rel⟩
  · cases (show u = Value.ref b from ry)
    have hz : xs.length ≤ sizeLine := by rw [← Paired.length rel]; omega
    refine wpAny_dictSet_heap (hsz := hz) (room_9 hu) is dd fun h' dd' hs => ?_
    obtain ⟨q, raw, ep', hq, h2, h3, h4, _, _⟩ := dd'
    refine h ep' _ (d_write I mu hs ⟨q, hq⟩ ?_)
    rw [hw]
    refine dx_ok hd hl2 hq h2 h3 ?_
    rw [h4]
    exact relT_raw (relT_put rel rv)
  · obtain ⟨t, rfl⟩ := ry
    have hz : vs.length ≤ sizeLine := by rw [← Paired.length rel]; omega
    refine wpAny_dictSet_pairs (knd := strKind X.prog X.w) (k := x) (hsz := hz) (by show Value.isStrOf x (.str x t) = true; simp [Value.isStrOf]) dd fun h' dd' hs => ?_
    obtain ⟨q, raw, ep', hq, h2, h3, h4, h5, _⟩ := dd'
    refine h ep' _ (d_write I mu hs ⟨q, hq⟩ ?_)
    rw [hw]
    refine dx_ok hd hl2 hq h2 h3 ?_
    exact relS_raw (relS_put rel rv) h5 fun q hq => h4 q (by simpa using hq)
end
section
variable {Γ : Gm} {X : Cx}
def tDcX (Γ : Gm) (wi : TI) (g : TG) (tt : TT) (tk tv : TE) (vs : List Nat) : TE := fun σ H Q => wi σ H fun J H1 => ∀ D ep, H1 D = none → ∃ W : Nat → Nat → Hp → Prop, (∃ m, W 0 m (upd H1 D (DX Γ.w D [] ep))) ∧ ∀ i m H, W i m H →
  (J.stop i H ∧ Q (.ref D) H) ∨ (J.go i H ∧ ∃ Nx : Hp → Prop, (∀ H', Nx H' → ∃ m', m' < m ∧ W (i + 1) m' H') ∧ ∀ x H', J.yld i H x H' → g x (L2.wipe σ vs) H' fun σ2 H2 => L2.wipe σ2 vs = L2.wipe σ vs ∧ tt σ2 H2 fun b H3 =>
    if b = true then tk σ2 H3 fun y H4 => tv σ2 H4 fun z H5 => ∃ es ep k, Asks Γ H5 D es ep k y ∧ es.length < sizeLine ∧ ∀ ep', Nx (upd H5 D (DX Γ.w D (putE es k y z) ep')) else Nx H3)
theorem dcX_core {pins : List (Addr × Obj)} {s : Shared} {σ : St} {H : Hp} {Q : VK} {kx vx tg iter : Expr} {ifs : List Expr} {scope : Scope} {own : List (Str × Nat)} {pos pos' : Pos} {wi : TI} {g : TG} {tt : TT} {tk tv : TE} {use : Option (Value → Sem Unit)} {Qf : Value → Shared → Prop}
    (hu : X.A.units + 9 < cLine) (hK : Γ.K = X.K) (hw : Γ.w = X.w) (hc : X.calm = true) (hN : X.N.Nodup) (I : Inv X pins σ H s) (hi : PI X tg iter wi) (ok : BlkOk X.N X.env.scope scope own)
    (hg : ∀ (s : Shared) (H : Hp) (C : Addr) (cl : List (Str × Addr)) (fp : List Addr), PG (X.blk s H scope (compEnvC scope cl C X.env) fp) tg g) (ht : ∀ (s : Shared) (H : Hp) (C : Addr) (cl : List (Str × Addr)) (fp : List Addr), PTs (X.blk s H scope (compEnvC scope cl C X.env) fp) ifs tt)
    (hk : ∀ (s : Shared) (H : Hp) (C : Addr) (cl : List (Str × Addr)) (fp : List Addr), PE (X.blk s H scope (compEnvC scope cl C X.env) fp) kx tk)
    (he : ∀ (s : Shared) (H : Hp) (C : Addr) (cl : List (Str × Addr)) (fp : List Addr), PE (X.blk s H scope (compEnvC scope cl C X.env) fp) vx tv) (hs : ∀ x, foldedSetIterable iter X.env x = pure x)
    (h : tDcX Γ wi g tt tk tv (own.map (·.2)) σ H Q)
    (hRR : ∀ D C s' m H', Inv X pins σ H' s' → Q (.ref D) H' → s'.heap.Ns C m → FpOk X pins H' C → compPost (model X.prog X.w) X.A X.xe use Qf (.ref D) C (.ok .next) s') :
    wpAny (model X.prog X.w) X.A (comprehension (.DictComp kx vx [⟨tg, iter, ifs, 0⟩] scope pos) scope X.env pos' newDict false (eval iter X.env) use) Qf X.xe s := by
  have hfree : ∀ y ∈ scope.names, y.2 = .free → ∃ c, X.env.cells.lookup y.1 = some c := fun y hy e => by
    rcases ok.free y hy e with k | k
    · exact I.ok.has _ (.inl k)
    · exact I.ok.has _ (.inr k)
  refine wpAny_comprehension_free (use := use) rfl hs (closure_ok hfree) ok.kind (fun y hy e => by rw [ok.uniq y hy, e])
    (thn (hi.run pins s σ H _ I h) fun xv s1 hx => thn hx fun itv s2 h2 => ?_)
  obtain ⟨it, fp, tn, J, H2, e, I2, T, st2, f2, q⟩ := h2
  subst e
  refine wpAny_newObj_type (newEnv_comp ?_)
  generalize hD : s2.heap.objs.size = D
  have hDn : H2 D = none := I2.hok.fresh (Nat.le_of_eq hD)
  obtain ⟨W, ⟨m0, w0⟩, turn⟩ := q D 0 hDn
  -- the new list
  generalize hs3 : ({ s2 with heap := s2.heap.push { cls := .type "dict", data := .dict #[] } } : Shared) = s3
  have I3 : Inv X pins σ (upd H2 D (DX Γ.w D [] 0)) s3 := by
    rw [← hs3]
    refine I2.laid (t' := s2.toks) (fun b o e => Heap.get?_push_of_some _ e) (Nat.le_of_eq hD) ?_
    rw [hw, ← hD]
    exact dx_ok (beq_eq_false_iff_ne.mpr (Nat.ne_of_gt I2.big)) (Nat.zero_le _) (Heap.get?_push_size _ rfl) ⟨rfl, rfl, rfl⟩ rfl .nil
  have h3 : s3.heap = s2.heap.push { cls := .type "dict", data := .dict #[] } := by rw [← hs3]
  have sz : ∀ b ∈ fp, b < s2.heap.objs.size := fun b hb => by
    obtain ⟨o, e, _⟩ := T.obj _ _ st2 b hb
    exact Heap.lt_size e
  have f3 : ∀ b ∈ fp, FpOk X pins (upd H2 D (DX Γ.w D [] 0)) b ∧ b < s3.heap.objs.size := fun b hb => by
    have hlt := sz b hb
    refine ⟨⟨?_, (f2 b hb).2⟩, by rw [h3, Heap.size_push]; exact Nat.lt_succ_of_lt hlt⟩
    rw [upd_ne (by rw [← hD]; exact Nat.ne_of_lt hlt)]
    exact (f2 b hb).1
  have st3 : tn 0 s3.heap := T.keep _ _ _ st2 fun b _ o e => by rw [h3]; exact Heap.get?_push_of_some _ e
  have I4 := block_start I3 ok hN f3
  have pg := hg s3 (upd H2 D (DX Γ.w D [] 0)) s3.heap.objs.size (cellsFrom (s3.heap.objs.size + 1) scope.names (cloFrom X.env.cells scope.names [])) fp
  have pt := ht s3 (upd H2 D (DX Γ.w D [] 0)) s3.heap.objs.size (cellsFrom (s3.heap.objs.size + 1) scope.names (cloFrom X.env.cells scope.names [])) fp
  have pk := hk s3 (upd H2 D (DX Γ.w D [] 0)) s3.heap.objs.size (cellsFrom (s3.heap.objs.size + 1) scope.names (cloFrom X.env.cells scope.names [])) fp
  have pe := he s3 (upd H2 D (DX Γ.w D [] 0)) s3.heap.objs.size (cellsFrom (s3.heap.objs.size + 1) scope.names (cloFrom X.env.cells scope.names [])) fp
  show codeAny _ _ (.compStart (.DictComp kx vx [⟨tg, iter, ifs, 0⟩] scope pos) 0 (.ref it) (.ref D) (compEnvC scope (cellsFrom (s3.heap.objs.size + 1) scope.names (cloFrom X.env.cells scope.names [])) s3.heap.objs.size X.env)) (compPost (model X.prog X.w) X.A X.xe use Qf (.ref D) s3.heap.objs.size) { s3 with heap := pushCells (s3.heap.push { cls := .type "dict", data := .dict #[] }) scope.names }
  have nfp : ∀ b ∈ fp, (upd H2 D (DX Γ.w D [] 0)) b = none := fun b hb => (f3 b hb).1.1
  generalize hce : compEnvC scope (cellsFrom (s3.heap.objs.size + 1) scope.names (cloFrom X.env.cells scope.names [])) s3.heap.objs.size X.env = ce at I4 pg pt pk pe ⊢
  have cL : ce.locals = s3.heap.objs.size := by subst hce; rfl
  generalize hH3 : upd H2 D (DX Γ.w D [] 0) = H3 at I3 I4 pg pt pk pe w0 nfp f3
  generalize hs4 : ({ s3 with heap := pushCells (s3.heap.push { cls := .type "dict", data := .dict #[] }) scope.names } : Shared) = s4 at I4 ⊢
  have st4 : tn 0 s4.heap := T.keep _ _ _ st3 fun b _ o e => by rw [← hs4]; exact pushCells_keeps _ _ _ _ (Heap.get?_push_of_some _ e)
  have stat : ∀ {σ' : St} {H' : Hp} {s' : Shared}, Inv (X.blk s3 H3 scope ce fp) [] σ' H' s' → (∀ b ∈ fp, H' b = none) → ∀ b ∈ fp, FpOk (X.blk s3 H3 scope ce fp) [] H' b := fun {σ' H' s'} I' hn b hb =>
    ⟨hn b hb, (I'.ok.exf b hb).1, I'.ok.exfs b hb, .inl hb, fun x c e => (I'.ok.exf b hb).2 x c e, fun p hp => absurd (show p ∈ ([] : List (Addr × Obj)) ++ [] from hp) (by simp)⟩
  have loop : codeAny (model X.prog X.w) X.A (.compLoop (.DictComp kx vx [⟨tg, iter, ifs, 0⟩] scope pos) 0 (.ref it) (.ref D) ce) (compPost (model X.prog X.w) X.A X.xe use Qf (.ref D) s3.heap.objs.size) s4 := by
    refine compLoop_anyD (fun n s' => ∃ i H', Inv (X.blk s3 H3 scope ce fp) [] (wipe σ (own.map (·.2))) H' s' ∧ tn i s'.heap ∧ (∀ b ∈ fp, H' b = none) ∧ W i n H') ?_ m0 ⟨0, H3, I4, st4, nfp, w0⟩
    rintro n s5 ⟨i, H5, I5, st5, n5, w5⟩
    rcases turn i n H5 w5 with ⟨stop, qq⟩ | ⟨go, Nx, hNx, step⟩
    · have td := T.done (X.blk s3 H3 scope ce fp) rfl rfl rfl hc i [] s5 _ H5 (fun _ _ => False) I5 (stat I5 n5) st5 stop
      refine thnF td fun r s6 ⟨hr, I6⟩ => ?_
      subst hr
      -- back in the def's context
      have I7 : Inv X pins σ H5 s6 := I3.call' (ch := fp) I6.os I6.base I6.hok I6.bare fun b hb => ⟨(f3 b hb).1.2.2.2.1, (f3 b hb).1.2.1, (f3 b hb).1.2.2.2.2.1, (f3 b hb).1.2.2.2.2.2⟩
      have nC : H5 s3.heap.objs.size = none := by
        have z : H5 ce.locals = none := I6.free
        rw [cL] at z
        exact z
      obtain ⟨m, hn, _⟩ := I6.loc
      have hn : s6.heap.Ns ce.locals m := hn
      rw [cL] at hn
      exact hRR D s3.heap.objs.size s6 m H5 I7 qq hn (I3.fpOk (Nat.le_refl _) nC)
    · have ti := T.item (X.blk s3 H3 scope ce fp) rfl rfl rfl hc i [] s5 _ H5 (fun _ _ => False) I5 (stat I5 n5) st5 go
      refine thnF ti fun r s6 ⟨u, hr, h6⟩ => ?_
      subst hr
      refine thnF h6 fun _ s7 ⟨x, H7, I7, r7, y7, st7, n7⟩ => ?_
      have I7' := I7.pinned (stat I7 n7) (T.obj _ _ st7)
      refine thnF (pg.run _ s7 _ H7 x u _ I7' r7 (step x H7 y7)) fun _ s8 ⟨σ8, H8, I8, hw8, q8⟩ => ?_
      refine thnF (pt.run _ s8 σ8 H8 _ I8 q8) fun b s9 ⟨H9, I9, q9⟩ => ?_
      -- the turn's end
      have fin : ∀ {s' : Shared} {H' : Hp}, Inv (X.blk s3 H3 scope ce fp) ([] ++ pinsAt fp s7.heap) σ8 H' s' → Nx H' → ∃ m, m < n ∧ ∃ i H', Inv (X.blk s3 H3 scope ce fp) [] (wipe σ (own.map (·.2))) H' s' ∧ tn i s'.heap ∧ (∀ b ∈ fp, H' b = none) ∧ W i m H' := fun {s' H'} I' nx => by
        obtain ⟨m', hm, w'⟩ := hNx H' nx
        have pin' : ∀ b ∈ fp, ∀ o, s7.heap.get? b = some o → s'.heap.get? b = some o ∧ H' b = none := fun b hb o e =>
          let z := I'.pin (b, o) (List.mem_append_right _ (List.mem_append_right _ (mem_pinsAt hb e)))
          ⟨z.1, z.2.1⟩
        have hl : (wipe σ (own.map (·.2))).length = σ8.length := by rw [← hw8, wipe_length]
        refine ⟨m', hm, i + 1, H', (I'.unpinned (pins := [])).weak hl (fun j v e => ?_), T.keep _ _ _ st7 fun b hb o e => (pin' b hb o e).1, fun b hb => ?_, w'⟩
        · rw [← hw8] at e
          exact (wipe_some e).1
        · obtain ⟨o, e, _⟩ := T.obj _ _ st7 b hb
          exact (pin' b hb o e).2
      cases b with
      | false =>
        simp only [Bool.false_eq_true, if_false] at q9 ⊢
        exact fin I9 q9
      | true =>
        simp only [if_true] at q9 ⊢
        refine thnF (pk.run _ s9 σ8 H9 _ I9 q9) fun z s10 ⟨yk, H10, I10, r10, q10⟩ => ?_
        refine thnF (pe.run _ s10 σ8 H10 _ I10 q10) fun z2 s11 ⟨yv, H11, I11, r11, nx⟩ => ?_
        obtain ⟨es, ep, k, ask, hl, nx⟩ := nx
        exact x_dictSet (X := X.blk s3 H3 scope ce fp) hu I11 hK hw ask hl r10 r11 fun ep' s12 I12 => fin I12 (nx ep')
  exact codeAny_compStart_dict loop (T.self X.A 0 _ _ _ st4 loop)
/-- as a value -/
theorem pe_dcX {kx vx tg iter : Expr} {ifs : List Expr} {scope : Scope} {own : List (Str × Nat)} {pos : Pos} {wi : TI} {g : TG} {tt : TT} {tk tv : TE} (hu : X.A.units + 9 < cLine) (hK : Γ.K = X.K) (hw : Γ.w = X.w) (hc : X.calm = true) (hN : X.N.Nodup) (hi : PI X tg iter wi) (ok : BlkOk X.N X.env.scope scope own)
    (hg : ∀ (s : Shared) (H : Hp) (C : Addr) (cl : List (Str × Addr)) (fp : List Addr), PG (X.blk s H scope (compEnvC scope cl C X.env) fp) tg g) (ht : ∀ (s : Shared) (H : Hp) (C : Addr) (cl : List (Str × Addr)) (fp : List Addr), PTs (X.blk s H scope (compEnvC scope cl C X.env) fp) ifs tt)
    (hk : ∀ (s : Shared) (H : Hp) (C : Addr) (cl : List (Str × Addr)) (fp : List Addr), PE (X.blk s H scope (compEnvC scope cl C X.env) fp) kx tk)
    (he : ∀ (s : Shared) (H : Hp) (C : Addr) (cl : List (Str × Addr)) (fp : List Addr), PE (X.blk s H scope (compEnvC scope cl C X.env) fp) vx tv) (hs : ∀ x, foldedSetIterable iter X.env x = pure x := by intro _; rfl) :
    PE X (.DictComp kx vx [⟨tg, iter, ifs, 0⟩] scope pos) (tDcX Γ wi g tt tk tv (own.map (·.2))) := by
  refine ⟨fun pins s σ H Q I h => ?_⟩
  rw [arm_eval_DictComp]
  refine dcX_core hu hK hw hc hN I hi ok hg ht hk he hs h fun D C s' m H' I' q hn f => ⟨m, hn, fun h'' sb => ?_⟩
  obtain ⟨f0, f1, f2, f3, f4, f5⟩ := f
  exact ⟨.ref D, H', I'.turned (t' := s'.toks) (fun b o hb e => (sb.2 b hb).trans e) f0 f1 f3 f4 f5, rfl, q⟩
end
end TL
end
section
set_option Elab.async false
set_option linter.all false
set_option autoImplicit false
set_option maxRecDepth 100000
set_option maxHeartbeats 4000000
/-! S26: dict comprehensions; small expressions -/
namespace TL
open PySem PySem.Spec L2
section
variable {Γ : Gm} {E : XK} {ms : List Md} {rr : RC}
theorem sim_dcX {p q q' q2 : Bool} {wi : TI} {ei : M (List T)} {g : TG} {bg : T → M Unit} {tt : TT} {et : M Bool} {tk te : TE} {ek ee : M T} {vs : List Nat} {r : RC} (hvs : ∀ v ∈ vs, v < ms.length) (hi : SimI Γ E ms p wi ei r) (hg : SimGv Γ ms vs g bg r) (ht : SimT Γ E0 ms q tt et) (hk : SimE Γ E0 ms q2 tk ek .fz) (he : SimE Γ E0 ms q' te ee .fz) (hne : ∀ x τ, ∀ y τ', bg x τ ≠ .exc y τ')
    (hx1 : ∀ τ, ∀ y τ', et τ ≠ .exc y τ') (hx2 : ∀ τ, ∀ y τ', ee τ ≠ .exc y τ') (hx3 : ∀ τ, ∀ y τ', ek τ ≠ .exc y τ') : SimE Γ E ms false (tDcX Γ wi g tt tk te vs) (sDc vs ei bg et ek ee) (.own 1) := by
  intro W τ σ hs Q hF hp
  have hp0 : Pst Γ E ms W σ hs (p && false) τ (fun W' w τ' => ∀ v, Has Γ W' ms τ' σ hs (.own 1) w v → Q v W'.H) (sDc vs ei bg et ek ee τ) := by rw [Bool.and_false]; exact hp
  refine hi W τ σ hs _ hF (Pst.bind hp0 fun W1 xs τ1 g1 hp1 J hF1 hJ => ?_)
  intro D ep0 hD
  -- the new list
  have lv := hF1.lv
  refine ⟨fun i m H' => ∃ W' τ' ts, W'.H = H' ∧ W1.Le W' ∧ i ≤ xs.length ∧ m = xs.length - i ∧ FrS Γ W' ms τ' σ (hs ++ [(.own 1, some (.dct ts), some (.ref D))]) ∧ Pst Γ E ms W' σ hs false τ' (fun W' w τ' => ∀ v, Has Γ W' ms τ' σ hs (.own 1) w v → Q v W'.H) ((dcM vs bg et ek ee (xs.drop i) ts >>= fun ws => M.pure (.dct ws)) τ'),
    ⟨xs.length, ⟨W1.F, W1.B, upd W1.H D (DX Γ.w D [] ep0)⟩, τ1, [], rfl, grow_le, Nat.zero_le _, rfl, ⟨?_, hF1.lt, hF1.lv⟩, ?_⟩, ?_⟩
  · rw [← List.append_assoc]
    exact hF1.fr.new (H' := upd W1.H D (DX Γ.w D [] ep0)) (upd_sub hD) (fp := [D]) ⟨D, [], ep0, rfl, upd_same, by simp, rfl, rfl⟩ (by simp) fun a ha => by rw [List.mem_singleton.mp ha]; exact hD
  · have hp1' : Pst Γ E ms W1 σ hs false τ1 (fun W' w τ' => ∀ v, Has Γ W' ms τ' σ hs (.own 1) w v → Q v W'.H) ((dcM vs bg et ek ee xs [] >>= fun ws => M.pure (.dct ws)) τ1) := hp1
    cases hr : (dcM vs bg et ek ee xs [] >>= fun ws => (M.pure (T.dct ws) : M T)) τ1 with
    | stuck => rw [hr] at hp1'; exact hp1'.elim
    | exc x τ' => rw [hr] at hp1'; simp only [List.drop_zero]; rw [hr]; exact fun W' cls d g => hp1' W' cls d ⟨grow_le.trans g.1, fun z => nomatch z⟩
    | ok x τ' => rw [hr] at hp1'; simp only [List.drop_zero]; rw [hr]; exact fun W' g => hp1' W' ⟨grow_le.trans g.1, fun z => nomatch z⟩
  · rintro i m H2 ⟨W2, τ2, ts, rfl, l2, hi2, rfl, hF2, hp2⟩
    obtain ⟨hstop, hgo⟩ := hJ W2 _ l2 hF2.fr
    by_cases hlt : i < xs.length
    · right
      obtain ⟨g1', g2⟩ := hgo i xs[i] (List.getElem?_eq_getElem hlt)
      refine ⟨g1', fun H' => ∃ W' τ' ts, W'.H = H' ∧ W1.Le W' ∧ FrS Γ W' ms τ' σ (hs ++ [(.own 1, some (.dct ts), some (.ref D))]) ∧ Pst Γ E ms W' σ hs false τ' (fun W' w τ' => ∀ v, Has Γ W' ms τ' σ hs (.own 1) w v → Q v W'.H) ((dcM vs bg et ek ee (xs.drop (i + 1)) ts >>= fun ws => M.pure (.dct ws)) τ'), ?_, ?_⟩
      · rintro H' ⟨W', τ', ts', rfl, l', hF', hp'⟩
        exact ⟨xs.length - (i + 1), by omega, W', τ', ts', rfl, l', hlt, rfl, hF', hp'⟩
      · intro v H' hy
        obtain ⟨W3, rfl, l3, hF3, hr3⟩ := g2 v H' hy
        have hF3' : FrS Γ W3 ms τ2 σ (hs ++ [(.own 1, some (.dct ts), some (.ref D))]) := ⟨hF3, hF2.lt, hF2.lv⟩
        have hFw := hF3'.wipe vs hvs
        rw [List.drop_eq_getElem_cons hlt] at hp2
        have hp3 : Pst Γ E ms W2 σ hs false τ2 (fun W' w τ' => ∀ v, Has Γ W' ms τ' σ hs (.own 1) w v → Q v W'.H) (((bg xs[i] (wipeT τ2 vs)).next fun _ => et >>= fun b => if b = true then ek >>= fun k => ee >>= fun w => (if askOk ts k = true ∧ ts.length < szL then M.pure () else M.stuck) >>= fun _ => wipeM vs >>= fun _ => dcM vs bg et ek ee (xs.drop (i + 1)) (store ts k w) else wipeM vs >>= fun _ => dcM vs bg et ek ee (xs.drop (i + 1)) ts).next fun ws => M.pure (.dct ws)) := hp2
        cases hbg : bg xs[i] (wipeT τ2 vs) with
        | stuck => rw [hbg] at hp3; exact hp3.elim
        | exc y τ3 => exact (hne _ _ _ _ hbg).elim
        | ok u τ3 =>
          rw [hbg] at hp3
          have hp4 : Pst Γ E ms W2 σ hs false τ2 (fun W' w τ' => ∀ v, Has Γ W' ms τ' σ hs (.own 1) w v → Q v W'.H) (((et τ3).next fun b => if b = true then ek >>= fun k => ee >>= fun w => (if askOk ts k = true ∧ ts.length < szL then M.pure () else M.stuck) >>= fun _ => wipeM vs >>= fun _ => dcM vs bg et ek ee (xs.drop (i + 1)) (store ts k w) else wipeM vs >>= fun _ => dcM vs bg et ek ee (xs.drop (i + 1)) ts).next fun ws => M.pure (.dct ws)) := hp3
          have later : ∀ {W' : Wd} {τ' : Tau} {r : RE T}, W2.Le W' → Pst Γ E ms W2 σ hs false τ2 (fun W' w τ' => ∀ v, Has Γ W' ms τ' σ hs (.own 1) w v → Q v W'.H) r → Pst Γ E ms W' σ hs false τ' (fun W' w τ' => ∀ v, Has Γ W' ms τ' σ hs (.own 1) w v → Q v W'.H) r := by
            intro W' τ' r l h
            cases r with
            | stuck => exact h
            | exc x τ'' => exact fun W'' cls d g => h W'' cls d ⟨l.trans g.1, fun z => nomatch z⟩
            | ok x τ'' => exact fun W'' g => h W'' ⟨l.trans g.1, fun z => nomatch z⟩
          refine hg W3 (wipeT τ2 vs) (L2.wipe σ vs) _ xs[i] v _ τ3 hFw hr3 hbg fun W4 σ4 l4 hw4 hF4 => ?_
          have hw4' : L2.wipe σ4 vs = L2.wipe σ vs := by
            rw [hw4]
            have idem : ∀ us : List Nat, (∀ u ∈ us, u ∈ vs) → L2.wipe (L2.wipe σ vs) us = L2.wipe σ vs := by
              intro us
              induction us with
              | nil => intro _; rfl
              | cons u us ih =>
                intro h
                show (L2.wipe (L2.wipe σ vs) us).set u none = L2.wipe σ vs
                rw [ih fun w hw => h w (List.mem_cons_of_mem _ hw)]
                have : ∀ {ws : List Nat}, u ∈ ws → (L2.wipe σ ws).set u none = L2.wipe σ ws := by
                  intro ws
                  induction ws with
                  | nil => intro h; simp at h
                  | cons w ws ih =>
                    intro h
                    unfold L2.wipe
                    by_cases e : w = u
                    · subst e; rw [List.set_set]
                    · rw [List.set_comm _ _ (fun z => e z), ih (by rcases List.mem_cons.mp h with h | h; exact (e h.symm).elim; exact h)]
                exact this (h u (by simp))
            exact idem vs fun u hu => hu
          refine ⟨hw4', ?_⟩
          refine ht W4 τ3 σ4 _ _ hF4 ?_
          cases het : et τ3 with
          | stuck => rw [het] at hp4; exact hp4.elim
          | exc y τ5 => exact (hx1 _ _ _ het).elim
          | ok b τ5 =>
            rw [het] at hp4
            intro W5 g5 hF5
            cases b with
            | false =>
              refine iteF ⟨W5, wipeT τ5 vs, ts, rfl, ((l2.trans l3).trans l4).trans g5.1, hF5.unwipe hvs hw4' lv, ?_⟩
              exact later ((l3.trans l4).trans g5.1) hp4
            | true =>
              have hp5 : Pst Γ E ms W2 σ hs false τ2 (fun W' w τ' => ∀ v, Has Γ W' ms τ' σ hs (.own 1) w v → Q v W'.H) (((ek τ5).next fun k => ee >>= fun w => (if askOk ts k = true ∧ ts.length < szL then M.pure () else M.stuck) >>= fun _ => wipeM vs >>= fun _ => dcM vs bg et ek ee (xs.drop (i + 1)) (store ts k w)).next fun ws => M.pure (.dct ws)) := hp4
              refine iteT (hk W5 τ5 σ4 _ _ hF5 ?_)
              cases hek : ek τ5 with
              | stuck => rw [hek] at hp5; exact hp5.elim
              | exc y τ6 => exact (hx3 _ _ _ hek).elim
              | ok k τ6 =>
              rw [hek] at hp5
              intro W6 g6 vk hvk
              have hp5b : Pst Γ E ms W2 σ hs false τ2 (fun W' w τ' => ∀ v, Has Γ W' ms τ' σ hs (.own 1) w v → Q v W'.H) (((ee τ6).next fun w => (if askOk ts k = true ∧ ts.length < szL then M.pure () else M.stuck) >>= fun _ => wipeM vs >>= fun _ => dcM vs bg et ek ee (xs.drop (i + 1)) (store ts k w)).next fun ws => M.pure (.dct ws)) := hp5
              refine he W6 τ6 σ4 _ _ hvk.1 ?_
              cases hee : ee τ6 with
              | stuck => rw [hee] at hp5b; exact hp5b.elim
              | exc y τ7 => exact (hx2 _ _ _ hee).elim
              | ok w τ7 =>
              rw [hee] at hp5b
              intro W7 g7 vw hvw
              have rk : Rep Γ W7.F W7.F k vk := Rep.mono g7.1.f k g7.1.f hvk.2
              have hw7 : FrS Γ W7 ms τ7 σ4 (hs ++ [(.own 1, some (.dct ts), some (.ref D))]) := hvw.1
              have hp6 : Pst Γ E ms W2 σ hs false τ2 (fun W' w τ' => ∀ v, Has Γ W' ms τ' σ hs (.own 1) w v → Q v W'.H) ((((if askOk ts k = true ∧ ts.length < szL then M.pure () else M.stuck) >>= fun _ => wipeM vs >>= fun _ => dcM vs bg et ek ee (xs.drop (i + 1)) (store ts k w)) τ7).next fun ws => M.pure (.dct ws)) := hp5b
              by_cases hz : askOk ts k = true ∧ ts.length < szL
              · rw [if_pos hz] at hp6
                have fr7 := hw7.fr
                have fh := fr7.fb.trans fr7.bh
                rw [← List.append_assoc] at fr7
                have fr8 := fr7.perm (List.perm_append_comm (l₂ := [_]))
                obtain ⟨fp, hsl, nd, hb, ch⟩ := fr8.change (i := 0) rfl
                obtain ⟨a', es, ep, e1, k1, k2, rfl, k3⟩ := (show RepO Γ W7.F W7.H 1 (.dct ts) (.ref D) fp from hsl)
                cases e1
                obtain ⟨nk, ask, hkey⟩ := asks_at k1 k2 (RepD.mono (Same.refl _) ts fh k3) (Rep.mono (Same.refl _) k fh rk) hz.1
                refine ⟨es, ep, nk, ask, by rw [← repD_len k3, ← szL_eq]; exact hz.2, fun ep' => ?_⟩
                have f9 := ch (upd W7.H D (DX Γ.w D (putE es nk vk vw) ep')) (.own 1, some (.dct (store ts k w)), some (.ref D)) [D] (fun b o hb e => by rw [upd_ne (by simpa using hb)]; exact e) ⟨D, _, ep', rfl, upd_same, putE_nodup k2, rfl, repD_put k3 hkey rk hvw.2⟩ (by simp) (fun b hb => .inl hb)
                have f10 : FrS Γ { W7 with H := upd W7.H D (DX Γ.w D (putE es nk vk vw) ep') } ms τ7 σ4 (hs ++ [(.own 1, some (.dct (store ts k w)), some (.ref D))]) := ⟨by
                  rw [← List.append_assoc]
                  exact f9.perm (List.perm_append_comm (l₁ := [_])), hw7.lt, hw7.lv⟩
                refine ⟨{ W7 with H := upd W7.H D (DX Γ.w D (putE es nk vk vw) ep') }, wipeT τ7 vs, store ts k w, rfl, (((l2.trans l3).trans l4).trans (g5.1.trans (g6.1.trans g7.1))).trans grow_le, f10.unwipe hvs hw4' lv, ?_⟩
                exact later (((l3.trans l4).trans (g5.1.trans (g6.1.trans g7.1))).trans grow_le) hp6
              · rw [if_neg hz] at hp6; exact hp6.elim
    · left
      have e : i = xs.length := by omega
      subst e
      rw [List.drop_length] at hp2
      have hp3 : Pst Γ E ms W2 σ hs false τ2 (fun W' w τ' => ∀ v, Has Γ W' ms τ' σ hs (.own 1) w v → Q v W'.H) (.ok (.dct ts) τ2) := hp2
      exact ⟨hstop, hp3 W2 Go.refl (.ref D) hF2⟩
theorem sim_dc {p q q' q2 : Bool} {wi : TI} {ei : M (List T)} {g : TG} {bg : T → M Unit} {tt : TT} {et : M Bool} {tk te : TE} {ek ee : M T} {vs : List Nat} {r : RC} (hvs : ∀ v ∈ vs, v < ms.length) (hi : SimI Γ E ms p wi ei r) (hg : SimGv Γ ms vs g bg r) (hne : ∀ x τ, ∀ y τ', bg x τ ≠ .exc y τ') (ht : SimT Γ E0 ms q tt et) (hk : SimE Γ E0 ms q2 tk ek .fz) (he : SimE Γ E0 ms q' te ee .fz) :
    SimE Γ E ms false (tDcX Γ wi g tt tk te vs) (sDc vs ei bg (TL.noE et) (TL.noE ek) (TL.noE ee)) (.own 1) := sim_dcX hvs hi hg ht.noE hk.noE he.noE hne (noE_ne et) (noE_ne ee) (noE_ne ek)
end
end TL
end
section
set_option Elab.async false
set_option linter.all false
set_option autoImplicit false
set_option maxRecDepth 100000
set_option maxHeartbeats 4000000
/-! S27: small expressions -/
namespace TL
open PySem PySem.Spec L2
section
variable {Γ : Gm} {E : XK} {ms : List Md} {rr : RC}
theorem asP_ok {α : Type} {x : T} {τ : Tau} {f : Bool → M α} {W : Wd} {σ : St} {hs : List Slot} {p : Bool} {ok : Wd → α → Tau → Prop} (h : Pst Γ E ms W σ hs p τ ok ((asB x >>= f) τ)) : ∃ b, x = .bl b ∧ Pst Γ E ms W σ hs p τ ok (f b τ) := by
  cases x with
  | bl b => exact ⟨b, rfl, h⟩
  | _ => exact (show False from h).elim
theorem sim_chain {r r' : R2} {f g : T → T → Option T} {p q q' : Bool} {ta tb tc : TE} {ea eb ec : M T} {ra rb rc : RC} (ho : OpS Γ r f) (ho' : OpS Γ r' g) (ha : SimE Γ E ms p ta ea ra) (hb : SimE Γ E ms q tb eb rb) (hc : SimE Γ E ms q' tc ec rc) (hst : Stay ra q) (hst' : Stay rb q') :
    SimE Γ E ms (p && (q && q')) (tChain r r' ta tb tc) (chainM f g ea eb ec) .fz := by
  intro W τ σ hs Q hF hp
  refine ha W τ σ hs _ hF (Pst.bind hp fun W1 x τ1 g1 hp1 vx h1 => ?_)
  refine hb W1 τ1 σ hs _ h1.fr (Pst.bind hp1 fun W2 y τ2 g2 hp2 vy h2 => ?_)
  have h1' := h1.later g2 h2.fr hst
  obtain ⟨z, hz, hp2⟩ := ofP_ok hp2
  obtain ⟨b, rfl, hp2⟩ := asP_ok hp2
  refine ho W2.F W2.H x y (.bl b) vx vy _ h1'.now h2.now hz fun v hv => ⟨b, hv, ?_⟩
  cases b with
  | false => exact iteF (hp2 W2 ⟨.refl _, fun _ => ⟨Same.refl _, rfl⟩⟩ _ ⟨h2.fr, rfl⟩)
  | true =>
    refine iteT (hc W2 τ2 σ hs _ h2.fr (Pst.bind1 hp2 fun W3 u τ3 g3 hp3 vu h3 => ?_))
    have h2' := h2.later g3 h3.fr hst'
    cases hg : g y u with
    | none => rw [hg] at hp3; exact hp3.elim
    | some w =>
      rw [hg] at hp3
      exact ho' W3.F W3.H y u w vy vu Q h2'.now h3.now hg fun v hv => hp3 W3 Go.refl v ⟨h3.fr, hv.rep⟩
theorem sim_andV {p q : Bool} {ta tb : TE} {ea eb : M T} {ra : RC} (ha : SimE Γ E ms p ta ea ra) (hb : SimE Γ E ms q tb eb .fz) : SimE Γ E ms (p && q) (tAndV ta tb) (andM ea eb) .fz := by
  intro W τ σ hs Q hF hp
  refine ha W τ σ hs _ hF (Pst.bind hp fun W1 x τ1 g1 hp1 vx h1 => ?_)
  obtain ⟨b, rfl, hp1⟩ := asP_ok hp1
  refine ⟨b, h1.now, ?_⟩
  cases b with
  | false => exact iteF (hp1 W1 ⟨.refl _, fun _ => ⟨Same.refl _, rfl⟩⟩ _ ⟨h1.fr, rfl⟩)
  | true => exact iteT (hb W1 τ1 σ hs Q h1.fr hp1)
theorem sim_orV {p q : Bool} {ta tb : TE} {ea eb : M T} {ra : RC} (ha : SimE Γ E ms p ta ea ra) (hb : SimE Γ E ms q tb eb .fz) : SimE Γ E ms (p && q) (tOrV ta tb) (orM ea eb) .fz := by
  intro W τ σ hs Q hF hp
  refine ha W τ σ hs _ hF (Pst.bind hp fun W1 x τ1 g1 hp1 vx h1 => ?_)
  obtain ⟨b, rfl, hp1⟩ := asP_ok hp1
  refine ⟨b, h1.now, ?_⟩
  cases b with
  | true => exact iteT (hp1 W1 ⟨.refl _, fun _ => ⟨Same.refl _, rfl⟩⟩ _ ⟨h1.fr, rfl⟩)
  | false => exact iteF (hb W1 τ1 σ hs Q h1.fr hp1)
theorem sim_notV {p : Bool} {ta : TE} {ea : M T} {ra : RC} (ha : SimE Γ E ms p ta ea ra) : SimE Γ E ms p (tNotV ta) (notM ea) .fz := by
  intro W τ σ hs Q hF hp
  refine ha W τ σ hs _ hF (Pst.bind1 hp fun W1 x τ1 g1 hp1 vx h1 => ?_)
  obtain ⟨b, rfl, hp1⟩ := asP_ok hp1
  exact ⟨b, h1.now, hp1 W1 Go.refl _ ⟨h1.fr, rfl⟩⟩
theorem sim_neg {p : Bool} {ta : TE} {ea : M T} {ra : RC} (ha : SimE Γ E ms p ta ea ra) : SimE Γ E ms p (tUn (rU fun i => .int (-i)) ta) (ea >>= fun x => M.of (oNeg x)) .fz := by
  intro W τ σ hs Q hF hp
  refine ha W τ σ hs _ hF (Pst.bind1 hp fun W1 x τ1 g1 hp1 vx h1 => ?_)
  cases x with
  | int i => exact ⟨i, h1.now, hp1 W1 Go.refl _ ⟨h1.fr, rfl⟩⟩
  | _ => exact (show False from hp1).elim
theorem sim_aug {f : Int → Int → Int} {g : T → T → Option T} {i : Nat} {te : TE} {e : M T} {r : RC} (hg : ∀ x y z, g x y = some z → ∃ a b, x = .int a ∧ y = .int b ∧ z = .int (f a b)) (hm : ms[i]? = some (.own 0)) (he : SimE Γ E ms true te e r) : SimS Γ E ms rr (tAug i te (ipI f)) (augM g i e) := by
  intro W τ σ hs D hF hp
  obtain ⟨x, hx, hp1⟩ := getM_ok hp
  obtain ⟨v, fp, hv, _, hsl, _, _⟩ := hF.slot hm hx
  refine ⟨v, hv, he W τ σ hs _ hF (PstS.bindG hp1 fun W1 y τ1 g1 hp2 vy h1 => ?_)⟩
  obtain ⟨z, hz, hp2⟩ := ofM_ok hp2
  obtain ⟨a, b, rfl, rfl, rfl⟩ := hg x y z hz
  have ho : RepO Γ W.F W.H 0 (.int a) v fp := hsl
  rw [RepO_zero] at ho
  refine ⟨a, b, ho.2, h1.now, ?_⟩
  have hp3 : PstS Γ E ms rr W1 σ hs D (.ok .nx (τ1.set i (some (.int (f a b))))) := hp2
  refine hp3 W1 _ ⟨.refl _, fun j n hj => ?_⟩ (FrS.set (r := .fz) ⟨h1.fr, rfl⟩ hm True.intro)
  by_cases e : i = j
  · subst e
    obtain ⟨hj, hk⟩ := hj
    rw [hm] at hj; cases hj
    cases hk
  · rw [List.getElem?_set_ne e]
theorem aug_add : ∀ x y z, oI (fun i j => some (.int (i + j))) x y = some z → ∃ a b, x = .int a ∧ y = .int b ∧ z = .int (a + b) := by
  intro x y z h
  cases x <;> first | (cases h; done) | skip
  cases y <;> first | (cases h; done) | skip
  cases h
  exact ⟨_, _, rfl, rfl, rfl⟩
theorem aug_sub : ∀ x y z, oSub x y = some z → ∃ a b, x = .int a ∧ y = .int b ∧ z = .int (a - b) := by
  intro x y z h
  cases x <;> first | (cases h; done) | skip
  cases y <;> first | (cases h; done) | skip
  cases h
  exact ⟨_, _, rfl, rfl, rfl⟩
/-! ### truth -/
def tTru (K : PySem.W.Frag) (ta : TE) : TT := fun σ H Q => ta σ H fun x H' => ∃ k, TruV K x H' k ∧ Q k H'
theorem sim_tru {p : Bool} {ta : TE} {ea : M T} {r : RC} (ha : SimE Γ E ms p ta ea r) : SimT Γ E ms p (fun σ H Q => ta σ H fun x H' => ∃ k, TruV Γ.K x H' k ∧ Q k H') (ea >>= fun x => M.of (oTru x)) := by
  intro W τ σ hs Q hF hp
  refine ha W τ σ hs _ hF (Pst.bind1 hp fun W1 x τ1 g1 hp1 vx h1 => ?_)
  have hr := h1.now
  cases x with
  | non => cases (show vx = .non from hr); exact ⟨false, rfl, hp1 W1 Go.refl h1.fr⟩
  | bl b => cases (show vx = .bl b from hr); exact ⟨b, rfl, hp1 W1 Go.refl h1.fr⟩
  | int i => cases (show vx = .int i from hr); exact ⟨i != 0, rfl, hp1 W1 Go.refl h1.fr⟩
  | lst xs =>
    obtain ⟨a, vs, rfl, e1, e2⟩ := hr
    refine ⟨!xs.isEmpty, .inl ⟨vs, e1, ?_⟩, hp1 W1 Go.refl h1.fr⟩
    have := (repL_get e2).1
    cases xs <;> cases vs <;> first | rfl | simp at this
  | tup xs =>
    obtain ⟨a, vs, rfl, e1, e2⟩ := hr
    refine ⟨!xs.isEmpty, .inr (.inl ⟨vs, e1, ?_⟩), hp1 W1 Go.refl h1.fr⟩
    have := (repL_get e2).1
    cases xs <;> cases vs <;> first | rfl | simp at this
  | _ => exact (show False from hp1).elim
/-! ### displays with stars -/
def SimAF (Γ : Gm) (E : XK) (ms : List Md) (p : Bool) (t : TA) (e : M (List T)) : Prop := ∀ W τ σ hs Q, FrS Γ W ms τ σ hs → Pst Γ E ms W σ hs p τ (fun W' ws τ' => ∀ vs, FrS Γ W' ms τ' σ hs → RepL Γ W'.F W'.F ws vs → Q vs W'.H) (e τ) → t σ W.H Q
theorem sim_nilF : SimAF Γ E ms true tNil (M.pure []) := fun W τ σ hs Q hF hp => hp W Go.refl [] hF rfl
theorem sim_consF {p q : Bool} {ta : TE} {tr : TA} {e : M T} {f : M (List T)} (h1 : SimE Γ E ms p ta e .fz) (h2 : SimAF Γ E ms q tr f) : SimAF Γ E ms (p && q) (tCons ta tr) (e >>= fun x => f >>= fun xs => M.pure (x :: xs)) := by
  intro W τ σ hs Q hF hp
  refine h1 W τ σ hs _ hF (Pst.bind hp fun W1 x τ1 g1 hp1 vx hx => ?_)
  refine h2 W1 τ1 σ hs _ hx.fr (Pst.bind1 hp1 fun W2 xs τ2 g2 hp2 vs hF2 hv => ?_)
  exact hp2 W2 Go.refl (vx :: vs) hF2 ⟨vx, vs, rfl, Rep.mono g2.1.f x g2.1.f hx.2, hv⟩
theorem oSeq_some {x : T} {xs : List T} (h : oSeq x = some xs) : x = .lst xs ∨ x = .tup xs := by
  cases x <;> cases h
  · exact .inr rfl
  · exact .inl rfl
theorem seq_of {F H : Hp} {x : T} {xs : List T} {v : V} (h : oSeq x = some xs) (hr : Rep Γ F H x v) : ∃ a vs, v = .ref a ∧ (SqT Γ.K H a vs ∨ SqL Γ.K H a vs) ∧ RepL Γ F H xs vs := by
  rcases oSeq_some h with rfl | rfl
  · obtain ⟨a, vs, rfl, h1, h2⟩ := hr; exact ⟨a, vs, rfl, .inr h1, h2⟩
  · obtain ⟨a, vs, rfl, h1, h2⟩ := hr; exact ⟨a, vs, rfl, .inl h1, h2⟩
theorem repL_app {F G : Hp} : ∀ {ts ts' : List T} {vs vs' : List V}, RepL Γ F G ts vs → RepL Γ F G ts' vs' → RepL Γ F G (ts ++ ts') (vs ++ vs')
  | [], _, _, _, h, h' => by rw [show _ = [] from h]; exact h'
  | x :: ts, _, _, _, h, h' => by
    obtain ⟨v, r, rfl, h1, h2⟩ := h
    exact ⟨v, _, rfl, h1, repL_app h2 h'⟩
theorem sim_starI {p q : Bool} {te : TE} {tr : TA} {e : M T} {f : M (List T)} {r : RC} (h1 : SimE Γ E ms p te e r) (h2 : SimAF Γ E ms q tr f) : SimAF Γ E ms (p && q) (StX.tStar Γ.K te tr) (starM e f) := by
  intro W τ σ hs Q hF hp
  refine h1 W τ σ hs _ hF (Pst.bind hp fun W1 x τ1 g1 hp1 vx hx => ?_)
  obtain ⟨xs, hsq, hp1⟩ := ofP_ok hp1
  by_cases hi : imms xs = true
  · have hp2 : Pst Γ E ms W1 σ hs q τ1 (fun W' ws τ' => ∀ vs, FrS Γ W' ms τ' σ hs → RepL Γ W'.F W'.F ws vs → Q vs W'.H) ((f >>= fun ys => M.pure (xs ++ ys)) τ1) := by
      have : (immsC xs >>= fun xs => f >>= fun ys => M.pure (xs ++ ys)) τ1 = (f >>= fun ys => M.pure (xs ++ ys)) τ1 := by
        unfold immsC; rw [if_pos hi]; rfl
      rw [← this]; exact hp1
    obtain ⟨a, vs, rfl, hv, hl⟩ := seq_of hsq hx.now
    refine ⟨a, vs, rfl, hv, ?_⟩
    obtain ⟨lf, ff⟩ := hx.fr.fix
    have hl2 := imms_rep (F' := W1.fix.F) lf.f (fix_t hx.fr.fr) xs hi hl
    have hp3 : Pst Γ E ms W1.fix σ hs q τ1 (fun W' ws τ' => ∀ vs, FrS Γ W' ms τ' σ hs → RepL Γ W'.F W'.F ws vs → Q vs W'.H) ((f >>= fun ys => M.pure (xs ++ ys)) τ1) := by
      cases hr : (f >>= fun ys => (M.pure (xs ++ ys) : M (List T))) τ1 with
      | stuck => rw [hr] at hp2; exact hp2
      | exc y τ2 => rw [hr] at hp2; exact fun W' cls d g => hp2 W' cls d ⟨lf.trans g.1, fun z => g.2 z⟩
      | ok y τ2 => rw [hr] at hp2; exact fun W' g => hp2 W' ⟨lf.trans g.1, fun z => g.2 z⟩
    refine h2 W1.fix τ1 σ hs _ ff (Pst.bind1 hp3 fun W2 ys τ2 g2 hp4 us hF2 hus => ?_)
    exact hp4 W2 Go.refl (vs ++ us) hF2 (repL_app (RepL.mono g2.1.f xs g2.1.f hl2) hus)
  · have : (immsC xs >>= fun xs => f >>= fun ys => M.pure (xs ++ ys)) τ1 = .stuck := by
      unfold immsC; rw [if_neg hi]; rfl
    rw [this] at hp1; exact hp1.elim
theorem sim_starF {p q : Bool} {te : TE} {tr : TA} {e : M T} {f : M (List T)} (h1 : SimE Γ E ms p te e .fz) (h2 : SimAF Γ E ms q tr f) : SimAF Γ E ms (p && q) (StX.tStar Γ.K te tr) (starFM e f) := by
  intro W τ σ hs Q hF hp
  refine h1 W τ σ hs _ hF (Pst.bind hp fun W1 x τ1 g1 hp1 vx hx => ?_)
  obtain ⟨xs, hsq, hp1⟩ := ofP_ok hp1
  obtain ⟨a, vs, rfl, hv, hl⟩ := seq_of hsq hx.2
  have fr := hx.fr.fr
  refine ⟨a, vs, rfl, hv.imp (sqT_sub (fr.fb.trans fr.bh)) (sqL_sub (fr.fb.trans fr.bh)), ?_⟩
  refine h2 W1 τ1 σ hs _ hx.fr (Pst.bind1 hp1 fun W2 ys τ2 g2 hp4 us hF2 hus => ?_)
  exact hp4 W2 Go.refl (vs ++ us) hF2 (repL_app (RepL.mono g2.1.f xs g2.1.f hl) hus)
theorem sim_lstF {p : Bool} {ta : TA} {e : M (List T)} (ha : SimAF Γ E ms p ta e) : SimE Γ E ms p (tLst ta) (e >>= fun ts => M.of (oLst ts)) (.own 1) := by
  intro W τ σ hs Q hF hp
  refine ha W τ σ hs _ hF (Pst.bind1 hp fun W1 ts τ1 g1 hp1 vs hF1 hv => ?_)
  unfold oLst at hp1
  by_cases hl : ts.length ≤ szL
  · rw [if_pos hl] at hp1
    refine ⟨len_le hv hl, fun q hq => ?_⟩
    exact hp1 ⟨W1.F, W1.B, upd W1.H q (.lst vs)⟩ ⟨grow_le, fun _ => ⟨upd_sub hq, rfl⟩⟩ (.ref q) ⟨by rw [← List.append_assoc]; exact hF1.fr.newL hq hv, hF1.lt, hF1.lv⟩
  · rw [if_neg hl] at hp1; exact hp1.elim
theorem sim_tupF {p : Bool} {ta : TA} {e : M (List T)} (ha : SimAF Γ E ms p ta e) : SimE Γ E ms p (tTup ta) (e >>= fun ts => M.of (oTup ts)) .fz := by
  intro W τ σ hs Q hF hp
  refine ha W τ σ hs _ hF (Pst.bind1 hp fun W1 ts τ1 g1 hp1 vs hF1 hv => ?_)
  unfold oTup at hp1
  by_cases hl : ts.length ≤ szL
  · rw [if_pos hl] at hp1
    refine ⟨len_le hv hl, fun q hq => ?_⟩
    obtain ⟨l, fF⟩ := hF1.fr.newF (.tup vs) hq
    exact hp1 _ ⟨l, fun _ => ⟨upd_sub hq, rfl⟩⟩ (.ref q) ⟨⟨fF, hF1.lt, hF1.lv⟩, q, vs, rfl, .inl (.inl upd_same), RepL.mono l.f ts l.f hv⟩
  · rw [if_neg hl] at hp1; exact hp1.elim
end
end TL
end
section
set_option Elab.async false
set_option linter.all false
set_option autoImplicit false
set_option maxRecDepth 100000
set_option maxHeartbeats 4000000
/-! S28: sorted(set(..)) of texts; reversed copies; unpacking -/
namespace TL
open PySem PySem.Spec L2
theorem tLe_str (x y : Str) : tLe (.str x) (.str y) = !decide (y.cps.toList < x.cps.toList) := by
  unfold tLe tLt
  simp only [tok, lexT, itLt, Bool.and_false, Bool.or_false]
theorem sLe_iff (x y : Str) : tLe (.str x) (.str y) = true ↔ x.cps.toList ≤ y.cps.toList := by
  rw [tLe_str]
  simp [List.not_lt]
theorem sLe_trans (x y z : Str) (h1 : tLe (.str x) (.str y) = true) (h2 : tLe (.str y) (.str z) = true) : tLe (.str x) (.str z) = true := by
  rw [sLe_iff] at *
  exact List.le_trans h1 h2
theorem sLe_total (x y : Str) : (tLe (.str x) (.str y) || tLe (.str y) (.str x)) = true := by
  rw [Bool.or_eq_true, sLe_iff, sLe_iff]
  exact List.le_total _ _
theorem sLe_anti (x y : Str) (h1 : tLe (.str x) (.str y) = true) (h2 : tLe (.str y) (.str x) = true) : x = y := by
  rw [sLe_iff] at *
  have := List.le_antisymm h1 h2
  cases x; cases y
  simp only at this
  congr 1
  exact Array.toList_inj.mp this
def sSort (ks : List Str) : List Str := ks.mergeSort fun a b => tLe (.str a) (.str b)
theorem srtT_eq (ks : List Str) : srtT ks = sSort ks := by
  unfold srtT sSort
  have e : (PySem.W.dataLe false dtx : Str → Str → Bool) = fun a b => tLe (.str a) (.str b) := funext fun a => funext fun b => le_eq (k := T.str) a b
  rw [e]
theorem sSort_perm {ks ks' : List Str} (h : ks'.Perm ks) : sSort ks' = sSort ks := by
  have h1 : (sSort ks').Perm (sSort ks) := (List.mergeSort_perm _ _).trans (h.trans (List.mergeSort_perm _ _).symm)
  have p1 : (sSort ks').Pairwise fun a b => tLe (.str a) (.str b) = true := List.pairwise_mergeSort sLe_trans sLe_total ks'
  have p2 : (sSort ks).Pairwise fun a b => tLe (.str a) (.str b) = true := List.pairwise_mergeSort sLe_trans sLe_total ks
  exact List.Perm.eq_of_pairwise (le := fun a b => tLe (.str a) (.str b) = true) (fun a b _ _ h1 h2 => sLe_anti a b h1 h2) p1 p2 h1
theorem sSort_map (ks : List Str) : tSort (ks.map .str) = (sSort ks).map .str := by
  unfold tSort sSort
  rw [List.map_mergeSort (r := fun a b => tLe (T.str a) (.str b)) (s := tLe) (f := T.str) (fun a _ b _ => rfl)]
section
variable {Γ : Gm} {E : XK} {ms : List Md} {rr : RC}
theorem asStrs_of {F G : Hp} : ∀ {xs : List T} {vs : List V} {ks : List Str}, asStrs xs = some ks → RepL Γ F G xs vs → vs = ks.map V.str
  | [], vs, ks, h, r => by cases h; exact r
  | .str x :: xs, vs, ks, h, r => by
    obtain ⟨v, u, rfl, h1, h2⟩ := r
    have h' : (asStrs xs).map (x :: ·) = some ks := h
    cases e : asStrs xs with
    | none => rw [e] at h'; cases h'
    | some l => rw [e] at h'; cases h'; rw [asStrs_of e h2, show v = .str x from h1]; rfl
  | .non :: _, _, _, h, _ => by cases h
  | .bl _ :: _, _, _, h, _ => by cases h
  | .int _ :: _, _, _, h, _ => by cases h
  | .tup _ :: _, _, _, h, _ => by cases h
  | .lst _ :: _, _, _, h, _ => by cases h
  | .dct _ :: _, _, _, h, _ => by cases h
  | .set _ :: _, _, _, h, _ => by cases h
  | .ins _ _ :: _, _, _, h, _ => by cases h
theorem repL_strs {F G : Hp} : ∀ ks : List Str, RepL Γ F G (ks.map .str) (ks.map V.str)
  | [] => rfl
  | k :: ks => ⟨.str k, _, rfl, rfl, repL_strs ks⟩
theorem addS_eq : addS = more := rfl
theorem sim_sortset {p : Bool} {te : TE} {e : M T} {r : RC} (h : SimE Γ E ms p te e r) : SimE Γ E ms p (tCB (rSortX Γ.w) (tCons (tCB (rSetX Γ.K Γ.w) (tCons te tNil)) tNil)) (e >>= fun x => M.of (fSortSet x)) (.own 1) := by
  intro W τ σ hs Q hF hp
  refine h W τ σ hs _ hF (Pst.bind1 hp fun W1 x τ1 g1 hp1 vx h1 => ?_)
  cases x with
  | lst xs =>
    have hp2 : Pst Γ E ms W1 σ hs true τ1 (fun W' w τ' => ∀ v, Has Γ W' ms τ' σ hs (.own 1) w v → Q v W'.H) (M.of ((asStrs xs).bind fun ks => if ks.length ≤ 1000 then some (.lst (tSort ((ks.foldl addS []).map .str))) else none) τ1) := hp1
    cases ek : asStrs xs with
    | none => rw [ek] at hp2; exact hp2.elim
    | some ks =>
      rw [ek] at hp2
      have hp3 : Pst Γ E ms W1 σ hs true τ1 (fun W' w τ' => ∀ v, Has Γ W' ms τ' σ hs (.own 1) w v → Q v W'.H) (M.of (if ks.length ≤ 1000 then some (T.lst (tSort ((ks.foldl addS []).map .str))) else none) τ1) := hp2
      by_cases hl : ks.length ≤ 1000
      · rw [if_pos hl, sSort_map] at hp3
        obtain ⟨a, vs, rfl, e1, e2⟩ := h1.now
        refine ⟨a, ks, rfl, by rw [← asStrs_of ek e2]; exact e1, hl, fun q hq => ?_⟩
        refine ⟨q, _, rfl, upd_same, fun q2 ks' pm hq2 => ?_⟩
        rw [srtT_eq, sSort_perm pm]
        obtain ⟨l, fB⟩ := h1.fr.fr.newB (SetXO Γ.w q (ks.foldl more [])) hq
        have sub1 : Same W1.H (upd W1.H q (SetXO Γ.w q (ks.foldl more []))) := upd_sub hq
        have fn := fB.newL (W := ⟨W1.F, upd W1.B q (SetXO Γ.w q (ks.foldl more [])), upd W1.H q (SetXO Γ.w q (ks.foldl more []))⟩) hq2 (repL_strs (sSort (ks.foldl more [])))
        exact hp3 _ ⟨l.trans grow_le, fun _ => ⟨sub1.trans (upd_sub hq2), rfl⟩⟩ (.ref q2) ⟨by rw [← List.append_assoc]; exact fn, h1.fr.lt, h1.fr.lv⟩
      · rw [if_neg hl] at hp3; exact hp3.elim
  | _ => exact (show False from hp1).elim
theorem sim_rev {p : Bool} {te : TE} {e : M T} {r : RC} (h : SimE Γ E ms p te e r) : SimE Γ E ms p (tRevL Γ.K te) (e >>= fun x => newC (oRev x)) (.own 1) := by
  intro W τ σ hs Q hF hp
  refine h W τ σ hs _ hF (Pst.bind1 hp fun W1 x τ1 g1 hp1 vx h1 => ?_)
  cases x with
  | lst xs =>
    by_cases hi : imms xs.reverse = true
    · have hp2 : Pst Γ E ms W1 σ hs true τ1 (fun W' w τ' => ∀ v, Has Γ W' ms τ' σ hs (.own 1) w v → Q v W'.H) (.ok (.lst xs.reverse) τ1) := by
        have : newC (oRev (.lst xs)) τ1 = .ok (.lst xs.reverse) τ1 := by
          show ((immsC xs.reverse) τ1).next _ = _
          unfold immsC; rw [if_pos hi]; rfl
        rw [← this]; exact hp1
      obtain ⟨a, vs, rfl, e1, e2⟩ := h1.now
      refine ⟨a, vs, rfl, e1, fun q hq => ?_⟩
      obtain ⟨lf, ff⟩ := h1.fr.fix
      have e3 : RepL Γ W1.F W1.H xs.reverse vs.reverse := by
        have rev : ∀ {F G : Hp} {ts : List T} {us : List V}, RepL Γ F G ts us → RepL Γ F G ts.reverse us.reverse := by
          intro F G ts
          induction ts with
          | nil => intro us h; rw [show us = [] from h]; rfl
          | cons t ts ih =>
            intro us h
            obtain ⟨v, r, rfl, h1, h2⟩ := h
            rw [List.reverse_cons, List.reverse_cons]
            exact repL_app (ih h2) ⟨v, [], rfl, h1, rfl⟩
        exact rev e2
      have hl2 := imms_rep (F' := W1.fix.F) lf.f (fix_t h1.fr.fr) xs.reverse hi e3
      have fn := ff.fr.newL (W := W1.fix) hq hl2
      exact hp2 _ ⟨lf.trans grow_le, fun _ => ⟨upd_sub hq, rfl⟩⟩ (.ref q) ⟨by rw [← List.append_assoc]; exact fn, h1.fr.lt, h1.fr.lv⟩
    · have : newC (oRev (.lst xs)) τ1 = .stuck := by
        show ((immsC xs.reverse) τ1).next _ = _
        unfold immsC; rw [if_neg hi]; rfl
      rw [this] at hp1; exact hp1.elim
  | _ => exact (show False from hp1).elim
/-- a, b = e -/
theorem sim_asgT {p : Bool} {te : TE} {e : M T} {r : RC} {g : TG} {bg : T → M Unit} (h : SimE Γ E ms p te e r) (hr : Firm r) (hg : SimG Γ ms g bg r) (hne : ∀ x τ, ∀ y τ', bg x τ ≠ .exc y τ') : SimS Γ E ms rr (tAsg te g) (e >>= fun w => bg w >>= fun _ => M.pure .nx) := by
  intro W τ σ hs D hF hp
  refine h W τ σ hs _ hF (PstS.bind hp fun W1 w τ1 l1 hp1 vw hw => ?_)
  have hp2 : PstS Γ E ms rr W1 σ hs D ((bg w τ1).next fun _ => M.pure .nx) := hp1
  cases hb : bg w τ1 with
  | stuck => rw [hb] at hp2; exact hp2.elim
  | exc y τ2 => exact (hne _ _ _ _ hb).elim
  | ok u τ2 =>
    rw [hb] at hp2
    exact hg W1 τ1 σ hs w vw _ τ2 hw.fr (hw.firm hr) hb fun W' σ' nx hF' => hp2 W' σ' nx hF'
end
end TL
end
section
set_option Elab.async false
set_option linter.all false
set_option autoImplicit false
set_option maxRecDepth 100000
set_option maxHeartbeats 4000000
/-! S29: heads of defs by their steps -/
namespace TL
open PySem PySem.Spec L2
theorem uu9 {k : Nat} {A : Around} (r : Room k A) : A.units + 9 < cLine := by have := r.un; omega
section
variable {P : Program} {w : World} {K : PySem.W.Frag} {mg : Str → Option Value} {base : Heap} {k : Nat} {nm qual : Str} {st : Stmt} {f : Addr} {fd : FuncData} {N ps : List Str} {Γ : Gm} {pms : List Md} {rr : RC} {m : List T → RE T}
theorem fmT (F : L2.Fun K nm qual st f fd) (S : FnScope N ps (defScope st)) (hl : ps.length = pms.length)
    (hb : ∀ (cdv : Value) (A : Around) (outer : List Env) (s : Shared) (H : Hp) (Q : VK) (E : XK) (vs : List V), Room k (A.deeper (PyProof.Rows.envOfC qual (defScope st) s.heap.objs.size f cdv)) → spT Γ pms rr m vs H Q E →
      ∃ t, PSs (cxOf CX0 P w K mg base N qual (defScope st) f cdv A outer s H E).nox (defBody st) t ∧ t { nx := fun _ H' => Q .non H', rt := Q } (L2.start N vs) H) : FnOk P w K mg base CX0 (k + 1) f fd ps (spT Γ pms rr m) := by
  refine F.ok S ?_ ?_
  · rintro vs H Q E ⟨_, _, _, h, _⟩; rw [h, hl]
  · intro cdv A outer s H vs Q E hr h; exact hb cdv A outer s H Q E vs hr h
theorem calT (F : L2.Fun K nm nm st f fd) (g : mg nm = some (.ref f)) (S : FnScope N ps (defScope st)) (bd : Binds K fd ps []) (hl : ps.length = pms.length)
    (hb : ∀ (cdv : Value) (A : Around) (outer : List Env) (s : Shared) (H : Hp) (Q : VK) (E : XK) (vs : List V), Room k (A.deeper (PyProof.Rows.envOfC nm (defScope st) s.heap.objs.size f cdv)) → spT Γ pms rr m vs H Q E →
      ∃ t, PSs (cxOf CX0 P w K mg base N nm (defScope st) f cdv A outer s H E).nox (defBody st) t ∧ t { nx := fun _ H' => Q .non H', rt := Q } (L2.start N vs) H) : C8.Cal P w K mg base (k + 1) nm (spT Γ pms rr m) [] :=
  ⟨f, fd, ps, [], fmT F S hl hb, g, F.kp, bd, .nil⟩
/-- nothing is promised -/
theorem spT_stuck {vs : List V} {H : Hp} {Q : VK} {E : XK} (hm : ∀ ts, m ts = .stuck) : ¬ spT Γ pms rr m vs H Q E := by
  rintro ⟨W, ts, _, _, _, h⟩
  rw [hm] at h
  exact h
theorem hlen_of {s : M Ctl} {np N : Nat} : ∀ ts w τ', noX (runF s np N) ts = .ok w τ' → τ'.length = np := fun _ _ _ h => runF_ok h
theorem hlen_ex {s : M Ctl} {np N : Nat} : ∀ ts x τ', noX (runF s np N) ts = .exc x τ' → τ'.length = np := fun _ _ _ h => runF_exc h
theorem noNow_of {cs : List RC} (h : cs.all (fun c => decide (c ≠ .now)) = true) : NoNow cs := fun c hc => by
  have := List.all_eq_true.mp h c hc
  simpa using this
theorem kit_bool : KitOk "bool" := by unfold KitOk; decide +kernel
theorem kit_int : KitOk "int" := by unfold KitOk; decide +kernel
theorem kit_str : KitOk "str" := by unfold KitOk; decide +kernel
theorem kit_list : KitOk "list" := by unfold KitOk; decide +kernel
theorem kit_tuple : KitOk "tuple" := by unfold KitOk; decide +kernel
theorem kit_dict : KitOk "dict" := by unfold KitOk; decide +kernel
theorem sim_whileN {E : XK} {ms : List Md} {p : Bool} {c : TT} {e : M Bool} {tb : TS} {b : M Ctl} {N : Nat} (h : SimT Γ E ms p c e) (hb : SimS Γ E ms rr tb b) : SimS Γ E ms rr (tWhile c tb) (sWhile e b N) := sim_while h hb N
theorem sim_callL {E : XK} {ms : List Md} {p1 p2 : List Md} {c1 c2 : List RC} {n i : Nat} {pms : List Md} {cs : List RC} {mi : Md} {p : Bool} {ta : TA} {e : M (List T)} (ha : SimA Γ E ms p ta e cs) (ep : pms = p1 ++ .lent n :: p2) (ec : cs = c1 ++ .slot i :: c2)
    (hi : ms[i]? = some mi) (hal : Alike mi (.lent n)) (hc1 : TL.Args c1 p1) (hc2 : TL.Args c2 p2) (hn : NoNow (c1 ++ c2)) (hlen : ∀ ts w τ', m ts = .ok w τ' → τ'.length = pms.length) (hlen' : ∀ ts x τ', m ts = .exc x τ' → τ'.length = pms.length) (hr : Back rr) :
    SimE Γ E ms false (tCall (spT Γ pms rr m) [] E ta) (callL m i p1.length e) rr := sim_call1 p1 p2 c1 c2 n i ha ep ec hi hal hc1 hc2 hn hlen hlen' hr
theorem sim_lst_now {E : XK} {ms : List Md} {p : Bool} {ta : TA} {e : M (List T)} {cs : List RC} (ha : SimA Γ E ms p ta e cs) (hc : NoSlot cs) : SimE Γ E ms p (tLst ta) (e >>= fun ts => M.of (oLst ts)) .now := by
  intro W τ σ hs Q hF hp
  refine ha W τ σ hs _ hF (Pst.bind1 hp fun W1 ts τ1 g1 hp1 vs hF1 hv => ?_)
  unfold oLst at hp1
  by_cases hl : ts.length ≤ szL
  · rw [if_pos hl] at hp1
    have hr := HasA.now hF1.fr hc.all hv
    refine ⟨len_le hr hl, fun q hq => ?_⟩
    have sub : Same W1.H (upd W1.H q (.lst vs)) := upd_sub hq
    exact hp1 ⟨W1.F, W1.B, upd W1.H q (.lst vs)⟩ ⟨grow_le, fun _ => ⟨sub, rfl⟩⟩ (.ref q) ⟨⟨hF1.fr.grow sub, hF1.lt, hF1.lv⟩, q, vs, rfl, .inl (.inl upd_same), RepL.mono (Same.refl _) ts sub hr⟩
  · rw [if_neg hl] at hp1; exact hp1.elim
theorem sim_retN {E : XK} {ms : List Md} (hr : rr = .fz := by rfl) : SimS Γ E ms rr tRetN (sRet (con .non)) := by
  subst hr
  exact fun W τ σ hs D hF hp => hp W σ .non .refl ⟨hF, rfl⟩
/-- a list of whole numbers is handed to the law -/
theorem ints_rep {F H : Hp} : ∀ ns : List Int, RepL Γ F H (ns.map .int) (ns.map V.int)
  | [] => rfl
  | n :: ns => ⟨.int n, _, rfl, rfl, ints_rep ns⟩
theorem law_sp {a : Addr} {ns : List Int} {H : Hp} {Q : VK} {E : XK} {τ : Tau} (hΓ : Γ.K = K) (hS : SqL K H a (ns.map V.int)) (hm : m [.lst (ns.map .int)] = .ok (.bl true) τ) (hQ : ∀ H', Q (.bl true) H') (hrr : rr = .fz) : spT Γ [.sh] rr m [.ref a] H Q E := by
  subst hΓ hrr
  have f0 : Fr Γ ⟨hp0, H, H⟩ [] := ⟨hp0_sub, Same.refl _, [], .nil, by simp, fun a h => by simp at h⟩
  have f1 : Fr Γ ⟨hp0, H, H⟩ ([] ++ [(.sh, some (.lst (ns.map .int)), some (.ref a))]) := f0.share ⟨a, _, rfl, hS, ints_rep ns⟩
  refine ⟨⟨hp0, H, H⟩, [.lst (ns.map .int)], rfl, rfl, ⟨by simpa [sl] using f1, rfl, rfl⟩, ?_⟩
  rw [hm]
  intro W' v _ hh
  cases (show v = .bl true from hh.2)
  exact hQ _
end
end TL
end
section
set_option Elab.async false
set_option linter.all false
set_option autoImplicit false
set_option maxRecDepth 100000
set_option maxHeartbeats 4000000
/-! S30: list comprehensions over a slot's own list -/
namespace TL
open PySem PySem.Spec L2
section
variable {Γ : Gm} {E : XK} {ms : List Md} {rr : RC}
theorem asL_ok {α : Type} {x : T} {τ : Tau} {f : List T → M α} {W : Wd} {σ : St} {hs : List Slot} {p : Bool} {ok : Wd → α → Tau → Prop} (h : Pst Γ E ms W σ hs p τ ok ((asL x >>= f) τ)) : ∃ xs, x = .lst xs ∧ Pst Γ E ms W σ hs p τ ok (f xs τ) := by
  cases x with
  | lst xs => exact ⟨xs, rfl, h⟩
  | _ => exact (show False from h).elim
theorem bind_assoc {α β γ : Type} (a : M α) (f : α → M β) (g : β → M γ) : (a >>= f) >>= g = a >>= fun x => f x >>= g := by
  funext τ
  show ((a τ).next f).next g = (a τ).next fun x => f x >>= g
  cases a τ <;> rfl
theorem sim_lcOX {n n0 i : Nat} {m0 : Md} {q q' : Bool} {g : TG} {bg : T → M Unit} {tt : TT} {et : M Bool} {te : TE} {ee : M T} {vs : List Nat} (hm : ms[i]? = some m0) (ho : OwnM (n0 + 1) m0) (hvs : ∀ v ∈ vs, v < ms.length) (hg : SimGv Γ ms vs g bg .fz) (ht : SimT Γ E0 ms q tt et) (he : SimE Γ E0 ms q' te ee (.own n)) (hne : ∀ x τ, ∀ y τ', bg x τ ≠ .exc y τ')
    (hx1 : ∀ τ, ∀ y τ', et τ ≠ .exc y τ') (hx2 : ∀ τ, ∀ y τ', ee τ ≠ .exc y τ') : SimE Γ E ms false (tLc (iU Γ (tVar i)) g tt te vs) (sLcO vs i bg et ee) (.own (n + 1)) := by
  intro W1 τ1 σ hs Q hF1 hp
  obtain ⟨x0, hx0, hp⟩ := getP_ok hp
  obtain ⟨xs0, rfl, hp1⟩ := asL_ok hp
  obtain ⟨vi, fp0, hv, _, hsl0, _, _⟩ := hF1.slot hm hx0
  obtain ⟨a, vs0, fp1, rfl, k1, rfl, k2⟩ := (ownM_ok ho).mp hsl0
  refine ⟨.ref a, hv, .inr ⟨a, rfl, .inl ⟨⟨vs0, .inl (.inl k1)⟩, ?_⟩⟩⟩
  intro D hD
  have lv := hF1.lv
  refine ⟨fun k m H' => ∃ W' τ' ts, W'.H = H' ∧ W1.Le W' ∧ FrS Γ W' ms τ' σ (hs ++ [(.own (n + 1), some (.lst ts), some (.ref D))]) ∧ Pst Γ E ms W' σ hs false τ' (fun W' w τ' => ∀ v, Has Γ W' ms τ' σ hs (.own (n + 1)) w v → Q v W'.H) ((lcO vs i bg et ee m k ts >>= fun ws => M.pure (.lst ws)) τ'),
    ⟨xs0.length + 1, ⟨W1.F, W1.B, upd W1.H D (.lst [])⟩, τ1, [], rfl, grow_le, ⟨?_, hF1.lt, hF1.lv⟩, ?_⟩, ?_⟩
  · rw [← List.append_assoc]
    exact hF1.fr.new (H' := upd W1.H D (.lst [])) (upd_sub hD) (fp := [D]) ⟨D, [], [], rfl, upd_same, rfl, rfl, rfl⟩ (by simp) fun a ha => by rw [List.mem_singleton.mp ha]; exact hD
  · have hp1' : Pst Γ E ms W1 σ hs false τ1 (fun W' w τ' => ∀ v, Has Γ W' ms τ' σ hs (.own (n + 1)) w v → Q v W'.H) ((lcO vs i bg et ee (xs0.length + 1) 0 [] >>= fun ws => M.pure (.lst ws)) τ1) := hp1
    cases hr : (lcO vs i bg et ee (xs0.length + 1) 0 [] >>= fun ws => (M.pure (T.lst ws) : M T)) τ1 with
    | stuck => rw [hr] at hp1'; exact hp1'.elim
    | exc x τ' => rw [hr] at hp1'; exact fun W' cls d g => hp1' W' cls d ⟨grow_le.trans g.1, fun z => nomatch z⟩
    | ok x τ' => rw [hr] at hp1'; exact fun W' g => hp1' W' ⟨grow_le.trans g.1, fun z => nomatch z⟩
  · rintro k m H2 ⟨W2, τ2, ts, rfl, l2, hF2, hp2⟩
    cases m with
    | zero => exact (show False from hp2).elim
    | succ m =>
    have hp2b : Pst Γ E ms W2 σ hs false τ2 (fun W' w τ' => ∀ v, Has Γ W' ms τ' σ hs (.own (n + 1)) w v → Q v W'.H) ((get i >>= fun x => (asL x >>= fun xs => match xs[k]? with
      | none => M.pure ts
      | some t => immC t >>= fun t => wipeM vs >>= fun _ => bg t >>= fun _ => et >>= fun b => if b = true then ee >>= fun w => (if ts.length < szL then M.pure () else M.stuck) >>= fun _ => wipeM vs >>= fun _ => lcO vs i bg et ee m (k + 1) (ts ++ [w]) else wipeM vs >>= fun _ => lcO vs i bg et ee m (k + 1) ts) >>= fun ws => M.pure (.lst ws)) τ2) := by
      rw [← bind_assoc]; exact hp2
    obtain ⟨x, hx, hp2c⟩ := getP_ok hp2b
    cases x with
    | lst xs =>
      obtain ⟨vi', fp, hv', _, hsl, _, _⟩ := hF2.slot hm hx
      rw [hv] at hv'
      cases hv'
      obtain ⟨a', us, fp2, e, c1, rfl, c2⟩ := (ownM_ok ho).mp hsl
      cases e
      have fr2 := hF2.fr
      have fh := fr2.fb.trans fr2.bh
      obtain ⟨hl, _⟩ := repOL_get c2
      have hp3a : Pst Γ E ms W2 σ hs false τ2 (fun W' w τ' => ∀ v, Has Γ W' ms τ' σ hs (.own (n + 1)) w v → Q v W'.H) (((match xs[k]? with
        | none => M.pure ts
        | some t => immC t >>= fun t => wipeM vs >>= fun _ => bg t >>= fun _ => et >>= fun b => if b = true then ee >>= fun w => (if ts.length < szL then M.pure () else M.stuck) >>= fun _ => wipeM vs >>= fun _ => lcO vs i bg et ee m (k + 1) (ts ++ [w]) else wipeM vs >>= fun _ => lcO vs i bg et ee m (k + 1) ts) >>= fun ws => M.pure (.lst ws)) τ2) := hp2c
      cases hk : xs[k]? with
      | none =>
        rw [hk] at hp3a
        left
        refine ⟨⟨us, .inl (.inl c1), ?_⟩, (show Pst Γ E ms W2 σ hs false τ2 (fun W' w τ' => ∀ v, Has Γ W' ms τ' σ hs (.own (n + 1)) w v → Q v W'.H) (.ok (.lst ts) τ2) from hp3a) W2 Go.refl (.ref D) hF2⟩
        rw [← hl]; exact List.getElem?_eq_none_iff.mp hk
      | some t =>
        rw [hk] at hp3a
        right
        have rl : RepL Γ W2.F W2.H xs us := RepOL.rep (Same.refl _) fh (fun _ _ e _ => e) xs (fun _ _ _ e => e) c2
        obtain ⟨v, ev, rv⟩ := (repL_get rl).2 k t hk
        refine ⟨⟨us, v, .inl (.inl c1), ev⟩, fun H' => ∃ W' τ' ts, W'.H = H' ∧ W1.Le W' ∧ FrS Γ W' ms τ' σ (hs ++ [(.own (n + 1), some (.lst ts), some (.ref D))]) ∧ Pst Γ E ms W' σ hs false τ' (fun W' w τ' => ∀ v, Has Γ W' ms τ' σ hs (.own (n + 1)) w v → Q v W'.H) ((lcO vs i bg et ee m (k + 1) ts >>= fun ws => M.pure (.lst ws)) τ'), ?_, ?_⟩
        · rintro H' ⟨W', τ', ts', rfl, l', hF', hp'⟩
          exact ⟨m, by omega, W', τ', ts', rfl, l', hF', hp'⟩
        intro v' H' hy
        obtain ⟨rfl, hy⟩ := hy
        have ev' := hy us (.inl (.inl c1))
        rw [ev] at ev'
        cases ev'
        by_cases him : imm t = true
        · have hp3 : Pst Γ E ms W2 σ hs false τ2 (fun W' w τ' => ∀ v, Has Γ W' ms τ' σ hs (.own (n + 1)) w v → Q v W'.H) (((bg t (wipeT τ2 vs)).next fun _ => et >>= fun b => if b = true then ee >>= fun w => (if ts.length < szL then M.pure () else M.stuck) >>= fun _ => wipeM vs >>= fun _ => lcO vs i bg et ee m (k + 1) (ts ++ [w]) else wipeM vs >>= fun _ => lcO vs i bg et ee m (k + 1) ts).next fun ws => M.pure (.lst ws)) := by
            have : immC t = M.pure t := by unfold immC; rw [if_pos him]
            simp only [this] at hp3a
            exact hp3a
          obtain ⟨l3, hF3'⟩ := hF2.fix
          have hr3 : Rep Γ W2.fix.F (GOf W2.fix .fz) t v := imm_rep l3.f (fix_t fr2) t him rv
          generalize hW3 : W2.fix = W3 at l3 hF3' hr3
          have eH : W3.H = W2.H := by rw [← hW3]; rfl
          rw [← eH]
          have hFw := hF3'.wipe vs hvs
          cases hbg : bg t (wipeT τ2 vs) with
          | stuck => rw [hbg] at hp3; exact hp3.elim
          | exc y τ3 => exact (hne _ _ _ _ hbg).elim
          | ok u τ3 =>
          rw [hbg] at hp3
          have hp4 : Pst Γ E ms W2 σ hs false τ2 (fun W' w τ' => ∀ v, Has Γ W' ms τ' σ hs (.own (n + 1)) w v → Q v W'.H) (((et τ3).next fun b => if b = true then ee >>= fun w => (if ts.length < szL then M.pure () else M.stuck) >>= fun _ => wipeM vs >>= fun _ => lcO vs i bg et ee m (k + 1) (ts ++ [w]) else wipeM vs >>= fun _ => lcO vs i bg et ee m (k + 1) ts).next fun ws => M.pure (.lst ws)) := hp3
          have later : ∀ {W' : Wd} {τ' : Tau} {r : RE T}, W2.Le W' → Pst Γ E ms W2 σ hs false τ2 (fun W' w τ' => ∀ v, Has Γ W' ms τ' σ hs (.own (n + 1)) w v → Q v W'.H) r → Pst Γ E ms W' σ hs false τ' (fun W' w τ' => ∀ v, Has Γ W' ms τ' σ hs (.own (n + 1)) w v → Q v W'.H) r := by
            intro W' τ' r l h
            cases r with
            | stuck => exact h
            | exc x τ'' => exact fun W'' cls d g => h W'' cls d ⟨l.trans g.1, fun z => nomatch z⟩
            | ok x τ'' => exact fun W'' g => h W'' ⟨l.trans g.1, fun z => nomatch z⟩
          refine hg W3 (wipeT τ2 vs) (L2.wipe σ vs) _ t v _ τ3 hFw hr3 hbg fun W4 σ4 l4 hw4 hF4 => ?_
          have hw4' : L2.wipe σ4 vs = L2.wipe σ vs := by
            rw [hw4]
            have idem : ∀ us : List Nat, (∀ u ∈ us, u ∈ vs) → L2.wipe (L2.wipe σ vs) us = L2.wipe σ vs := by
              intro us
              induction us with
              | nil => intro _; rfl
              | cons u us ih =>
                intro h
                show (L2.wipe (L2.wipe σ vs) us).set u none = L2.wipe σ vs
                rw [ih fun w hw => h w (List.mem_cons_of_mem _ hw)]
                have : ∀ {ws : List Nat}, u ∈ ws → (L2.wipe σ ws).set u none = L2.wipe σ ws := by
                  intro ws
                  induction ws with
                  | nil => intro h; simp at h
                  | cons w ws ih =>
                    intro h
                    unfold L2.wipe
                    by_cases e : w = u
                    · subst e; rw [List.set_set]
                    · rw [List.set_comm _ _ (fun z => e z), ih (by rcases List.mem_cons.mp h with h | h; exact (e h.symm).elim; exact h)]
                exact this (h u (by simp))
            exact idem vs fun u hu => hu
          refine ⟨hw4', ?_⟩
          refine ht W4 τ3 σ4 _ _ hF4 ?_
          cases het : et τ3 with
          | stuck => rw [het] at hp4; exact hp4.elim
          | exc y τ5 => exact (hx1 _ _ _ het).elim
          | ok b τ5 =>
            rw [het] at hp4
            intro W5 g5 hF5
            cases b with
            | false =>
              refine iteF ⟨W5, wipeT τ5 vs, ts, rfl, ((l2.trans l3).trans l4).trans g5.1, hF5.unwipe hvs hw4' lv, ?_⟩
              exact later ((l3.trans l4).trans g5.1) hp4
            | true =>
              have hp5 : Pst Γ E ms W2 σ hs false τ2 (fun W' w τ' => ∀ v, Has Γ W' ms τ' σ hs (.own (n + 1)) w v → Q v W'.H) (((ee τ5).next fun w => (if ts.length < szL then M.pure () else M.stuck) >>= fun _ => wipeM vs >>= fun _ => lcO vs i bg et ee m (k + 1) (ts ++ [w])).next fun ws => M.pure (.lst ws)) := hp4
              refine iteT (he W5 τ5 σ4 _ _ hF5 ?_)
              cases hee : ee τ5 with
              | stuck => rw [hee] at hp5; exact hp5.elim
              | exc y τ6 => exact (hx2 _ _ _ hee).elim
              | ok w τ6 =>
                rw [hee] at hp5
                intro W6 g6 vw hvw
                have hw6 : FrS Γ W6 ms τ6 σ4 ((hs ++ [(.own (n + 1), some (.lst ts), some (.ref D))]) ++ [(.own n, some w, some vw)]) := hvw
                have hp6 : Pst Γ E ms W2 σ hs false τ2 (fun W' w τ' => ∀ v, Has Γ W' ms τ' σ hs (.own (n + 1)) w v → Q v W'.H) ((((if ts.length < szL then M.pure () else M.stuck) >>= fun _ => wipeM vs >>= fun _ => lcO vs i bg et ee m (k + 1) (ts ++ [w])) τ6).next fun ws => M.pure (.lst ws)) := hp5
                by_cases hz : ts.length < szL
                · rw [if_pos hz] at hp6
                  -- the item joins the list
                  have fr6 := hw6.fr
                  have pm : (sl ms τ6 σ4 ++ (hs ++ [(Md.own (n + 1), some (T.lst ts), some (V.ref D))] ++ [(Md.own n, some w, some vw)])).Perm ((.own (n + 1), some (.lst ts), some (.ref D)) :: (.own n, some w, some vw) :: (sl ms τ6 σ4 ++ hs)) := by
                    rw [← List.append_assoc, ← List.append_assoc]
                    refine (List.Perm.append_right _ List.perm_append_comm).trans ?_
                    simp only [List.cons_append, List.nil_append]
                    exact List.Perm.cons _ List.perm_append_comm
                  obtain ⟨fs, ft, r1, r2, nd, hb, h4⟩ := (fr6.perm pm).head2
                  obtain ⟨a', us, fp1, e1, k1, rfl, k2⟩ := (show RepO Γ W6.F W6.H (n + 1) (.lst ts) (.ref D) fs from r1)
                  cases e1
                  have r2' : RepO Γ W6.F W6.H n w vw ft := r2
                  have hlen : ts.length = us.length := (repOL_get k2).1
                  refine ⟨us, k1, by rw [← hlen, ← szL_eq]; exact hz, ?_⟩
                  have keepH : ∀ b o, b ≠ D → W6.H b = some o → upd W6.H D (.lst (us ++ [vw])) b = some o := fun b o hb e => by rw [upd_ne hb]; exact e
                  have hnot : D ∉ fp1 ++ ft := by
                    rw [List.cons_append, List.nodup_cons] at nd
                    exact nd.1
                  have ht' : ∀ b o, W6.H b = some o → ¬ Mut (some o) → upd W6.H D (.lst (us ++ [vw])) b = some o := fun b o e nm => keepH b o (fun z => by subst z; rw [k1] at e; cases e; exact nm True.intro) e
                  have f7 := h4 (upd W6.H D (.lst (us ++ [vw]))) (.own (n + 1), some (.lst (ts ++ [w])), some (.ref D)) (D :: (fp1 ++ ft)) (fun b o hb e => keepH b o (fun z => hb (by rw [z]; simp)) e) ⟨D, us ++ [vw], fp1 ++ ft, rfl, upd_same, rfl, repOL_snoc (RepO.keep (Same.refl _) ht' w (fun b hb o e => keepH b o (fun z => hnot (by rw [← z]; simp [hb])) e) r2') (RepOL.keep (Same.refl _) ht' ts (fun b hb o e => keepH b o (fun z => hnot (by rw [← z]; simp [hb])) e) k2)⟩ (by simpa using nd) (fun b hb => .inl (by simpa using hb))
                  have f8 : FrS Γ { W6 with H := upd W6.H D (.lst (us ++ [vw])) } ms τ6 σ4 (hs ++ [(.own (n + 1), some (.lst (ts ++ [w])), some (.ref D))]) := ⟨by
                    rw [← List.append_assoc]
                    exact f7.perm (List.perm_append_comm (l₁ := [_])), hw6.lt, hw6.lv⟩
                  refine ⟨{ W6 with H := upd W6.H D (.lst (us ++ [vw])) }, wipeT τ6 vs, ts ++ [w], rfl, (((l2.trans l3).trans l4).trans (g5.1.trans g6.1)).trans grow_le, f8.unwipe hvs hw4' lv, ?_⟩
                  exact later (((l3.trans l4).trans (g5.1.trans g6.1)).trans grow_le) hp6
                · rw [if_neg hz] at hp6; exact hp6.elim
        · have : immC t = M.stuck := by unfold immC; rw [if_neg him]
          simp only [this] at hp3a
          exact (show False from hp3a).elim
    | _ => exact (show False from hp2c).elim
theorem sim_lcO {n n0 i : Nat} {m0 : Md} {q q' : Bool} {g : TG} {bg : T → M Unit} {tt : TT} {et : M Bool} {te : TE} {ee : M T} {vs : List Nat} (hm : ms[i]? = some m0) (ho : OwnM (n0 + 1) m0) (hvs : ∀ v ∈ vs, v < ms.length) (hg : SimGv Γ ms vs g bg .fz) (hne : ∀ x τ, ∀ y τ', bg x τ ≠ .exc y τ') (ht : SimT Γ E0 ms q tt et) (he : SimE Γ E0 ms q' te ee (.own n)) :
    SimE Γ E ms false (tLc (iU Γ (tVar i)) g tt te vs) (sLcO vs i bg (TL.noE et) (TL.noE ee)) (.own (n + 1)) := sim_lcOX hm ho hvs hg ht.noE he.noE hne (noE_ne et) (noE_ne ee)
end
end TL
end
section
set_option Elab.async false
set_option linter.all false
set_option autoImplicit false
set_option maxRecDepth 100000
set_option maxHeartbeats 4000000
/-! U6: list + list, list * int of any held list; operators by own defs -/
namespace TL
open PySem PySem.SeqAt
open AutoSeq1 (wpAny_loadPart')
open MeetsSeq MeetsSeq2 MeetsSeq3 SeqRoads2
theorem list_add_sl (l : Addr) (items : Array Value) (n : Nat) (b : Addr) (items2 : Array Value) (n2 : Nat) (sl sl2 : Array (Option Value)) (hc0 : items.size + items2.size ≤ sizeLine) :
    Meets (Builtin.«list.__add__» ⟨[.ref l, .ref b], []⟩) (fun _ R s => s.heap.get? l = some { cls := .type "list", dict := none, data := .seq items n, slots := sl } ∧ s.heap.get? b = some { cls := .type "list", dict := none, data := .seq items2 n2, slots := sl2 } ∧ R (.ok (.ret (Value.ref s.heap.objs.size))) { s with heap := s.heap.push { cls := Value.type "list", data := Data.seq (items ++ items2) }, toks := s.toks }) :=
  .of_wp fun prog w A R s h => by obtain ⟨hp, g, d, tk, os⟩ := s; obtain ⟨hl, hb, h⟩ := h; have f1 := AutoSeq1.idx_int; have f2 := AutoSeq1.sub_tuple_tuple; have f3 := AutoSeq1.sub_list_list; have f4 := AutoSeq1.sub_tuple_list; have f5 := AutoSeq1.sub_list_tuple; wp_walk using wpAny_loadPart' hl, wpAny_loadPart' hb; exact ⟨_, rfl, h⟩

end TL
namespace TL
open PySem PySem.Spec PyProof.Rows L2
section
variable {X : Cx}
/-- xs + ys, both read -/
def rCatQ (K : PySem.W.Frag) : R2 := fun x y H Q => ∃ l b xs zs, x = .ref l ∧ y = .ref b ∧ SqL K H l xs ∧ SqL K H b zs ∧ xs.length + zs.length ≤ sizeLine ∧ ∀ p, H p = none → Q (.ref p) (upd H p (.lst (xs ++ zs)))
theorem op_catQ : OpR X (binaryOp .Add) (rCatQ X.K) := by
  intro pins s σ H x y v u Q I rx ry h
  obtain ⟨l, b, xs, zs, rfl, rfl, hH, hB, hz, q⟩ := h
  cases rx
  cases ry
  obtain ⟨its, r, ⟨⟨c1, d1, da1, sl1⟩, n, e, hc, hd, hda⟩, _⟩ := I.list hH
  obtain ⟨its2, r2, ⟨⟨c2, d2, da2, sl2⟩, n2, e2, hc2, hd2, hda2⟩, _⟩ := I.list hB
  simp only at hc hd hda hc2 hd2 hda2
  subst hc hd hda hc2 hd2 hda2
  have hl : xs.length = its.length := r.length
  have hl2 : zs.length = its2.length := r2.length
  refine concat_meets ⟨_, e, rfl⟩ ⟨_, e2, rfl⟩ noFill_list_add seq_list_add F.slot_list_add F.entry_list_add (F.args_list_add_2 _ _) (list_add_sl l its.toArray n b its2.toArray n2 sl1 sl2 (by rw [List.size_toArray, List.size_toArray]; omega)) ⟨e, e2, ?_⟩
  have ea : its.toArray ++ its2.toArray = (its ++ its2).toArray := by simp
  rw [ea]
  exact ⟨.ref _, _, I.lnew (t' := s.toks) (r.append r2) (by rw [List.length_append]; omega), rfl, q _ I.fresh⟩
/-- + of whole numbers, texts, lists, tuples -/
def rAddQ (K : PySem.W.Frag) : R2 := fun x y H Q => rAddU x y H Q ∨ (rCatQ K x y H Q ∨ rCatA K x y H Q)
theorem opQ_add {Γ : Gm} (hK : Γ.K = X.K) : OpR X (binaryOp .Add) (rAddQ Γ.K) := by
  rw [hK]
  exact op_or opU_add (op_or op_catQ op_catA)
end
end TL
namespace TL
open PySem PySem.Spec L2
open PyProof.Rows (subscriptTail Subscript_)
/-- a def by its class that an operator calls -/
structure MetI (P : Program) (w : World) (K : PySem.W.Frag) (mg : Str → Option Value) (base : Heap) (k : Nat) (C : Addr) (m : Str) (sp : Sp) : Prop where
  ex : ∃ (f : Addr) (fd : FuncData) (ps : List Str), Cls K C ∧ Meth K C m f ∧ FnOk P w K mg base CX0 k f fd ps sp ∧ Binds K fd ps [] ∧ PySem.W.fnIn K f = true
theorem MetI.mono {P : Program} {w : World} {K : PySem.W.Frag} {mg : Str → Option Value} {base : Heap} {k j : Nat} {C : Addr} {m : Str} {sp : Sp} (c : MetI P w K mg base j C m sp) (h : j ≤ k) : MetI P w K mg base k C m sp := by
  obtain ⟨f, fd, ps, a, b, F, d, e⟩ := c.ex
  exact ⟨f, fd, ps, a, b, F.mono h, d, e⟩
theorem fnIn_of {K : PySem.W.Frag} {x qual : Str} {st : Stmt} {f : Addr} {fd : FuncData} (F : L2.Fun K x qual st f fd) : PySem.W.fnIn K f = true := by
  obtain ⟨oc, od, kV, doc, pm, an, cdv, ct, osl, _, lk, _⟩ := F.ex
  unfold PySem.W.fnIn
  rw [lk]
section
variable {X : Cx} {k j : Nat} {C : Addr} {sp : Sp}
theorem ins_at {pins : List (Addr × Obj)} {σ : St} {H : Hp} {s : Shared} {a C dx : Addr} {fs : List (Str × V)} (I : Inv X pins σ H s) (e : H a = some (.ins C dx fs)) : ∃ ox od, PySem.W.InstAt s.heap a ox C od := by
  obtain ⟨mA, O, r, _, _, _⟩ := ins_get I.hok e
  obtain ⟨od, J, _⟩ := O.look
  exact ⟨_, _, J⟩
/-- x in o -/
def rInO (C : Addr) (sp : Sp) (neg : Bool) : R2 := fun x y H Q => ∃ a dx fs, y = .ref a ∧ H a = some (.ins C dx fs) ∧ sp [y, x] H (fun z H' => ∃ b, z = .bl b ∧ Q (.bl (if neg = true then !b else b)) H') C8.E0
theorem op_inO (c : MetI X.prog X.w X.K X.mg X.base k C "__contains__" sp) (hr : Room j X.A) (hk : k ≤ j) : OpR X (compareOp .In) (rInO C sp false) := by
  intro pins s σ H x y v u Q I rx ry h
  obtain ⟨a, dx, fs, rfl, ha, q⟩ := h
  cases (show u = Value.ref a from ry)
  obtain ⟨f, fd, ps, hc, hm, F, b, _⟩ := c.ex
  obtain ⟨ox, od, J⟩ := ins_at I ha
  obtain ⟨m, hF⟩ := I.fr
  refine PySem.W.in_K hF I.ok.mod.kin J hm.at_ hm.fn ?_
  refine wpAny_mono (run_fn (us := [.ref a, v]) (vs := [.ref a, x]) F (hr.mono hk) b .nil C8.pass0 I (.cons rfl (.cons rx .nil)) q) (fun r s' z => ?_) fun _ _ x => x
  obtain ⟨z', H', I', rz, b', rfl, qz⟩ := z
  cases (show r = Value.bool b' from rz)
  exact wpAny_truthy_bool ⟨.bl b', H', I', rfl, by simpa using qz⟩
theorem op_notInO (c : MetI X.prog X.w X.K X.mg X.base k C "__contains__" sp) (hr : Room j X.A) (hk : k ≤ j) : OpR X (compareOp .NotIn) (rInO C sp true) := by
  intro pins s σ H x y v u Q I rx ry h
  obtain ⟨a, dx, fs, rfl, ha, q⟩ := h
  cases (show u = Value.ref a from ry)
  obtain ⟨f, fd, ps, hc, hm, F, b, _⟩ := c.ex
  obtain ⟨ox, od, J⟩ := ins_at I ha
  obtain ⟨m, hF⟩ := I.fr
  refine PySem.W.notIn_K hF I.ok.mod.kin J hm.at_ hm.fn ?_
  refine wpAny_mono (run_fn (us := [.ref a, v]) (vs := [.ref a, x]) F (hr.mono hk) b .nil C8.pass0 I (.cons rfl (.cons rx .nil)) q) (fun r s' z => ?_) fun _ _ x => x
  obtain ⟨z', H', I', rz, b', rfl, qz⟩ := z
  cases (show r = Value.bool b' from rz)
  exact wpAny_truthy_bool ⟨.bl (!b'), H', I', rfl, by simpa using qz⟩
/-- o[i] -/
def rIxO (C : Addr) (sp : Sp) : R2 := fun x y H Q => ∃ a dx fs, x = .ref a ∧ H a = some (.ins C dx fs) ∧ sp [x, y] H Q C8.E0
theorem pe_ixO {a b : Expr} {ta tb : TE} {pos : Pos} (c : MetI X.prog X.w X.K X.mg X.base k C "__getitem__" sp) (hr : Room j X.A) (hk : k + 1 ≤ j) (ha : PE X a ta) (hb : PE X b tb)
    (hsl : ∀ x i, subscripted b true (.ref x) i = runValue (.builtin "lifetime.subscript" ⟨[.ref x, i], []⟩) := by intro _ _; with_unfolding_all rfl) : PE X (.Subscript a b pos) (tOp (rIxO C sp) ta tb) := by
  have key : ∀ (pins : List (Addr × Obj)) (s2 : Shared) (σ : St) (H2 : Hp) (x y : V) (v u : Value) (Q : VK), Inv X pins σ H2 s2 → RelV x v → RelV y u → rIxO C sp x y H2 Q → wpAny (model X.prog X.w) X.A (subscriptTail a b v u) (EP X pins σ Q) X.xe s2 := ?key
  · refine ⟨fun pins s σ H Q I h => ?_⟩
    exact Subscript_ (binT ha hb I h fun v u s2 x y H2 I2 rx ry q => key pins s2 σ H2 x y v u Q I2 rx ry q)
  intro pins s2 σ H2 x y v u Q I2 rx ry q
  obtain ⟨p, dx, fs, rfl, hp, q⟩ := q
  cases (show v = Value.ref p from rx)
  obtain ⟨f, fd, ps, hc, hm, F, bd, hfn⟩ := c.ex
  obtain ⟨ox, od, J⟩ := ins_at I2 hp
  obtain ⟨m, hF⟩ := I2.fr
  refine PySem.W.sub_K (slice := b) hF I2.ok.mod.kin J hm.at_ hfn hm.fn ?_ (hsl _ _)
  have r2 : Vals [V.ref p, y] [Value.ref p, u] := .cons rfl (.cons ry .nil)
  have hl : ([Value.ref p, u]).length = ps.length := by rw [← r2.length]; exact F.len _ _ _ _ q
  refine wpAny_call (codeAny_mono (F.run X.A.in1 X.stack s2 H2 ⟨[.ref p, u], []⟩ [.ref p, u] [.ref p, y] Q C8.E0 (hr.mono hk).in1 I2.env0.in1 (by simpa using bd s2 [.ref p, u] I2.kIn (by simpa using hl)) r2 q) fun r s' hq => ?_)
  cases r with
  | error e => exact (show False from hq).elim
  | ok fl =>
    cases fl with
    | ret u => exact I2.after hq
    | next => exact False.elim hq
    | brk => exact False.elim hq
    | cont => exact False.elim hq
end
end TL
end
section
set_option Elab.async false
set_option linter.all false
set_option autoImplicit false
set_option maxRecDepth 100000
set_option maxHeartbeats 4000000
/-! S31: tuple(..) -/
namespace TL
open PySem PySem.Spec L2
section
variable {Γ : Gm} {E : XK} {ms : List Md}
theorem sim_tupOf {p : Bool} {ta : TA} {e : M (List T)} {cs : List RC} (ha : SimA Γ E ms p ta e cs) (hn : NoSlot cs) : SimE Γ E ms p (tCB (rTupOf Γ.K) ta) (tupA e) .fz := by
  intro W τ σ hs Q hF hp
  refine ha W τ σ hs _ hF (Pst.bind1 hp fun W1 ts τ1 g1 hp1 vs hF1 hv => ?_)
  have hl := HasA.now hF1.fr hn.all hv
  cases hf : fTup ts with
  | none => rw [hf] at hp1; exact hp1.elim
  | some ws =>
    rw [hf] at hp1
    have hp2 : Pst Γ E ms W1 σ hs true τ1 (fun W' w τ' => ∀ v, Has Γ W' ms τ' σ hs .fz w v → Q v W'.H) ((immsC ws >>= fun ws => M.pure (.tup ws)) τ1) := hp1
    unfold immsC at hp2
    by_cases hi : imms ws = true
    · rw [if_pos hi] at hp2
      have fh := hF1.fr.fb.trans hF1.fr.bh
      obtain ⟨l, hF2⟩ := hF1.fix
      match ts, hf with
      | [.lst xs], hf =>
        cases hf
        obtain ⟨v, r, rfl, ⟨a, us, rfl, h1, h2⟩, h3⟩ := hl
        cases h3
        refine ⟨a, us, rfl, .inl ⟨h1, fun q hq => ?_⟩⟩
        have hy2 : RepL Γ W1.fix.F W1.fix.F ws us := imms_rep l.f (fix_t hF1.fr) ws hi h2
        have hq2 : W1.fix.H q = none := hq
        obtain ⟨l2, f⟩ := hF2.fr.newF (.tup us) hq2
        exact hp2 _ ⟨l.trans l2, fun _ => ⟨upd_sub hq, rfl⟩⟩ (.ref q) ⟨⟨f, hF1.lt, hF1.lv⟩, q, us, rfl, .inl (.inl upd_same), RepL.mono l2.f ws l2.f hy2⟩
      | [.tup xs], hf =>
        cases hf
        have hit : imms [.tup ws] = true := by show (imms ws && true) = true; rw [hi]; rfl
        have hy2 : RepL Γ W1.fix.F W1.fix.F [.tup ws] vs := imms_rep l.f (fix_t hF1.fr) [.tup ws] hit hl
        obtain ⟨v, r, rfl, ⟨a, us, rfl, h1, h2⟩, h3⟩ := hl
        cases h3
        refine ⟨a, us, rfl, .inr ⟨h1, ?_⟩⟩
        obtain ⟨v', r', e', h5, _⟩ := hy2
        cases e'
        exact hp2 W1.fix ⟨l, fun _ => ⟨Same.refl _, rfl⟩⟩ (.ref a) ⟨hF2, h5⟩
    · rw [if_neg hi] at hp2; exact hp2.elim
end
end TL
end
section
set_option Elab.async false
set_option linter.all false
set_option autoImplicit false
set_option maxRecDepth 100000
set_option maxHeartbeats 4000000
/-! S32: + of lists and tuples; operators by own defs -/
namespace TL
open PySem PySem.Spec L2
section
variable {Γ : Gm} {E : XK} {ms : List Md}
def rAdd2 (K : PySem.W.Frag) : List V → Hp → VK → Prop := fun vs H Q => match vs with
  | [x, y] => rAddQ K x y H Q
  | _ => False
theorem opS_addQ : OpS Γ (rAddQ Γ.K) oAdd := fun F H x y w vx vy Q hx hy hf hq => .inl (opS_add F H x y w vx vy Q hx hy hf hq)
theorem newS_cat : NewS Γ (rAdd2 Γ.K) fCat := by
  intro F G H ts ws vs Q hF hG hl hf hq
  match ts, hf with
  | [.lst xs, .lst ys], hf =>
    obtain ⟨v, r, rfl, ⟨a, us, rfl, h1, h2⟩, v2, r2, rfl, ⟨a2, us2, rfl, h3, h4⟩, h5⟩ := hl
    cases h5
    have hf' : (if xs.length + ys.length ≤ szL then some (xs ++ ys) else none) = some ws := hf
    split at hf'
    · rename_i hz
      cases hf'
      refine .inr (.inl ⟨a, a2, us, us2, rfl, rfl, sqL_sub hG h1, sqL_sub hG h3, ?_, fun p hp => hq _ ?_ p hp⟩)
      · rw [← (repL_get h2).1, ← (repL_get h4).1, ← szL_eq]; exact hz
      · have app : ∀ {xs : List T} {us : List V}, RepL Γ F G xs us → RepL Γ F G (xs ++ ys) (us ++ us2) := by
          intro xs
          induction xs with
          | nil => intro us h; cases h; exact h4
          | cons x xs ih =>
            intro us h
            obtain ⟨v, r, rfl, h1, h2⟩ := h
            exact ⟨v, _, rfl, h1, ih h2⟩
        exact app h2
    · cases hf'
theorem sim_cat_fz {p q : Bool} {ta tb : TE} {ea eb : M T} (ha : SimE Γ E ms p ta ea .fz) (hb : SimE Γ E ms q tb eb .fz) : SimE Γ E ms (p && (q && true)) (tOp (rAddQ Γ.K) ta tb) (newA fCat (consA ea (consA eb nilA))) (.own 1) :=
  sim_new_fz newS_cat (sim_cons ha (sim_cons hb sim_nil True.intro) True.intro) ⟨rfl, rfl, True.intro⟩
theorem sim_cat_imm {p q : Bool} {ta tb : TE} {ea eb : M T} {ra rb : RC} (ha : SimE Γ E ms p ta ea ra) (hb : SimE Γ E ms q tb eb rb) (hst : Stay' ra (q && true)) (hst' : Stay' rb true) (hn : NoSlot [ra, rb]) : SimE Γ E ms (p && (q && true)) (tOp (rAddQ Γ.K) ta tb) (newI fCat (consA ea (consA eb nilA))) (.own 1) :=
  sim_new_imm newS_cat (sim_cons ha (sim_cons hb sim_nil hst') hst) hn
theorem sim_catT {p q : Bool} {ta tb : TE} {ea eb : M T} {ra rb : RC} (ha : SimE Γ E ms p ta ea ra) (hb : SimE Γ E ms q tb eb rb) (hst : Stay' ra (q && true)) (hst' : Stay' rb true) (hn : NoSlot [ra, rb]) : SimE Γ E ms (p && (q && true)) (tOp (rAddQ Γ.K) ta tb) (catTA (consA ea (consA eb nilA))) .fz := by
  intro W τ σ hs Q hF hp
  refine (sim_cons ha (sim_cons hb sim_nil hst') hst) W τ σ hs (fun vs H1 => rAdd2 Γ.K vs H1 Q) hF (Pst.bind1 hp fun W1 ts τ1 g1 hp1 vs hF1 hv => ?_)
  have hl := HasA.now hF1.fr hn.all hv
  cases hf : fCatT ts with
  | none => rw [hf] at hp1; exact hp1.elim
  | some ws =>
    rw [hf] at hp1
    have hp2 : Pst Γ E ms W1 σ hs true τ1 (fun W' w τ' => ∀ v, Has Γ W' ms τ' σ hs .fz w v → Q v W'.H) ((immsC ws >>= fun ws => M.pure (.tup ws)) τ1) := hp1
    unfold immsC at hp2
    by_cases hi : imms ws = true
    · rw [if_pos hi] at hp2
      have fh := hF1.fr.fb.trans hF1.fr.bh
      obtain ⟨l, hF2⟩ := hF1.fix
      match ts, hf with
      | [.tup xs, .tup ys], hf =>
        obtain ⟨v, r, rfl, ⟨a, us, rfl, h1, h2⟩, v2, r2, rfl, ⟨a2, us2, rfl, h3, h4⟩, h5⟩ := hl
        cases h5
        have hf' : (if xs.length + ys.length ≤ szL then some (xs ++ ys) else none) = some ws := hf
        split at hf'
        · rename_i hz
          cases hf'
          have e1 := (repL_get h2).1
          have e2 := (repL_get h4).1
          have hy := repL_app h2 h4
          have hy2 : RepL Γ W1.fix.F W1.fix.F (xs ++ ys) (us ++ us2) := imms_rep l.f (fix_t hF1.fr) _ hi hy
          have tup1 : ∀ {b : Addr} {zs : List V}, SqT Γ.K W1.H b zs → SqT Γ.K W1.fix.F b zs := fun h => sqT_fix (fix_t hF1.fr) h
          refine .inr (.inr ⟨a, a2, us, us2, rfl, rfl, h1, h3, by rw [← e1, ← e2, ← szL_eq]; exact hz, fun e => ?_, fun _ e => ?_, fun _ _ q hq => ?_⟩)
          · subst e
            exact hp2 W1.fix ⟨l, fun _ => ⟨Same.refl _, rfl⟩⟩ (.ref a2) ⟨hF2, a2, us2, rfl, tup1 h3, hy2⟩
          · subst e
            rw [List.append_nil] at hy2
            exact hp2 W1.fix ⟨l, fun _ => ⟨Same.refl _, rfl⟩⟩ (.ref a) ⟨hF2, a, us, rfl, tup1 h1, hy2⟩
          · have hq2 : W1.fix.H q = none := hq
            obtain ⟨l2, f⟩ := hF2.fr.newF (.tup (us ++ us2)) hq2
            exact hp2 _ ⟨l.trans l2, fun _ => ⟨upd_sub hq, rfl⟩⟩ (.ref q) ⟨⟨f, hF1.lt, hF1.lv⟩, q, us ++ us2, rfl, .inl (.inl upd_same), RepL.mono l2.f _ l2.f hy2⟩
        · cases hf'
    · rw [if_neg hi] at hp2; exact hp2.elim
/-! ### operators by own defs -/
theorem HasV.of {W : Wd} {τ : Tau} {σ : St} {hs : List Slot} {r : RC} {t : T} {v : V} (h : Has Γ W ms τ σ hs r t v) (hst : Stay' r true) : HasV Γ W σ r t v := h.laterV Go.refl h.fr hst
theorem ins_rep {F B : Hp} {c : Str} {y y' : T} {v : V} (h : Rep Γ F B y v) (hc : oCls c y = some y') : y' = y ∧ ∃ a dx fv, v = .ref a ∧ F a = some (.ins (Γ.cl c) dx fv) := by
  cases y with
  | ins c' fs =>
    have hc' : (if c' = c then some (T.ins c' fs) else none) = some y' := hc
    split at hc'
    · rename_i e
      subst e
      cases hc'
      obtain ⟨a, dx, fv, e, h1, h2, h3⟩ := h
      exact ⟨rfl, a, dx, fv, e, h1⟩
    · cases hc'
  | _ => exact (show False from by cases hc).elim
def tTwo (C : Addr) (sw : Bool) (ta tb : TE) : TA := fun σ H Q => ta σ H fun x H1 => tb σ H1 fun y H2 => ∃ a dx fs, (if sw = true then y else x) = V.ref a ∧ H2 a = some (.ins C dx fs) ∧ Q (if sw = true then [y, x] else [x, y]) H2
theorem sim_two {c : Str} {p q : Bool} {ta tb : TE} {ea eb : M T} {ra rb : RC} (ha : SimE Γ E ms p ta ea ra) (hb : SimE Γ E ms q tb eb rb) (hst : Stay ra q) (hst' : Stay' ra true) (hst2 : Stay' rb true) :
    SimA Γ E ms (p && q) (tTwo (Γ.cl c) true ta tb) (ea >>= fun x => eb >>= fun y => M.of (oCls c y) >>= fun y => M.pure [y, x]) [rb, ra] := by
  intro W τ σ hs Q hF hp
  refine ha W τ σ hs _ hF (Pst.bind hp fun W1 x τ1 g1 hp1 vx hx => ?_)
  refine hb W1 τ1 σ hs _ hx.fr (Pst.bind1 hp1 fun W2 y τ2 g2 hp2 vy hy => ?_)
  have hx2 := hx.later g2 hy.fr hst
  cases hf : oCls c y with
  | none => rw [hf] at hp2; exact hp2.elim
  | some y' =>
    rw [hf] at hp2
    obtain ⟨rfl, a, dx, fv, rfl, e⟩ := ins_rep hy.now hf
    have fh := hy.fr.fr.fb.trans hy.fr.fr.bh
    exact ⟨a, dx, fv, rfl, fh _ _ e, hp2 W2 Go.refl [.ref a, vx] hy.fr ⟨HasV.of hy hst2, HasV.of hx2 hst', True.intro⟩⟩
theorem sim_two' {c : Str} {p q : Bool} {ta tb : TE} {ea eb : M T} {ra rb : RC} (ha : SimE Γ E ms p ta ea ra) (hb : SimE Γ E ms q tb eb rb) (hst : Stay ra q) (hst' : Stay' ra true) (hst2 : Stay' rb true) :
    SimA Γ E ms (p && q) (tTwo (Γ.cl c) false ta tb) (ea >>= fun x => eb >>= fun y => M.of (oCls c x) >>= fun x => M.pure [x, y]) [ra, rb] := by
  intro W τ σ hs Q hF hp
  refine ha W τ σ hs _ hF (Pst.bind hp fun W1 x τ1 g1 hp1 vx hx => ?_)
  refine hb W1 τ1 σ hs _ hx.fr (Pst.bind1 hp1 fun W2 y τ2 g2 hp2 vy hy => ?_)
  have hx2 := hx.later g2 hy.fr hst
  cases hf : oCls c x with
  | none => rw [hf] at hp2; exact hp2.elim
  | some y' =>
    rw [hf] at hp2
    obtain ⟨rfl, a, dx, fv, rfl, e⟩ := ins_rep hx2.now hf
    have fh := hy.fr.fr.fb.trans hy.fr.fr.bh
    exact ⟨a, dx, fv, rfl, fh _ _ e, hp2 W2 Go.refl [.ref a, vy] hy.fr ⟨HasV.of hx2 hst', HasV.of hy hst2, True.intro⟩⟩
theorem sim_ixO {c : Str} {pms : List Md} {rr : RC} {m : List T → RE T} {p q : Bool} {ta tb : TE} {ea eb : M T} {ra rb : RC} (ha : SimE Γ E0 ms p ta ea ra) (hb : SimE Γ E0 ms q tb eb rb) (hst : Stay ra q) (hst' : Stay' ra true) (hst2 : Stay' rb true) (hc : Args [ra, rb] pms) (hr : Back rr) :
    SimE Γ E0 ms (p && q) (tOp (rIxO (Γ.cl c) (spT Γ pms rr m)) ta tb) (ixO c m ea eb) rr := by
  intro W τ σ hs Q hF hp
  exact sim_call0 (m := m) (sim_two' (c := c) ha hb hst hst' hst2) hc hr W τ σ hs Q hF hp
theorem sim_inO {c : Str} {neg : Bool} {pms : List Md} {rr : RC} {m : List T → RE T} {p q : Bool} {ta tb : TE} {ea eb : M T} {ra rb : RC} (ha : SimE Γ E0 ms p ta ea ra) (hb : SimE Γ E0 ms q tb eb rb) (hst : Stay ra q) (hst' : Stay' ra true) (hst2 : Stay' rb true) (hc : Args [rb, ra] pms) (hr : Back rr) :
    SimE Γ E0 ms (p && q) (tOp (rInO (Γ.cl c) (spT Γ pms rr m) neg) ta tb) (inO c neg m ea eb) .fz := by
  intro W τ σ hs Q hF hp
  have h := sim_call0 (m := m) (sim_two (c := c) ha hb hst hst' hst2) hc hr
  refine h W τ σ hs (fun z H' => ∃ b, z = .bl b ∧ Q (.bl (if neg = true then !b else b)) H') hF ?_
  have hp1 : Pst Γ E0 ms W σ hs (p && q) τ (fun W' w τ' => ∀ v, Has Γ W' ms τ' σ hs .fz w v → Q v W'.H) ((((ea >>= fun x => eb >>= fun y => M.of (oCls c y) >>= fun y => M.pure [y, x]) >>= call0 m) >>= fun w => asB w >>= fun b => M.pure (.bl (if neg = true then !b else b))) τ) := hp
  refine Pst.bind1 hp1 fun W1 w τ1 g1 hp2 v hv => ?_
  cases w with
  | bl b =>
    have e : v = .bl b := hv.now
    exact ⟨b, e, hp2 W1 Go.refl _ ⟨hv.fr, rfl⟩⟩
  | _ => exact (show False from hp2).elim
/-! ### xs * n -/
theorem own_lst {W : Wd} {τ : Tau} {σ : St} {hs : List Slot} {xs : List T} {v : V} (h : FrS Γ W ms τ σ (hs ++ [(.own 1, some (.lst xs), some v)])) : ∃ a us, v = .ref a ∧ W.H a = some (.lst us) ∧ RepL Γ W.F W.F xs us := by
  obtain ⟨fps, h1, _, _⟩ := h.fr.ex
  rw [← List.append_assoc] at h1
  obtain ⟨m1, m2, rfl, g1, g2⟩ := pr_split h1
  cases g2 with
  | cons r g2 =>
    obtain ⟨a, us, fp', e, q, _, q2⟩ := (show RepO Γ W.F W.H 1 (.lst xs) v _ from r)
    exact ⟨a, us, e, q, (of_repOL_zero q2).2⟩
theorem repL_rep {F G : Hp} {xs : List T} {us : List V} (h : RepL Γ F G xs us) : ∀ n : Nat, RepL Γ F G (List.replicate n xs).flatten (List.replicate n us).flatten
  | 0 => rfl
  | n + 1 => by
    rw [List.replicate_succ, List.replicate_succ, List.flatten_cons, List.flatten_cons]
    exact repL_app h (repL_rep h n)
theorem sim_rep {p q : Bool} {ta tb : TE} {ea eb : M T} {rb : RC} (ha : SimE Γ E ms p ta ea (.own 1)) (hb : SimE Γ E ms q tb eb rb) : SimE Γ E ms (p && q) (tOp rRep ta tb) (repM ea eb) (.own 1) := by
  intro W τ σ hs Q hF hp
  refine ha W τ σ hs _ hF (Pst.bind hp fun W1 x τ1 g1 hp1 vx hx => ?_)
  have hx' : FrS Γ W1 ms τ1 σ (hs ++ [(.own 1, some x, some vx)]) := hx
  refine hb W1 τ1 σ _ _ hx' (Pst.hs (hs := hs) (fun _ _ h => h.drop) (Pst.bind1 hp1 fun W2 y τ2 g2 hp2 vy hy => ?_))
  cases x with
  | lst xs =>
    cases y with
    | int k =>
      have hp3 : Pst Γ E ms W2 σ hs true τ2 (fun W' w τ' => ∀ v, Has Γ W' ms τ' σ hs (.own 1) w v → Q v W'.H) ((if 0 ≤ k ∧ k ≤ 1000000 ∧ xs.length * k.toNat ≤ szL then M.pure (.lst (List.replicate k.toNat xs).flatten) else M.stuck : M T) τ2) := hp2
      by_cases hc : 0 ≤ k ∧ k ≤ 1000000 ∧ xs.length * k.toNat ≤ szL
      · rw [if_pos hc] at hp3
        obtain ⟨a, us, rfl, e, hr⟩ := own_lst hy.fr
        have hz : us.length * k.toNat ≤ sizeLine := by rw [← (repL_get hr).1, ← szL_eq]; exact hc.2.2
        have hyv : vy = .int k := hy.now
        subst hyv
        have hF2 : FrS Γ W2 ms τ2 σ hs := hy.fr.drop
        refine ⟨a, k, us, rfl, rfl, e, by omega, by omega, hz, fun q hq => ?_⟩
        exact hp3 ⟨W2.F, W2.B, upd W2.H q (.lst _)⟩ ⟨grow_le, fun _ => ⟨upd_sub hq, rfl⟩⟩ (.ref q) ⟨by have := hF2.fr.newL hq (repL_rep hr k.toNat); rwa [List.append_assoc] at this, hF2.lt, hF2.lv⟩
      · rw [if_neg hc] at hp3; exact hp3.elim
    | _ => exact (show False from hp2).elim
  | _ => exact (show False from hp2).elim
end
end TL
end
section
set_option Elab.async false
set_option linter.all false
set_option autoImplicit false
set_option maxRecDepth 100000
set_option maxHeartbeats 4000000
/-! S33: methods of texts -/
namespace TL
open PySem PySem.Spec L2
section
variable {Γ : Gm} {E : XK} {ms : List Md}
def rM1 (r : V → List V → Hp → VK → Prop) : List V → Hp → VK → Prop := fun vs H Q => match vs with
  | [x, y] => r x [y] H Q
  | _ => False
theorem sim_m1 {r : V → List V → Hp → VK → Prop} {f : List T → Option T} {p q : Bool} {ta tb : TE} {ea eb : M T} {ra rb : RC} (hr : CallS Γ (rM1 r) f) (ha : SimE Γ E ms p ta ea ra) (hb : SimE Γ E ms q tb eb rb) (hst : Stay ra q) : SimE Γ E ms (p && q) (tM1 r ta tb) (strM f ea eb) .fz := by
  intro W τ σ hs Q hF hp
  refine ha W τ σ hs _ hF (Pst.bind hp fun W1 x τ1 g1 hp1 vx hx => ?_)
  cases x with
  | str z =>
    have ez : vx = .str z := hx.now
    subst ez
    refine ⟨⟨z, rfl⟩, ?_⟩
    have hp2 : Pst Γ E ms W1 σ hs q τ1 (fun W' w τ' => ∀ v, Has Γ W' ms τ' σ hs .fz w v → Q v W'.H) ((eb >>= fun y => M.of (f [.str z, y])) τ1) := hp1
    refine hb W1 τ1 σ hs _ hx.fr (Pst.bind1 hp2 fun W2 y τ2 g2 hp3 vy hy => ?_)
    cases hf : f [.str z, y] with
    | none => rw [hf] at hp3; exact hp3.elim
    | some w =>
      rw [hf] at hp3
      refine hr W2.F W2.H [.str z, y] w [.str z, vy] Q ⟨_, _, rfl, rfl, _, _, rfl, hy.now, rfl⟩ hf fun v hv => hp3 W2 Go.refl v ⟨hy.fr, hv.rep⟩
  | _ => exact (show False from hp1).elim
theorem asStrs_rep {F H : Hp} : ∀ {ts : List T} {zs : List Str} {vs : List V}, asStrs ts = some zs → RepL Γ F H ts vs → vs = zs.map V.str
  | [], zs, vs, h, r => by cases h; exact r
  | x :: ts, zs, vs, h, r => by
    obtain ⟨v, r', rfl, h1, h2⟩ := r
    cases x with
    | str z =>
      have h' : (asStrs ts).map (z :: ·) = some zs := h
      cases ha : asStrs ts with
      | none => rw [ha] at h'; cases h'
      | some ys =>
        rw [ha] at h'
        cases h'
        have e : v = .str z := h1
        rw [e, asStrs_rep ha h2]; rfl
    | _ => exact (show False from by cases h).elim
theorem callS_join : CallS Γ (rM1 (fun x xs H Q => ∃ a p, ∃ ys : List Str, x = .str a ∧ xs = [.ref p] ∧ (SqL Γ.K H p (ys.map V.str) ∨ SqT Γ.K H p (ys.map V.str)) ∧ (ys.map (·.length)).sum + ys.length * a.length ≤ 16777216 ∧ Q (.str (Txt.join a ys)) H)) fJoin := by
  intro F H ts w vs Q hl hf hq
  have go : ∀ {a : Str} {ys : List T} {zs : List Str}, asStrs ys = some zs → (if joinOk a zs = true then some (T.str (Str.join a zs)) else none) = some w → (zs.map (·.length)).sum + zs.length * a.length ≤ 16777216 ∧ Q (.str (Txt.join a zs)) H := by
    intro a ys zs ha hf
    split at hf
    · rename_i hj
      cases hf
      refine ⟨of_decide_eq_true hj, hq _ ?_⟩
      rw [join_eq]
      exact rfl
    · cases hf
  match ts, hf with
  | [.str a, .lst ys], hf =>
    obtain ⟨v, r, rfl, rfl, v2, r2, rfl, ⟨p, us, rfl, h1, h2⟩, h3⟩ := hl
    cases h3
    have hf' : ((asStrs ys).bind fun zs => if joinOk a zs = true then some (T.str (Str.join a zs)) else none) = some w := hf
    cases ha : asStrs ys with
    | none => rw [ha] at hf'; cases hf'
    | some zs =>
      rw [ha] at hf'
      obtain ⟨q1, q2⟩ := go ha hf'
      exact ⟨a, p, zs, rfl, rfl, .inl (by rw [← asStrs_rep ha h2]; exact h1), q1, q2⟩
  | [.str a, .tup ys], hf =>
    obtain ⟨v, r, rfl, rfl, v2, r2, rfl, ⟨p, us, rfl, h1, h2⟩, h3⟩ := hl
    cases h3
    have hf' : ((asStrs ys).bind fun zs => if joinOk a zs = true then some (T.str (Str.join a zs)) else none) = some w := hf
    cases ha : asStrs ys with
    | none => rw [ha] at hf'; cases hf'
    | some zs =>
      rw [ha] at hf'
      obtain ⟨q1, q2⟩ := go ha hf'
      exact ⟨a, p, zs, rfl, rfl, .inr (by rw [← asStrs_rep ha h2]; exact h1), q1, q2⟩
theorem k_join {X : Cx} {K : PySem.W.Frag} {o e : Expr} {to te : TE} {apos pos : Pos} (hK : K = X.K) (ho : PE X o to) (he : PE X e te) (hs : starEach [e] X.env = [(false, eval e X.env)] := by rfl) (hbase : attributeBase o "join" X.env (eval o X.env) = eval o X.env := by rfl) (hline : (apos.endLine == pos.line) = true := by rfl) :
    PE X (.Call (.Attribute o "join" apos) [e] [] pos) (tM1 (fun x xs H Q => ∃ a p, ∃ ys : List Str, x = .str a ∧ xs = [.ref p] ∧ (SqL K H p (ys.map V.str) ∨ SqT K H p (ys.map V.str)) ∧
      (ys.map (·.length)).sum + ys.length * a.length ≤ 16777216 ∧ Q (.str (Txt.join a ys)) H) to te) := by
  subst hK
  exact pe_join ho he hs hbase hline
end
end TL
end
section
set_option Elab.async false
set_option linter.all false
set_option autoImplicit false
set_option maxRecDepth 100000
set_option maxHeartbeats 4000000
/-! S34: isinstance over instances -/
namespace TL
open PySem PySem.Spec L2
/-- what isinstance and == ask of the own classes cs -/
structure IsiK (K : PySem.W.Frag) (cl : Str → Addr) (cs : List Str) : Prop where
  cc : ∀ c ∈ cs, Cls K (cl c)
  ca : ∀ c ∈ cs, PySem.W.findIn K (.ref (cl c)) "__class__" = some (some (.builtin "object.__class__"))
  cn : PySem.W.specialIn K (.builtin "object.__class__") "__get__" = some (some (.builtin "getset_descriptor.__get__"))
  ct : PySem.W.takesIn K (.builtin "object.__class__") = some true
  cm : ∀ c ∈ cs, PySem.W.mroIn K (cl c) (.type "object") = some true
  ty : ∀ c ∈ cs, ∀ t ∈ tyNames, PySem.W.kitOne K (.ref (cl c)) (.type t) = some false
  lt : ∀ c ∈ cs, PySem.W.kitAny K (.ref (cl c)) [.type "list", .type "tuple"] = some false
  ob : ∀ c ∈ cs, ∀ t ∈ tyNames, PySem.W.kitOne K (.type t) (.ref (cl c)) = some false
  oo : ∀ c ∈ cs, ∀ c' ∈ cs, PySem.W.kitOne K (.ref (cl c')) (.ref (cl c)) = some (decide (c' = c))
  nf : ∀ c ∈ cs, ∀ t ∈ tyNames, PySem.W.notFirst K (cl c) (.type t) = true
  no : ∀ c ∈ cs, ∀ c' ∈ cs, PySem.W.notFirst K (cl c) (.ref (cl c')) = true
def isiB (K : PySem.W.Frag) (cl : Str → Addr) (cs : List Str) : Bool :=
  (cs.all fun c => decide (PySem.W.findIn K (.ref (cl c)) "__class__" = some (some (.builtin "object.__class__")))) &&
  decide (PySem.W.specialIn K (.builtin "object.__class__") "__get__" = some (some (.builtin "getset_descriptor.__get__"))) &&
  decide (PySem.W.takesIn K (.builtin "object.__class__") = some true) &&
  (cs.all fun c => decide (PySem.W.mroIn K (cl c) (.type "object") = some true)) &&
  (cs.all fun c => tyNames.all fun t => decide (PySem.W.kitOne K (.ref (cl c)) (.type t) = some false)) &&
  (cs.all fun c => decide (PySem.W.kitAny K (.ref (cl c)) [.type "list", .type "tuple"] = some false)) &&
  (cs.all fun c => tyNames.all fun t => decide (PySem.W.kitOne K (.type t) (.ref (cl c)) = some false)) &&
  (cs.all fun c => cs.all fun c' => decide (PySem.W.kitOne K (.ref (cl c')) (.ref (cl c)) = some (decide (c' = c)))) &&
  (cs.all fun c => tyNames.all fun t => PySem.W.notFirst K (cl c) (.type t)) &&
  (cs.all fun c => cs.all fun c' => PySem.W.notFirst K (cl c) (.ref (cl c')))
theorem isi_of {K : PySem.W.Frag} {cl : Str → Addr} {cs : List Str} (hc : ∀ c ∈ cs, Cls K (cl c)) (h : isiB K cl cs = true) : IsiK K cl cs := by
  unfold isiB at h
  simp only [Bool.and_eq_true, List.all_eq_true, decide_eq_true_eq] at h
  obtain ⟨⟨⟨⟨⟨⟨⟨⟨⟨h1, h2⟩, h3⟩, h4⟩, h5⟩, h6⟩, h7⟩, h8⟩, h9⟩, h10⟩ := h
  exact ⟨hc, h1, h2, h3, h4, h5, h6, h7, h8, h9, h10⟩
section
variable {Γ : Gm} {E : XK} {ms : List Md} {cs : List Str}
theorem tyU_ins (I : IsiK Γ.K Γ.cl cs) {F H : Hp} {c : Str} {fs : List (Str × T)} {v : V} (hF : Same F H) (h : Rep Γ F H (.ins c fs) v) (hc : c ∈ cs) : TyU Γ H v (.ref (Γ.cl c)) := by
  obtain ⟨a, dx, fv, rfl, h1, _, _⟩ := h
  exact .inl (.x (.base (.ins (hF _ _ h1) (I.cc c hc) (I.ca c hc) I.cn I.ct (I.cm c hc))))
theorem sim_isaI1 {p : Bool} {ta : TE} {ea : M T} {r : RC} {t : String} (I : IsiK Γ.K Γ.cl cs) (hk : KitOk t) (ht : t ∈ tyNames) (ha : SimE Γ E ms p ta ea r) : SimE Γ E ms p (tCB (rIsi1 Γ) (tCons ta (tCons (tC (.ty t)) tNil))) (isaI cs [t] ea) .fz := by
  intro W τ σ hs Q hF hp
  refine ha W τ σ hs _ hF (Pst.bind1 hp fun W1 x τ1 g1 hp1 vx h1 => ?_)
  have fh := h1.fr.fr.fb.trans h1.fr.fr.bh
  have old : Pst Γ E ms W1 σ hs true τ1 (fun W' w τ' => ∀ v, Has Γ W' ms τ' σ hs .fz w v → Q v W'.H) ((M.of (oIsA x [t])) τ1) → rIsi1 Γ [vx, .ty t] W1.H Q := by
    intro hp1
    unfold oIsA at hp1
    cases hn : tyName x with
    | none => rw [hn] at hp1; exact hp1.elim
    | some nm =>
      rw [hn] at hp1
      have hb := hk nm (tyName_mem hn)
      have e : ([t].any (isA1 nm)) = isA1 nm t := by simp
      have hp2 : Pst Γ E ms W1 σ hs true τ1 (fun W' w τ' => ∀ v, Has Γ W' ms τ' σ hs .fz w v → Q v W'.H) (.ok (.bl ([t].any (isA1 nm))) τ1) := hp1
      rw [e] at hp2
      exact ⟨vx, .ty t, _, _, _, rfl, .ty t, tyU_of fh h1.now hn, kit_ty hb, hp2 W1 Go.refl _ ⟨h1.fr, rfl⟩⟩
  cases x with
  | ins c fs =>
    have hp2 : Pst Γ E ms W1 σ hs true τ1 (fun W' w τ' => ∀ v, Has Γ W' ms τ' σ hs .fz w v → Q v W'.H) ((M.of (if c ∈ cs then some (T.bl false) else none) : M T) τ1) := hp1
    by_cases hc : c ∈ cs
    · rw [if_pos hc] at hp2
      exact ⟨vx, .ty t, _, _, _, rfl, .ty t, tyU_ins I fh h1.now hc, I.ty c hc t ht, hp2 W1 Go.refl _ ⟨h1.fr, rfl⟩⟩
    · rw [if_neg hc] at hp2; exact hp2.elim
  | _ => exact old hp1
theorem sim_isaI2 {p : Bool} {ta : TE} {ea : M T} {r : RC} (I : IsiK Γ.K Γ.cl cs) (hk : KitOk "list") (hk' : KitOk "tuple") (ha : SimE Γ E ms p ta ea r) : SimE Γ E ms p (tCB (rIsi2 Γ) (tCons ta (tCons (tTup (tCons (tC (.ty "list")) (tCons (tC (.ty "tuple")) tNil))) tNil))) (isaI cs ["list", "tuple"] ea) .fz := by
  intro W τ σ hs Q hF hp
  refine ha W τ σ hs _ hF (Pst.bind1 hp fun W1 x τ1 g1 hp1 vx h1 => ?_)
  have fr := h1.fr.fr
  have fh := fr.fb.trans fr.bh
  refine ⟨by show 2 ≤ sizeLine; decide, fun q hq => ?_⟩
  obtain ⟨l, fB⟩ := fr.newB (.tup [.ty "list", .ty "tuple"]) hq
  have sub : Same W1.H (upd W1.H q (.tup [.ty "list", .ty "tuple"])) := upd_sub hq
  have now2 := Rep.mono (Same.refl W1.F) x sub h1.now
  have old : Pst Γ E ms W1 σ hs true τ1 (fun W' w τ' => ∀ v, Has Γ W' ms τ' σ hs .fz w v → Q v W'.H) ((M.of (oIsA x ["list", "tuple"])) τ1) → rIsi2 Γ [vx, .ref q] (upd W1.H q (.tup [.ty "list", .ty "tuple"])) Q := by
    intro hp1
    unfold oIsA at hp1
    cases hn : tyName x with
    | none => rw [hn] at hp1; exact hp1.elim
    | some nm =>
      rw [hn] at hp1
      have hb := hk nm (tyName_mem hn)
      have hb' := hk' nm (tyName_mem hn)
      have e : (["list", "tuple"].any (isA1 nm)) = (isA1 nm "list" || isA1 nm "tuple") := by simp
      have hp2 : Pst Γ E ms W1 σ hs true τ1 (fun W' w τ' => ∀ v, Has Γ W' ms τ' σ hs .fz w v → Q v W'.H) (.ok (.bl (["list", "tuple"].any (isA1 nm))) τ1) := hp1
      rw [e] at hp2
      have hT := tyU_of (Γ := Γ) (fh.trans sub) now2 hn
      refine ⟨vx, q, _, .type nm, [.type "list", .type "tuple"], isA1 nm "list" || isA1 nm "tuple", rfl, upd_same, .cons (.ty _) (.cons (.ty _) .nil), hT, ?_, hp2 _ ⟨l, fun _ => ⟨sub, rfl⟩⟩ _ ⟨⟨fB, h1.fr.lt, h1.fr.lv⟩, rfl⟩⟩
      refine kitAny_cons (kit_ty hb) (fun e => kitAny_cons (kit_ty hb') (fun e2 => ?_) (fun e2 => ?_)) (fun e => ?_)
      · rw [e, e2]; exact kitAny_nil
      · rw [e, e2]; rfl
      · rw [e]; rfl
  cases x with
  | ins c fs =>
    have hp2 : Pst Γ E ms W1 σ hs true τ1 (fun W' w τ' => ∀ v, Has Γ W' ms τ' σ hs .fz w v → Q v W'.H) ((M.of (if c ∈ cs then some (T.bl false) else none) : M T) τ1) := hp1
    by_cases hc : c ∈ cs
    · rw [if_pos hc] at hp2
      exact ⟨vx, q, _, _, [.type "list", .type "tuple"], false, rfl, upd_same, .cons (.ty _) (.cons (.ty _) .nil), tyU_ins I (fh.trans sub) now2 hc, I.lt c hc, hp2 _ ⟨l, fun _ => ⟨sub, rfl⟩⟩ _ ⟨⟨fB, h1.fr.lt, h1.fr.lv⟩, rfl⟩⟩
    · rw [if_neg hc] at hp2; exact hp2.elim
  | _ => exact old hp1
theorem sim_isaO {p : Bool} {ta : TE} {ea : M T} {r : RC} {c : Str} (I : IsiK Γ.K Γ.cl cs) (hc : c ∈ cs) (ha : SimE Γ E ms p ta ea r) : SimE Γ E ms p (tCB (rIsi1 Γ) (tCons ta (tCons (tC (.ref (Γ.cl c))) tNil))) (isaO cs c ea) .fz := by
  intro W τ σ hs Q hF hp
  refine ha W τ σ hs _ hF (Pst.bind1 hp fun W1 x τ1 g1 hp1 vx h1 => ?_)
  have fh := h1.fr.fr.fb.trans h1.fr.fr.bh
  have old : Pst Γ E ms W1 σ hs true τ1 (fun W' w τ' => ∀ v, Has Γ W' ms τ' σ hs .fz w v → Q v W'.H) ((M.of ((tyName x).map fun _ => T.bl false)) τ1) → rIsi1 Γ [vx, .ref (Γ.cl c)] W1.H Q := by
    intro hp1
    cases hn : tyName x with
    | none => rw [hn] at hp1; exact hp1.elim
    | some nm =>
      rw [hn] at hp1
      exact ⟨vx, .ref (Γ.cl c), _, _, _, rfl, .own _, tyU_of fh h1.now hn, I.ob c hc nm (tyName_mem hn), hp1 W1 Go.refl _ ⟨h1.fr, rfl⟩⟩
  cases x with
  | ins c' fs =>
    have hp2 : Pst Γ E ms W1 σ hs true τ1 (fun W' w τ' => ∀ v, Has Γ W' ms τ' σ hs .fz w v → Q v W'.H) ((M.of (if c' ∈ cs then some (T.bl (decide (c' = c))) else none) : M T) τ1) := hp1
    by_cases hc' : c' ∈ cs
    · rw [if_pos hc'] at hp2
      exact ⟨vx, .ref (Γ.cl c), _, _, _, rfl, .own _, tyU_ins I fh h1.now hc', I.oo c hc c' hc', hp2 W1 Go.refl _ ⟨h1.fr, rfl⟩⟩
    · rw [if_neg hc'] at hp2; exact hp2.elim
  | _ => exact old hp1
end
end TL
end
section
set_option Elab.async false
set_option linter.all false
set_option autoImplicit false
set_option maxRecDepth 100000
set_option maxHeartbeats 4000000

namespace My
open PySem PySem.Spec L2 TL
abbrev gm (K : PySem.W.Frag) (w : World) : TL.Gm := ⟨K, He.ga K, w⟩
def topS (i : Nat) : Stmt := PySem.Challenge.pw_slipstold_k03_moves_by_index.main.body.getD i (.Pass ⟨0, 0, 0, 0⟩)
abbrev s__law_purse : Stmt := topS 16
abbrev N__law_purse : List Str := ["_law_script", "_law_cells", "_law_great", "_law_k", "_law_cell"]
abbrev P__law_purse : List Str := ["_law_script"]
theorem sc__law_purse : FnScope N__law_purse P__law_purse (defScope s__law_purse) := ⟨rfl, rfl, rfl, by decide +kernel, rfl, by decide +kernel, by decide +kernel⟩
abbrev s__law_draw : Stmt := topS 17
abbrev N__law_draw : List Str := ["_law_purse_here", "_law_many", "_law_at", "_law_rest", "_law_number"]
abbrev P__law_draw : List Str := ["_law_purse_here", "_law_many"]
theorem sc__law_draw : FnScope N__law_draw P__law_draw (defScope s__law_draw) := ⟨rfl, rfl, rfl, by decide +kernel, rfl, by decide +kernel, by decide +kernel⟩
abbrev s__law_name : Stmt := topS 18
abbrev N__law_name : List Str := ["_law_purse_here", "_law_word", "_law_k"]
abbrev P__law_name : List Str := ["_law_purse_here"]
theorem sc__law_name : FnScope N__law_name P__law_name (defScope s__law_name) := ⟨rfl, rfl, rfl, by decide +kernel, rfl, by decide +kernel, by decide +kernel⟩
abbrev s__law_names : Stmt := topS 19
abbrev N__law_names : List Str := ["_law_purse_here", "_law_many", "_law_plain", "_law_spelled", "_law_names_here", "_law_k", "_law_word", "_law_each"]
abbrev P__law_names : List Str := ["_law_purse_here", "_law_many"]
theorem sc__law_names : FnScope N__law_names P__law_names (defScope s__law_names) := ⟨rfl, rfl, rfl, by decide +kernel, rfl, by decide +kernel, by decide +kernel⟩
abbrev s__law_reached : Stmt := topS 20
abbrev N__law_reached : List Str := ["_law_start", "_law_moves", "_law_found", "_law_again", "_law_pair"]
abbrev P__law_reached : List Str := ["_law_start", "_law_moves"]
theorem sc__law_reached : FnScope N__law_reached P__law_reached (defScope s__law_reached) := ⟨rfl, rfl, rfl, by decide +kernel, rfl, by decide +kernel, by decide +kernel⟩
abbrev s__law_parts : Stmt := topS 21
abbrev N__law_parts : List Str := ["_law_purse_here", "_law_most", "_law_width", "_law_tokens", "_law_states_here", "_law_sparse", "_law_moves", "_law_state", "_law_token", "_law_finals", "_law_found", "_law_goal"]
abbrev P__law_parts : List Str := ["_law_purse_here", "_law_most", "_law_width"]
theorem sc__law_parts : FnScope N__law_parts P__law_parts (defScope s__law_parts) := ⟨rfl, rfl, rfl, by decide +kernel, rfl, by decide +kernel, by decide +kernel⟩
abbrev s__law_states : Stmt := topS 22
abbrev N__law_states : List Str := ["_law_parts_here", "_law_found", "_law_state", "_law_pair"]
abbrev P__law_states : List Str := ["_law_parts_here"]
theorem sc__law_states : FnScope N__law_states P__law_states (defScope s__law_states) := ⟨rfl, rfl, rfl, by decide +kernel, rfl, by decide +kernel, by decide +kernel⟩
abbrev s_is_items : Stmt := topS 5
abbrev N_is_items : List Str := ["value"]
abbrev P_is_items : List Str := ["value"]
theorem sc_is_items : FnScope N_is_items P_is_items (defScope s_is_items) := ⟨rfl, rfl, rfl, by decide +kernel, rfl, by decide +kernel, by decide +kernel⟩
abbrev s_is_name : Stmt := topS 6
abbrev N_is_name : List Str := ["value", "letter"]
abbrev P_is_name : List Str := ["value"]
theorem sc_is_name : FnScope N_is_name P_is_name (defScope s_is_name) := ⟨rfl, rfl, rfl, by decide +kernel, rfl, by decide +kernel, by decide +kernel⟩
abbrev s_are_names : Stmt := topS 7
abbrev N_are_names : List Str := ["value", "most", "k", "item"]
abbrev P_are_names : List Str := ["value", "most"]
theorem sc_are_names : FnScope N_are_names P_are_names (defScope s_are_names) := ⟨rfl, rfl, rfl, by decide +kernel, rfl, by decide +kernel, by decide +kernel⟩
abbrev s_are_moves : Stmt := topS 10
abbrev N_are_moves : List Str := ["moves", "tokens", "pair"]
abbrev P_are_moves : List Str := ["moves", "tokens"]
theorem sc_are_moves : FnScope N_are_moves P_are_moves (defScope s_are_moves) := ⟨rfl, rfl, rfl, by decide +kernel, rfl, by decide +kernel, by decide +kernel⟩
abbrev s_leading : Stmt := topS 11
abbrev N_leading : List Str := ["goals", "edges", "found", "k", "pair"]
abbrev P_leading : List Str := ["goals", "edges"]
theorem sc_leading : FnScope N_leading P_leading (defScope s_leading) := ⟨rfl, rfl, rfl, by decide +kernel, rfl, by decide +kernel, by decide +kernel⟩
abbrev s_Machine___init__ : Stmt := inClass (topS 12) 0
abbrev N_Machine___init__ : List Str := ["self", "tokens", "start", "moves", "finals", "pair", "names"]
abbrev P_Machine___init__ : List Str := ["self", "tokens", "start", "moves", "finals"]
theorem sc_Machine___init__ : FnScope N_Machine___init__ P_Machine___init__ (defScope s_Machine___init__) := ⟨rfl, rfl, rfl, by decide +kernel, rfl, by decide +kernel, by decide +kernel⟩
abbrev s__law_copy : Stmt := topS 23
abbrev N__law_copy : List Str := ["_law_moves", "_law_found", "_law_pair"]
abbrev P__law_copy : List Str := ["_law_moves"]
theorem sc__law_copy : FnScope N__law_copy P__law_copy (defScope s__law_copy) := ⟨rfl, rfl, rfl, by decide +kernel, rfl, by decide +kernel, by decide +kernel⟩
abbrev s__law_fresh : Stmt := topS 25
abbrev N__law_fresh : List Str := ["_law_taken", "_law_names_here", "_law_name_here"]
abbrev P__law_fresh : List Str := ["_law_taken"]
theorem sc__law_fresh : FnScope N__law_fresh P__law_fresh (defScope s__law_fresh) := ⟨rfl, rfl, rfl, by decide +kernel, rfl, by decide +kernel, by decide +kernel⟩
abbrev s__law_same : Stmt := topS 26
abbrev N__law_same : List Str := ["_law_actual", "_law_due", "_law_k", "_law_key"]
abbrev P__law_same : List Str := ["_law_actual", "_law_due"]
theorem sc__law_same : FnScope N__law_same P__law_same (defScope s__law_same) := ⟨rfl, rfl, rfl, by decide +kernel, rfl, by decide +kernel, by decide +kernel⟩
abbrev s_Machine___getitem__ : Stmt := inClass (topS 12) 6
abbrev N_Machine___getitem__ : List Str := ["self", "at"]
abbrev P_Machine___getitem__ : List Str := ["self", "at"]
theorem sc_Machine___getitem__ : FnScope N_Machine___getitem__ P_Machine___getitem__ (defScope s_Machine___getitem__) := ⟨rfl, rfl, rfl, by decide +kernel, rfl, by decide +kernel, by decide +kernel⟩
abbrev s__law_strange : Stmt := topS 27
abbrev N__law_strange : List Str := ["_law_purse_here", "_law_token", "_law_deep", "_law_k", "_law_things"]
abbrev P__law_strange : List Str := ["_law_purse_here", "_law_token"]
theorem sc__law_strange : FnScope N__law_strange P__law_strange (defScope s__law_strange) := ⟨rfl, rfl, rfl, by decide +kernel, rfl, by decide +kernel, by decide +kernel⟩
abbrev s_law : Stmt := topS 28
abbrev N_law : List Str := ["_law_script", "_law_purse_here", "_law_parts_here", "_law_states_here", "_law_machine", "_law_state", "_law_token", "_law_k", "_law_thing", "_law_at"]
abbrev P_law : List Str := ["_law_script"]
theorem sc_law : FnScope N_law P_law (defScope s_law) := ⟨rfl, rfl, rfl, by decide +kernel, rfl, by decide +kernel, by decide +kernel⟩
structure Bs (K : PySem.W.Frag) (mg : Str → Option Value) : Prop where
  b_abs : mg "abs" = none
  b_all : mg "all" = none
  b_bool : mg "bool" = none
  b_dict : mg "dict" = none
  b_enumerate : mg "enumerate" = none
  b_int : mg "int" = none
  b_isinstance : mg "isinstance" = none
  b_len : mg "len" = none
  b_list : mg "list" = none
  b_range : mg "range" = none
  b_set : mg "set" = none
  b_sorted : mg "sorted" = none
  b_str : mg "str" = none
  b_tuple : mg "tuple" = none
  x_LETTERS : ∃ u, mg "LETTERS" = some u ∧ RelV (.str "abcdefghijklmnopqrstuvwxyz") u
  x_MOST_TOKENS : ∃ u, mg "MOST_TOKENS" = some u ∧ RelV (.int 2000) u
  k_Machine : Cls K (He.ga K "Machine")
  n_Machine_alphabet : NoAttr K (He.ga K "Machine") "alphabet"
  n_Machine_origin : NoAttr K (He.ga K "Machine") "origin"
  n_Machine_edges : NoAttr K (He.ga K "Machine") "edges"
  n_Machine_ending : NoAttr K (He.ga K "Machine") "ending"
  n_Machine_places : NoAttr K (He.ga K "Machine") "places"
  c_Machine : ∃ u, mg "Machine" = some u ∧ RelV (.ref (He.ga K "Machine")) u
  isi : TL.IsiK K (He.ga K) ["Machine"]
section
variable {P : Program} {w : World} {K : PySem.W.Frag} {mg : Str → Option Value} {base : Heap}
theorem ok__law_purse {f : Addr} {fd : FuncData} {k : Nat} (F : L2.Fun K "_law_purse" "_law_purse" s__law_purse f fd) (g : mg "_law_purse" = some (.ref f)) (B : Bs K mg)  : C8.Cal P w K mg base (k + 1) "_law_purse" (spT (gm K w) [.sh] ((.own 2)) f__law_purse) [] := by
  refine calT F g sc__law_purse (F.binds (ps := P__law_purse) fun _ _ _ _ _ _ us hl => match us, hl with | [_], _ => rfl) rfl fun cdv A outer s H Q E vs hr h => ?_
  refine ⟨_, (pss_cons (ps_setLc (i := 1) (own := [("_law_cell", 4)]) rfl sc__law_purse.nd rfl rfl (sw_true rfl rfl rfl (by decide +kernel)) (piU (Γ := gm K w) rfl rfl (pe_slice (k_slq K) (pv 0) po_none (po_some pe_int))) (blkOk_by (own := [("_law_cell", 4)]) (N := N__law_purse) (sc := defScope s__law_purse) (by decide +kernel)) (fun _ _ _ _ _ => (pg_name (i := 4) sc__law_purse.nd rfl (.inl rfl))) (fun _ _ _ _ _ => pts_nil) (fun _ _ _ _ _ => (pe_callTy c_int1 rfl B.b_int (by decide +kernel) (pa_cons (pv 4) pa_nil))))
      (pss_cons (ps_if (pt_cmpR (opU_eq (Γ := gm K w) rfl (uu64 hr)) (pe_callB (lenU (Γ := gm K w) rfl) rfl B.b_len (by decide +kernel) (pa_cons (pv 1) pa_nil)) pe_int (by rfl)) (pss_one (ps_set (i := 1) sc__law_purse.nd rfl (.inl rfl) (pe_lst (pa_cons pe_int pa_nil)))) pss_nil)
      (pss_cons (ps_setLc (i := 2) (own := [("_law_cell", 4)]) rfl sc__law_purse.nd rfl rfl (sw_true rfl rfl rfl (by decide +kernel)) (piU (Γ := gm K w) rfl rfl (pv 1)) (blkOk_by (own := [("_law_cell", 4)]) (N := N__law_purse) (sc := defScope s__law_purse) (by decide +kernel)) (fun _ _ _ _ _ => (pg_name (i := 4) sc__law_purse.nd rfl (.inl rfl))) (fun _ _ _ _ _ => pts_nil) (fun _ _ _ _ _ => (pe_callB c_abs rfl B.b_abs (by decide +kernel) (pa_cons (pv 4) pa_nil))))
      (pss_cons (ps_for PassesOwn.never rfl (pi_range1 rfl B.b_range (pa_cons (pe_callB (lenU (Γ := gm K w) rfl) rfl B.b_len (by decide +kernel) (pa_cons (pv 2) pa_nil)) pa_nil)) (pg_name (i := 3) sc__law_purse.nd rfl (.inl rfl))
      (pss_one (ps_if (pt_cmpR op_lt (pe_ix (ixU (Γ := gm K w) (uu9 hr) rfl rfl) (pv 2) (pv 3) (fun _ _ => rfl)) (pe_op op_pow pe_int pe_int) (by rfl)) (pss_one (ps_asg pe_int (pg_sub (pv 2) (pv 3) (setU (Γ := gm K w) (uu9 hr) rfl rfl)))) pss_nil)))
      (pss_one (ps_ret (pe_lst (pa_cons (pv 1) (pa_cons (pv 2) (pa_cons pe_int pa_nil)))))))))), ?_⟩
  exact body_sim (Γ := gm K w) (pms := [.sh]) (lms := [(.own 1), (.own 1), (.own 0), (.own 0)]) (rr := (.own 2)) (s := st__law_purse) (sim_seq (sim_set (sim_lc (by decide) (sim_iU (SimE.frz (sim_sl_imm (sim_var (r := .sh) rfl True.intro (fun _ h => nomatch h)) sim_nopart (sim_part (sim_c Rep0.int)) True.intro)) (.inr rfl)) (sim_gvname (by decide) rfl True.intro (.inr rfl)) put_ne sim_yes (SimE.fz0 (sim_cb callS_int (sim_cons (sim_var (r := .fz) rfl True.intro (fun _ h => nomatch h)) sim_nil True.intro) True.intro))) rfl rfl)
      (sim_seq (sim_ifS (sim_test (sim_op opS_eq (sim_cb callS_len (sim_cons (sim_var (r := .now) rfl True.intro (fun _ h => nomatch h)) sim_nil rfl) True.intro) (sim_c Rep0.int) True.intro)) (sim_set (sim_lst (sim_cons (sim_c Rep0.int) sim_nil True.intro) (by simp [All])) rfl rfl) sim_next)
      (sim_seq (sim_set (sim_lcO (n0 := 0) rfl rfl (by decide) (sim_gvname (by decide) rfl True.intro (.inr rfl)) put_ne sim_yes (SimE.fz0 (sim_cb callS_abs (sim_cons (sim_var (r := .fz) rfl True.intro (fun _ h => nomatch h)) sim_nil True.intro) True.intro))) rfl rfl)
      (sim_seq (sim_for (sim_range1 (r := .fz) (sim_cons (sim_cb callS_len (sim_cons (sim_var (r := .now) rfl True.intro (fun _ h => nomatch h)) sim_nil rfl) True.intro) sim_nil True.intro) True.intro) (sim_gname rfl True.intro (.inr rfl)) (sim_ifS (sim_test (sim_op opS_lt (sim_el elS_get (sim_var (r := .now) rfl True.intro (fun _ h => nomatch h)) (sim_var (r := .fz) rfl True.intro (fun _ h => nomatch h)) rfl) (sim_op opS_pow (sim_c Rep0.int) (sim_c Rep0.int) True.intro) rfl)) (sim_set1 rfl rfl rfl (sim_c Rep0.int) (sim_var (r := .fz) rfl True.intro (fun _ h => nomatch h))) sim_next) put_ne)
      (sim_ret (sim_lstO (sim_consO (sim_mv rfl) (sim_consO (sim_mv rfl) (sim_consO (SimE.scal 1 (sim_c Rep0.int)) sim_nilO))))))))) True.intro rfl h
theorem ok__law_draw {f : Addr} {fd : FuncData} {k : Nat} (F : L2.Fun K "_law_draw" "_law_draw" s__law_draw f fd) (g : mg "_law_draw" = some (.ref f)) (B : Bs K mg)  : C8.Cal P w K mg base (k + 1) "_law_draw" (spT (gm K w) [(.lent 2), .sh] (.fz) f__law_draw) [] := by
  refine calT F g sc__law_draw (F.binds (ps := P__law_draw) fun _ _ _ _ _ _ us hl => match us, hl with | [_, _], _ => rfl) rfl fun cdv A outer s H Q E vs hr h => ?_
  refine ⟨_, (pss_cons (ps_asg (pe_op opU_add (pe_ix (ixU (Γ := gm K w) (uu9 hr) rfl rfl) (pv 0) pe_int (fun _ _ => rfl)) pe_int) (pg_sub (pv 0) pe_int (setU (Γ := gm K w) (uu9 hr) rfl rfl)))
      (pss_cons (ps_set (i := 2) sc__law_draw.nd rfl (.inl rfl) (pe_op op_mod (pe_callTy c_int1 rfl B.b_int (by decide +kernel) (pa_cons (pe_ix (ixU (Γ := gm K w) (uu9 hr) rfl rfl) (pv 0) pe_int (fun _ _ => rfl)) pa_nil)) (pe_callB (lenU (Γ := gm K w) rfl) rfl B.b_len (by decide +kernel) (pa_cons (pe_ix (ixU (Γ := gm K w) (uu9 hr) rfl rfl) (pv 0) pe_int (fun _ _ => rfl)) pa_nil))))
      (pss_cons (ps_set (i := 3) sc__law_draw.nd rfl (.inl rfl) (pe_ix (ixU (Γ := gm K w) (uu9 hr) rfl rfl) (pe_ix (ixU (Γ := gm K w) (uu9 hr) rfl rfl) (pv 0) pe_int (fun _ _ => rfl)) (pv 2) (fun _ _ => rfl)))
      (pss_cons (ps_if (pt_cmpR op_gt (pv 3) pe_int (by rfl)) (pss_cons (ps_asg (pe_op op_fdiv (pv 3) (pv 1)) (pg_sub (pe_ix (ixU (Γ := gm K w) (uu9 hr) rfl rfl) (pv 0) pe_int (fun _ _ => rfl)) (pv 2) (setU (Γ := gm K w) (uu9 hr) rfl rfl)))
      (pss_one (ps_ret (pe_op op_mod (pe_callTy c_int1 rfl B.b_int (by decide +kernel) (pa_cons (pv 3) pa_nil)) (pv 1))))) pss_nil)
      (pss_cons (ps_set (i := 4) sc__law_draw.nd rfl (.inl rfl) (pe_op opU_add (pe_op opU_add (pe_op op_mod (pe_callTy c_int1 rfl B.b_int (by decide +kernel) (pa_cons (pe_ix (ixU (Γ := gm K w) (uu9 hr) rfl rfl) (pe_ix (ixU (Γ := gm K w) (uu9 hr) rfl rfl) (pv 0) pe_int (fun _ _ => rfl)) (pv 2) (fun _ _ => rfl)) pa_nil)) pe_int) (pe_op op_mul pe_int (pe_ix (ixU (Γ := gm K w) (uu9 hr) rfl rfl) (pv 0) pe_int (fun _ _ => rfl)))) pe_int))
      (pss_cons (ps_set (i := 4) sc__law_draw.nd rfl (.inl rfl) (pe_op op_mod (pe_callTy c_int1 rfl B.b_int (by decide +kernel) (pa_cons (pe_op op_mul (pv 4) pe_int) pa_nil)) pe_int))
      (pss_cons (ps_set (i := 4) sc__law_draw.nd rfl (.inl rfl) (pe_op op_mod (pe_callTy c_int1 rfl B.b_int (by decide +kernel) (pa_cons (pe_op op_mul (pv 4) (pe_op opU_add (pe_op op_fdiv (pv 4) pe_int) pe_int)) pa_nil)) pe_int))
      (pss_cons (ps_set (i := 4) sc__law_draw.nd rfl (.inl rfl) (pe_op op_mod (pe_callTy c_int1 rfl B.b_int (by decide +kernel) (pa_cons (pe_op op_mul (pv 4) (pe_op opU_add (pe_op op_fdiv (pv 4) pe_int) pe_int)) pa_nil)) pe_int))
      (pss_one (ps_ret (pe_op op_mod (pe_callTy c_int1 rfl B.b_int (by decide +kernel) (pa_cons (pe_op op_fdiv (pv 4) pe_int) pa_nil)) (pv 1)))))))))))), ?_⟩
  exact body_sim (Γ := gm K w) (pms := [(.lent 2), .sh]) (lms := [(.own 0), (.own 0), (.own 0)]) (rr := .fz) (s := st__law_draw) (sim_seq (sim_setL rfl rfl (SimE.scal 1 (sim_op opS_add (sim_el elS_get (sim_var (r := .now) rfl True.intro (fun _ h => nomatch h)) (sim_c Rep0.int) rfl) (sim_c Rep0.int) rfl)) (sim_c Rep0.int))
      (sim_seq (sim_set (sim_op opS_mod (sim_cb callS_int (sim_cons (sim_el elS_get (sim_var (r := .now) rfl True.intro (fun _ h => nomatch h)) (sim_c Rep0.int) rfl) sim_nil rfl) True.intro) (sim_cb callS_len (sim_cons (sim_el elS_get (sim_var (r := .now) rfl True.intro (fun _ h => nomatch h)) (sim_c Rep0.int) rfl) sim_nil rfl) True.intro) True.intro) rfl True.intro)
      (sim_seq (sim_set (SimE.imm (sim_el elS_get (sim_el elS_get (sim_var (r := .now) rfl True.intro (fun _ h => nomatch h)) (sim_c Rep0.int) rfl) (sim_var (r := .fz) rfl True.intro (fun _ h => nomatch h)) rfl)) rfl True.intro)
      (sim_seq (sim_ifS (sim_test (sim_op opS_gt (sim_var (r := .fz) rfl True.intro (fun _ h => nomatch h)) (sim_c Rep0.int) True.intro)) (sim_seq (sim_set2 rfl rfl (SimE.fz0 (sim_op opS_div (sim_var (r := .fz) rfl True.intro (fun _ h => nomatch h)) (sim_var (r := .sh) rfl True.intro (fun _ h => nomatch h)) True.intro)) (sim_c Rep0.int) (sim_var (r := .fz) rfl True.intro (fun _ h => nomatch h)))
      (sim_ret (sim_op opS_mod (sim_cb callS_int (sim_cons (sim_var (r := .fz) rfl True.intro (fun _ h => nomatch h)) sim_nil True.intro) True.intro) (sim_var (r := .sh) rfl True.intro (fun _ h => nomatch h)) True.intro))) sim_next)
      (sim_seq (sim_set (sim_op opS_add (sim_op opS_add (sim_op opS_mod (sim_cb callS_int (sim_cons (sim_el elS_get (sim_el elS_get (sim_var (r := .now) rfl True.intro (fun _ h => nomatch h)) (sim_c Rep0.int) rfl) (sim_var (r := .fz) rfl True.intro (fun _ h => nomatch h)) rfl) sim_nil rfl) True.intro) (sim_c Rep0.int) True.intro) (sim_op opS_mul (sim_c Rep0.int) (sim_el elS_get (sim_var (r := .now) rfl True.intro (fun _ h => nomatch h)) (sim_c Rep0.int) rfl) True.intro) True.intro) (sim_c Rep0.int) True.intro) rfl True.intro)
      (sim_seq (sim_set (sim_op opS_mod (sim_cb callS_int (sim_cons (sim_op opS_mul (sim_var (r := .fz) rfl True.intro (fun _ h => nomatch h)) (sim_c Rep0.int) True.intro) sim_nil True.intro) True.intro) (sim_c Rep0.int) True.intro) rfl True.intro)
      (sim_seq (sim_set (sim_op opS_mod (sim_cb callS_int (sim_cons (sim_op opS_mul (sim_var (r := .fz) rfl True.intro (fun _ h => nomatch h)) (sim_op opS_add (sim_op opS_div (sim_var (r := .fz) rfl True.intro (fun _ h => nomatch h)) (sim_c Rep0.int) True.intro) (sim_c Rep0.int) True.intro) True.intro) sim_nil True.intro) True.intro) (sim_c Rep0.int) True.intro) rfl True.intro)
      (sim_seq (sim_set (sim_op opS_mod (sim_cb callS_int (sim_cons (sim_op opS_mul (sim_var (r := .fz) rfl True.intro (fun _ h => nomatch h)) (sim_op opS_add (sim_op opS_div (sim_var (r := .fz) rfl True.intro (fun _ h => nomatch h)) (sim_c Rep0.int) True.intro) (sim_c Rep0.int) True.intro) True.intro) sim_nil True.intro) True.intro) (sim_c Rep0.int) True.intro) rfl True.intro)
      (sim_ret (sim_op opS_mod (sim_cb callS_int (sim_cons (sim_op opS_div (sim_var (r := .fz) rfl True.intro (fun _ h => nomatch h)) (sim_c Rep0.int) True.intro) sim_nil True.intro) True.intro) (sim_var (r := .sh) rfl True.intro (fun _ h => nomatch h)) True.intro)))))))))) True.intro rfl h
theorem ok__law_name {f : Addr} {fd : FuncData} {k : Nat} (F : L2.Fun K "_law_name" "_law_name" s__law_name f fd) (g : mg "_law_name" = some (.ref f)) (B : Bs K mg) (c__law_draw : C8.Cal P w K mg base k "_law_draw" (spT (gm K w) [(.lent 2), .sh] (.fz) f__law_draw) []) : C8.Cal P w K mg base (k + 1) "_law_name" (spT (gm K w) [(.lent 2)] (.fz) f__law_name) [] := by
  refine calT F g sc__law_name (F.binds (ps := P__law_name) fun _ _ _ _ _ _ us hl => match us, hl with | [_], _ => rfl) rfl fun cdv A outer s H Q E vs hr h => ?_
  refine ⟨_, (pss_cons (ps_set (i := 1) sc__law_name.nd rfl (.inl rfl) pe_str)
      (pss_cons (ps_for PassesOwn.never rfl (pi_range1 rfl B.b_range (pa_cons (pe_op opU_add pe_int (C8.pe_c c__law_draw hr (by omega) rfl (pa_cons (pv 0) (pa_cons pe_int pa_nil)))) pa_nil)) (pg_name (i := 2) sc__law_name.nd rfl (.inl rfl))
      (pss_one (ps_set (i := 1) sc__law_name.nd rfl (.inl rfl) (pe_op opU_add (pv 1) (pe_ix (ixU (Γ := gm K w) (uu9 hr) rfl rfl) pe_str (C8.pe_c c__law_draw hr (by omega) rfl (pa_cons (pv 0) (pa_cons pe_int pa_nil))) (fun _ _ => rfl))))))
      (pss_one (ps_ret (pv 1))))), ?_⟩
  exact body_sim (Γ := gm K w) (pms := [(.lent 2)]) (lms := [(.own 0), (.own 0)]) (rr := .fz) (s := st__law_name) (sim_seq (sim_set (sim_c Rep0.str) rfl True.intro)
      (sim_seq (sim_for (sim_range1 (r := .fz) (sim_cons (sim_op opS_add (sim_c Rep0.int) (sim_callL (rr := .fz) (p1 := []) (p2 := [.sh]) (c1 := []) (c2 := [.fz]) (n := 2) (i := 0) (sim_consS rfl (sim_cons (sim_c Rep0.int) sim_nil True.intro)) rfl rfl rfl rfl (by simp [TL.Args, TL.Arg]) (by simp [TL.Args, TL.Arg]) (noNow_of (by decide)) hlen_of hlen_ex True.intro) True.intro) sim_nil True.intro) True.intro) (sim_gname rfl True.intro (.inr rfl)) (sim_set (sim_op opS_add (sim_var (r := .fz) rfl True.intro (fun _ h => nomatch h)) (sim_el elS_get (sim_c Rep0.str) (sim_callL (rr := .fz) (p1 := []) (p2 := [.sh]) (c1 := []) (c2 := [.fz]) (n := 2) (i := 0) (sim_consS rfl (sim_cons (sim_c Rep0.int) sim_nil True.intro)) rfl rfl rfl rfl (by simp [TL.Args, TL.Arg]) (by simp [TL.Args, TL.Arg]) (noNow_of (by decide)) hlen_of hlen_ex True.intro) True.intro) True.intro) rfl True.intro) put_ne)
      (sim_ret (sim_var (r := .fz) rfl True.intro (fun _ h => nomatch h))))) True.intro rfl h
theorem ok__law_names {f : Addr} {fd : FuncData} {k : Nat} (F : L2.Fun K "_law_names" "_law_names" s__law_names f fd) (g : mg "_law_names" = some (.ref f)) (B : Bs K mg) (c__law_draw : C8.Cal P w K mg base k "_law_draw" (spT (gm K w) [(.lent 2), .sh] (.fz) f__law_draw) []) (c__law_name : C8.Cal P w K mg base k "_law_name" (spT (gm K w) [(.lent 2)] (.fz) f__law_name) []) : C8.Cal P w K mg base (k + 1) "_law_names" (spT (gm K w) [(.lent 2), .sh] (.fz) f__law_names) [] := by
  refine calT F g sc__law_names (F.binds (ps := P__law_names) fun _ _ _ _ _ _ us hl => match us, hl with | [_, _], _ => rfl) rfl fun cdv A outer s H Q E vs hr h => ?_
  refine ⟨_, (pss_cons (ps_set (i := 2) sc__law_names.nd rfl (.inl rfl) (pe_lst (pa_cons pe_str (pa_cons pe_str (pa_cons pe_str (pa_cons pe_str (pa_cons pe_str (pa_cons pe_str (pa_cons pe_str (pa_cons pe_str (pa_cons pe_str (pa_cons pe_str pa_nil))))))))))))
      (pss_cons (ps_set (i := 3) sc__law_names.nd rfl (.inl rfl) (pe_cmpR (opU_eq (Γ := gm K w) rfl (uu64 hr)) (C8.pe_c c__law_draw hr (by omega) rfl (pa_cons (pv 0) (pa_cons pe_int pa_nil))) pe_int (by rfl)))
      (pss_cons (ps_set (i := 4) sc__law_names.nd rfl (.inr rfl) (pe_lst pa_nil))
      (pss_cons (ps_for PassesOwn.never rfl (pi_range1 rfl B.b_range (pa_cons (pv 1) pa_nil)) (pg_name (i := 5) sc__law_names.nd rfl (.inl rfl))
      (pss_cons (ps_set (i := 6) sc__law_names.nd rfl (.inl rfl) (pe_ix (ixU (Γ := gm K w) (uu9 hr) rfl rfl) (pv 2) (C8.pe_c c__law_draw hr (by omega) rfl (pa_cons (pv 0) (pa_cons pe_int pa_nil))) (fun _ _ => rfl)))
      (pss_cons (ps_if (pt_val (pv 3)) (pss_one (ps_set (i := 6) sc__law_names.nd rfl (.inl rfl) (C8.pe_c c__law_name hr (by omega) rfl (pa_cons (pv 0) pa_nil)))) pss_nil)
      (pss_cons (ps_if (pt_cmpR (opU_in (Γ := gm K w) (uu9 hr) rfl rfl) (pv 6) (pv 4) (by rfl)) (pss_one (ps_set (i := 6) sc__law_names.nd rfl (.inl rfl) (pe_ix (ixU (Γ := gm K w) (uu9 hr) rfl rfl) (pe_lc (own := [("_law_each", 7)]) rfl sc__law_names.nd (piU (Γ := gm K w) rfl rfl (pv 2)) (blkOk_by (own := [("_law_each", 7)]) (N := N__law_names) (sc := defScope s__law_names) (by decide +kernel)) (fun _ _ _ _ _ => (pg_name (i := 7) sc__law_names.nd rfl (.inl rfl))) (fun _ _ _ _ _ => (pts_one (pt_cmpR (opU_notIn (Γ := gm K w) (uu9 hr) rfl rfl) (pv 7) (pv 4) (by rfl)))) (fun _ _ _ _ _ => (pv 7))) pe_int (fun _ _ => rfl)))) pss_nil)
      (pss_one (ps_expr (k_bm K PySem.F.plainAttrs_list PySem.F.slot_list_append PySem.F.type_list_append mt_append (pv 4) (pa_cons (pv 6) pa_nil))))))))
      (pss_one (ps_ret (pv 4))))))), ?_⟩
  exact body_sim (Γ := gm K w) (pms := [(.lent 2), .sh]) (lms := [(.own 0), (.own 0), (.own 1), (.own 0), (.own 0), (.own 0)]) (rr := .fz) (s := st__law_names) (sim_seq (sim_set (SimE.frz (sim_lst (sim_cons (sim_c Rep0.str) (sim_cons (sim_c Rep0.str) (sim_cons (sim_c Rep0.str) (sim_cons (sim_c Rep0.str) (sim_cons (sim_c Rep0.str) (sim_cons (sim_c Rep0.str) (sim_cons (sim_c Rep0.str) (sim_cons (sim_c Rep0.str) (sim_cons (sim_c Rep0.str) (sim_cons (sim_c Rep0.str) sim_nil True.intro) True.intro) True.intro) True.intro) True.intro) True.intro) True.intro) True.intro) True.intro) True.intro) (by simp [All]))) rfl True.intro)
      (sim_seq (sim_set (sim_op opS_eq (sim_callL (rr := .fz) (p1 := []) (p2 := [.sh]) (c1 := []) (c2 := [.fz]) (n := 2) (i := 0) (sim_consS rfl (sim_cons (sim_c Rep0.int) sim_nil True.intro)) rfl rfl rfl rfl (by simp [TL.Args, TL.Arg]) (by simp [TL.Args, TL.Arg]) (noNow_of (by decide)) hlen_of hlen_ex True.intro) (sim_c Rep0.int) True.intro) rfl True.intro)
      (sim_seq (sim_set (sim_lst sim_nil (by simp [All])) rfl rfl)
      (sim_seq (sim_for (sim_range1 (r := .fz) (sim_cons (sim_var (r := .sh) rfl True.intro (fun _ h => nomatch h)) sim_nil True.intro) True.intro) (sim_gname rfl True.intro (.inr rfl)) (sim_seq (sim_set (sim_el elS_get (sim_var (r := .fz) rfl True.intro (fun _ h => nomatch h)) (sim_callL (rr := .fz) (p1 := []) (p2 := [.sh]) (c1 := []) (c2 := [.fz]) (n := 2) (i := 0) (sim_consS rfl (sim_cons (sim_c Rep0.int) sim_nil True.intro)) rfl rfl rfl rfl (by simp [TL.Args, TL.Arg]) (by simp [TL.Args, TL.Arg]) (noNow_of (by decide)) hlen_of hlen_ex True.intro) True.intro) rfl True.intro)
      (sim_seq (sim_ifS (sim_tB (sim_var (r := .fz) rfl True.intro (fun _ h => nomatch h))) (sim_set (sim_callL (rr := .fz) (p1 := []) (p2 := []) (c1 := []) (c2 := []) (n := 2) (i := 0) (sim_consS rfl sim_nil) rfl rfl rfl rfl (by simp [TL.Args, TL.Arg]) (by simp [TL.Args, TL.Arg]) (noNow_of (by decide)) hlen_of hlen_ex True.intro) rfl True.intro) sim_next)
      (sim_seq (sim_ifS (sim_test (sim_op opS_in (sim_var (r := .fz) rfl True.intro (fun _ h => nomatch h)) (sim_var (r := .now) rfl True.intro (fun _ h => nomatch h)) True.intro)) (sim_set (sim_el elS_get (SimE.frz (sim_lc (by decide) (sim_iU (sim_var (r := .fz) rfl True.intro (fun _ h => nomatch h)) (.inr rfl)) (sim_gvname (by decide) rfl True.intro (.inr rfl)) put_ne (sim_test (sim_op opS_notIn (sim_var (r := .fz) rfl True.intro (fun _ h => nomatch h)) (sim_var (r := .now) rfl True.intro (fun _ h => nomatch h)) True.intro)) (SimE.fz0 (sim_var (r := .fz) rfl True.intro (fun _ h => nomatch h))))) (sim_c Rep0.int) True.intro) rfl True.intro) sim_next)
      (sim_drop (sim_append rfl rfl (SimE.fz0 (sim_var (r := .fz) rfl True.intro (fun _ h => nomatch h)))))))) put_ne)
      (sim_ret (SimE.frz (sim_mv rfl))))))) True.intro rfl h
theorem ok__law_reached {f : Addr} {fd : FuncData} {k : Nat} (F : L2.Fun K "_law_reached" "_law_reached" s__law_reached f fd) (g : mg "_law_reached" = some (.ref f)) (B : Bs K mg)  : C8.Cal P w K mg base (k + 1) "_law_reached" (spT (gm K w) [.sh, .sh] (.fz) f__law_reached) [] := by
  refine calT F g sc__law_reached (F.binds (ps := P__law_reached) fun _ _ _ _ _ _ us hl => match us, hl with | [_, _], _ => rfl) rfl fun cdv A outer s H Q E vs hr h => ?_
  refine ⟨_, (pss_cons (ps_set (i := 2) sc__law_reached.nd rfl (.inl rfl) (pe_lst (pa_cons (pv 0) pa_nil)))
      (pss_cons (ps_for PassesOwn.never rfl (pi_range1 rfl B.b_range (pa_cons pe_int pa_nil)) (pg_name (i := 3) sc__law_reached.nd rfl (.inl rfl))
      (pss_one (ps_for PassesOwn.never rfl (piU (Γ := gm K w) rfl rfl (pv 1)) (pg_name (i := 4) sc__law_reached.nd rfl (.inl rfl))
      (pss_one (ps_if (PW.pt (pw_and (pt_cmpR (opU_in (Γ := gm K w) (uu9 hr) rfl rfl) (pe_ix (ixU (Γ := gm K w) (uu9 hr) rfl rfl) (pv 4) pe_int (fun _ _ => rfl)) (pv 2) (by rfl)) (pw_and1 (pt_cmpR (opU_notIn (Γ := gm K w) (uu9 hr) rfl rfl) (pe_ix (ixU (Γ := gm K w) (uu9 hr) rfl rfl) (pv 1) (pv 4) (fun _ _ => rfl)) (pv 2) (by rfl))))) (pss_one (ps_expr (k_bm K PySem.F.plainAttrs_list PySem.F.slot_list_append PySem.F.type_list_append mt_append (pv 2) (pa_cons (pe_ix (ixU (Γ := gm K w) (uu9 hr) rfl rfl) (pv 1) (pv 4) (fun _ _ => rfl)) pa_nil)))) pss_nil)))))
      (pss_one (ps_ret (pv 2))))), ?_⟩
  exact body_sim (Γ := gm K w) (pms := [.sh, .sh]) (lms := [(.own 1), (.own 0), .sh]) (rr := .fz) (s := st__law_reached) (sim_seq (sim_set (sim_lst (sim_cons (SimE.imm (sim_var (r := .sh) rfl True.intro (fun _ h => nomatch h))) sim_nil True.intro) (by simp [All])) rfl rfl)
      (sim_seq (sim_for (sim_range1 (r := .fz) (sim_cons (sim_c Rep0.int) sim_nil True.intro) True.intro) (sim_gname rfl True.intro (.inr rfl)) (sim_for (sim_iU (sim_var (r := .sh) rfl True.intro (fun _ h => nomatch h)) (.inl rfl)) (sim_gname rfl True.intro (.inl rfl)) (sim_ifS (sim_and (sim_test (sim_op opS_in (sim_el elS_get (sim_var (r := .sh) rfl True.intro (fun _ h => nomatch h)) (sim_c Rep0.int) True.intro) (sim_var (r := .now) rfl True.intro (fun _ h => nomatch h)) True.intro)) (sim_test (sim_op opS_notIn (sim_el elS_get (sim_var (r := .sh) rfl True.intro (fun _ h => nomatch h)) (sim_var (r := .sh) rfl True.intro (fun _ h => nomatch h)) True.intro) (sim_var (r := .now) rfl True.intro (fun _ h => nomatch h)) True.intro))) (sim_drop (sim_append rfl rfl (SimE.fz0 (SimE.imm (sim_el elS_get (sim_var (r := .sh) rfl True.intro (fun _ h => nomatch h)) (sim_var (r := .sh) rfl True.intro (fun _ h => nomatch h)) True.intro))))) sim_next) put_ne) put_ne)
      (sim_ret (SimE.frz (sim_mv rfl))))) True.intro rfl h
theorem ok__law_parts {f : Addr} {fd : FuncData} {k : Nat} (F : L2.Fun K "_law_parts" "_law_parts" s__law_parts f fd) (g : mg "_law_parts" = some (.ref f)) (B : Bs K mg) (c__law_names : C8.Cal P w K mg base k "_law_names" (spT (gm K w) [(.lent 2), .sh] (.fz) f__law_names) []) (c__law_draw : C8.Cal P w K mg base k "_law_draw" (spT (gm K w) [(.lent 2), .sh] (.fz) f__law_draw) []) (c__law_reached : C8.Cal P w K mg base k "_law_reached" (spT (gm K w) [.sh, .sh] (.fz) f__law_reached) []) : C8.Cal P w K mg base (k + 1) "_law_parts" (spT (gm K w) [(.lent 2), .sh, .sh] (.fz) f__law_parts) [] := by
  refine calT F g sc__law_parts (F.binds (ps := P__law_parts) fun _ _ _ _ _ _ us hl => match us, hl with | [_, _, _], _ => rfl) rfl fun cdv A outer s H Q E vs hr h => ?_
  refine ⟨_, (pss_cons (ps_set (i := 3) sc__law_parts.nd rfl (.inl rfl) (C8.pe_c c__law_names hr (by omega) rfl (pa_cons (pv 0) (pa_cons (pe_op opU_add pe_int (C8.pe_c c__law_draw hr (by omega) rfl (pa_cons (pv 0) (pa_cons (pv 2) pa_nil)))) pa_nil))))
      (pss_cons (ps_set (i := 4) sc__law_parts.nd rfl (.inl rfl) (C8.pe_c c__law_names hr (by omega) rfl (pa_cons (pv 0) (pa_cons (pe_op opU_add pe_int (C8.pe_c c__law_draw hr (by omega) rfl (pa_cons (pv 0) (pa_cons (pv 1) pa_nil)))) pa_nil))))
      (pss_cons (ps_set (i := 5) sc__law_parts.nd rfl (.inl rfl) (pe_op opU_add pe_int (C8.pe_c c__law_draw hr (by omega) rfl (pa_cons (pv 0) (pa_cons pe_int pa_nil)))))
      (pss_cons (ps_set (i := 6) sc__law_parts.nd rfl (.inl rfl) (pe_dnewX (Γ := gm K w) rfl))
      (pss_cons (ps_for PassesOwn.never rfl (piU (Γ := gm K w) rfl rfl (pv 4)) (pg_name (i := 7) sc__law_parts.nd rfl (.inl rfl))
      (pss_one (ps_for PassesOwn.never rfl (piU (Γ := gm K w) rfl rfl (pv 3)) (pg_name (i := 8) sc__law_parts.nd rfl (.inl rfl))
      (pss_one (ps_if (pt_cmpR op_gt (C8.pe_c c__law_draw hr (by omega) rfl (pa_cons (pv 0) (pa_cons (pv 5) pa_nil))) pe_int (by rfl)) (pss_one (ps_asg (pe_ix (ixU (Γ := gm K w) (uu9 hr) rfl rfl) (pv 4) (C8.pe_c c__law_draw hr (by omega) rfl (pa_cons (pv 0) (pa_cons (pe_callB (lenU (Γ := gm K w) rfl) rfl B.b_len (by decide +kernel) (pa_cons (pv 4) pa_nil)) pa_nil))) (fun _ _ => rfl)) (pg_sub (pv 6) (pe_tup (pa_cons (pv 7) (pa_cons (pv 8) pa_nil))) (setU (Γ := gm K w) (uu9 hr) rfl rfl)))) pss_nil)))))
      (pss_cons (ps_setLc (i := 9) (own := [("_law_state", 7)]) rfl sc__law_parts.nd rfl rfl (sw_true rfl rfl rfl (by decide +kernel)) (piU (Γ := gm K w) rfl rfl (pv 4)) (blkOk_by (own := [("_law_state", 7)]) (N := N__law_parts) (sc := defScope s__law_parts) (by decide +kernel)) (fun _ _ _ _ _ => (pg_name (i := 7) sc__law_parts.nd rfl (.inl rfl))) (fun _ _ _ _ _ => (pts_one (pt_cmpR (opU_eq (Γ := gm K w) rfl (uu64 hr)) (C8.pe_c c__law_draw hr (by omega) rfl (pa_cons (pv 0) (pa_cons pe_int pa_nil))) pe_int (by rfl)))) (fun _ _ _ _ _ => (pv 7)))
      (pss_cons (ps_set (i := 10) sc__law_parts.nd rfl (.inl rfl) (C8.pe_c c__law_reached hr (by omega) rfl (pa_cons (pe_ix (ixU (Γ := gm K w) (uu9 hr) rfl rfl) (pv 4) pe_int (fun _ _ => rfl)) (pa_cons (pv 6) pa_nil))))
      (pss_cons (ps_set (i := 11) sc__law_parts.nd rfl (.inl rfl) (pe_ix (ixU (Γ := gm K w) (uu9 hr) rfl rfl) (pv 10) (C8.pe_c c__law_draw hr (by omega) rfl (pa_cons (pv 0) (pa_cons (pe_callB (lenU (Γ := gm K w) rfl) rfl B.b_len (by decide +kernel) (pa_cons (pv 10) pa_nil)) pa_nil))) (fun _ _ => rfl)))
      (pss_cons (ps_if (pt_cmpR (opU_notIn (Γ := gm K w) (uu9 hr) rfl rfl) (pv 11) (pv 9) (by rfl)) (pss_one (ps_expr (k_bm K PySem.F.plainAttrs_list PySem.F.slot_list_append PySem.F.type_list_append mt_append (pv 9) (pa_cons (pv 11) pa_nil)))) pss_nil)
      (pss_one (ps_ret (pe_tup (pa_cons (pv 3) (pa_cons (pe_ix (ixU (Γ := gm K w) (uu9 hr) rfl rfl) (pv 4) pe_int (fun _ _ => rfl)) (pa_cons (pv 6) (pa_cons (pv 9) pa_nil)))))))))))))))), ?_⟩
  exact body_sim (Γ := gm K w) (pms := [(.lent 2), .sh, .sh]) (lms := [(.own 0), (.own 0), (.own 0), (.own 1), (.own 0), (.own 0), (.own 1), (.own 0), (.own 0)]) (rr := .fz) (s := st__law_parts) (sim_seq (sim_set (sim_callL (rr := .fz) (p1 := []) (p2 := [.sh]) (c1 := []) (c2 := [.fz]) (n := 2) (i := 0) (sim_consS rfl (sim_cons (sim_op opS_add (sim_c Rep0.int) (sim_callL (rr := .fz) (p1 := []) (p2 := [.sh]) (c1 := []) (c2 := [.sh]) (n := 2) (i := 0) (sim_consS rfl (sim_cons (sim_var (r := .sh) rfl True.intro (fun _ h => nomatch h)) sim_nil True.intro)) rfl rfl rfl rfl (by simp [TL.Args, TL.Arg]) (by simp [TL.Args, TL.Arg]) (noNow_of (by decide)) hlen_of hlen_ex True.intro) True.intro) sim_nil True.intro)) rfl rfl rfl rfl (by simp [TL.Args, TL.Arg]) (by simp [TL.Args, TL.Arg]) (noNow_of (by decide)) hlen_of hlen_ex True.intro) rfl True.intro)
      (sim_seq (sim_set (sim_callL (rr := .fz) (p1 := []) (p2 := [.sh]) (c1 := []) (c2 := [.fz]) (n := 2) (i := 0) (sim_consS rfl (sim_cons (sim_op opS_add (sim_c Rep0.int) (sim_callL (rr := .fz) (p1 := []) (p2 := [.sh]) (c1 := []) (c2 := [.sh]) (n := 2) (i := 0) (sim_consS rfl (sim_cons (sim_var (r := .sh) rfl True.intro (fun _ h => nomatch h)) sim_nil True.intro)) rfl rfl rfl rfl (by simp [TL.Args, TL.Arg]) (by simp [TL.Args, TL.Arg]) (noNow_of (by decide)) hlen_of hlen_ex True.intro) True.intro) sim_nil True.intro)) rfl rfl rfl rfl (by simp [TL.Args, TL.Arg]) (by simp [TL.Args, TL.Arg]) (noNow_of (by decide)) hlen_of hlen_ex True.intro) rfl True.intro)
      (sim_seq (sim_set (sim_op opS_add (sim_c Rep0.int) (sim_callL (rr := .fz) (p1 := []) (p2 := [.sh]) (c1 := []) (c2 := [.fz]) (n := 2) (i := 0) (sim_consS rfl (sim_cons (sim_c Rep0.int) sim_nil True.intro)) rfl rfl rfl rfl (by simp [TL.Args, TL.Arg]) (by simp [TL.Args, TL.Arg]) (noNow_of (by decide)) hlen_of hlen_ex True.intro) True.intro) rfl True.intro)
      (sim_seq (sim_set sim_dnew rfl rfl)
      (sim_seq (sim_for (sim_iU (sim_var (r := .fz) rfl True.intro (fun _ h => nomatch h)) (.inr rfl)) (sim_gname rfl True.intro (.inr rfl)) (sim_for (sim_iU (sim_var (r := .fz) rfl True.intro (fun _ h => nomatch h)) (.inr rfl)) (sim_gname rfl True.intro (.inr rfl)) (sim_ifS (sim_test (sim_op opS_gt (sim_callL (rr := .fz) (p1 := []) (p2 := [.sh]) (c1 := []) (c2 := [.fz]) (n := 2) (i := 0) (sim_consS rfl (sim_cons (sim_var (r := .fz) rfl True.intro (fun _ h => nomatch h)) sim_nil True.intro)) rfl rfl rfl rfl (by simp [TL.Args, TL.Arg]) (by simp [TL.Args, TL.Arg]) (noNow_of (by decide)) hlen_of hlen_ex True.intro) (sim_c Rep0.int) True.intro)) (sim_set1 rfl rfl rfl (sim_el elS_get (sim_var (r := .fz) rfl True.intro (fun _ h => nomatch h)) (sim_callL (rr := .fz) (p1 := []) (p2 := [.sh]) (c1 := []) (c2 := [.fz]) (n := 2) (i := 0) (sim_consS rfl (sim_cons (sim_cb callS_len (sim_cons (sim_var (r := .fz) rfl True.intro (fun _ h => nomatch h)) sim_nil True.intro) True.intro) sim_nil True.intro)) rfl rfl rfl rfl (by simp [TL.Args, TL.Arg]) (by simp [TL.Args, TL.Arg]) (noNow_of (by decide)) hlen_of hlen_ex True.intro) True.intro) (sim_tup_fz (sim_cons (sim_var (r := .fz) rfl True.intro (fun _ h => nomatch h)) (sim_cons (sim_var (r := .fz) rfl True.intro (fun _ h => nomatch h)) sim_nil True.intro) True.intro) (by simp [All]))) sim_next) put_ne) put_ne)
      (sim_seq (sim_set (sim_lc (by decide) (sim_iU (sim_var (r := .fz) rfl True.intro (fun _ h => nomatch h)) (.inr rfl)) (sim_gvname (by decide) rfl True.intro (.inr rfl)) put_ne (sim_test (sim_op opS_eq (sim_callL (rr := .fz) (p1 := []) (p2 := [.sh]) (c1 := []) (c2 := [.fz]) (n := 2) (i := 0) (sim_consS rfl (sim_cons (sim_c Rep0.int) sim_nil True.intro)) rfl rfl rfl rfl (by simp [TL.Args, TL.Arg]) (by simp [TL.Args, TL.Arg]) (noNow_of (by decide)) hlen_of hlen_ex True.intro) (sim_c Rep0.int) True.intro)) (SimE.fz0 (sim_var (r := .fz) rfl True.intro (fun _ h => nomatch h)))) rfl rfl)
      (sim_seq (sim_set (sim_call0 (rr := .fz) (sim_cons (sim_el elS_get (sim_var (r := .fz) rfl True.intro (fun _ h => nomatch h)) (sim_c Rep0.int) True.intro) (sim_cons (sim_var (r := .now) rfl True.intro (fun _ h => nomatch h)) sim_nil rfl) True.intro) (by simp [TL.Args, TL.Arg]) True.intro) rfl True.intro)
      (sim_seq (sim_set (sim_el elS_get (sim_var (r := .fz) rfl True.intro (fun _ h => nomatch h)) (sim_callL (rr := .fz) (p1 := []) (p2 := [.sh]) (c1 := []) (c2 := [.fz]) (n := 2) (i := 0) (sim_consS rfl (sim_cons (sim_cb callS_len (sim_cons (sim_var (r := .fz) rfl True.intro (fun _ h => nomatch h)) sim_nil True.intro) True.intro) sim_nil True.intro)) rfl rfl rfl rfl (by simp [TL.Args, TL.Arg]) (by simp [TL.Args, TL.Arg]) (noNow_of (by decide)) hlen_of hlen_ex True.intro) True.intro) rfl True.intro)
      (sim_seq (sim_ifS (sim_test (sim_op opS_notIn (sim_var (r := .fz) rfl True.intro (fun _ h => nomatch h)) (sim_var (r := .now) rfl True.intro (fun _ h => nomatch h)) True.intro)) (sim_drop (sim_append rfl rfl (SimE.fz0 (sim_var (r := .fz) rfl True.intro (fun _ h => nomatch h))))) sim_next)
      (sim_ret (sim_tup_fz (sim_cons (sim_var (r := .fz) rfl True.intro (fun _ h => nomatch h)) (sim_cons (sim_el elS_get (sim_var (r := .fz) rfl True.intro (fun _ h => nomatch h)) (sim_c Rep0.int) True.intro) (sim_cons (SimE.frz (sim_mv rfl)) (sim_cons (SimE.frz (sim_mv rfl)) sim_nil True.intro) True.intro) True.intro) True.intro) (by simp [All])))))))))))) True.intro rfl h
theorem ok__law_states {f : Addr} {fd : FuncData} {k : Nat} (F : L2.Fun K "_law_states" "_law_states" s__law_states f fd) (g : mg "_law_states" = some (.ref f)) (B : Bs K mg)  : C8.Cal P w K mg base (k + 1) "_law_states" (spT (gm K w) [.sh] (.fz) f__law_states) [] := by
  refine calT F g sc__law_states (F.binds (ps := P__law_states) fun _ _ _ _ _ _ us hl => match us, hl with | [_], _ => rfl) rfl fun cdv A outer s H Q E vs hr h => ?_
  refine ⟨_, (pss_cons (ps_set (i := 1) sc__law_states.nd rfl (.inl rfl) (pe_lst (pa_cons (pe_ix (ixU (Γ := gm K w) (uu9 hr) rfl rfl) (pv 0) pe_int (fun _ _ => rfl)) pa_nil)))
      (pss_cons (ps_for PassesOwn.never rfl (piU (Γ := gm K w) rfl rfl (pe_ix (ixU (Γ := gm K w) (uu9 hr) rfl rfl) (pv 0) pe_int (fun _ _ => rfl))) (pg_name (i := 2) sc__law_states.nd rfl (.inl rfl))
      (pss_one (ps_if (pt_cmpR (opU_notIn (Γ := gm K w) (uu9 hr) rfl rfl) (pv 2) (pv 1) (by rfl)) (pss_one (ps_expr (k_bm K PySem.F.plainAttrs_list PySem.F.slot_list_append PySem.F.type_list_append mt_append (pv 1) (pa_cons (pv 2) pa_nil)))) pss_nil)))
      (pss_cons (ps_for PassesOwn.never rfl (piU (Γ := gm K w) rfl rfl (pe_ix (ixU (Γ := gm K w) (uu9 hr) rfl rfl) (pv 0) pe_int (fun _ _ => rfl))) (pg_name (i := 3) sc__law_states.nd rfl (.inl rfl))
      (pss_cons (ps_if (pt_cmpR (opU_notIn (Γ := gm K w) (uu9 hr) rfl rfl) (pe_ix (ixU (Γ := gm K w) (uu9 hr) rfl rfl) (pv 3) pe_int (fun _ _ => rfl)) (pv 1) (by rfl)) (pss_one (ps_expr (k_bm K PySem.F.plainAttrs_list PySem.F.slot_list_append PySem.F.type_list_append mt_append (pv 1) (pa_cons (pe_ix (ixU (Γ := gm K w) (uu9 hr) rfl rfl) (pv 3) pe_int (fun _ _ => rfl)) pa_nil)))) pss_nil)
      (pss_one (ps_if (pt_cmpR (opU_notIn (Γ := gm K w) (uu9 hr) rfl rfl) (pe_ix (ixU (Γ := gm K w) (uu9 hr) rfl rfl) (pe_ix (ixU (Γ := gm K w) (uu9 hr) rfl rfl) (pv 0) pe_int (fun _ _ => rfl)) (pv 3) (fun _ _ => rfl)) (pv 1) (by rfl)) (pss_one (ps_expr (k_bm K PySem.F.plainAttrs_list PySem.F.slot_list_append PySem.F.type_list_append mt_append (pv 1) (pa_cons (pe_ix (ixU (Γ := gm K w) (uu9 hr) rfl rfl) (pe_ix (ixU (Γ := gm K w) (uu9 hr) rfl rfl) (pv 0) pe_int (fun _ _ => rfl)) (pv 3) (fun _ _ => rfl)) pa_nil)))) pss_nil))))
      (pss_one (ps_ret (pe_callB (k_sortD K (uu64 hr)) rfl B.b_sorted (by decide +kernel) (pa_cons (pv 1) pa_nil))))))), ?_⟩
  exact body_sim (Γ := gm K w) (pms := [.sh]) (lms := [(.own 1), .sh, .sh]) (rr := .fz) (s := st__law_states) (sim_seq (sim_set (sim_lst (sim_cons (SimE.imm (sim_el elS_get (sim_var (r := .sh) rfl True.intro (fun _ h => nomatch h)) (sim_c Rep0.int) True.intro)) sim_nil True.intro) (by simp [All])) rfl rfl)
      (sim_seq (sim_for (sim_iU (sim_el elS_get (sim_var (r := .sh) rfl True.intro (fun _ h => nomatch h)) (sim_c Rep0.int) True.intro) (.inl rfl)) (sim_gname rfl True.intro (.inl rfl)) (sim_ifS (sim_test (sim_op opS_notIn (sim_var (r := .sh) rfl True.intro (fun _ h => nomatch h)) (sim_var (r := .now) rfl True.intro (fun _ h => nomatch h)) True.intro)) (sim_drop (sim_append rfl rfl (SimE.fz0 (SimE.imm (sim_var (r := .sh) rfl True.intro (fun _ h => nomatch h)))))) sim_next) put_ne)
      (sim_seq (sim_for (sim_iU (sim_el elS_get (sim_var (r := .sh) rfl True.intro (fun _ h => nomatch h)) (sim_c Rep0.int) True.intro) (.inl rfl)) (sim_gname rfl True.intro (.inl rfl)) (sim_seq (sim_ifS (sim_test (sim_op opS_notIn (sim_el elS_get (sim_var (r := .sh) rfl True.intro (fun _ h => nomatch h)) (sim_c Rep0.int) True.intro) (sim_var (r := .now) rfl True.intro (fun _ h => nomatch h)) True.intro)) (sim_drop (sim_append rfl rfl (SimE.fz0 (SimE.imm (sim_el elS_get (sim_var (r := .sh) rfl True.intro (fun _ h => nomatch h)) (sim_c Rep0.int) True.intro))))) sim_next)
      (sim_ifS (sim_test (sim_op opS_notIn (sim_el elS_get (sim_el elS_get (sim_var (r := .sh) rfl True.intro (fun _ h => nomatch h)) (sim_c Rep0.int) True.intro) (sim_var (r := .sh) rfl True.intro (fun _ h => nomatch h)) True.intro) (sim_var (r := .now) rfl True.intro (fun _ h => nomatch h)) True.intro)) (sim_drop (sim_append rfl rfl (SimE.fz0 (SimE.imm (sim_el elS_get (sim_el elS_get (sim_var (r := .sh) rfl True.intro (fun _ h => nomatch h)) (sim_c Rep0.int) True.intro) (sim_var (r := .sh) rfl True.intro (fun _ h => nomatch h)) True.intro))))) sim_next)) put_ne)
      (sim_ret (SimE.frz (sim_new_imm newS_sorted (sim_cons (sim_var (r := .now) rfl True.intro (fun _ h => nomatch h)) sim_nil rfl) True.intro)))))) True.intro rfl h
theorem ok_is_items {f : Addr} {fd : FuncData} {k : Nat} (F : L2.Fun K "is_items" "is_items" s_is_items f fd) (g : mg "is_items" = some (.ref f)) (B : Bs K mg)  : C8.Cal P w K mg base (k + 1) "is_items" (spT (gm K w) [.sh] (.fz) f_is_items) [] := by
  refine calT F g sc_is_items (F.binds (ps := P_is_items) fun _ _ _ _ _ _ us hl => match us, hl with | [_], _ => rfl) rfl fun cdv A outer s H Q E vs hr h => ?_
  refine ⟨_, (pss_one (ps_ret (pe_callB (isiU2 (Γ := gm K w) rfl) rfl B.b_isinstance (by decide +kernel) (pa_cons (pv 0) (pa_cons (pe_tup (pa_cons (pe_bltn (v := .ty "list") rfl B.b_list (by decide +kernel) rfl) (pa_cons (pe_bltn (v := .ty "tuple") rfl B.b_tuple (by decide +kernel) rfl) pa_nil))) pa_nil))))), ?_⟩
  exact body_sim (Γ := gm K w) (pms := [.sh]) (lms := []) (rr := .fz) (s := st_is_items) (sim_ret (sim_isaI2 (cs := [(PySem.Str.ofString "Machine")]) B.isi kit_list kit_tuple (sim_var (r := .sh) rfl True.intro (fun _ h => nomatch h)))) True.intro rfl h
theorem ok_is_name {f : Addr} {fd : FuncData} {k : Nat} (F : L2.Fun K "is_name" "is_name" s_is_name f fd) (g : mg "is_name" = some (.ref f)) (B : Bs K mg)  : C8.Cal P w K mg base (k + 1) "is_name" (spT (gm K w) [.sh] (.fz) f_is_name) [] := by
  refine calT F g sc_is_name (F.binds (ps := P_is_name) fun _ _ _ _ _ _ us hl => match us, hl with | [_], _ => rfl) rfl fun cdv A outer s H Q E vs hr h => ?_
  refine ⟨_, (pss_cons (ps_if (PW.pt (pw_or (pt_not (pt_val (pe_callB (isiU1 (Γ := gm K w) rfl) rfl B.b_isinstance (by decide +kernel) (pa_cons (pv 0) (pa_cons (pe_bltn (v := .ty "str") rfl B.b_str (by decide +kernel) rfl) pa_nil))))) (pw_or1 (pt_not (pt_chain op_le op_le pe_int (pe_callB (lenU (Γ := gm K w) rfl) rfl B.b_len (by decide +kernel) (pa_cons (pv 0) pa_nil)) pe_int))))) (pss_one (ps_ret pe_bl)) pss_nil)
      (pss_cons (ps_for PassesOwn.never rfl (piU (Γ := gm K w) rfl rfl (pv 0)) (pg_name (i := 1) sc_is_name.nd rfl (.inl rfl))
      (pss_one (ps_if (pt_cmpR (opU_notIn (Γ := gm K w) (uu9 hr) rfl rfl) (pv 1) (C8.pe_gc rfl B.x_LETTERS) (by rfl)) (pss_one (ps_ret pe_bl)) pss_nil)))
      (pss_one (ps_ret pe_bl)))), ?_⟩
  exact body_sim (Γ := gm K w) (pms := [.sh]) (lms := [.sh]) (rr := .fz) (s := st_is_name) (sim_seq (sim_ifS (sim_or (sim_not (sim_tB (sim_isaI1 (cs := [(PySem.Str.ofString "Machine")]) B.isi kit_str (by decide) (sim_var (r := .sh) rfl True.intro (fun _ h => nomatch h))))) (sim_not (sim_test (sim_chain opS_le opS_le (sim_c Rep0.int) (sim_cb callS_len (sim_cons (sim_var (r := .sh) rfl True.intro (fun _ h => nomatch h)) sim_nil True.intro) True.intro) (sim_c Rep0.int) True.intro True.intro)))) (sim_ret (sim_c Rep0.bl)) sim_next)
      (sim_seq (sim_for (sim_iU (sim_var (r := .sh) rfl True.intro (fun _ h => nomatch h)) (.inl rfl)) (sim_gname rfl True.intro (.inl rfl)) (sim_ifS (sim_test (sim_op opS_notIn (sim_var (r := .sh) rfl True.intro (fun _ h => nomatch h)) (sim_c Rep0.str) True.intro)) (sim_ret (sim_c Rep0.bl)) sim_next) put_ne)
      (sim_ret (sim_c Rep0.bl)))) True.intro rfl h
theorem ok_are_names {f : Addr} {fd : FuncData} {k : Nat} (F : L2.Fun K "are_names" "are_names" s_are_names f fd) (g : mg "are_names" = some (.ref f)) (B : Bs K mg) (c_is_items : C8.Cal P w K mg base k "is_items" (spT (gm K w) [.sh] (.fz) f_is_items) []) (c_is_name : C8.Cal P w K mg base k "is_name" (spT (gm K w) [.sh] (.fz) f_is_name) []) : C8.Cal P w K mg base (k + 1) "are_names" (spT (gm K w) [.sh, .sh] (.fz) f_are_names) [] := by
  refine calT F g sc_are_names (F.binds (ps := P_are_names) fun _ _ _ _ _ _ us hl => match us, hl with | [_, _], _ => rfl) rfl fun cdv A outer s H Q E vs hr h => ?_
  refine ⟨_, (pss_cons (ps_if (PW.pt (pw_or (pt_not (pt_val (C8.pe_c c_is_items hr (by omega) rfl (pa_cons (pv 0) pa_nil)))) (pw_or1 (pt_not (pt_chain op_le op_le pe_int (pe_callB (lenU (Γ := gm K w) rfl) rfl B.b_len (by decide +kernel) (pa_cons (pv 0) pa_nil)) (pv 1)))))) (pss_one (ps_ret pe_bl)) pss_nil)
      (pss_cons (ps_for PassesOwn.never rfl (k_penum K rfl B.b_enumerate (pa_cons (pv 0) pa_nil)) (k_ptup K 2 rfl (pgs_cons (pg_name (i := 2) sc_are_names.nd rfl (.inl rfl)) (pgs_cons (pg_name (i := 3) sc_are_names.nd rfl (.inl rfl)) pgs_nil)))
      (pss_one (ps_if (PW.pt (pw_or (pt_not (pt_val (C8.pe_c c_is_name hr (by omega) rfl (pa_cons (pv 3) pa_nil)))) (pw_or1 (pt_cmpR (opU_in (Γ := gm K w) (uu9 hr) rfl rfl) (pv 3) (pe_slice (k_slq K) (pv 0) po_none (po_some (pv 2))) (by rfl))))) (pss_one (ps_ret pe_bl)) pss_nil)))
      (pss_one (ps_ret pe_bl)))), ?_⟩
  exact body_sim (Γ := gm K w) (pms := [.sh, .sh]) (lms := [.sh, .sh]) (rr := .fz) (s := st_are_names) (sim_seq (sim_ifS (sim_or (sim_not (sim_tB (sim_call0 (rr := .fz) (sim_cons (sim_var (r := .sh) rfl True.intro (fun _ h => nomatch h)) sim_nil True.intro) (by simp [TL.Args, TL.Arg]) True.intro))) (sim_not (sim_test (sim_chain opS_le opS_le (sim_c Rep0.int) (sim_cb callS_len (sim_cons (sim_var (r := .sh) rfl True.intro (fun _ h => nomatch h)) sim_nil True.intro) True.intro) (sim_var (r := .sh) rfl True.intro (fun _ h => nomatch h)) True.intro True.intro)))) (sim_ret (sim_c Rep0.bl)) sim_next)
      (sim_seq (sim_for (sim_enum (sim_var (r := .sh) rfl True.intro (fun _ h => nomatch h)) (.inl rfl)) (sim_gtup (.inl rfl) rfl (sim_gcons rfl True.intro (.inl rfl) (sim_gcons rfl True.intro (.inl rfl) sim_gnil))) (sim_ifS (sim_or (sim_not (sim_tB (sim_call0 (rr := .fz) (sim_cons (sim_var (r := .sh) rfl True.intro (fun _ h => nomatch h)) sim_nil True.intro) (by simp [TL.Args, TL.Arg]) True.intro))) (sim_test (sim_op opS_in (sim_var (r := .sh) rfl True.intro (fun _ h => nomatch h)) (sim_sl_now (sim_var (r := .sh) rfl True.intro (fun _ h => nomatch h)) sim_nopart (sim_part (sim_var (r := .sh) rfl True.intro (fun _ h => nomatch h))) True.intro) True.intro))) (sim_ret (sim_c Rep0.bl)) sim_next) putT_ne)
      (sim_ret (sim_c Rep0.bl)))) True.intro rfl h
theorem ok_are_moves {f : Addr} {fd : FuncData} {k : Nat} (F : L2.Fun K "are_moves" "are_moves" s_are_moves f fd) (g : mg "are_moves" = some (.ref f)) (B : Bs K mg) (c_is_name : C8.Cal P w K mg base k "is_name" (spT (gm K w) [.sh] (.fz) f_is_name) []) : C8.Cal P w K mg base (k + 1) "are_moves" (spT (gm K w) [.sh, .sh] (.fz) f_are_moves) [] := by
  refine calT F g sc_are_moves (F.binds (ps := P_are_moves) fun _ _ _ _ _ _ us hl => match us, hl with | [_, _], _ => rfl) rfl fun cdv A outer s H Q E vs hr h => ?_
  refine ⟨_, (pss_cons (ps_if (pt_not (pt_val (pe_callB (isiU1 (Γ := gm K w) rfl) rfl B.b_isinstance (by decide +kernel) (pa_cons (pv 0) (pa_cons (pe_bltn (v := .ty "dict") rfl B.b_dict (by decide +kernel) rfl) pa_nil))))) (pss_one (ps_ret pe_bl)) pss_nil)
      (pss_cons (ps_for PassesOwn.never rfl (piU (Γ := gm K w) rfl rfl (pv 0)) (pg_name (i := 2) sc_are_moves.nd rfl (.inl rfl))
      (pss_cons (ps_if (PW.pt (pw_or (pt_not (pt_val (pe_callB (isiU1 (Γ := gm K w) rfl) rfl B.b_isinstance (by decide +kernel) (pa_cons (pv 2) (pa_cons (pe_bltn (v := .ty "tuple") rfl B.b_tuple (by decide +kernel) rfl) pa_nil))))) (pw_or1 (pt_cmpR (opU_ne (Γ := gm K w) rfl (uu64 hr)) (pe_callB (lenU (Γ := gm K w) rfl) rfl B.b_len (by decide +kernel) (pa_cons (pv 2) pa_nil)) pe_int (by rfl))))) (pss_one (ps_ret pe_bl)) pss_nil)
      (pss_cons (ps_if (PW.pt (pw_or (pt_not (pt_val (C8.pe_c c_is_name hr (by omega) rfl (pa_cons (pe_ix (ixU (Γ := gm K w) (uu9 hr) rfl rfl) (pv 2) pe_int (fun _ _ => rfl)) pa_nil)))) (pw_or (pt_not (pt_val (C8.pe_c c_is_name hr (by omega) rfl (pa_cons (pe_ix (ixU (Γ := gm K w) (uu9 hr) rfl rfl) (pv 2) pe_int (fun _ _ => rfl)) pa_nil)))) (pw_or1 (pt_cmpR (opU_notIn (Γ := gm K w) (uu9 hr) rfl rfl) (pe_ix (ixU (Γ := gm K w) (uu9 hr) rfl rfl) (pv 2) pe_int (fun _ _ => rfl)) (pv 1) (by rfl)))))) (pss_one (ps_ret pe_bl)) pss_nil)
      (pss_one (ps_if (pt_not (pt_val (C8.pe_c c_is_name hr (by omega) rfl (pa_cons (pe_ix (ixU (Γ := gm K w) (uu9 hr) rfl rfl) (pv 0) (pv 2) (fun _ _ => rfl)) pa_nil)))) (pss_one (ps_ret pe_bl)) pss_nil)))))
      (pss_one (ps_ret pe_bl)))), ?_⟩
  exact body_sim (Γ := gm K w) (pms := [.sh, .sh]) (lms := [.sh]) (rr := .fz) (s := st_are_moves) (sim_seq (sim_ifS (sim_not (sim_tB (sim_isa1 kit_dict (sim_var (r := .sh) rfl True.intro (fun _ h => nomatch h))))) (sim_ret (sim_c Rep0.bl)) sim_next)
      (sim_seq (sim_for (sim_iU (sim_var (r := .sh) rfl True.intro (fun _ h => nomatch h)) (.inl rfl)) (sim_gname rfl True.intro (.inl rfl)) (sim_seq (sim_ifS (sim_or (sim_not (sim_tB (sim_isa1 kit_tuple (sim_var (r := .sh) rfl True.intro (fun _ h => nomatch h))))) (sim_test (sim_op opS_ne (sim_cb callS_len (sim_cons (sim_var (r := .sh) rfl True.intro (fun _ h => nomatch h)) sim_nil True.intro) True.intro) (sim_c Rep0.int) True.intro))) (sim_ret (sim_c Rep0.bl)) sim_next)
      (sim_seq (sim_ifS (sim_or (sim_not (sim_tB (sim_call0 (rr := .fz) (sim_cons (sim_el elS_get (sim_var (r := .sh) rfl True.intro (fun _ h => nomatch h)) (sim_c Rep0.int) True.intro) sim_nil True.intro) (by simp [TL.Args, TL.Arg]) True.intro))) (sim_or (sim_not (sim_tB (sim_call0 (rr := .fz) (sim_cons (sim_el elS_get (sim_var (r := .sh) rfl True.intro (fun _ h => nomatch h)) (sim_c Rep0.int) True.intro) sim_nil True.intro) (by simp [TL.Args, TL.Arg]) True.intro))) (sim_test (sim_op opS_notIn (sim_el elS_get (sim_var (r := .sh) rfl True.intro (fun _ h => nomatch h)) (sim_c Rep0.int) True.intro) (sim_var (r := .sh) rfl True.intro (fun _ h => nomatch h)) True.intro)))) (sim_ret (sim_c Rep0.bl)) sim_next)
      (sim_ifS (sim_not (sim_tB (sim_call0 (rr := .fz) (sim_cons (sim_el elS_get (sim_var (r := .sh) rfl True.intro (fun _ h => nomatch h)) (sim_var (r := .sh) rfl True.intro (fun _ h => nomatch h)) True.intro) sim_nil True.intro) (by simp [TL.Args, TL.Arg]) True.intro))) (sim_ret (sim_c Rep0.bl)) sim_next))) put_ne)
      (sim_ret (sim_c Rep0.bl)))) True.intro rfl h
theorem ok_leading {f : Addr} {fd : FuncData} {k : Nat} (F : L2.Fun K "leading" "leading" s_leading f fd) (g : mg "leading" = some (.ref f)) (B : Bs K mg)  : C8.Cal P w K mg base (k + 1) "leading" (spT (gm K w) [.sh, .sh] (.fz) f_leading) [] := by
  refine calT F g sc_leading (F.binds (ps := P_leading) fun _ _ _ _ _ _ us hl => match us, hl with | [_, _], _ => rfl) rfl fun cdv A outer s H Q E vs hr h => ?_
  refine ⟨_, (pss_cons (ps_set (i := 2) sc_leading.nd rfl (.inl rfl) (pe_callTy (listU (Γ := gm K w) rfl rfl) rfl B.b_list (by decide +kernel) (pa_cons (pv 0) pa_nil)))
      (pss_cons (ps_set (i := 3) sc_leading.nd rfl (.inl rfl) pe_int)
      (pss_cons (ps_while PassesOwn.never (pt_cmpR op_lt (pv 3) (pe_callB (lenU (Γ := gm K w) rfl) rfl B.b_len (by decide +kernel) (pa_cons (pv 2) pa_nil)) (by rfl))
      (pss_cons (ps_for PassesOwn.never rfl (piU (Γ := gm K w) rfl rfl (pv 1)) (pg_name (i := 4) sc_leading.nd rfl (.inl rfl))
      (pss_one (ps_if (PW.pt (pw_and (pt_cmpR (opU_eq (Γ := gm K w) rfl (uu64 hr)) (pe_ix (ixU (Γ := gm K w) (uu9 hr) rfl rfl) (pv 1) (pv 4) (fun _ _ => rfl)) (pe_ix (ixU (Γ := gm K w) (uu9 hr) rfl rfl) (pv 2) (pv 3) (fun _ _ => rfl)) (by rfl)) (pw_and1 (pt_cmpR (opU_notIn (Γ := gm K w) (uu9 hr) rfl rfl) (pe_ix (ixU (Γ := gm K w) (uu9 hr) rfl rfl) (pv 4) pe_int (fun _ _ => rfl)) (pv 2) (by rfl))))) (pss_one (ps_expr (k_bm K PySem.F.plainAttrs_list PySem.F.slot_list_append PySem.F.type_list_append mt_append (pv 2) (pa_cons (pe_ix (ixU (Γ := gm K w) (uu9 hr) rfl rfl) (pv 4) pe_int (fun _ _ => rfl)) pa_nil)))) pss_nil)))
      (pss_one (ps_aug (i := 3) sc_leading.nd rfl (.inl rfl) pe_int ip_add))))
      (pss_one (ps_ret (pv 2)))))), ?_⟩
  exact body_sim (Γ := gm K w) (pms := [.sh, .sh]) (lms := [(.own 1), (.own 0), .sh]) (rr := .fz) (s := st_leading) (sim_seq (sim_set (sim_new_imm newS_list (sim_cons (sim_var (r := .sh) rfl True.intro (fun _ h => nomatch h)) sim_nil True.intro) True.intro) rfl rfl)
      (sim_seq (sim_set (sim_c Rep0.int) rfl True.intro)
      (sim_seq (sim_whileN (sim_test (sim_op opS_lt (sim_var (r := .fz) rfl True.intro (fun _ h => nomatch h)) (sim_cb callS_len (sim_cons (sim_var (r := .now) rfl True.intro (fun _ h => nomatch h)) sim_nil rfl) True.intro) True.intro)) (sim_seq (sim_for (sim_iU (sim_var (r := .sh) rfl True.intro (fun _ h => nomatch h)) (.inl rfl)) (sim_gname rfl True.intro (.inl rfl)) (sim_ifS (sim_and (sim_test (sim_op opS_eq (sim_el elS_get (sim_var (r := .sh) rfl True.intro (fun _ h => nomatch h)) (sim_var (r := .sh) rfl True.intro (fun _ h => nomatch h)) True.intro) (sim_el elS_get (sim_var (r := .now) rfl True.intro (fun _ h => nomatch h)) (sim_var (r := .fz) rfl True.intro (fun _ h => nomatch h)) rfl) True.intro)) (sim_test (sim_op opS_notIn (sim_el elS_get (sim_var (r := .sh) rfl True.intro (fun _ h => nomatch h)) (sim_c Rep0.int) True.intro) (sim_var (r := .now) rfl True.intro (fun _ h => nomatch h)) True.intro))) (sim_drop (sim_append rfl rfl (SimE.fz0 (SimE.imm (sim_el elS_get (sim_var (r := .sh) rfl True.intro (fun _ h => nomatch h)) (sim_c Rep0.int) True.intro))))) sim_next) put_ne)
      (sim_aug aug_add rfl (sim_c Rep0.int))))
      (sim_ret (SimE.frz (sim_mv rfl)))))) True.intro rfl h
theorem ok_Machine___init__ {f : Addr} {fd : FuncData} {k : Nat} (F : L2.Fun K "__init__" "Machine.__init__" s_Machine___init__ f fd) (B : Bs K mg) (c_are_names : C8.Cal P w K mg base k "are_names" (spT (gm K w) [.sh, .sh] (.fz) f_are_names) []) (c_is_name : C8.Cal P w K mg base k "is_name" (spT (gm K w) [.sh] (.fz) f_is_name) []) (c_are_moves : C8.Cal P w K mg base k "are_moves" (spT (gm K w) [.sh, .sh] (.fz) f_are_moves) []) (c_leading : C8.Cal P w K mg base k "leading" (spT (gm K w) [.sh, .sh] (.fz) f_leading) []) : FnOk P w K mg base CX0 (k + 1) f fd P_Machine___init__ (spT (gm K w) [.obj, .sh, .sh, .sh, .sh] (.fz) f_Machine___init__) := by
  refine fmT F sc_Machine___init__ rfl fun cdv A outer s H Q E vs hr h => ?_
  refine ⟨_, (pss_cons (ps_if (pt_not (pt_val (C8.pe_c c_are_names hr (by omega) rfl (pa_cons (pv 1) (pa_cons pe_int pa_nil))))) (pss_one ps_never) pss_nil)
      (pss_cons (ps_if (pt_not (pt_val (C8.pe_c c_is_name hr (by omega) rfl (pa_cons (pv 2) pa_nil)))) (pss_one ps_never) pss_nil)
      (pss_cons (ps_if (pt_not (pt_val (C8.pe_c c_are_moves hr (by omega) rfl (pa_cons (pv 3) (pa_cons (pv 1) pa_nil))))) (pss_one ps_never) pss_nil)
      (pss_cons (ps_if (pt_not (pt_val (C8.pe_c c_are_names hr (by omega) rfl (pa_cons (pv 4) (pa_cons pe_int pa_nil))))) (pss_one ps_never) pss_nil)
      (pss_cons (k_sfld K (pv 0) (pe_callB (k_sortD K (uu64 hr)) rfl B.b_sorted (by decide +kernel) (pa_cons (pe_callTy (listU (Γ := gm K w) rfl rfl) rfl B.b_list (by decide +kernel) (pa_cons (pv 1) pa_nil)) pa_nil)))
      (pss_cons (k_sfld K (pv 0) (pv 2))
      (pss_cons (k_sfld K (pv 0) (pe_dcX (Γ := gm K w) (own := [("pair", 5)]) (uu9 hr) rfl rfl rfl sc_Machine___init__.nd (piU (Γ := gm K w) rfl rfl (pe_callB (k_sortD K (uu64 hr)) rfl B.b_sorted (by decide +kernel) (pa_cons (pe_callTy (listU (Γ := gm K w) rfl rfl) rfl B.b_list (by decide +kernel) (pa_cons (pv 3) pa_nil)) pa_nil))) (blkOk_by (own := [("pair", 5)]) (N := N_Machine___init__) (sc := defScope s_Machine___init__) (by decide +kernel)) (fun _ _ _ _ _ => (pg_name (i := 5) sc_Machine___init__.nd rfl (.inl rfl))) (fun _ _ _ _ _ => pts_nil) (fun _ _ _ _ _ => (pv 5)) (fun _ _ _ _ _ => (pe_ix (ixU (Γ := gm K w) (uu9 hr) rfl rfl) (pv 3) (pv 5) (fun _ _ => rfl)))))
      (pss_cons (k_sfld K (pv 0) (pe_callB (k_sortD K (uu64 hr)) rfl B.b_sorted (by decide +kernel) (pa_cons (pe_callTy (listU (Γ := gm K w) rfl rfl) rfl B.b_list (by decide +kernel) (pa_cons (pv 4) pa_nil)) pa_nil)))
      (pss_cons (ps_if (pt_cmpR (opU_notIn (Γ := gm K w) (uu9 hr) rfl rfl) (pv 2) (C8.pe_c c_leading hr (by omega) rfl (pa_cons (k_fld K (pv 0)) (pa_cons (k_fld K (pv 0)) pa_nil))) (by rfl)) (pss_one ps_never) pss_nil)
      (pss_cons (ps_set (i := 6) sc_Machine___init__.nd rfl (.inl rfl) (pe_lst (pa_cons (pv 2) (k_star K (pv 4) pa_nil))))
      (pss_cons (ps_for PassesOwn.never rfl (piU (Γ := gm K w) rfl rfl (k_fld K (pv 0))) (pg_name (i := 5) sc_Machine___init__.nd rfl (.inl rfl))
      (pss_cons (ps_expr (k_bm K PySem.F.plainAttrs_list PySem.F.slot_list_append PySem.F.type_list_append mt_append (pv 6) (pa_cons (pe_ix (ixU (Γ := gm K w) (uu9 hr) rfl rfl) (pv 5) pe_int (fun _ _ => rfl)) pa_nil)))
      (pss_one (ps_expr (k_bm K PySem.F.plainAttrs_list PySem.F.slot_list_append PySem.F.type_list_append mt_append (pv 6) (pa_cons (pe_ix (ixU (Γ := gm K w) (uu9 hr) rfl rfl) (k_fld K (pv 0)) (pv 5) (fun _ _ => rfl)) pa_nil))))))
      (pss_cons (k_sfld K (pv 0) (pe_callB (k_sortX w rfl (uu64 hr)) rfl B.b_sorted (by decide +kernel) (pa_cons (pe_callTy (k_setX K w rfl) rfl B.b_set (by decide +kernel) (pa_cons (pv 6) pa_nil)) pa_nil)))
      (pss_one (ps_if (pt_cmpR op_gt (pe_callB (lenU (Γ := gm K w) rfl) rfl B.b_len (by decide +kernel) (pa_cons (k_fld K (pv 0)) pa_nil)) pe_int (by rfl)) (pss_one ps_never) pss_nil)))))))))))))), ?_⟩
  exact body_sim (Γ := gm K w) (pms := [.obj, .sh, .sh, .sh, .sh]) (lms := [(.own 0), (.own 1)]) (rr := .fz) (s := st_Machine___init__) (sim_seq (sim_ifS (sim_not (sim_tB (sim_call0 (rr := .fz) (sim_cons (sim_var (r := .sh) rfl True.intro (fun _ h => nomatch h)) (sim_cons (sim_c Rep0.int) sim_nil True.intro) True.intro) (by simp [TL.Args, TL.Arg]) True.intro))) sim_never sim_next)
      (sim_seq (sim_ifS (sim_not (sim_tB (sim_call0 (rr := .fz) (sim_cons (sim_var (r := .sh) rfl True.intro (fun _ h => nomatch h)) sim_nil True.intro) (by simp [TL.Args, TL.Arg]) True.intro))) sim_never sim_next)
      (sim_seq (sim_ifS (sim_not (sim_tB (sim_call0 (rr := .fz) (sim_cons (sim_var (r := .sh) rfl True.intro (fun _ h => nomatch h)) (sim_cons (sim_var (r := .sh) rfl True.intro (fun _ h => nomatch h)) sim_nil True.intro) True.intro) (by simp [TL.Args, TL.Arg]) True.intro))) sim_never sim_next)
      (sim_seq (sim_ifS (sim_not (sim_tB (sim_call0 (rr := .fz) (sim_cons (sim_var (r := .sh) rfl True.intro (fun _ h => nomatch h)) (sim_cons (sim_c Rep0.int) sim_nil True.intro) True.intro) (by simp [TL.Args, TL.Arg]) True.intro))) sim_never sim_next)
      (sim_seq (sim_sfld (c := (PySem.Str.ofString "Machine")) ⟨B.k_Machine, B.n_Machine_alphabet⟩ rfl (SimE.frz (sim_new_fz newS_sorted (sim_cons (SimE.frz (sim_new_imm newS_list (sim_cons (sim_var (r := .sh) rfl True.intro (fun _ h => nomatch h)) sim_nil True.intro) True.intro)) sim_nil True.intro) (by simp [All]))))
      (sim_seq (sim_sfld (c := (PySem.Str.ofString "Machine")) ⟨B.k_Machine, B.n_Machine_origin⟩ rfl (SimE.imm (sim_var (r := .sh) rfl True.intro (fun _ h => nomatch h))))
      (sim_seq (sim_sfld (c := (PySem.Str.ofString "Machine")) ⟨B.k_Machine, B.n_Machine_edges⟩ rfl (SimE.frz (sim_dc (by decide) (sim_iU (SimE.frz (sim_new_fz newS_sorted (sim_cons (SimE.frz (sim_new_imm newS_list (sim_cons (sim_var (r := .sh) rfl True.intro (fun _ h => nomatch h)) sim_nil True.intro) True.intro)) sim_nil True.intro) (by simp [All]))) (.inr rfl)) (sim_gvname (by decide) rfl True.intro (.inr rfl)) put_ne sim_yes (sim_var (r := .fz) rfl True.intro (fun _ h => nomatch h)) (SimE.imm (sim_el elS_get (sim_var (r := .sh) rfl True.intro (fun _ h => nomatch h)) (sim_var (r := .fz) rfl True.intro (fun _ h => nomatch h)) True.intro)))))
      (sim_seq (sim_sfld (c := (PySem.Str.ofString "Machine")) ⟨B.k_Machine, B.n_Machine_ending⟩ rfl (SimE.frz (sim_new_fz newS_sorted (sim_cons (SimE.frz (sim_new_imm newS_list (sim_cons (sim_var (r := .sh) rfl True.intro (fun _ h => nomatch h)) sim_nil True.intro) True.intro)) sim_nil True.intro) (by simp [All]))))
      (sim_seq (sim_ifS (sim_test (sim_op opS_notIn (sim_var (r := .sh) rfl True.intro (fun _ h => nomatch h)) (sim_call0 (rr := .fz) (sim_cons (sim_fldO (c := (PySem.Str.ofString "Machine")) ⟨B.k_Machine, B.n_Machine_ending⟩ rfl) (sim_cons (sim_fldO (c := (PySem.Str.ofString "Machine")) ⟨B.k_Machine, B.n_Machine_edges⟩ rfl) sim_nil True.intro) True.intro) (by simp [TL.Args, TL.Arg]) True.intro) True.intro)) sim_never sim_next)
      (sim_seq (sim_set (sim_lstF (sim_consF (SimE.imm (sim_var (r := .sh) rfl True.intro (fun _ h => nomatch h))) (sim_starI (sim_var (r := .sh) rfl True.intro (fun _ h => nomatch h)) sim_nilF))) rfl rfl)
      (sim_seq (sim_for (sim_iU (sim_fldO (c := (PySem.Str.ofString "Machine")) ⟨B.k_Machine, B.n_Machine_edges⟩ rfl) (.inr rfl)) (sim_gname rfl True.intro (.inr rfl)) (sim_seq (sim_drop (sim_append rfl rfl (SimE.fz0 (sim_el elS_get (sim_var (r := .fz) rfl True.intro (fun _ h => nomatch h)) (sim_c Rep0.int) True.intro))))
      (sim_drop (sim_append rfl rfl (SimE.fz0 (sim_el elS_get (sim_fldO (c := (PySem.Str.ofString "Machine")) ⟨B.k_Machine, B.n_Machine_edges⟩ rfl) (sim_var (r := .fz) rfl True.intro (fun _ h => nomatch h)) True.intro))))) put_ne)
      (sim_seq (sim_sfld (c := (PySem.Str.ofString "Machine")) ⟨B.k_Machine, B.n_Machine_places⟩ rfl (SimE.frz (sim_sortset (sim_var (r := .now) rfl True.intro (fun _ h => nomatch h)))))
      (sim_ifS (sim_test (sim_op opS_gt (sim_cb callS_len (sim_cons (sim_fldO (c := (PySem.Str.ofString "Machine")) ⟨B.k_Machine, B.n_Machine_places⟩ rfl) sim_nil True.intro) True.intro) (sim_c Rep0.int) True.intro)) sim_never sim_next))))))))))))) True.intro rfl h
theorem ok__law_copy {f : Addr} {fd : FuncData} {k : Nat} (F : L2.Fun K "_law_copy" "_law_copy" s__law_copy f fd) (g : mg "_law_copy" = some (.ref f)) (B : Bs K mg)  : C8.Cal P w K mg base (k + 1) "_law_copy" (spT (gm K w) [.sh] ((.own 1)) f__law_copy) [] := by
  refine calT F g sc__law_copy (F.binds (ps := P__law_copy) fun _ _ _ _ _ _ us hl => match us, hl with | [_], _ => rfl) rfl fun cdv A outer s H Q E vs hr h => ?_
  refine ⟨_, (pss_cons (ps_set (i := 1) sc__law_copy.nd rfl (.inl rfl) (pe_dnewX (Γ := gm K w) rfl))
      (pss_cons (ps_for PassesOwn.never rfl (piU (Γ := gm K w) rfl rfl (pv 0)) (pg_name (i := 2) sc__law_copy.nd rfl (.inl rfl))
      (pss_one (ps_asg (pe_ix (ixU (Γ := gm K w) (uu9 hr) rfl rfl) (pv 0) (pv 2) (fun _ _ => rfl)) (pg_sub (pv 1) (pv 2) (setU (Γ := gm K w) (uu9 hr) rfl rfl)))))
      (pss_one (ps_ret (pv 1))))), ?_⟩
  exact body_sim (Γ := gm K w) (pms := [.sh]) (lms := [(.own 1), .sh]) (rr := (.own 1)) (s := st__law_copy) (sim_seq (sim_set sim_dnew rfl rfl)
      (sim_seq (sim_for (sim_iU (sim_var (r := .sh) rfl True.intro (fun _ h => nomatch h)) (.inl rfl)) (sim_gname rfl True.intro (.inl rfl)) (sim_set1 rfl rfl rfl (SimE.imm (sim_el elS_get (sim_var (r := .sh) rfl True.intro (fun _ h => nomatch h)) (sim_var (r := .sh) rfl True.intro (fun _ h => nomatch h)) True.intro)) (sim_var (r := .sh) rfl True.intro (fun _ h => nomatch h))) put_ne)
      (sim_ret (sim_mv rfl)))) True.intro rfl h
theorem ok__law_fresh {f : Addr} {fd : FuncData} {k : Nat} (F : L2.Fun K "_law_fresh" "_law_fresh" s__law_fresh f fd) (g : mg "_law_fresh" = some (.ref f)) (B : Bs K mg)  : C8.Cal P w K mg base (k + 1) "_law_fresh" (spT (gm K w) [.sh] (.fz) f__law_fresh) [] := by
  refine calT F g sc__law_fresh (F.binds (ps := P__law_fresh) fun _ _ _ _ _ _ us hl => match us, hl with | [_], _ => rfl) rfl fun cdv A outer s H Q E vs hr h => ?_
  refine ⟨_, (pss_cons (ps_set (i := 1) sc__law_fresh.nd rfl (.inl rfl) (pe_lst (pa_cons pe_str (pa_cons pe_str (pa_cons pe_str (pa_cons pe_str (pa_cons pe_str (pa_cons pe_str (pa_cons pe_str (pa_cons pe_str (pa_cons pe_str (pa_cons pe_str (pa_cons pe_str (pa_cons pe_str (pa_cons pe_str (pa_cons pe_str (pa_cons pe_str pa_nil)))))))))))))))))
      (pss_one (ps_ret (pe_ix (ixU (Γ := gm K w) (uu9 hr) rfl rfl) (pe_lc (own := [("_law_name_here", 2)]) rfl sc__law_fresh.nd (piU (Γ := gm K w) rfl rfl (pv 1)) (blkOk_by (own := [("_law_name_here", 2)]) (N := N__law_fresh) (sc := defScope s__law_fresh) (by decide +kernel)) (fun _ _ _ _ _ => (pg_name (i := 2) sc__law_fresh.nd rfl (.inl rfl))) (fun _ _ _ _ _ => (pts_one (pt_cmpR (opU_notIn (Γ := gm K w) (uu9 hr) rfl rfl) (pv 2) (pv 0) (by rfl)))) (fun _ _ _ _ _ => (pv 2))) pe_int (fun _ _ => rfl))))), ?_⟩
  exact body_sim (Γ := gm K w) (pms := [.sh]) (lms := [(.own 0), (.own 0)]) (rr := .fz) (s := st__law_fresh) (sim_seq (sim_set (SimE.frz (sim_lst (sim_cons (sim_c Rep0.str) (sim_cons (sim_c Rep0.str) (sim_cons (sim_c Rep0.str) (sim_cons (sim_c Rep0.str) (sim_cons (sim_c Rep0.str) (sim_cons (sim_c Rep0.str) (sim_cons (sim_c Rep0.str) (sim_cons (sim_c Rep0.str) (sim_cons (sim_c Rep0.str) (sim_cons (sim_c Rep0.str) (sim_cons (sim_c Rep0.str) (sim_cons (sim_c Rep0.str) (sim_cons (sim_c Rep0.str) (sim_cons (sim_c Rep0.str) (sim_cons (sim_c Rep0.str) sim_nil True.intro) True.intro) True.intro) True.intro) True.intro) True.intro) True.intro) True.intro) True.intro) True.intro) True.intro) True.intro) True.intro) True.intro) True.intro) (by simp [All]))) rfl True.intro)
      (sim_ret (sim_el elS_get (SimE.frz (sim_lc (by decide) (sim_iU (sim_var (r := .fz) rfl True.intro (fun _ h => nomatch h)) (.inr rfl)) (sim_gvname (by decide) rfl True.intro (.inr rfl)) put_ne (sim_test (sim_op opS_notIn (sim_var (r := .fz) rfl True.intro (fun _ h => nomatch h)) (sim_var (r := .sh) rfl True.intro (fun _ h => nomatch h)) True.intro)) (SimE.fz0 (sim_var (r := .fz) rfl True.intro (fun _ h => nomatch h))))) (sim_c Rep0.int) True.intro))) True.intro rfl h
theorem ok__law_same {f : Addr} {fd : FuncData} {k n : Nat} (F : L2.Fun K "_law_same" "_law_same" s__law_same f fd) (g : mg "_law_same" = some (.ref f)) (B : Bs K mg) (c__law_same : C8.Cal P w K mg base k "_law_same" (spT (gm K w) [.sh, .sh] (.fz) (f__law_same n)) []) : C8.Cal P w K mg base (k + 1) "_law_same" (spT (gm K w) [.sh, .sh] (.fz) (f__law_same (n + 1))) [] := by
  refine calT F g sc__law_same (F.binds (ps := P__law_same) fun _ _ _ _ _ _ us hl => match us, hl with | [_, _], _ => rfl) rfl fun cdv A outer s H Q E vs hr h => ?_
  refine ⟨_, (pss_cons (ps_if (pt_cmpR o_isN (pv 1) pe_non (by rfl)) (pss_one (ps_ret (pe_cmpR o_isN (pv 0) pe_non (by rfl)))) pss_nil)
      (pss_cons (ps_if (pt_val (pe_callB (isiU1 (Γ := gm K w) rfl) rfl B.b_isinstance (by decide +kernel) (pa_cons (pv 1) (pa_cons (pe_bltn (v := .ty "bool") rfl B.b_bool (by decide +kernel) rfl) pa_nil)))) (pss_one (ps_ret (pe_and (pe_callB (isiU1 (Γ := gm K w) rfl) rfl B.b_isinstance (by decide +kernel) (pa_cons (pv 0) (pa_cons (pe_bltn (v := .ty "bool") rfl B.b_bool (by decide +kernel) rfl) pa_nil))) (pe_one (pe_cmpR (opU_eq (Γ := gm K w) rfl (uu64 hr)) (pv 0) (pv 1) (by rfl)))))) pss_nil)
      (pss_cons (ps_if (pt_val (pe_callB (isiU1 (Γ := gm K w) rfl) rfl B.b_isinstance (by decide +kernel) (pa_cons (pv 1) (pa_cons (pe_bltn (v := .ty "int") rfl B.b_int (by decide +kernel) rfl) pa_nil)))) (pss_one (ps_ret (pe_and (pe_callB (isiU1 (Γ := gm K w) rfl) rfl B.b_isinstance (by decide +kernel) (pa_cons (pv 0) (pa_cons (pe_bltn (v := .ty "int") rfl B.b_int (by decide +kernel) rfl) pa_nil))) (pe_and (pe_not (pe_callB (isiU1 (Γ := gm K w) rfl) rfl B.b_isinstance (by decide +kernel) (pa_cons (pv 0) (pa_cons (pe_bltn (v := .ty "bool") rfl B.b_bool (by decide +kernel) rfl) pa_nil)))) (pe_one (pe_cmpR (opU_eq (Γ := gm K w) rfl (uu64 hr)) (pv 0) (pv 1) (by rfl))))))) pss_nil)
      (pss_cons (ps_if (pt_val (pe_callB (isiU1 (Γ := gm K w) rfl) rfl B.b_isinstance (by decide +kernel) (pa_cons (pv 1) (pa_cons (pe_bltn (v := .ty "str") rfl B.b_str (by decide +kernel) rfl) pa_nil)))) (pss_one (ps_ret (pe_and (pe_callB (isiU1 (Γ := gm K w) rfl) rfl B.b_isinstance (by decide +kernel) (pa_cons (pv 0) (pa_cons (pe_bltn (v := .ty "str") rfl B.b_str (by decide +kernel) rfl) pa_nil))) (pe_one (pe_cmpR (opU_eq (Γ := gm K w) rfl (uu64 hr)) (pv 0) (pv 1) (by rfl)))))) pss_nil)
      (pss_cons (ps_if (pt_val (pe_callB (isiU1 (Γ := gm K w) rfl) rfl B.b_isinstance (by decide +kernel) (pa_cons (pv 1) (pa_cons (pe_bltn (v := .ty "dict") rfl B.b_dict (by decide +kernel) rfl) pa_nil)))) (pss_cons (ps_if (PW.pt (pw_or (pt_not (pt_val (pe_callB (isiU1 (Γ := gm K w) rfl) rfl B.b_isinstance (by decide +kernel) (pa_cons (pv 0) (pa_cons (pe_bltn (v := .ty "dict") rfl B.b_dict (by decide +kernel) rfl) pa_nil))))) (pw_or1 (pt_cmpR (opU_ne (Γ := gm K w) rfl (uu64 hr)) (pe_callB (lenU (Γ := gm K w) rfl) rfl B.b_len (by decide +kernel) (pa_cons (pv 0) pa_nil)) (pe_callB (lenU (Γ := gm K w) rfl) rfl B.b_len (by decide +kernel) (pa_cons (pv 1) pa_nil)) (by rfl))))) (pss_one (ps_ret pe_bl)) pss_nil)
      (pss_one (ps_ret (pe_callB (k_all K rfl) rfl B.b_all (by decide +kernel) (pa_cons (pe_lc (own := [("_law_key", 3)]) rfl sc__law_same.nd (piU (Γ := gm K w) rfl rfl (pv 1)) (blkOk_by (own := [("_law_key", 3)]) (N := N__law_same) (sc := defScope s__law_same) (by decide +kernel)) (fun _ _ _ _ _ => (pg_name (i := 3) sc__law_same.nd rfl (.inl rfl))) (fun _ _ _ _ _ => pts_nil) (fun _ _ _ _ _ => (pe_and (pe_cmpR (opU_in (Γ := gm K w) (uu9 hr) rfl rfl) (pv 3) (pv 0) (by rfl)) (pe_one (C8.pe_c c__law_same hr (by omega) rfl (pa_cons (pe_ix (ixU (Γ := gm K w) (uu9 hr) rfl rfl) (pv 0) (pv 3) (fun _ _ => rfl)) (pa_cons (pe_ix (ixU (Γ := gm K w) (uu9 hr) rfl rfl) (pv 1) (pv 3) (fun _ _ => rfl)) pa_nil))))))) pa_nil))))) pss_nil)
      (pss_cons (ps_if (PW.pt (pw_and (pt_val (pe_callB (isiU1 (Γ := gm K w) rfl) rfl B.b_isinstance (by decide +kernel) (pa_cons (pv 1) (pa_cons (pe_bltn (v := .ty "tuple") rfl B.b_tuple (by decide +kernel) rfl) pa_nil)))) (pw_and1 (pt_not (pt_val (pe_callB (isiU1 (Γ := gm K w) rfl) rfl B.b_isinstance (by decide +kernel) (pa_cons (pv 0) (pa_cons (pe_bltn (v := .ty "tuple") rfl B.b_tuple (by decide +kernel) rfl) pa_nil)))))))) (pss_one (ps_ret pe_bl)) pss_nil)
      (pss_cons (ps_if (PW.pt (pw_and (pt_val (pe_callB (isiU1 (Γ := gm K w) rfl) rfl B.b_isinstance (by decide +kernel) (pa_cons (pv 1) (pa_cons (pe_bltn (v := .ty "list") rfl B.b_list (by decide +kernel) rfl) pa_nil)))) (pw_and1 (pt_not (pt_val (pe_callB (isiU1 (Γ := gm K w) rfl) rfl B.b_isinstance (by decide +kernel) (pa_cons (pv 0) (pa_cons (pe_bltn (v := .ty "list") rfl B.b_list (by decide +kernel) rfl) pa_nil)))))))) (pss_one (ps_ret pe_bl)) pss_nil)
      (pss_cons (ps_if (pt_cmpR (opU_ne (Γ := gm K w) rfl (uu64 hr)) (pe_callB (lenU (Γ := gm K w) rfl) rfl B.b_len (by decide +kernel) (pa_cons (pv 0) pa_nil)) (pe_callB (lenU (Γ := gm K w) rfl) rfl B.b_len (by decide +kernel) (pa_cons (pv 1) pa_nil)) (by rfl)) (pss_one (ps_ret pe_bl)) pss_nil)
      (pss_cons (ps_for PassesOwn.never rfl (pi_range1 rfl B.b_range (pa_cons (pe_callB (lenU (Γ := gm K w) rfl) rfl B.b_len (by decide +kernel) (pa_cons (pv 1) pa_nil)) pa_nil)) (pg_name (i := 2) sc__law_same.nd rfl (.inl rfl))
      (pss_one (ps_if (pt_not (pt_val (C8.pe_c c__law_same hr (by omega) rfl (pa_cons (pe_ix (ixU (Γ := gm K w) (uu9 hr) rfl rfl) (pv 0) (pv 2) (fun _ _ => rfl)) (pa_cons (pe_ix (ixU (Γ := gm K w) (uu9 hr) rfl rfl) (pv 1) (pv 2) (fun _ _ => rfl)) pa_nil))))) (pss_one (ps_ret pe_bl)) pss_nil)))
      (pss_one (ps_ret pe_bl))))))))))), ?_⟩
  exact body_sim (Γ := gm K w) (pms := [.sh, .sh]) (lms := [(.own 0), .sh]) (rr := .fz) (s := (st__law_same (f__law_same n))) (sim_seq (sim_ifS (sim_test (sim_op opS_isN (sim_var (r := .sh) rfl True.intro (fun _ h => nomatch h)) (sim_c Rep0.non) True.intro)) (sim_ret (sim_op opS_isN (sim_var (r := .sh) rfl True.intro (fun _ h => nomatch h)) (sim_c Rep0.non) True.intro)) sim_next)
      (sim_seq (sim_ifS (sim_tB (sim_isa1 kit_bool (sim_var (r := .sh) rfl True.intro (fun _ h => nomatch h)))) (sim_ret (sim_andV (sim_isa1 kit_bool (sim_var (r := .sh) rfl True.intro (fun _ h => nomatch h))) (sim_op opS_eq (sim_var (r := .sh) rfl True.intro (fun _ h => nomatch h)) (sim_var (r := .sh) rfl True.intro (fun _ h => nomatch h)) True.intro))) sim_next)
      (sim_seq (sim_ifS (sim_tB (sim_isa1 kit_int (sim_var (r := .sh) rfl True.intro (fun _ h => nomatch h)))) (sim_ret (sim_andV (sim_isa1 kit_int (sim_var (r := .sh) rfl True.intro (fun _ h => nomatch h))) (sim_andV (sim_notV (sim_isa1 kit_bool (sim_var (r := .sh) rfl True.intro (fun _ h => nomatch h)))) (sim_op opS_eq (sim_var (r := .sh) rfl True.intro (fun _ h => nomatch h)) (sim_var (r := .sh) rfl True.intro (fun _ h => nomatch h)) True.intro)))) sim_next)
      (sim_seq (sim_ifS (sim_tB (sim_isa1 kit_str (sim_var (r := .sh) rfl True.intro (fun _ h => nomatch h)))) (sim_ret (sim_andV (sim_isa1 kit_str (sim_var (r := .sh) rfl True.intro (fun _ h => nomatch h))) (sim_op opS_eq (sim_var (r := .sh) rfl True.intro (fun _ h => nomatch h)) (sim_var (r := .sh) rfl True.intro (fun _ h => nomatch h)) True.intro))) sim_next)
      (sim_seq (sim_ifS (sim_tB (sim_isa1 kit_dict (sim_var (r := .sh) rfl True.intro (fun _ h => nomatch h)))) (sim_seq (sim_ifS (sim_or (sim_not (sim_tB (sim_isa1 kit_dict (sim_var (r := .sh) rfl True.intro (fun _ h => nomatch h))))) (sim_test (sim_op opS_ne (sim_cb callS_len (sim_cons (sim_var (r := .sh) rfl True.intro (fun _ h => nomatch h)) sim_nil True.intro) True.intro) (sim_cb callS_len (sim_cons (sim_var (r := .sh) rfl True.intro (fun _ h => nomatch h)) sim_nil True.intro) True.intro) True.intro))) (sim_ret (sim_c Rep0.bl)) sim_next)
      (sim_ret (sim_cb callS_all (sim_cons (SimE.frz (sim_lc (by decide) (sim_iU (sim_var (r := .sh) rfl True.intro (fun _ h => nomatch h)) (.inl rfl)) (sim_gvname (by decide) rfl True.intro (.inl rfl)) put_ne sim_yes (SimE.fz0 (sim_andV (sim_op opS_in (sim_var (r := .sh) rfl True.intro (fun _ h => nomatch h)) (sim_var (r := .sh) rfl True.intro (fun _ h => nomatch h)) True.intro) (sim_call0 (rr := .fz) (sim_cons (sim_el elS_get (sim_var (r := .sh) rfl True.intro (fun _ h => nomatch h)) (sim_var (r := .sh) rfl True.intro (fun _ h => nomatch h)) True.intro) (sim_cons (sim_el elS_get (sim_var (r := .sh) rfl True.intro (fun _ h => nomatch h)) (sim_var (r := .sh) rfl True.intro (fun _ h => nomatch h)) True.intro) sim_nil True.intro) True.intro) (by simp [TL.Args, TL.Arg]) True.intro))))) sim_nil True.intro) True.intro))) sim_next)
      (sim_seq (sim_ifS (sim_and (sim_tB (sim_isa1 kit_tuple (sim_var (r := .sh) rfl True.intro (fun _ h => nomatch h)))) (sim_not (sim_tB (sim_isa1 kit_tuple (sim_var (r := .sh) rfl True.intro (fun _ h => nomatch h)))))) (sim_ret (sim_c Rep0.bl)) sim_next)
      (sim_seq (sim_ifS (sim_and (sim_tB (sim_isa1 kit_list (sim_var (r := .sh) rfl True.intro (fun _ h => nomatch h)))) (sim_not (sim_tB (sim_isa1 kit_list (sim_var (r := .sh) rfl True.intro (fun _ h => nomatch h)))))) (sim_ret (sim_c Rep0.bl)) sim_next)
      (sim_seq (sim_ifS (sim_test (sim_op opS_ne (sim_cb callS_len (sim_cons (sim_var (r := .sh) rfl True.intro (fun _ h => nomatch h)) sim_nil True.intro) True.intro) (sim_cb callS_len (sim_cons (sim_var (r := .sh) rfl True.intro (fun _ h => nomatch h)) sim_nil True.intro) True.intro) True.intro)) (sim_ret (sim_c Rep0.bl)) sim_next)
      (sim_seq (sim_for (sim_range1 (r := .fz) (sim_cons (sim_cb callS_len (sim_cons (sim_var (r := .sh) rfl True.intro (fun _ h => nomatch h)) sim_nil True.intro) True.intro) sim_nil True.intro) True.intro) (sim_gname rfl True.intro (.inr rfl)) (sim_ifS (sim_not (sim_tB (sim_call0 (rr := .fz) (sim_cons (sim_el elS_get (sim_var (r := .sh) rfl True.intro (fun _ h => nomatch h)) (sim_var (r := .fz) rfl True.intro (fun _ h => nomatch h)) True.intro) (sim_cons (sim_el elS_get (sim_var (r := .sh) rfl True.intro (fun _ h => nomatch h)) (sim_var (r := .fz) rfl True.intro (fun _ h => nomatch h)) True.intro) sim_nil True.intro) True.intro) (by simp [TL.Args, TL.Arg]) True.intro))) (sim_ret (sim_c Rep0.bl)) sim_next) put_ne)
      (sim_ret (sim_c Rep0.bl))))))))))) True.intro rfl h
theorem ok_Machine___getitem__ {f : Addr} {fd : FuncData} {k : Nat} (F : L2.Fun K "__getitem__" "Machine.__getitem__" s_Machine___getitem__ f fd) (B : Bs K mg) (c_is_name : C8.Cal P w K mg base k "is_name" (spT (gm K w) [.sh] (.fz) f_is_name) []) : FnOk P w K mg base CX0 (k + 1) f fd P_Machine___getitem__ (spT (gm K w) [.sh, .sh] (.fz) f_Machine___getitem__) := by
  refine fmT F sc_Machine___getitem__ rfl fun cdv A outer s H Q E vs hr h => ?_
  refine ⟨_, (pss_cons (ps_if (PW.pt (pw_or (pt_not (pt_val (pe_callB (isiU1 (Γ := gm K w) rfl) rfl B.b_isinstance (by decide +kernel) (pa_cons (pv 1) (pa_cons (pe_bltn (v := .ty "tuple") rfl B.b_tuple (by decide +kernel) rfl) pa_nil))))) (pw_or1 (pt_cmpR (opU_ne (Γ := gm K w) rfl (uu64 hr)) (pe_callB (lenU (Γ := gm K w) rfl) rfl B.b_len (by decide +kernel) (pa_cons (pv 1) pa_nil)) pe_int (by rfl))))) (pss_one (ps_ret pe_non)) pss_nil)
      (pss_cons (ps_if (PW.pt (pw_or (pt_not (pt_val (C8.pe_c c_is_name hr (by omega) rfl (pa_cons (pe_ix (ixU (Γ := gm K w) (uu9 hr) rfl rfl) (pv 1) pe_int (fun _ _ => rfl)) pa_nil)))) (pw_or1 (pt_not (pt_val (C8.pe_c c_is_name hr (by omega) rfl (pa_cons (pe_ix (ixU (Γ := gm K w) (uu9 hr) rfl rfl) (pv 1) pe_int (fun _ _ => rfl)) pa_nil))))))) (pss_one (ps_ret pe_non)) pss_nil)
      (pss_one (ps_ret (pe_get1U (Γ := gm K w) (uu9 hr) rfl rfl (k_fld K (pv 0)) (pv 1) ⟨rfl, rfl, rfl, rfl⟩))))), ?_⟩
  exact body_sim (Γ := gm K w) (pms := [.sh, .sh]) (lms := []) (rr := .fz) (s := st_Machine___getitem__) (sim_seq (sim_ifS (sim_or (sim_not (sim_tB (sim_isaI1 (cs := [(PySem.Str.ofString "Machine")]) B.isi kit_tuple (by decide) (sim_var (r := .sh) rfl True.intro (fun _ h => nomatch h))))) (sim_test (sim_op opS_ne (sim_cb callS_len (sim_cons (sim_var (r := .sh) rfl True.intro (fun _ h => nomatch h)) sim_nil True.intro) True.intro) (sim_c Rep0.int) True.intro))) (sim_ret (sim_c Rep0.non)) sim_next)
      (sim_seq (sim_ifS (sim_or (sim_not (sim_tB (sim_call0 (rr := .fz) (sim_cons (sim_el elS_get (sim_var (r := .sh) rfl True.intro (fun _ h => nomatch h)) (sim_c Rep0.int) True.intro) sim_nil True.intro) (by simp [TL.Args, TL.Arg]) True.intro))) (sim_not (sim_tB (sim_call0 (rr := .fz) (sim_cons (sim_el elS_get (sim_var (r := .sh) rfl True.intro (fun _ h => nomatch h)) (sim_c Rep0.int) True.intro) sim_nil True.intro) (by simp [TL.Args, TL.Arg]) True.intro)))) (sim_ret (sim_c Rep0.non)) sim_next)
      (sim_ret (sim_get1 (sim_fld (c := (PySem.Str.ofString "Machine")) ⟨B.k_Machine, B.n_Machine_edges⟩ (sim_var (r := .sh) rfl True.intro (fun _ h => nomatch h))) (sim_var (r := .sh) rfl True.intro (fun _ h => nomatch h)) True.intro (.inl (.inr rfl)))))) True.intro rfl h
theorem ok__law_strange {f : Addr} {fd : FuncData} {k : Nat} (F : L2.Fun K "_law_strange" "_law_strange" s__law_strange f fd) (g : mg "_law_strange" = some (.ref f)) (B : Bs K mg) (c__law_draw : C8.Cal P w K mg base k "_law_draw" (spT (gm K w) [(.lent 2), .sh] (.fz) f__law_draw) []) : C8.Cal P w K mg base (k + 1) "_law_strange" (spT (gm K w) [(.lent 2), .sh] (.fz) f__law_strange) [] := by
  refine calT F g sc__law_strange (F.binds (ps := P__law_strange) fun _ _ _ _ _ _ us hl => match us, hl with | [_, _], _ => rfl) rfl fun cdv A outer s H Q E vs hr h => ?_
  refine ⟨_, (pss_cons (ps_set (i := 2) sc__law_strange.nd rfl (.inl rfl) (pe_lst (pa_cons (pv 1) pa_nil)))
      (pss_cons (ps_for PassesOwn.never rfl (pi_range1 rfl B.b_range (pa_cons pe_int pa_nil)) (pg_name (i := 3) sc__law_strange.nd rfl (.inl rfl))
      (pss_one (ps_set (i := 2) sc__law_strange.nd rfl (.inl rfl) (pe_lst (pa_cons (pv 2) pa_nil)))))
      (pss_cons (ps_set (i := 4) sc__law_strange.nd rfl (.inl rfl) (pe_lst (pa_cons pe_non (pa_cons pe_bl (pa_cons pe_int (pa_cons pe_str (pa_cons pe_str (pa_cons pe_str (pa_cons pe_str (pa_cons pe_str (pa_cons (pe_un un_neg pe_int) pa_nil)))))))))))
      (pss_cons (ps_set (i := 4) sc__law_strange.nd rfl (.inl rfl) (pe_op (opQ_add (Γ := gm K w) rfl) (pv 4) (pe_lst (pa_cons (pe_lst (pa_cons (pv 1) pa_nil)) (pa_cons (pe_tup (pa_cons (pv 1) pa_nil)) (pa_cons (pe_lst pa_nil) (pa_cons (pe_dnewX (Γ := gm K w) rfl) (pa_cons (pe_op opU_add (pv 1) pe_str) (pa_cons (pe_op op_pow pe_int pe_int) (pa_cons (pv 2) pa_nil))))))))))
      (pss_one (ps_ret (pe_ix (ixU (Γ := gm K w) (uu9 hr) rfl rfl) (pv 4) (C8.pe_c c__law_draw hr (by omega) rfl (pa_cons (pv 0) (pa_cons (pe_callB (lenU (Γ := gm K w) rfl) rfl B.b_len (by decide +kernel) (pa_cons (pv 4) pa_nil)) pa_nil))) (fun _ _ => rfl)))))))), ?_⟩
  exact body_sim (Γ := gm K w) (pms := [(.lent 2), .sh]) (lms := [(.own 0), (.own 0), (.own 0)]) (rr := .fz) (s := st__law_strange) (sim_seq (sim_set (SimE.frz (sim_lst (sim_cons (SimE.imm (sim_var (r := .sh) rfl True.intro (fun _ h => nomatch h))) sim_nil True.intro) (by simp [All]))) rfl True.intro)
      (sim_seq (sim_for (sim_range1 (r := .fz) (sim_cons (sim_c Rep0.int) sim_nil True.intro) True.intro) (sim_gname rfl True.intro (.inr rfl)) (sim_set (SimE.frz (sim_lst (sim_cons (sim_var (r := .fz) rfl True.intro (fun _ h => nomatch h)) sim_nil True.intro) (by simp [All]))) rfl True.intro) put_ne)
      (sim_seq (sim_set (SimE.frz (sim_lst (sim_cons (sim_c Rep0.non) (sim_cons (sim_c Rep0.bl) (sim_cons (sim_c Rep0.int) (sim_cons (sim_c Rep0.str) (sim_cons (sim_c Rep0.str) (sim_cons (sim_c Rep0.str) (sim_cons (sim_c Rep0.str) (sim_cons (sim_c Rep0.str) (sim_cons (sim_neg (sim_c Rep0.int)) sim_nil True.intro) True.intro) True.intro) True.intro) True.intro) True.intro) True.intro) True.intro) True.intro) (by simp [All]))) rfl True.intro)
      (sim_seq (sim_set (SimE.frz (sim_cat_fz (sim_var (r := .fz) rfl True.intro (fun _ h => nomatch h)) (SimE.frz (sim_lst (sim_cons (SimE.frz (sim_lst (sim_cons (SimE.imm (sim_var (r := .sh) rfl True.intro (fun _ h => nomatch h))) sim_nil True.intro) (by simp [All]))) (sim_cons (sim_tup_fz (sim_cons (SimE.imm (sim_var (r := .sh) rfl True.intro (fun _ h => nomatch h))) sim_nil True.intro) (by simp [All])) (sim_cons (SimE.frz (sim_lst sim_nil (by simp [All]))) (sim_cons (SimE.frz sim_dnew) (sim_cons (sim_op opS_add (sim_var (r := .sh) rfl True.intro (fun _ h => nomatch h)) (sim_c Rep0.str) True.intro) (sim_cons (sim_op opS_pow (sim_c Rep0.int) (sim_c Rep0.int) True.intro) (sim_cons (sim_var (r := .fz) rfl True.intro (fun _ h => nomatch h)) sim_nil True.intro) True.intro) True.intro) True.intro) True.intro) True.intro) True.intro) (by simp [All]))))) rfl True.intro)
      (sim_ret (sim_el elS_get (sim_var (r := .fz) rfl True.intro (fun _ h => nomatch h)) (sim_callL (rr := .fz) (p1 := []) (p2 := [.sh]) (c1 := []) (c2 := [.fz]) (n := 2) (i := 0) (sim_consS rfl (sim_cons (sim_cb callS_len (sim_cons (sim_var (r := .fz) rfl True.intro (fun _ h => nomatch h)) sim_nil True.intro) True.intro) sim_nil True.intro)) rfl rfl rfl rfl (by simp [TL.Args, TL.Arg]) (by simp [TL.Args, TL.Arg]) (noNow_of (by decide)) hlen_of hlen_ex True.intro) True.intro)))))) True.intro rfl h
theorem okT_law {f : Addr} {fd : FuncData} {k : Nat} (F : L2.Fun K "law" "law" s_law f fd) (B : Bs K mg) (c__law_purse : C8.Cal P w K mg base k "_law_purse" (spT (gm K w) [.sh] ((.own 2)) f__law_purse) []) (c__law_parts : C8.Cal P w K mg base k "_law_parts" (spT (gm K w) [(.lent 2), .sh, .sh] (.fz) f__law_parts) []) (c__law_states : C8.Cal P w K mg base k "_law_states" (spT (gm K w) [.sh] (.fz) f__law_states) []) {k_Machine___init__ : Nat} (c_Machine___init__ : C8.Mak P w K mg base k_Machine___init__ "Machine" (He.ga K "Machine") (spT (gm K w) [.obj, .sh, .sh, .sh, .sh] (.fz) f_Machine___init__) []) (h_Machine___init__ : k_Machine___init__ + 1 ≤ k) (c__law_copy : C8.Cal P w K mg base k "_law_copy" (spT (gm K w) [.sh] ((.own 1)) f__law_copy) []) (c__law_fresh : C8.Cal P w K mg base k "_law_fresh" (spT (gm K w) [.sh] (.fz) f__law_fresh) []) (c__law_same : C8.Cal P w K mg base k "_law_same" (spT (gm K w) [.sh, .sh] (.fz) (f__law_same 9)) []) {k_Machine___getitem__ : Nat} (c_Machine___getitem__ : TL.MetI P w K mg base k_Machine___getitem__ (He.ga K "Machine") "__getitem__" (spT (gm K w) [.sh, .sh] (.fz) f_Machine___getitem__)) (h_Machine___getitem__ : k_Machine___getitem__ + 1 ≤ k) (c__law_draw : C8.Cal P w K mg base k "_law_draw" (spT (gm K w) [(.lent 2), .sh] (.fz) f__law_draw) []) (c__law_strange : C8.Cal P w K mg base k "_law_strange" (spT (gm K w) [(.lent 2), .sh] (.fz) f__law_strange) []) : FnOk P w K mg base CX0 (k + 1) f fd P_law (spT (gm K w) [.sh] (.fz) f_law) := by
  refine fmT F sc_law rfl fun cdv A outer s H Q E vs hr h => ?_
  refine ⟨_, (pss_cons (ps_set (i := 1) sc_law.nd rfl (.inl rfl) (C8.pe_c c__law_purse hr (by omega) rfl (pa_cons (pv 0) pa_nil)))
      (pss_cons (ps_set (i := 2) sc_law.nd rfl (.inl rfl) (C8.pe_c c__law_parts hr (by omega) rfl (pa_cons (pv 1) (pa_cons pe_int (pa_cons pe_int pa_nil)))))
      (pss_cons (ps_set (i := 3) sc_law.nd rfl (.inl rfl) (C8.pe_c c__law_states hr (by omega) rfl (pa_cons (pv 2) pa_nil)))
      (pss_cons (ps_set (i := 4) sc_law.nd rfl (.inl rfl) (C8.pe_mk c_Machine___init__ hr (by omega) rfl (pa_cons (pe_callTy (listU (Γ := gm K w) rfl rfl) rfl B.b_list (by decide +kernel) (pa_cons (pe_ix (ixU (Γ := gm K w) (uu9 hr) rfl rfl) (pv 2) pe_int (fun _ _ => rfl)) pa_nil)) (pa_cons (pe_ix (ixU (Γ := gm K w) (uu9 hr) rfl rfl) (pv 2) pe_int (fun _ _ => rfl)) (pa_cons (C8.pe_c c__law_copy hr (by omega) rfl (pa_cons (pe_ix (ixU (Γ := gm K w) (uu9 hr) rfl rfl) (pv 2) pe_int (fun _ _ => rfl)) pa_nil)) (pa_cons (pe_callTy (listU (Γ := gm K w) rfl rfl) rfl B.b_list (by decide +kernel) (pa_cons (pe_ix (ixU (Γ := gm K w) (uu9 hr) rfl rfl) (pv 2) pe_int (fun _ _ => rfl)) pa_nil)) pa_nil))))))
      (pss_cons (ps_for PassesOwn.never rfl (piU (Γ := gm K w) rfl rfl (pe_op (opQ_add (Γ := gm K w) rfl) (pv 3) (pe_lst (pa_cons (C8.pe_c c__law_fresh hr (by omega) rfl (pa_cons (pv 3) pa_nil)) pa_nil)))) (pg_name (i := 5) sc_law.nd rfl (.inl rfl))
      (pss_one (ps_for PassesOwn.never rfl (piU (Γ := gm K w) rfl rfl (pe_op (opQ_add (Γ := gm K w) rfl) (pe_ix (ixU (Γ := gm K w) (uu9 hr) rfl rfl) (pv 2) pe_int (fun _ _ => rfl)) (pe_lst (pa_cons (C8.pe_c c__law_fresh hr (by omega) rfl (pa_cons (pe_ix (ixU (Γ := gm K w) (uu9 hr) rfl rfl) (pv 2) pe_int (fun _ _ => rfl)) pa_nil)) pa_nil)))) (pg_name (i := 6) sc_law.nd rfl (.inl rfl))
      (pss_one (ps_if (pt_not (pt_val (C8.pe_c c__law_same hr (by omega) rfl (pa_cons (pe_ixO c_Machine___getitem__ hr (by omega) (pv 4) (pe_tup (pa_cons (pv 5) (pa_cons (pv 6) pa_nil)))) (pa_cons (pe_get1U (Γ := gm K w) (uu9 hr) rfl rfl (pe_ix (ixU (Γ := gm K w) (uu9 hr) rfl rfl) (pv 2) pe_int (fun _ _ => rfl)) (pe_tup (pa_cons (pv 5) (pa_cons (pv 6) pa_nil))) ⟨rfl, rfl, rfl, rfl⟩) pa_nil))))) (pss_one (ps_ret pe_bl)) pss_nil)))))
      (pss_cons (ps_for PassesOwn.never rfl (pi_range1 rfl B.b_range (pa_cons (pe_op opU_add pe_int (C8.pe_c c__law_draw hr (by omega) rfl (pa_cons (pv 1) (pa_cons pe_int pa_nil)))) pa_nil)) (pg_name (i := 7) sc_law.nd rfl (.inl rfl))
      (pss_cons (ps_set (i := 5) sc_law.nd rfl (.inl rfl) (pe_ix (ixU (Γ := gm K w) (uu9 hr) rfl rfl) (pv 3) (C8.pe_c c__law_draw hr (by omega) rfl (pa_cons (pv 1) (pa_cons (pe_callB (lenU (Γ := gm K w) rfl) rfl B.b_len (by decide +kernel) (pa_cons (pv 3) pa_nil)) pa_nil))) (fun _ _ => rfl)))
      (pss_cons (ps_set (i := 8) sc_law.nd rfl (.inl rfl) (C8.pe_c c__law_strange hr (by omega) rfl (pa_cons (pv 1) (pa_cons (pv 5) pa_nil))))
      (pss_cons (ps_if (pt_cmpR (opU_eq (Γ := gm K w) rfl (uu64 hr)) (pv 7) pe_int (by rfl)) (pss_one (ps_set (i := 8) sc_law.nd rfl (.inl rfl) (pv 4))) pss_nil)
      (pss_cons (ps_set (i := 6) sc_law.nd rfl (.inl rfl) (pe_ix (ixU (Γ := gm K w) (uu9 hr) rfl rfl) (pe_ix (ixU (Γ := gm K w) (uu9 hr) rfl rfl) (pv 2) pe_int (fun _ _ => rfl)) (C8.pe_c c__law_draw hr (by omega) rfl (pa_cons (pv 1) (pa_cons (pe_callB (lenU (Γ := gm K w) rfl) rfl B.b_len (by decide +kernel) (pa_cons (pe_ix (ixU (Γ := gm K w) (uu9 hr) rfl rfl) (pv 2) pe_int (fun _ _ => rfl)) pa_nil)) pa_nil))) (fun _ _ => rfl)))
      (pss_one (ps_for PassesOwn.never rfl (piU (Γ := gm K w) rfl rfl (pe_lst (pa_cons (pv 8) (pa_cons (pe_tup (pa_cons (pv 5) pa_nil)) (pa_cons (pe_tup (pa_cons (pv 5) (pa_cons (pv 8) pa_nil))) (pa_cons (pe_tup (pa_cons (pv 8) (pa_cons (pv 6) pa_nil))) (pa_cons (pe_tup (pa_cons (pv 5) (pa_cons (pv 6) (pa_cons (pv 6) pa_nil)))) (pa_cons (pe_lst (pa_cons (pv 5) (pa_cons (pv 6) pa_nil))) (pa_cons (pv 5) pa_nil))))))))) (pg_name (i := 9) sc_law.nd rfl (.inl rfl))
      (pss_one (ps_if (pt_cmpR o_notN (pe_ixO c_Machine___getitem__ hr (by omega) (pv 4) (pv 9)) pe_non (by rfl)) (pss_one (ps_ret pe_bl)) pss_nil)))))))))
      (pss_one (ps_ret pe_bl)))))))), ?_⟩
  exact body_sim (Γ := gm K w) (pms := [.sh]) (lms := [(.own 2), (.own 0), (.own 0), (.own 0), (.own 0), (.own 0), (.own 0), (.own 0), (.own 0)]) (rr := .fz) (s := st_law) (sim_seq (sim_set (sim_call0 (rr := (.own 2)) (sim_cons (sim_var (r := .sh) rfl True.intro (fun _ h => nomatch h)) sim_nil True.intro) (by simp [TL.Args, TL.Arg]) True.intro) rfl rfl)
      (sim_seq (sim_set (sim_callL (rr := .fz) (p1 := []) (p2 := [.sh, .sh]) (c1 := []) (c2 := [.fz, .fz]) (n := 2) (i := 1) (sim_consS rfl (sim_cons (sim_c Rep0.int) (sim_cons (sim_c Rep0.int) sim_nil True.intro) True.intro)) rfl rfl rfl rfl (by simp [TL.Args, TL.Arg]) (by simp [TL.Args, TL.Arg]) (noNow_of (by decide)) hlen_of hlen_ex True.intro) rfl True.intro)
      (sim_seq (sim_set (sim_call0 (rr := .fz) (sim_cons (sim_var (r := .fz) rfl True.intro (fun _ h => nomatch h)) sim_nil True.intro) (by simp [TL.Args, TL.Arg]) True.intro) rfl True.intro)
      (sim_seq (sim_set (sim_make (pms := [.sh, .sh, .sh, .sh]) (c := (PySem.Str.ofString "Machine")) (sim_cons (SimE.frz (sim_new_fz newS_list (sim_cons (sim_el elS_get (sim_var (r := .fz) rfl True.intro (fun _ h => nomatch h)) (sim_c Rep0.int) True.intro) sim_nil True.intro) (by simp [All]))) (sim_cons (sim_el elS_get (sim_var (r := .fz) rfl True.intro (fun _ h => nomatch h)) (sim_c Rep0.int) True.intro) (sim_cons (SimE.frz (sim_call0 (rr := (.own 1)) (sim_cons (sim_el elS_get (sim_var (r := .fz) rfl True.intro (fun _ h => nomatch h)) (sim_c Rep0.int) True.intro) sim_nil True.intro) (by simp [TL.Args, TL.Arg]) True.intro)) (sim_cons (SimE.frz (sim_new_fz newS_list (sim_cons (sim_el elS_get (sim_var (r := .fz) rfl True.intro (fun _ h => nomatch h)) (sim_c Rep0.int) True.intro) sim_nil True.intro) (by simp [All]))) sim_nil True.intro) True.intro) True.intro) True.intro) (by simp [TL.Args, TL.Arg]) (hlen_of (s := st_Machine___init__) (np := 5) (N := 7))) rfl True.intro)
      (sim_seq (sim_for (sim_iU (SimE.frz (sim_cat_fz (sim_var (r := .fz) rfl True.intro (fun _ h => nomatch h)) (SimE.frz (sim_lst (sim_cons (sim_call0 (rr := .fz) (sim_cons (sim_var (r := .fz) rfl True.intro (fun _ h => nomatch h)) sim_nil True.intro) (by simp [TL.Args, TL.Arg]) True.intro) sim_nil True.intro) (by simp [All]))))) (.inr rfl)) (sim_gname rfl True.intro (.inr rfl)) (sim_for (sim_iU (SimE.frz (sim_cat_fz (sim_el elS_get (sim_var (r := .fz) rfl True.intro (fun _ h => nomatch h)) (sim_c Rep0.int) True.intro) (SimE.frz (sim_lst (sim_cons (sim_call0 (rr := .fz) (sim_cons (sim_el elS_get (sim_var (r := .fz) rfl True.intro (fun _ h => nomatch h)) (sim_c Rep0.int) True.intro) sim_nil True.intro) (by simp [TL.Args, TL.Arg]) True.intro) sim_nil True.intro) (by simp [All]))))) (.inr rfl)) (sim_gname rfl True.intro (.inr rfl)) (sim_ifS (sim_not (sim_tB (sim_call0 (rr := .fz) (sim_cons (sim_ixO (rr := .fz) (c := (PySem.Str.ofString "Machine")) (sim_var (r := .fz) rfl True.intro (fun _ h => nomatch h)) (sim_tup_fz (sim_cons (sim_var (r := .fz) rfl True.intro (fun _ h => nomatch h)) (sim_cons (sim_var (r := .fz) rfl True.intro (fun _ h => nomatch h)) sim_nil True.intro) True.intro) (by simp [All])) True.intro True.intro True.intro (by simp [TL.Args, TL.Arg]) True.intro) (sim_cons (sim_get1 (sim_el elS_get (sim_var (r := .fz) rfl True.intro (fun _ h => nomatch h)) (sim_c Rep0.int) True.intro) (sim_tup_fz (sim_cons (sim_var (r := .fz) rfl True.intro (fun _ h => nomatch h)) (sim_cons (sim_var (r := .fz) rfl True.intro (fun _ h => nomatch h)) sim_nil True.intro) True.intro) (by simp [All])) True.intro (.inl (.inr rfl))) sim_nil True.intro) True.intro) (by simp [TL.Args, TL.Arg]) True.intro))) (sim_ret (sim_c Rep0.bl)) sim_next) put_ne) put_ne)
      (sim_seq (sim_for (sim_range1 (r := .fz) (sim_cons (sim_op opS_add (sim_c Rep0.int) (sim_callL (rr := .fz) (p1 := []) (p2 := [.sh]) (c1 := []) (c2 := [.fz]) (n := 2) (i := 1) (sim_consS rfl (sim_cons (sim_c Rep0.int) sim_nil True.intro)) rfl rfl rfl rfl (by simp [TL.Args, TL.Arg]) (by simp [TL.Args, TL.Arg]) (noNow_of (by decide)) hlen_of hlen_ex True.intro) True.intro) sim_nil True.intro) True.intro) (sim_gname rfl True.intro (.inr rfl)) (sim_seq (sim_set (sim_el elS_get (sim_var (r := .fz) rfl True.intro (fun _ h => nomatch h)) (sim_callL (rr := .fz) (p1 := []) (p2 := [.sh]) (c1 := []) (c2 := [.fz]) (n := 2) (i := 1) (sim_consS rfl (sim_cons (sim_cb callS_len (sim_cons (sim_var (r := .fz) rfl True.intro (fun _ h => nomatch h)) sim_nil True.intro) True.intro) sim_nil True.intro)) rfl rfl rfl rfl (by simp [TL.Args, TL.Arg]) (by simp [TL.Args, TL.Arg]) (noNow_of (by decide)) hlen_of hlen_ex True.intro) True.intro) rfl True.intro)
      (sim_seq (sim_set (sim_callL (rr := .fz) (p1 := []) (p2 := [.sh]) (c1 := []) (c2 := [.fz]) (n := 2) (i := 1) (sim_consS rfl (sim_cons (sim_var (r := .fz) rfl True.intro (fun _ h => nomatch h)) sim_nil True.intro)) rfl rfl rfl rfl (by simp [TL.Args, TL.Arg]) (by simp [TL.Args, TL.Arg]) (noNow_of (by decide)) hlen_of hlen_ex True.intro) rfl True.intro)
      (sim_seq (sim_ifS (sim_test (sim_op opS_eq (sim_var (r := .fz) rfl True.intro (fun _ h => nomatch h)) (sim_c Rep0.int) True.intro)) (sim_set (sim_var (r := .fz) rfl True.intro (fun _ h => nomatch h)) rfl True.intro) sim_next)
      (sim_seq (sim_set (sim_el elS_get (sim_el elS_get (sim_var (r := .fz) rfl True.intro (fun _ h => nomatch h)) (sim_c Rep0.int) True.intro) (sim_callL (rr := .fz) (p1 := []) (p2 := [.sh]) (c1 := []) (c2 := [.fz]) (n := 2) (i := 1) (sim_consS rfl (sim_cons (sim_cb callS_len (sim_cons (sim_el elS_get (sim_var (r := .fz) rfl True.intro (fun _ h => nomatch h)) (sim_c Rep0.int) True.intro) sim_nil True.intro) True.intro) sim_nil True.intro)) rfl rfl rfl rfl (by simp [TL.Args, TL.Arg]) (by simp [TL.Args, TL.Arg]) (noNow_of (by decide)) hlen_of hlen_ex True.intro) True.intro) rfl True.intro)
      (sim_for (sim_iU (SimE.frz (sim_lst (sim_cons (sim_var (r := .fz) rfl True.intro (fun _ h => nomatch h)) (sim_cons (sim_tup_fz (sim_cons (sim_var (r := .fz) rfl True.intro (fun _ h => nomatch h)) sim_nil True.intro) (by simp [All])) (sim_cons (sim_tup_fz (sim_cons (sim_var (r := .fz) rfl True.intro (fun _ h => nomatch h)) (sim_cons (sim_var (r := .fz) rfl True.intro (fun _ h => nomatch h)) sim_nil True.intro) True.intro) (by simp [All])) (sim_cons (sim_tup_fz (sim_cons (sim_var (r := .fz) rfl True.intro (fun _ h => nomatch h)) (sim_cons (sim_var (r := .fz) rfl True.intro (fun _ h => nomatch h)) sim_nil True.intro) True.intro) (by simp [All])) (sim_cons (sim_tup_fz (sim_cons (sim_var (r := .fz) rfl True.intro (fun _ h => nomatch h)) (sim_cons (sim_var (r := .fz) rfl True.intro (fun _ h => nomatch h)) (sim_cons (sim_var (r := .fz) rfl True.intro (fun _ h => nomatch h)) sim_nil True.intro) True.intro) True.intro) (by simp [All])) (sim_cons (SimE.frz (sim_lst (sim_cons (sim_var (r := .fz) rfl True.intro (fun _ h => nomatch h)) (sim_cons (sim_var (r := .fz) rfl True.intro (fun _ h => nomatch h)) sim_nil True.intro) True.intro) (by simp [All]))) (sim_cons (sim_var (r := .fz) rfl True.intro (fun _ h => nomatch h)) sim_nil True.intro) True.intro) True.intro) True.intro) True.intro) True.intro) True.intro) (by simp [All]))) (.inr rfl)) (sim_gname rfl True.intro (.inr rfl)) (sim_ifS (sim_test (sim_op opS_notN (sim_ixO (rr := .fz) (c := (PySem.Str.ofString "Machine")) (sim_var (r := .fz) rfl True.intro (fun _ h => nomatch h)) (sim_var (r := .fz) rfl True.intro (fun _ h => nomatch h)) True.intro True.intro True.intro (by simp [TL.Args, TL.Arg]) True.intro) (sim_c Rep0.non) True.intro)) (sim_ret (sim_c Rep0.bl)) sim_next) put_ne))))) put_ne)
      (sim_ret (sim_c Rep0.bl)))))))) True.intro rfl h
end
end My
end
section
set_option Elab.async false
set_option linter.all false
set_option autoImplicit false
set_option maxRecDepth 100000
set_option maxHeartbeats 4000000

namespace My
open PySem PySem.Spec L2 TL
abbrev spLaw (K : PySem.W.Frag) : Sp := sp1 fun x H Q _ => ∃ (a : Addr) (ns : List Int), x = .ref a ∧ SqL K H a (ns.map V.int) ∧ ∀ H', Q (.bl true) H'
theorem ok_law {P : Program} {w : World} {K : PySem.W.Frag} {mg : Str → Option Value} {base : Heap} {f : Addr} {fd : FuncData} {k : Nat} (F : L2.Fun K "law" "law" s_law f fd) (B : Bs K mg) (c__law_purse : C8.Cal P w K mg base k "_law_purse" (spT (gm K w) [.sh] ((.own 2)) f__law_purse) []) (c__law_parts : C8.Cal P w K mg base k "_law_parts" (spT (gm K w) [(.lent 2), .sh, .sh] (.fz) f__law_parts) []) (c__law_states : C8.Cal P w K mg base k "_law_states" (spT (gm K w) [.sh] (.fz) f__law_states) []) {k_Machine___init__ : Nat} (c_Machine___init__ : C8.Mak P w K mg base k_Machine___init__ "Machine" (He.ga K "Machine") (spT (gm K w) [.obj, .sh, .sh, .sh, .sh] (.fz) f_Machine___init__) []) (h_Machine___init__ : k_Machine___init__ + 1 ≤ k) (c__law_copy : C8.Cal P w K mg base k "_law_copy" (spT (gm K w) [.sh] ((.own 1)) f__law_copy) []) (c__law_fresh : C8.Cal P w K mg base k "_law_fresh" (spT (gm K w) [.sh] (.fz) f__law_fresh) []) (c__law_same : C8.Cal P w K mg base k "_law_same" (spT (gm K w) [.sh, .sh] (.fz) (f__law_same 9)) []) {k_Machine___getitem__ : Nat} (c_Machine___getitem__ : TL.MetI P w K mg base k_Machine___getitem__ (He.ga K "Machine") "__getitem__" (spT (gm K w) [.sh, .sh] (.fz) f_Machine___getitem__)) (h_Machine___getitem__ : k_Machine___getitem__ + 1 ≤ k) (c__law_draw : C8.Cal P w K mg base k "_law_draw" (spT (gm K w) [(.lent 2), .sh] (.fz) f__law_draw) []) (c__law_strange : C8.Cal P w K mg base k "_law_strange" (spT (gm K w) [(.lent 2), .sh] (.fz) f__law_strange) []) : FnOk P w K mg base CX0 (k + 1) f fd P_law (spLaw K) := by
  refine (okT_law F B c__law_purse c__law_parts c__law_states c_Machine___init__ h_Machine___init__ c__law_copy c__law_fresh c__law_same c_Machine___getitem__ h_Machine___getitem__ c__law_draw c__law_strange).imp ?_
  rintro vs H Q E ⟨x, rfl, a, ns, rfl, hS, hQ⟩
  obtain ⟨τ, hm⟩ := law_true ns
  exact law_sp (Γ := gm K w) rfl hS hm hQ rfl
def d__law_purse : He.DefD := ⟨("_law_purse", none), "_law_purse", "_law_purse", defArgs s__law_purse, defBody s__law_purse, defScope s__law_purse, [], []⟩
def d__law_draw : He.DefD := ⟨("_law_draw", none), "_law_draw", "_law_draw", defArgs s__law_draw, defBody s__law_draw, defScope s__law_draw, [], []⟩
def d__law_name : He.DefD := ⟨("_law_name", none), "_law_name", "_law_name", defArgs s__law_name, defBody s__law_name, defScope s__law_name, [], []⟩
def d__law_names : He.DefD := ⟨("_law_names", none), "_law_names", "_law_names", defArgs s__law_names, defBody s__law_names, defScope s__law_names, [], []⟩
def d__law_reached : He.DefD := ⟨("_law_reached", none), "_law_reached", "_law_reached", defArgs s__law_reached, defBody s__law_reached, defScope s__law_reached, [], []⟩
def d__law_parts : He.DefD := ⟨("_law_parts", none), "_law_parts", "_law_parts", defArgs s__law_parts, defBody s__law_parts, defScope s__law_parts, [], []⟩
def d__law_states : He.DefD := ⟨("_law_states", none), "_law_states", "_law_states", defArgs s__law_states, defBody s__law_states, defScope s__law_states, [], []⟩
def d_is_items : He.DefD := ⟨("is_items", none), "is_items", "is_items", defArgs s_is_items, defBody s_is_items, defScope s_is_items, [], []⟩
def d_is_name : He.DefD := ⟨("is_name", none), "is_name", "is_name", defArgs s_is_name, defBody s_is_name, defScope s_is_name, [], []⟩
def d_are_names : He.DefD := ⟨("are_names", none), "are_names", "are_names", defArgs s_are_names, defBody s_are_names, defScope s_are_names, [], []⟩
def d_are_moves : He.DefD := ⟨("are_moves", none), "are_moves", "are_moves", defArgs s_are_moves, defBody s_are_moves, defScope s_are_moves, [], []⟩
def d_leading : He.DefD := ⟨("leading", none), "leading", "leading", defArgs s_leading, defBody s_leading, defScope s_leading, [], []⟩
def d_Machine___init__ : He.DefD := ⟨("Machine", some "__init__"), "__init__", "Machine.__init__", defArgs s_Machine___init__, defBody s_Machine___init__, defScope s_Machine___init__, [], []⟩
def d__law_copy : He.DefD := ⟨("_law_copy", none), "_law_copy", "_law_copy", defArgs s__law_copy, defBody s__law_copy, defScope s__law_copy, [], []⟩
def d__law_fresh : He.DefD := ⟨("_law_fresh", none), "_law_fresh", "_law_fresh", defArgs s__law_fresh, defBody s__law_fresh, defScope s__law_fresh, [], []⟩
def d__law_same : He.DefD := ⟨("_law_same", none), "_law_same", "_law_same", defArgs s__law_same, defBody s__law_same, defScope s__law_same, [], []⟩
def d_Machine___getitem__ : He.DefD := ⟨("Machine", some "__getitem__"), "__getitem__", "Machine.__getitem__", defArgs s_Machine___getitem__, defBody s_Machine___getitem__, defScope s_Machine___getitem__, [], []⟩
def d__law_strange : He.DefD := ⟨("_law_strange", none), "_law_strange", "_law_strange", defArgs s__law_strange, defBody s__law_strange, defScope s__law_strange, [], []⟩
def d_law : He.DefD := ⟨("law", none), "law", "law", defArgs s_law, defBody s_law, defScope s_law, [], []⟩
def fn : List He.DefD := [d__law_purse, d__law_draw, d__law_name, d__law_names, d__law_reached, d__law_parts, d__law_states, d_is_items, d_is_name, d_are_names, d_are_moves, d_leading, d_Machine___init__, d__law_copy, d__law_fresh, d__law_same, d_Machine___getitem__, d__law_strange, d_law]
def pr : List He.PrD := []
def exB (K : PySem.W.Frag) : Bool := TL.isiB K (He.ga K) ["Machine"]
def fa : List He.Fa := [.glo "_law_purse", .glo "_law_draw", .glo "_law_name", .glo "_law_names", .glo "_law_reached", .glo "_law_parts", .glo "_law_states", .glo "is_items", .glo "is_name", .glo "are_names", .glo "are_moves", .glo "leading", .glo "_law_copy", .glo "_law_fresh", .glo "_law_same", .glo "_law_strange", .glo "law", .free "abs", .free "all", .free "bool", .free "dict", .free "enumerate", .free "int", .free "isinstance", .free "len", .free "list", .free "range", .free "set", .free "sorted", .free "str", .free "tuple", .str "LETTERS" "abcdefghijklmnopqrstuvwxyz", .int "MOST_TOKENS" 2000, .glo "Machine", .cls "Machine", .noat "Machine" "alphabet", .noat "Machine" "origin", .noat "Machine" "edges", .noat "Machine" "ending", .noat "Machine" "places", .mkr "Machine", .meth "Machine" "__getitem__"]
abbrev R : PySem.W.OpenRow := PySem.W.OpenLaw.row PySem.Challenge.rw_slipstold_k03_moves_by_index
abbrev hk : PySem.W.Hook := He.hookP 6 fa fn pr exB
def ob (s : PySem.W.SharedT) : He.AlP := He.obsPG 6 fa fn pr exB (HandSHeadRun.getT s)
theorem ob_eq (s : PySem.W.SharedT) : ob s = hk.obs s.abs := He.obsPG_eq (HandSHeadRun.getT_eq s)
def loose : List Str := ["SlipError", "BadMachine", "is_items", "is_name", "are_names", "are_moves", "leading", "Machine", "bad_place", "run", "_law_purse", "_law_draw", "_law_name", "_law_names", "_law_reached", "_law_parts", "_law_states", "_law_copy", "_law_turned", "_law_fresh", "_law_same", "_law_strange", "LETTERS", "MOST_TOKENS"]
theorem run (w : World) : HandSHeadRun.RunEq R (PySem.W.view R.prog [28]) hk ob 6000 loose w := by
  intro os
  kernel_rfl
theorem bs_mk {K : PySem.W.Frag} {h : Heap} {mg : Str → Option Value} (X : K.In h) (G : h.Ns mainGlobals mg) (c : He.SaysD fa fn K) (hx : exB K = true) : Bs K mg where
  b_abs := He.free_ok X G (c.fact 17 (f := .free "abs") rfl)
  b_all := He.free_ok X G (c.fact 18 (f := .free "all") rfl)
  b_bool := He.free_ok X G (c.fact 19 (f := .free "bool") rfl)
  b_dict := He.free_ok X G (c.fact 20 (f := .free "dict") rfl)
  b_enumerate := He.free_ok X G (c.fact 21 (f := .free "enumerate") rfl)
  b_int := He.free_ok X G (c.fact 22 (f := .free "int") rfl)
  b_isinstance := He.free_ok X G (c.fact 23 (f := .free "isinstance") rfl)
  b_len := He.free_ok X G (c.fact 24 (f := .free "len") rfl)
  b_list := He.free_ok X G (c.fact 25 (f := .free "list") rfl)
  b_range := He.free_ok X G (c.fact 26 (f := .free "range") rfl)
  b_set := He.free_ok X G (c.fact 27 (f := .free "set") rfl)
  b_sorted := He.free_ok X G (c.fact 28 (f := .free "sorted") rfl)
  b_str := He.free_ok X G (c.fact 29 (f := .free "str") rfl)
  b_tuple := He.free_ok X G (c.fact 30 (f := .free "tuple") rfl)
  x_LETTERS := by
    obtain ⟨t, e⟩ := He.str_ok X G (c.fact 31 (f := .str "LETTERS" "abcdefghijklmnopqrstuvwxyz") rfl)
    exact ⟨_, e, t, rfl⟩
  x_MOST_TOKENS := by
    obtain ⟨t, e⟩ := He.int_ok X G (c.fact 32 (f := .int "MOST_TOKENS" 2000) rfl)
    exact ⟨_, e, t, rfl⟩
  k_Machine := He.cls_ok (c.fact 34 (f := .cls "Machine") rfl)
  n_Machine_alphabet := He.noat_ok (c.fact 35 (f := .noat "Machine" "alphabet") rfl)
  n_Machine_origin := He.noat_ok (c.fact 36 (f := .noat "Machine" "origin") rfl)
  n_Machine_edges := He.noat_ok (c.fact 37 (f := .noat "Machine" "edges") rfl)
  n_Machine_ending := He.noat_ok (c.fact 38 (f := .noat "Machine" "ending") rfl)
  n_Machine_places := He.noat_ok (c.fact 39 (f := .noat "Machine" "places") rfl)
  c_Machine := ⟨_, He.glo_ok X G (c.fact 33 (f := .glo "Machine") rfl), rfl⟩
  isi := TL.isi_of (by simp only [List.mem_cons, List.mem_nil_iff, or_false]; rintro c (rfl) <;> first | exact He.cls_ok (c.fact 34 (f := .cls "Machine") rfl)) hx
theorem facts {P : Program} {w : World} {K : PySem.W.Frag} {h : Heap} {mg : Str → Option Value} {f : Addr} (X : K.In h) (G : h.Ns mainGlobals mg) (hfa : mg ("law" : Str) = some (.ref f)) (c : He.SaysP fa fn pr exB K) :
    ∃ fd : FuncData, (∀ (s : Shared) (v : Value), BindsTo s fd ⟨[v], []⟩ [("_law_script", v)]) ∧ ∀ base : Heap, K.In base → base.Ns mainGlobals mg → FnOk P w K mg base CX0 11 f fd ["_law_script"] (spLaw K) := by
  obtain ⟨fd__law_purse, D__law_purse⟩ := c.d.def_ 0 (d := d__law_purse) rfl
  have F__law_purse := fun_of (st := s__law_purse) D__law_purse
  have g__law_purse := He.glo_ok X G (c.d.fact 0 (f := .glo "_law_purse") rfl)
  obtain ⟨fd__law_draw, D__law_draw⟩ := c.d.def_ 1 (d := d__law_draw) rfl
  have F__law_draw := fun_of (st := s__law_draw) D__law_draw
  have g__law_draw := He.glo_ok X G (c.d.fact 1 (f := .glo "_law_draw") rfl)
  obtain ⟨fd__law_name, D__law_name⟩ := c.d.def_ 2 (d := d__law_name) rfl
  have F__law_name := fun_of (st := s__law_name) D__law_name
  have g__law_name := He.glo_ok X G (c.d.fact 2 (f := .glo "_law_name") rfl)
  obtain ⟨fd__law_names, D__law_names⟩ := c.d.def_ 3 (d := d__law_names) rfl
  have F__law_names := fun_of (st := s__law_names) D__law_names
  have g__law_names := He.glo_ok X G (c.d.fact 3 (f := .glo "_law_names") rfl)
  obtain ⟨fd__law_reached, D__law_reached⟩ := c.d.def_ 4 (d := d__law_reached) rfl
  have F__law_reached := fun_of (st := s__law_reached) D__law_reached
  have g__law_reached := He.glo_ok X G (c.d.fact 4 (f := .glo "_law_reached") rfl)
  obtain ⟨fd__law_parts, D__law_parts⟩ := c.d.def_ 5 (d := d__law_parts) rfl
  have F__law_parts := fun_of (st := s__law_parts) D__law_parts
  have g__law_parts := He.glo_ok X G (c.d.fact 5 (f := .glo "_law_parts") rfl)
  obtain ⟨fd__law_states, D__law_states⟩ := c.d.def_ 6 (d := d__law_states) rfl
  have F__law_states := fun_of (st := s__law_states) D__law_states
  have g__law_states := He.glo_ok X G (c.d.fact 6 (f := .glo "_law_states") rfl)
  obtain ⟨fd_is_items, D_is_items⟩ := c.d.def_ 7 (d := d_is_items) rfl
  have F_is_items := fun_of (st := s_is_items) D_is_items
  have g_is_items := He.glo_ok X G (c.d.fact 7 (f := .glo "is_items") rfl)
  obtain ⟨fd_is_name, D_is_name⟩ := c.d.def_ 8 (d := d_is_name) rfl
  have F_is_name := fun_of (st := s_is_name) D_is_name
  have g_is_name := He.glo_ok X G (c.d.fact 8 (f := .glo "is_name") rfl)
  obtain ⟨fd_are_names, D_are_names⟩ := c.d.def_ 9 (d := d_are_names) rfl
  have F_are_names := fun_of (st := s_are_names) D_are_names
  have g_are_names := He.glo_ok X G (c.d.fact 9 (f := .glo "are_names") rfl)
  obtain ⟨fd_are_moves, D_are_moves⟩ := c.d.def_ 10 (d := d_are_moves) rfl
  have F_are_moves := fun_of (st := s_are_moves) D_are_moves
  have g_are_moves := He.glo_ok X G (c.d.fact 10 (f := .glo "are_moves") rfl)
  obtain ⟨fd_leading, D_leading⟩ := c.d.def_ 11 (d := d_leading) rfl
  have F_leading := fun_of (st := s_leading) D_leading
  have g_leading := He.glo_ok X G (c.d.fact 11 (f := .glo "leading") rfl)
  obtain ⟨fd_Machine___init__, D_Machine___init__⟩ := c.d.def_ 12 (d := d_Machine___init__) rfl
  have F_Machine___init__ := fun_of (st := s_Machine___init__) D_Machine___init__
  obtain ⟨fd__law_copy, D__law_copy⟩ := c.d.def_ 13 (d := d__law_copy) rfl
  have F__law_copy := fun_of (st := s__law_copy) D__law_copy
  have g__law_copy := He.glo_ok X G (c.d.fact 12 (f := .glo "_law_copy") rfl)
  obtain ⟨fd__law_fresh, D__law_fresh⟩ := c.d.def_ 14 (d := d__law_fresh) rfl
  have F__law_fresh := fun_of (st := s__law_fresh) D__law_fresh
  have g__law_fresh := He.glo_ok X G (c.d.fact 13 (f := .glo "_law_fresh") rfl)
  obtain ⟨fd__law_same, D__law_same⟩ := c.d.def_ 15 (d := d__law_same) rfl
  have F__law_same := fun_of (st := s__law_same) D__law_same
  have g__law_same := He.glo_ok X G (c.d.fact 14 (f := .glo "_law_same") rfl)
  obtain ⟨fd_Machine___getitem__, D_Machine___getitem__⟩ := c.d.def_ 16 (d := d_Machine___getitem__) rfl
  have F_Machine___getitem__ := fun_of (st := s_Machine___getitem__) D_Machine___getitem__
  obtain ⟨fd__law_strange, D__law_strange⟩ := c.d.def_ 17 (d := d__law_strange) rfl
  have F__law_strange := fun_of (st := s__law_strange) D__law_strange
  have g__law_strange := He.glo_ok X G (c.d.fact 15 (f := .glo "_law_strange") rfl)
  obtain ⟨fd_law, D_law⟩ := c.d.def_ 18 (d := d_law) rfl
  have F_law := fun_of (st := s_law) D_law
  have g_law := He.glo_ok X G (c.d.fact 16 (f := .glo "law") rfl)
  have B := bs_mk X G c.d c.exB
  have e := hfa.symm.trans g_law
  cases e
  have b := FunD.bindsA (ps := ["_law_script"]) D_law fun _ _ _ _ _ _ us hl => match us, hl with | [_], _ => rfl
  refine ⟨fd_law, fun s v => b s [v] rfl, fun base _ _ => ?_⟩
  have c__law_purse := ok__law_purse (P := P) (w := w) (base := base) (k := 0) F__law_purse g__law_purse B 
  have c__law_draw := ok__law_draw (P := P) (w := w) (base := base) (k := 0) F__law_draw g__law_draw B 
  have c__law_name := ok__law_name (P := P) (w := w) (base := base) (k := 1) F__law_name g__law_name B (Cal.mono c__law_draw (by decide))
  have c__law_names := ok__law_names (P := P) (w := w) (base := base) (k := 2) F__law_names g__law_names B (Cal.mono c__law_draw (by decide)) (Cal.mono c__law_name (by decide))
  have c__law_reached := ok__law_reached (P := P) (w := w) (base := base) (k := 0) F__law_reached g__law_reached B 
  have c__law_parts := ok__law_parts (P := P) (w := w) (base := base) (k := 3) F__law_parts g__law_parts B (Cal.mono c__law_names (by decide)) (Cal.mono c__law_draw (by decide)) (Cal.mono c__law_reached (by decide))
  have c__law_states := ok__law_states (P := P) (w := w) (base := base) (k := 0) F__law_states g__law_states B 
  have c_is_items := ok_is_items (P := P) (w := w) (base := base) (k := 0) F_is_items g_is_items B 
  have c_is_name := ok_is_name (P := P) (w := w) (base := base) (k := 0) F_is_name g_is_name B 
  have c_are_names := ok_are_names (P := P) (w := w) (base := base) (k := 1) F_are_names g_are_names B (Cal.mono c_is_items (by decide)) (Cal.mono c_is_name (by decide))
  have c_are_moves := ok_are_moves (P := P) (w := w) (base := base) (k := 1) F_are_moves g_are_moves B (Cal.mono c_is_name (by decide))
  have c_leading := ok_leading (P := P) (w := w) (base := base) (k := 0) F_leading g_leading B 
  have o_Machine___init__ := ok_Machine___init__ (P := P) (w := w) (mg := mg) (base := base) (k := 2) F_Machine___init__ B (Cal.mono c_are_names (by decide)) (Cal.mono c_is_name (by decide)) (Cal.mono c_are_moves (by decide)) (Cal.mono c_leading (by decide))
  have c_Machine___init__ : C8.Mak P w K mg base 3 "Machine" (He.ga K "Machine") _ [] := ⟨_, _, _, [], He.mkr_ok (c.d.fact 40 (f := .mkr "Machine") rfl), o_Machine___init__, He.glo_ok X G (c.d.fact 33 (f := .glo "Machine") rfl), (F_Machine___init__.binds (ps := P_Machine___init__) fun _ _ _ _ _ _ us hl => match us, hl with | [_, _, _, _, _], _ => rfl), .nil⟩
  have c__law_copy := ok__law_copy (P := P) (w := w) (base := base) (k := 0) F__law_copy g__law_copy B 
  have c__law_fresh := ok__law_fresh (P := P) (w := w) (base := base) (k := 0) F__law_fresh g__law_fresh B 
  have c__law_same_0 : C8.Cal P w K mg base 1 "_law_same" (spT (gm K w) [.sh, .sh] (.fz) (f__law_same 0)) [] := cal_none F__law_same g__law_same (F__law_same.binds (ps := P__law_same) fun _ _ _ _ _ _ us hl => match us, hl with | [_, _], _ => rfl) (fun _ _ _ _ => spT_stuck fun _ => rfl)
  have c__law_same_1 := ok__law_same (P := P) (w := w) (base := base) (n := 0) F__law_same g__law_same B  c__law_same_0
  have c__law_same_2 := ok__law_same (P := P) (w := w) (base := base) (n := 1) F__law_same g__law_same B  c__law_same_1
  have c__law_same_3 := ok__law_same (P := P) (w := w) (base := base) (n := 2) F__law_same g__law_same B  c__law_same_2
  have c__law_same_4 := ok__law_same (P := P) (w := w) (base := base) (n := 3) F__law_same g__law_same B  c__law_same_3
  have c__law_same_5 := ok__law_same (P := P) (w := w) (base := base) (n := 4) F__law_same g__law_same B  c__law_same_4
  have c__law_same_6 := ok__law_same (P := P) (w := w) (base := base) (n := 5) F__law_same g__law_same B  c__law_same_5
  have c__law_same_7 := ok__law_same (P := P) (w := w) (base := base) (n := 6) F__law_same g__law_same B  c__law_same_6
  have c__law_same_8 := ok__law_same (P := P) (w := w) (base := base) (n := 7) F__law_same g__law_same B  c__law_same_7
  have c__law_same_9 := ok__law_same (P := P) (w := w) (base := base) (n := 8) F__law_same g__law_same B  c__law_same_8
  have c__law_same := c__law_same_9
  have o_Machine___getitem__ := ok_Machine___getitem__ (P := P) (w := w) (mg := mg) (base := base) (k := 1) F_Machine___getitem__ B (Cal.mono c_is_name (by decide))
  have c_Machine___getitem__ : TL.MetI P w K mg base 2 (He.ga K "Machine") "__getitem__" _ := ⟨_, _, _, B.k_Machine, He.meth_ok (c.d.fact 41 (f := .meth "Machine" "__getitem__") rfl), o_Machine___getitem__, (F_Machine___getitem__.binds (ps := P_Machine___getitem__) fun _ _ _ _ _ _ us hl => match us, hl with | [_, _], _ => rfl), TL.fnIn_of F_Machine___getitem__⟩
  have c__law_strange := ok__law_strange (P := P) (w := w) (base := base) (k := 1) F__law_strange g__law_strange B (Cal.mono c__law_draw (by decide))
  exact ok_law (k := 10) F_law B (Cal.mono c__law_purse (by decide)) (Cal.mono c__law_parts (by decide)) (Cal.mono c__law_states (by decide)) c_Machine___init__ (by decide) (Cal.mono c__law_copy (by decide)) (Cal.mono c__law_fresh (by decide)) (Cal.mono c__law_same (by decide)) c_Machine___getitem__ (by decide) (Cal.mono c__law_draw (by decide)) (Cal.mono c__law_strange (by decide))
end My
open PySem PySem.W PySem.Calls PyProof.Rows
set_option maxRecDepth 100000 in
set_option maxHeartbeats 0 in
theorem PySem.Challenge.cw_slipstold_k03_moves_by_index_holds : PySem.Challenge.rw_slipstold_k03_moves_by_index.Holds := by
  w_on; o_law
  refine HandSHeadRun.head_any (r := OpenLaw.row PySem.Challenge.rw_slipstold_k03_moves_by_index) (q := view (OpenLaw.row PySem.Challenge.rw_slipstold_k03_moves_by_index).prog [28]) (H := My.hk) (ob := My.ob) (M := 6000) (loose := My.loose) (d := HandSHeadRun.topDef (OpenLaw.row PySem.Challenge.rw_slipstold_k03_moves_by_index).prog 28) (kwd := []) My.ob_eq
    (by kernel_rfl) (fun s => by kernel_rfl) My.run (by kernel_rfl) (by kernel_rfl) (by kernel_rfl) (by rfl) (by first | assumption | decide +kernel) (by decide +kernel) ⟨rfl, rfl, rfl, rfl, rfl, by decide +kernel⟩ ?hw ?hc
  case hw => w_witness2
  case hc =>
    refine L2.walk_ofE (l := PySem.Challenge.rw_slipstold_k03_moves_by_index) (n := 63) (k := 11) (x := "_law_script") (CX := L2.CX0) rfl (by decide) (by kernel_rfl) ⟨rfl, by decide, by decide⟩ ?F (fun _ _ _ _ z => z)
    intro w mg fa h Y G hmg0
    obtain ⟨K, KX, c⟩ := Y
    have hmg : mg ("law" : PySem.Str) = some (.ref fa) := by
      have e : (HandSHeadRun.topDef (OpenLaw.row PySem.Challenge.rw_slipstold_k03_moves_by_index).prog 28).name = ("law" : PySem.Str) := by kernel_rfl
      rw [← e]
      exact hmg0
    obtain ⟨fd, hb, hF⟩ := My.facts (P := (PySem.Challenge.rw_slipstold_k03_moves_by_index).prog) (w := w) KX G hmg c
    exact ⟨K, fd, My.spLaw K, KX, hb, fun H a ns hl _ hS => ⟨.ref a, rfl, a, ns, rfl, hS, fun _ => rfl⟩, hF⟩
end
