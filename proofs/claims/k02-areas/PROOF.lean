import PyProof.Rows.All
import Wide.All
import OpenK.AllK
import Wide.FinOn
import PySem.Challenge.RW_spillsheet_k02_areas
import HandS.ForMost
import HandS.Exc
import HandS.Flow
import HandS.Defaults
import HandS.Wide
import KE.KeyNested
import KE.KDictKeyed
import HandS.IsInst
import HandS.Text
import HandS.TupAny
import HandS.RaiseMore
import PyProof.ReprLen
import PyProof.ReprRoads
import HandS.Comp
import HandS.Iter
import HandS.Zip
import HandS.TryOnly
import HandS.Style
import HandS.Ends
import HandS.EndBits
import HandS.HeadHook4
import HandS.Head2
set_option Elab.async false
set_option linter.all false
set_option maxRecDepth 100000
set_option maxHeartbeats  2000000
/-! LITE, 1: tree values, the list-heap, the small syntax, the interpreter. No model in sight. -/
namespace Lite

/-- a value: trees, and places of the list-heap -/
inductive T where
  | non
  | bl (b : Bool)
  | int (i : Int)
  | str (s : List Nat)
  | tup (xs : List T)
  | lst (xs : List T)
  | dct (ks vs : List T)
  | loc (n : Nat)
  | fn (f : String)
  | cls (c : String)
  | exn (c : String) (vs : List T)
deriving Inhabited

mutual
def T.same : T → T → Bool
  | .non, .non => true
  | .bl a, .bl b => a == b
  | .int a, .int b => a == b
  | .str a, .str b => a == b
  | .tup a, .tup b => T.sames a b
  | .lst a, .lst b => T.sames a b
  | .dct a c, .dct b d => T.sames a b && T.sames c d
  | .loc a, .loc b => a == b
  | .fn a, .fn b => a == b
  | .cls a, .cls b => a == b
  | .exn a c, .exn b d => a == b && T.sames c d
  | _, _ => false
def T.sames : List T → List T → Bool
  | [], [] => true
  | x :: xs, y :: ys => T.same x y && T.sames xs ys
  | _, _ => false
end
mutual
theorem T.same_refl : ∀ a : T, T.same a a = true
  | .non => rfl
  | .bl _ => by simp [T.same]
  | .int _ => by simp [T.same]
  | .str _ => by simp [T.same]
  | .tup xs => by simp [T.same, T.sames_refl xs]
  | .lst xs => by simp [T.same, T.sames_refl xs]
  | .dct xs ys => by simp [T.same, T.sames_refl xs, T.sames_refl ys]
  | .loc _ => by simp [T.same]
  | .fn _ => by simp [T.same]
  | .cls _ => by simp [T.same]
  | .exn _ vs => by simp [T.same, T.sames_refl vs]
theorem T.sames_refl : ∀ a : List T, T.sames a a = true
  | [] => rfl
  | x :: xs => by simp [T.sames, T.same_refl x, T.sames_refl xs]
end
mutual
theorem T.same_eq : ∀ a b : T, T.same a b = true → a = b
  | .non, b, h => by cases b <;> simp [T.same] at h <;> rfl
  | .bl _, b, h => by cases b <;> simp [T.same] at h; rw [h]
  | .int _, b, h => by cases b <;> simp [T.same] at h; rw [h]
  | .str _, b, h => by cases b <;> simp [T.same] at h; rw [h]
  | .tup xs, b, h => by cases b <;> simp [T.same] at h; rw [T.sames_eq _ _ h]
  | .lst xs, b, h => by cases b <;> simp [T.same] at h; rw [T.sames_eq _ _ h]
  | .dct xs ys, b, h => by cases b <;> simp [T.same] at h; rw [T.sames_eq _ _ h.1, T.sames_eq _ _ h.2]
  | .loc _, b, h => by cases b <;> simp [T.same] at h; rw [h]
  | .fn _, b, h => by cases b <;> simp [T.same] at h; rw [h]
  | .cls _, b, h => by cases b <;> simp [T.same] at h; rw [h]
  | .exn _ vs, b, h => by cases b <;> simp [T.same] at h; rw [h.1, T.sames_eq _ _ h.2]
theorem T.sames_eq : ∀ a b : List T, T.sames a b = true → a = b
  | [], b, h => by cases b <;> simp [T.sames] at h; rfl
  | x :: xs, b, h => by
    cases b with
    | nil => simp [T.sames] at h
    | cons y ys =>
      simp [T.sames] at h
      rw [T.same_eq _ _ h.1, T.sames_eq _ _ h.2]
end
instance : DecidableEq T := fun a b =>
  if h : T.same a b = true then .isTrue (T.same_eq a b h) else .isFalse fun e => h (e ▸ T.same_refl a)

/-- an object at a place -/
inductive O where
  | lst (xs : List T)
  | dct (ks vs : List T)
  | ins (c : String) (fs : List (String × T))
  | dead
deriving DecidableEq, Inhabited

abbrev Heap := List O
abbrev Rho := List (Option T)

/-- how a run ends -/
inductive Rs (α : Type) where
  | ok (a : α) (h : Heap)
  | exc (e : T) (h : Heap)
  | stuck

def Rs.bind {α β : Type} : Rs α → (α → Heap → Rs β) → Rs β
  | .ok a h, f => f a h
  | .exc e h, _ => .exc e h
  | .stuck, _ => .stuck
theorem Rs.bind_ok {α β : Type} (a : α) (h : Heap) (f : α → Heap → Rs β) : (Rs.ok a h).bind f = f a h := rfl
theorem Rs.bind_exc {α β : Type} (e : T) (h : Heap) (f : α → Heap → Rs β) : (Rs.exc e h).bind f = .exc e h := rfl
theorem Rs.bind_stuck {α β : Type} (f : α → Heap → Rs β) : (Rs.stuck).bind f = .stuck := rfl
/-- an answer of a plain function -/
def Rs.of {α : Type} (o : Option α) (h : Heap) : Rs α := match o with
  | some a => .ok a h
  | none => .stuck
theorem Rs.of_some {α : Type} (a : α) (h : Heap) : Rs.of (some a) h = .ok a h := rfl
theorem Rs.of_none {α : Type} (h : Heap) : Rs.of (none : Option α) h = .stuck := rfl

/-! ### the syntax -/
inductive BOp where
  | add | sub | mul | fdiv | mod | pow
deriving DecidableEq
inductive COp where
  | eq | ne | lt | le | gt | ge | is | isn | isin | nin
deriving DecidableEq
/-- where values go: a slot, slots, slots and the rest -/
inductive Tg where
  | v (i : Nat)
  | t (is : List Nat)
  | st (is : List Nat) (star : Nat)
deriving DecidableEq

inductive LE where
  | var (i : Nat)
  | int (i : Int)
  | str (s : List Nat)
  | bl (b : Bool)
  | non
  | glob (g : String)
  | bin (o : BOp) (a b : LE)
  | neg (a : LE)
  | not (a : LE)
  | and (es : List LE)
  | or (es : List LE)
  | cmp (o : COp) (a b : LE)
  | chain (o p : COp) (a b c : LE)
  | ife (c a b : LE)
  | tup (es : List LE)
  | lst (m : Bool) (es : List LE)
  | dct (m : Bool) (ks vs : List LE)
  | idx (a i : LE)
  | slc (a : LE) (lo hi : List LE)
  | attr (a : LE) (f : String)
  | call (f : String) (es : List LE)
  | callV (f : LE) (es : List LE)
  | make (c : String) (es : List LE)
  | meth (o : LE) (m : String) (es : List LE)
  | bi (b : String) (es : List LE)
  | bm (o : LE) (m : String) (es : List LE)
  | isi (a : LE) (ts : List String)
  | comp (m : Bool) (own : List Nat) (elt : LE) (tg : Tg) (k : String) (it : List LE) (ifs : List LE)
  | comp2 (m : Bool) (own : List Nat) (elt : LE) (tg : Tg) (k : String) (it : List LE) (ifs : List LE) (own1 : List Nat) (tg1 : Tg) (k1 : String) (it1 : List LE) (ifs1 : List LE)

inductive LS where
  | expr (e : LE)
  | set (i : Nat) (e : LE)
  | unp (g : Tg) (e : LE)
  | par (is : List Nat) (es : List LE)
  | sattr (o : LE) (f : String) (e : LE)
  | sidx (o i e : LE)
  | unpA (os : List LE) (fs : List String) (e : LE)
  | aug (i : Nat) (o : BOp) (e : LE)
  | augA (o : LE) (f : String) (op : BOp) (e : LE)
  | ret (e : LE)
  | retN
  | iff (c : LE) (a b : List LS)
  | whl (fuel : Nat) (c : LE) (b : List LS)
  | for (g : Tg) (k : String) (it : List LE) (b : List LS)
  | pass
  | brk
  | cnt
  | raise (c : String) (es : List LE)
  | try (b : List LS) (cs : List String) (i : Option Nat) (s : List LS)
  | frz (i : Nat)

/-- a def: its number of parameters and of slots, its body; keep: what its call leaves of the heap -/
structure Fn where
  np : Nat
  ns : Nat
  body : List LS
  mode : Nat := 0

/-- a program: its defs, its module's constants and classes -/
structure Prog where
  fn : String → Option Fn
  con : String → Option T
  meth : String → String → Option String
  sub : String → String → Bool

/-! ### values -/
mutual
/-- no place of the heap at or behind n within -/
def T.within (n : Nat) : T → Bool
  | .loc k => decide (k < n)
  | .tup xs => T.withins n xs
  | .lst xs => T.withins n xs
  | .dct ks vs => T.withins n ks && T.withins n vs
  | .exn _ vs => T.withins n vs
  | _ => true
def T.withins (n : Nat) : List T → Bool
  | [] => true
  | x :: xs => T.within n x && T.withins n xs
end
mutual
/-- plain data -/
def T.data : T → Bool
  | .loc _ => false
  | .fn _ => false
  | .cls _ => false
  | .exn _ _ => false
  | .tup xs => T.datas xs
  | .lst xs => T.datas xs
  | .dct ks vs => T.datas ks && T.datas vs
  | _ => true
def T.datas : List T → Bool
  | [] => true
  | x :: xs => T.data x && T.datas xs
end
mutual
/-- Python's == of data without dicts -/
def T.eqv : T → T → Bool
  | .non, .non => true
  | .bl a, .bl b => a == b
  | .bl a, .int b => (if a then 1 else 0) == b
  | .int a, .bl b => a == (if b then 1 else 0)
  | .int a, .int b => a == b
  | .str a, .str b => a == b
  | .tup a, .tup b => T.eqvs a b
  | .lst a, .lst b => T.eqvs a b
  | _, _ => false
def T.eqvs : List T → List T → Bool
  | [], [] => true
  | x :: xs, y :: ys => T.eqv x y && T.eqvs xs ys
  | _, _ => false
end
mutual
def T.depth : T → Nat
  | .tup xs => T.depths xs + 1
  | .lst xs => T.depths xs + 1
  | _ => 0
def T.depths : List T → Nat
  | [] => 0
  | x :: xs => max (T.depth x) (T.depths xs)
end
mutual
/-- data without dicts -/
def T.flat : T → Bool
  | .non => true
  | .bl _ => true
  | .int _ => true
  | .str s => s.all fun c => decide (c < 1114112)
  | .tup xs => T.flats xs
  | .lst xs => T.flats xs
  | _ => false
def T.flats : List T → Bool
  | [] => true
  | x :: xs => T.flat x && T.flats xs
end
/-- data without dicts, not too deep: what == is asked of -/
def T.fit (t : T) : Bool := t.flat && decide (t.depth ≤ 100)
def T.fits (xs : List T) : Bool := T.flats xs && decide (T.depths xs ≤ 100)
/-- the longest list, text -/
abbrev top : Nat := 16777216
/-- what stands at a place, as a tree (its items may be places) -/
def view (h : Heap) : T → Option T
  | .loc n => match h[n]? with
    | some (.lst xs) => some (.lst xs)
    | some (.dct ks vs) => some (.dct ks vs)
    | _ => none
  | t => some t
/-- the value at a key -/
def kget : List T → List T → T → Option T
  | k :: ks, v :: vs, x => if T.eqv k x then some v else kget ks vs x
  | _, _, _ => none
def kput : List T → List T → T → T → List T × List T
  | k :: ks, v :: vs, x, y => if T.eqv k x then (k :: ks, y :: vs) else ((k :: (kput ks vs x y).1), (v :: (kput ks vs x y).2))
  | _, _, x, y => ([x], [y])
def memT (x : T) : List T → Bool
  | [] => false
  | y :: ys => T.eqv y x || memT x ys
def truth (h : Heap) (t : T) : Option Bool := match view h t with
  | some .non => some false
  | some (.bl b) => some b
  | some (.int i) => some (i != 0)
  | some (.str s) => if s.length ≤ top then some (!s.isEmpty) else none
  | some (.tup xs) => some (!xs.isEmpty)
  | some (.lst xs) => some (!xs.isEmpty)
  | _ => none
def small64 (i : Int) : Bool := decide (-(2 ^ 64) < i ∧ i < 2 ^ 64)
def binop (o : BOp) (h : Heap) (x y : T) : Option T := match o, view h x, view h y with
  | .add, some (.int i), some (.int j) => some (.int (i + j))
  | .add, some (.str a), some (.str b) => if a.length + b.length ≤ top then some (.str (a ++ b)) else none
  | .add, some (.lst a), some (.lst b) => if a.length + b.length ≤ top then some (.lst (a ++ b)) else none
  | .add, some (.tup a), some (.tup b) => if a.length + b.length ≤ top then some (.tup (a ++ b)) else none
  | .sub, some (.int i), some (.int j) => some (.int (i - j))
  | .mul, some (.int i), some (.int j) => if small64 i || small64 j then some (.int (i * j)) else none
  | .fdiv, some (.int i), some (.int j) => if j ≠ 0 ∧ j.natAbs.log2 < 9000 then some (.int (i.fdiv j)) else none
  | .mod, some (.int i), some (.int j) => if j ≠ 0 then some (.int (i.fmod j)) else none
  | .pow, some (.int i), some (.int j) => if 0 ≤ j ∧ ((i.natAbs.log2 + 1 : Nat) : Int) * j ≤ 134217728 then some (.int (i ^ j.toNat)) else none
  | _, _, _ => none
/-- x op= y -/
def augop (o : BOp) (x y : T) : Option T := match o, x, y with
  | .add, .int i, .int j => some (.int (i + j))
  | .sub, .int i, .int j => some (.int (i - j))
  | .add, .str a, .str b => if a.length + b.length ≤ top then some (.str (a ++ b)) else none
  | _, _, _ => none
def lexLt : List Nat → List Nat → Bool
  | [], [] => false
  | [], _ :: _ => true
  | _ :: _, [] => false
  | a :: as, b :: bs => decide (a < b) || (decide (a = b) && lexLt as bs)
/-- one sign in a text -/
def signIn (a b : List Nat) : Option Bool := match a with
  | [c] => some (b.contains c)
  | _ => none
def cmpop (o : COp) (h : Heap) (x y : T) : Option Bool := match o, view h x, view h y with
  | .eq, some (.str a), some (.str b) => some (a == b)
  | .ne, some (.str a), some (.str b) => some (!(a == b))
  | .eq, some a, some b => if a.fit && b.fit then some (T.eqv a b) else none
  | .ne, some a, some b => if a.fit && b.fit then some (!T.eqv a b) else none
  | .lt, some (.int i), some (.int j) => some (decide (i < j))
  | .le, some (.int i), some (.int j) => some (decide (i ≤ j))
  | .gt, some (.int i), some (.int j) => some (decide (j < i))
  | .ge, some (.int i), some (.int j) => some (decide (j ≤ i))
  | .is, _, some .non => some (decide (x = .non))
  | .isn, _, some .non => some (!decide (x = .non))
  | .isin, _, some (.lst ys) => if x.fit && T.fits ys then some (memT x ys) else none
  | .isin, _, some (.tup ys) => if x.fit && T.fits ys then some (memT x ys) else none
  | .isin, some (.str a), some (.str b) => signIn a b
  | .nin, _, some (.lst ys) => if x.fit && T.fits ys then some (!memT x ys) else none
  | .nin, _, some (.tup ys) => if x.fit && T.fits ys then some (!memT x ys) else none
  | .nin, some (.str a), some (.str b) => (signIn a b).map (!·)
  | _, _, _ => none
/-- the place that an index means -/
def place (n : Nat) (i : Int) : Option Nat := if 0 ≤ i then (if i < n then some i.toNat else none) else if -(n : Int) ≤ i then some (i + n).toNat else none
def nth {α : Type} (xs : List α) (i : Int) : Option α := (place xs.length i).bind fun k => xs[k]?
def index (h : Heap) (x i : T) : Option T := match view h x, i with
  | some (.lst xs), .int k => nth xs k
  | some (.tup xs), .int k => nth xs k
  | some (.str s), .int k => if s.length ≤ top then (nth s k).map fun c => .str [c] else none
  | _, _ => none
/-- a slice's end -/
def six (n d : Nat) : Option Int → Nat
  | none => d
  | some v => if v < 0 then (v + (n : Int)).toNat else min v.toNat n
def cut {α : Type} (xs : List α) (lo hi : Option Int) : List α := (xs.drop (six xs.length 0 lo)).take (six xs.length xs.length hi - six xs.length 0 lo)
def slice (h : Heap) (x : T) (lo hi : Option Int) : Option T := match view h x with
  | some (.lst xs) => some (.lst (cut xs lo hi))
  | some (.tup xs) => some (.tup (cut xs lo hi))
  | some (.str s) => if s.length ≤ top then some (.str (cut s lo hi)) else none
  | _ => none
/-- a slice's part -/
def partOf : List T → Option (Option Int)
  | [] => some none
  | [.int i] => some (some i)
  | _ => none
/-- what a loop walks -/
def items (h : Heap) (x : T) : Option (List T) := match view h x with
  | some (.lst xs) => some xs
  | some (.tup xs) => some xs
  | some (.str s) => some (s.map fun c => .str [c])
  | some (.dct ks _) => some ks
  | _ => none
def rangeT (lo hi : Int) : List T := (List.range (hi - lo).toNat).map fun (k : Nat) => .int (lo + (k : Int))
def big62 (i : Int) : Bool := decide (-(2 ^ 62) ≤ i ∧ i < 2 ^ 62)
def enumT (i : Nat) : List T → List T
  | [] => []
  | x :: xs => .tup [.int i, x] :: enumT (i + 1) xs
def zipT : List T → List T → List T
  | x :: xs, y :: ys => .tup [x, y] :: zipT xs ys
  | _, _ => []
/-- what an iterator's call yields, and what must stay as it stands meanwhile -/
def walked (k : String) (h : Heap) (xs : List T) : Option (List T × List (T × T)) :=
  if k = "" then (match xs with
    | [x] => (match view h x with
      | some (.lst ys) => some (ys, [(x, .lst ys)])
      | some (.tup ys) => some (ys, [(x, .tup ys)])
      | some (.str s) => some (s.map fun c => .str [c], [(x, .str s)])
      | _ => none)
    | _ => none)
  else if k = "range" then (match xs with
    | [.int j] => if big62 j then some (rangeT 0 j, []) else none
    | [.int i, .int j] => if big62 i && big62 j then some (rangeT i j, []) else none
    | _ => none)
  else if k = "enumerate" then (match xs with
    | [x] => (match view h x with | some (.lst ys) => some (enumT 0 ys, [(x, .lst ys)]) | _ => none)
    | _ => none)
  else if k = "zip" then (match xs with
    | [x, y] => (match view h x, view h y with | some (.lst us), some (.lst vs) => some (zipT us vs, [(x, .lst us), (y, .lst vs)]) | _, _ => none)
    | _ => none)
  else none
/-- it still stands so -/
def still (gs : List (T × T)) (h : Heap) : Bool := gs.all fun p => decide (view h p.1 = some p.2)
def intsOf : List T → Option (List Int)
  | [] => some []
  | .int i :: xs => (intsOf xs).map (i :: ·)
  | _ => none
def maxI : List Int → Option Int
  | [] => none
  | x :: xs => match maxI xs with
    | some m => some (if x < m then m else x)
    | none => some x
def minI : List Int → Option Int
  | [] => none
  | x :: xs => match minI xs with
    | some m => some (if m < x then m else x)
    | none => some x
def blsOf : List T → Option (List Bool)
  | [] => some []
  | .bl i :: xs => (blsOf xs).map (i :: ·)
  | _ => none
/-- decimal digits -/
def intText (i : Int) : List Nat := (toString i).toList.map Char.toNat
mutual
/-- its ints are short enough to be written -/
def T.showy : T → Bool
  | .int i => decide (i.natAbs.log2 < 1920)
  | .tup xs => T.showys xs
  | .lst xs => T.showys xs
  | _ => true
def T.showys : List T → Bool
  | [] => true
  | x :: xs => T.showy x && T.showys xs
end
mutual
/-- at least the length of repr -/
def T.rlen : T → Nat
  | .non => 4
  | .bl _ => 5
  | .int i => i.natAbs.log2 + 3
  | .str s => 10 * s.length + 2
  | .tup xs => T.rlens xs + 4
  | .lst xs => T.rlens xs + 4
  | _ => 4
def T.rlens : List T → Nat
  | [] => 0
  | x :: xs => T.rlen x + 2 + T.rlens xs
end
mutual
/-- the library's tree -/
def T.pd : T → PySem.PyData
  | .non => .none
  | .bl b => .bool b
  | .int i => .int i
  | .str s => .str ⟨s.toArray⟩
  | .tup xs => .tuple (T.pds xs)
  | .lst xs => .list (T.pds xs)
  | _ => .none
def T.pds : List T → List PySem.PyData
  | [] => []
  | x :: xs => T.pd x :: T.pds xs
end
/-- repr -/
def T.shown (t : T) : List Nat := t.pd.shown.cps.toList
/-! built-in functions -/
def fLen (h : Heap) : List T → Option T
  | [x] => (match view h x with
    | some (.lst ys) => some (.int ys.length)
    | some (.tup ys) => some (.int ys.length)
    | some (.str s) => if s.length ≤ top then some (.int s.length) else none
    | _ => none)
  | _ => none
def fAbs (_ : Heap) : List T → Option T
  | [.int i] => some (.int (if i < 0 then -i else i))
  | _ => none
def fMax (h : Heap) : List T → Option T
  | [.int i, .int j] => some (.int (if j > i then j else i))
  | [x] => (match view h x with | some (.lst ys) => (intsOf ys).bind fun is => (maxI is).map .int | _ => none)
  | _ => none
def fMin (h : Heap) : List T → Option T
  | [.int i, .int j] => some (.int (if j < i then j else i))
  | [x] => (match view h x with | some (.lst ys) => (intsOf ys).bind fun is => (minI is).map .int | _ => none)
  | _ => none
def fSum (h : Heap) : List T → Option T
  | [x] => (match view h x with | some (.lst ys) => (intsOf ys).map fun is => .int is.sum | _ => none)
  | _ => none
def fInt (_ : Heap) : List T → Option T
  | [.int i] => some (.int i)
  | [.bl k] => some (.int (if k then 1 else 0))
  | _ => none
def fRepr (h : Heap) : List T → Option T
  | [x] => (match view h x with | some y => if y.fit && y.showy && decide (y.rlen ≤ top) then some (.str y.shown) else none | none => none)
  | _ => none
def fAll (h : Heap) : List T → Option T
  | [x] => (match view h x with | some (.lst ys) => (blsOf ys).map fun bs => .bl (bs.all id) | _ => none)
  | _ => none
def fAny (h : Heap) : List T → Option T
  | [x] => (match view h x with | some (.lst ys) => (blsOf ys).map fun bs => .bl (bs.any id) | _ => none)
  | _ => none
def fStr (_ : Heap) : List T → Option T
  | [.int i] => if i.natAbs.log2 < 1920 then some (.str (intText i)) else none
  | _ => none
def fTuple (h : Heap) : List T → Option T
  | [x] => (match view h x with | some (.lst ys) => some (.tup ys) | some (.tup ys) => some (.tup ys) | _ => none)
  | _ => none
def fList (h : Heap) : List T → Option T
  | [x] => (match view h x with | some (.lst ys) => some (.lst ys) | some (.tup ys) => some (.lst ys) | _ => none)
  | _ => none
def bfun (b : String) (h : Heap) (xs : List T) : Option T :=
  if b = "len" then fLen h xs else if b = "abs" then fAbs h xs else if b = "max" then fMax h xs else if b = "min" then fMin h xs else if b = "sum" then fSum h xs else if b = "int" then fInt h xs
  else if b = "repr" then fRepr h xs else if b = "all" then fAll h xs else if b = "any" then fAny h xs else if b = "str" then fStr h xs else if b = "tuple" then fTuple h xs else if b = "list" then fList h xs else none
/-- the built-in classes of a value -/
def isTy (h : Heap) (sub : String → String → Bool) (x : T) (c : String) : Option Bool := match view h x with
  | some .non => some (c = "NoneType")
  | some (.bl _) => some (c = "bool" || c = "int")
  | some (.int _) => some (c = "int")
  | some (.str _) => some (c = "str")
  | some (.tup _) => some (c = "tuple")
  | some (.lst _) => some (c = "list")
  | some (.exn d _) => some (sub d c)
  | _ => none
/-- whose method it is -/
def recv (m : String) (x : Option T) : Bool := if m = "append" then (match x with | some (.lst _) => true | _ => false) else false
/-- methods of built-in types -/
def bmeth (m : String) (o : T) (xs : List T) (h : Heap) : Rs T :=
  if m = "append" then (match o, xs with
    | .loc n, [x] => (match h[n]? with
      | some (.lst ys) => if ys.length < top then .ok .non (h.set n (.lst (ys ++ [x]))) else .stuck
      | _ => .stuck)
    | _, _ => .stuck)
  else if m = "extend" then (match o, xs with
    | .loc n, [x] => (match h[n]?, view h x with
      | some (.lst ys), some (.lst zs) => if ys.length + zs.length ≤ top then .ok .non (h.set n (.lst (ys ++ zs))) else .stuck
      | _, _ => .stuck)
    | _, _ => .stuck)
  else if m = "get" then (match view h o, xs with
    | some (.dct ks vs), [k] => if k.flat then .ok ((kget ks vs k).getD .non) h else .stuck
    | some (.dct ks vs), [k, d] => if k.flat then .ok ((kget ks vs k).getD d) h else .stuck
    | _, _ => .stuck)
  else .stuck

/-! ### the interpreter -/
/-- the module and what a call gives, a level down -/
structure Cn where
  P : Prog
  call : String → List T → Heap → Rs T
  init : String → List T → Heap → Rs T

def bindTg : Tg → T → Heap → Rho → Option Rho
  | .v i, x, _, ρ => some (ρ.set i (some x))
  | .t is, x, h, ρ => match view h x with
    | some (.tup xs) => if xs.length = is.length then some ((is.zip xs).foldl (fun r p => r.set p.1 (some p.2)) ρ) else none
    | some (.lst xs) => if xs.length = is.length then some ((is.zip xs).foldl (fun r p => r.set p.1 (some p.2)) ρ) else none
    | _ => none
  | .st is k, x, h, ρ => match view h x with
    | some (.tup xs) => if is.length ≤ xs.length then some (((is.zip xs).foldl (fun r p => r.set p.1 (some p.2)) ρ).set k (some (.lst (xs.drop is.length)))) else none
    | _ => none
def wipe (ρ : Rho) (own : List Nat) : Rho := own.foldr (fun i r => r.set i none) ρ
def withB {α : Type} (o : Option Rho) (f : Rho → Rs α) : Rs α := match o with
  | some ρ => f ρ
  | none => .stuck
theorem withB_some {α : Type} (ρ : Rho) (f : Rho → Rs α) : withB (some ρ) f = f ρ := rfl
theorem withB_none {α : Type} (f : Rho → Rs α) : withB none f = .stuck := rfl
/-- no exception gets through -/
def Rs.calm {α : Type} : Rs α → Rs α
  | .ok a h => .ok a h
  | _ => .stuck
theorem Rs.calm_ok {α : Type} (a : α) (h : Heap) : (Rs.ok a h).calm = .ok a h := rfl
/-- one more, if there is one -/
def addO {α : Type} (acc : List α) : Option α → List α
  | some a => acc ++ [a]
  | none => acc
/-- a comprehension's turns -/
def turns {α : Type} (ok : Heap → Bool) (f : T → Heap → Rs (Option α)) : List T → List α → Heap → Rs (List α)
  | [], acc, h => if ok h then .ok acc h else .stuck
  | x :: xs, acc, h => if ok h then (f x h).bind fun o h => turns ok f xs (addO acc o) h else .stuck
theorem turns_nil {α : Type} {ok : Heap → Bool} {f : T → Heap → Rs (Option α)} {acc : List α} {h : Heap} : turns ok f [] acc h = if ok h then .ok acc h else .stuck := rfl
theorem turns_cons {α : Type} {ok : Heap → Bool} {f : T → Heap → Rs (Option α)} {x : T} {xs : List T} {acc : List α} {h : Heap} : turns ok f (x :: xs) acc h = if ok h then (f x h).bind fun o h => turns ok f xs (addO acc o) h else .stuck := rfl
def newO (h : Heap) (o : O) : Rs T := .ok (.loc h.length) (h ++ [o])

/-- a list of lists, as one new list -/
def fin2 (m : Bool) (yss : List (List T)) (h : Heap) : Rs T := if yss.flatten.length ≤ top then (if m then newO h (.lst yss.flatten) else .ok (.lst yss.flatten) h) else .stuck
mutual
def evE (K : Cn) : LE → Rho → Heap → Rs T
  | .var i, ρ, h => match ρ[i]? with
    | some (some t) => .ok t h
    | _ => .stuck
  | .int i, _, h => .ok (.int i) h
  | .str s, _, h => .ok (.str s) h
  | .bl b, _, h => .ok (.bl b) h
  | .non, _, h => .ok .non h
  | .glob g, _, h => Rs.of (K.P.con g) h
  | .bin o a b, ρ, h => (evE K a ρ h).bind fun x h => (evE K b ρ h).bind fun y h => Rs.of (binop o h x y) h
  | .neg a, ρ, h => (evE K a ρ h).bind fun x h => match x with
    | .int i => .ok (.int (-i)) h
    | _ => .stuck
  | .not a, ρ, h => (evE K a ρ h).bind fun x h => Rs.of ((truth h x).map fun b => .bl (!b)) h
  | .and es, ρ, h => evAnd K es ρ h
  | .or es, ρ, h => evOr K es ρ h
  | .cmp o a b, ρ, h => (evE K a ρ h).bind fun x h => (evE K b ρ h).bind fun y h => Rs.of ((cmpop o h x y).map .bl) h
  | .chain o p a b c, ρ, h => (evE K a ρ h).bind fun x h => (evE K b ρ h).bind fun y h => match cmpop o h x y with
    | some true => (evE K c ρ h).bind fun z h => Rs.of ((cmpop p h y z).map .bl) h
    | some false => .ok (.bl false) h
    | none => .stuck
  | .ife c a b, ρ, h => (evE K c ρ h).bind fun x h => match truth h x with
    | some true => evE K a ρ h
    | some false => evE K b ρ h
    | none => .stuck
  | .tup es, ρ, h => (evEs K es ρ h).bind fun xs h => .ok (.tup xs) h
  | .lst m es, ρ, h => (evEs K es ρ h).bind fun xs h => if m then newO h (.lst xs) else .ok (.lst xs) h
  | .dct m ks vs, ρ, h => (evEs K ks ρ h).bind fun xs h => (evEs K vs ρ h).bind fun ys h => if m then newO h (.dct xs ys) else .ok (.dct xs ys) h
  | .idx a i, ρ, h => (evE K a ρ h).bind fun x h => (evE K i ρ h).bind fun y h => Rs.of (index h x y) h
  | .slc a lo hi, ρ, h => (evE K a ρ h).bind fun x h => (evEs K lo ρ h).bind fun us h => match partOf us with
    | none => .stuck
    | some l => (evEs K hi ρ h).bind fun vs h => match partOf vs with
      | none => .stuck
      | some u => Rs.of (slice h x l u) h
  | .attr a f, ρ, h => (evE K a ρ h).bind fun x h => match x with
    | .loc n => (match h[n]? with
      | some (.ins _ fs) => Rs.of (fs.lookup f) h
      | _ => .stuck)
    | _ => .stuck
  | .call f es, ρ, h => (evEs K es ρ h).bind fun xs h => K.call f xs h
  | .callV f es, ρ, h => (evE K f ρ h).bind fun g h => (evEs K es ρ h).bind fun xs h => match g with
    | .fn f => K.call f xs h
    | _ => .stuck
  | .make c es, ρ, h => (evEs K es ρ h).bind fun xs h => match K.P.meth c "__init__" with
    | some f => (K.init f (.loc h.length :: xs) (h ++ [.ins c []])).bind fun _ h2 => .ok (.loc h.length) h2
    | none => .stuck
  | .meth o m es, ρ, h => (evE K o ρ h).bind fun x h => (evEs K es ρ h).bind fun xs h => match x with
    | .loc n => (match h[n]? with
      | some (.ins c fs) => (match fs.lookup m, K.P.meth c m with
        | none, some f => K.call f (x :: xs) h
        | _, _ => .stuck)
      | _ => .stuck)
    | _ => .stuck
  | .bi b es, ρ, h => (evEs K es ρ h).bind fun xs h => Rs.of (bfun b h xs) h
  | .bm o m es, ρ, h => (evE K o ρ h).bind fun x h => if recv m (view h x) then (evEs K es ρ h).bind fun xs h => bmeth m x xs h else .stuck
  | .isi a cs, ρ, h => (evE K a ρ h).bind fun x h => Rs.of ((cs.mapM fun c => isTy h K.P.sub x c).map fun bs => .bl (bs.any fun z => z)) h
  | .comp m own elt tg k it ifs, ρ, h => (evEs K it ρ h).bind fun xs h => match walked k h xs with
    | some (xs, gs) => (turns (still gs) (fun x h => withB (bindTg tg x h (wipe ρ own)) fun ρ => ((evIfs K ifs ρ h).bind fun b h => if b then (evE K elt ρ h).bind fun y h => .ok (some y) h else .ok none h).calm) xs [] h).bind fun ys h => if ys.length ≤ top then (if m then newO h (.lst ys) else .ok (.lst ys) h) else .stuck
    | none => .stuck
  | .comp2 m own elt tg k it ifs own1 tg1 k1 it1 ifs1, ρ, h => (evEs K it ρ h).bind fun xs h => match walked k h xs with
    | some (xs, gs) => (turns (still gs) (fun x h => withB (bindTg tg x h (wipe ρ own)) fun ρ => ((evIfs K ifs ρ h).bind fun b h => if b then (evEs K it1 ρ h).bind fun x1 h => (match walked k1 h x1 with
            | some (xs1, gs1) => (turns (still gs1) (fun x h => withB (bindTg tg1 x h (wipe ρ own1)) fun ρ => (evIfs K ifs1 ρ h).bind fun b h => if b then (evE K elt ρ h).bind fun y h => .ok (some y) h else .ok none h) xs1 [] h).bind fun ys h => .ok (some ys) h
            | none => .stuck) else .ok none h).calm) xs [] h).bind fun yss h => fin2 m yss h
    | none => .stuck
def evEs (K : Cn) : List LE → Rho → Heap → Rs (List T)
  | [], _, h => .ok [] h
  | e :: es, ρ, h => (evE K e ρ h).bind fun x h => (evEs K es ρ h).bind fun xs h => .ok (x :: xs) h
def evAnd (K : Cn) : List LE → Rho → Heap → Rs T
  | [], _, _ => .stuck
  | e :: es, ρ, h => match es with
    | [] => evE K e ρ h
    | _ :: _ => (evE K e ρ h).bind fun x h => match truth h x with
      | some true => evAnd K es ρ h
      | some false => .ok x h
      | none => .stuck
def evOr (K : Cn) : List LE → Rho → Heap → Rs T
  | [], _, _ => .stuck
  | e :: es, ρ, h => match es with
    | [] => evE K e ρ h
    | _ :: _ => (evE K e ρ h).bind fun x h => match truth h x with
      | some false => evOr K es ρ h
      | some true => .ok x h
      | none => .stuck
def evIfs (K : Cn) : List LE → Rho → Heap → Rs Bool
  | [], _, h => .ok true h
  | e :: es, ρ, h => (evE K e ρ h).bind fun x h => match truth h x with
    | some true => evIfs K es ρ h
    | some false => .ok false h
    | none => .stuck
end

/-- how a statement ends -/
inductive Fl where
  | nx (ρ : Rho)
  | ret (v : T)
  | brk (ρ : Rho)
  | cnt (ρ : Rho)
/-- a loop's turns -/
def loop (ok : Heap → Bool) (f : T → Rho → Heap → Rs Fl) : List T → Rho → Heap → Rs Fl
  | [], ρ, h => if ok h then .ok (.nx ρ) h else .stuck
  | x :: xs, ρ, h => if ok h then (f x ρ h).bind fun fl h => (match fl with
    | .nx ρ => loop ok f xs ρ h
    | .cnt ρ => loop ok f xs ρ h
    | .brk ρ => .ok (.nx ρ) h
    | .ret v => .ok (.ret v) h) else .stuck
def wloop (c : Rho → Heap → Rs Bool) (f : Rho → Heap → Rs Fl) : Nat → Rho → Heap → Rs Fl
  | 0, _, _ => .stuck
  | n + 1, ρ, h => (c ρ h).bind fun b h => if b then (f ρ h).bind fun fl h => (match fl with
    | .nx ρ => wloop c f n ρ h
    | .cnt ρ => wloop c f n ρ h
    | .brk ρ => .ok (.nx ρ) h
    | .ret v => .ok (.ret v) h) else .ok (.nx ρ) h
def putF (f : String) (v : T) : List (String × T) → List (String × T)
  | [] => [(f, v)]
  | (g, x) :: r => if g = f then (g, v) :: r else (g, x) :: putF f v r

mutual
def exS (K : Cn) : LS → Rho → Heap → Rs Fl
  | .expr e, ρ, h => (evE K e ρ h).bind fun _ h => .ok (.nx ρ) h
  | .set i e, ρ, h => (evE K e ρ h).bind fun x h => .ok (.nx (ρ.set i (some x))) h
  | .unp g e, ρ, h => (evE K e ρ h).bind fun x h => Rs.of ((bindTg g x h ρ).map .nx) h
  | .par is es, ρ, h => (evEs K es ρ h).bind fun xs h => if xs.length = is.length then .ok (.nx ((is.zip xs).foldl (fun r p => r.set p.1 (some p.2)) ρ)) h else .stuck
  | .sattr o f e, ρ, h => (evE K e ρ h).bind fun v h => (evE K o ρ h).bind fun x h => match x with
    | .loc n => (match h[n]? with
      | some (.ins c fs) => if fs.length < 1000 then .ok (.nx ρ) (h.set n (.ins c (putF f v fs))) else .stuck
      | _ => .stuck)
    | _ => .stuck
  | .sidx o i e, ρ, h => (evE K e ρ h).bind fun v h => (evE K o ρ h).bind fun x h => (evE K i ρ h).bind fun k h => match x with
    | .loc n => (match h[n]?, k with
      | some (.lst xs), .int z => (match place xs.length z with
        | some j => .ok (.nx ρ) (h.set n (.lst (xs.set j v)))
        | none => .stuck)
      | _, _ => .stuck)
    | _ => .stuck
  | .unpA os fs e, ρ, h => .stuck
  | .aug i o e, ρ, h => match ρ[i]? with
    | some (some x) => (evE K e ρ h).bind fun y h => Rs.of ((augop o x y).map fun z => .nx (ρ.set i (some z))) h
    | _ => .stuck
  | .augA o f op e, ρ, h => .stuck
  | .ret e, ρ, h => (evE K e ρ h).bind fun x h => .ok (.ret x) h
  | .retN, _, h => .ok (.ret .non) h
  | .iff c a b, ρ, h => (evE K c ρ h).bind fun x h => match truth h x with
    | some true => exSs K a ρ h
    | some false => exSs K b ρ h
    | none => .stuck
  | .whl n c b, ρ, h => wloop (fun ρ h => (evE K c ρ h).bind fun x h => Rs.of (truth h x) h) (fun ρ h => exSs K b ρ h) n ρ h
  | .for g k it b, ρ, h => (evEs K it ρ h).bind fun xs h => match walked k h xs with
    | some (xs, gs) => loop (still gs) (fun x ρ h => withB (bindTg g x h ρ) fun ρ => exSs K b ρ h) xs ρ h
    | none => .stuck
  | .pass, ρ, h => .ok (.nx ρ) h
  | .brk, ρ, h => .ok (.brk ρ) h
  | .cnt, ρ, h => .ok (.cnt ρ) h
  | .raise c es, ρ, h => (evEs K es ρ h).bind fun xs h => .exc (.exn c xs) h
  | .try b cs i s, ρ, h => .stuck
  | .frz i, ρ, h => match ρ[i]? with
    | some (some (.loc n)) => (match h[n]? with
      | some (.lst xs) => .ok (.nx (ρ.set i (some (.lst xs)))) (h.set n .dead)
      | some (.dct ks vs) => .ok (.nx (ρ.set i (some (.dct ks vs)))) (h.set n .dead)
      | _ => .stuck)
    | _ => .stuck
def exSs (K : Cn) : List LS → Rho → Heap → Rs Fl
  | [], ρ, h => .ok (.nx ρ) h
  | s :: ss, ρ, h => (exS K s ρ h).bind fun fl h => match fl with
    | .nx ρ => exSs K ss ρ h
    | fl => .ok fl h
end

/-- each old place is as it was, or a list without places -/
def keeps : Heap → Heap → Bool
  | [], _ => true
  | _ :: _, [] => false
  | o :: h0, p :: h => (decide (p = o) || (match p with | .lst xs => T.withins 0 xs | _ => false)) && keeps h0 h
/-- a call's end: mode 1 leaves the heap as it was, mode 2 leaves its old places -/
def leave (mode : Nat) (h0 h : Heap) (v : T) : Rs T :=
  if mode = 1 then (if h.take h0.length = h0 ∧ v.within h0.length = true then .ok v h0 else .stuck)
  else if mode = 2 then (if v.within h0.length = true ∧ keeps h0 h = true then .ok v (h.take h0.length) else .stuck)
  else .ok v h
def runFn (K : Cn) (f : Fn) (xs : List T) (h : Heap) : Rs T :=
  if xs.length = f.np then
    (exSs K f.body (xs.map some ++ List.replicate (f.ns - f.np) none) h).bind fun fl h' => match fl with
      | .ret v => leave f.mode h h' v
      | .nx _ => leave f.mode h h' .non
      | _ => .stuck
  else .stuck
def call (P : Prog) : Nat → String → List T → Heap → Rs T
  | 0, _, _, _ => .stuck
  | n + 1, f, xs, h => match P.fn f with
    | some d => runFn { P := P, call := call P n, init := fun f xs h => (match n with | 0 => .stuck | m + 1 => call P m f xs h) } d xs h
    | none => .stuck
/-- the calls of a body at a level -/
def cnOf (P : Prog) (n : Nat) : Cn := { P := P, call := call P n, init := fun f xs h => (match n with | 0 => .stuck | m + 1 => call P m f xs h) }
theorem call_up {P : Prog} {f : String} {d : Fn} (e : P.fn f = some d) (n : Nat) (xs : List T) (h : Heap) : call P (n + 1) f xs h = runFn (cnOf P n) d xs h := by
  rw [call, e]
  rfl
end Lite

/-! LITE, 2: how trees and the list-heap stand in the hand layer's abstract heap. -/
namespace Lite
open PySem L2

/-- the text of signs -/
def tx (s : List Nat) : Str := ⟨s.toArray⟩
theorem tx_inj {a b : List Nat} (h : tx a = tx b) : a = b := by
  unfold tx at h
  injection h with h1
  have := congrArg Array.toList h1
  simpa using this

/-- what is fixed through a row: the model's side and ours; nm: a canonical name's name in the row -/
structure GD where
  prog : Program
  w : World
  K : PySem.W.Frag
  mg : Str → Option Value
  base : PySem.Heap
  P : Prog
  nm : String → Str
  fa : String → Option Addr
  ca : String → Option Addr

/-- a dict with these entries stands at a -/
def DX (a : Addr) (es : List DictEntry) : HO := .ext fun h => ∃ n, h.get? a = some { cls := .type "dict", data := .dict es.toArray n }
/-- a list of the written part -/
def WrL (K : PySem.W.Frag) (a : Addr) (vs : List V) : Prop :=
  ∃ (its : List Value) (n : Nat), K.lookup a = some { cls := .type "list", data := .seq its.toArray n } ∧ vs.length ≤ sizeLine ∧ Vals vs its
/-- a list that is never written -/
def FzL (K : PySem.W.Frag) (H : Hp) (a : Addr) (vs : List V) : Prop := (∃ o, H a = some (.frz o (.lst vs))) ∨ WrL K a vs
/-- a dict that is never written -/
def FzD (K : PySem.W.Frag) (H : Hp) (a : Addr) (es : List DictEntry) : Prop :=
  (∃ o, H a = some (.frz o (DX a es))) ∨ ∃ n, K.lookup a = some { cls := .type "dict", data := .dict es.toArray n }
theorem FzL.sq {K : PySem.W.Frag} {H : Hp} {a : Addr} {vs : List V} (h : FzL K H a vs) : SqL K H a vs := by
  rcases h with ⟨o, h⟩ | ⟨its, n, e, z, r⟩
  · exact .inl (.inr ⟨o, h⟩)
  · exact .inr ⟨_, its.toArray, n, e, rfl, rfl, rfl, by rw [List.size_toArray, ← r.length]; exact z, by simpa using r⟩
/-- a list, as one object -/
def ExL (K : PySem.W.Frag) (H : Hp) (a : Addr) (vs : List V) : Prop := H a = some (.lst vs) ∨ FzL K H a vs
theorem ExL.sq {K : PySem.W.Frag} {H : Hp} {a : Addr} {vs : List V} (h : ExL K H a vs) : SqL K H a vs := by
  rcases h with h | h
  · exact .inl (.inl h)
  · exact h.sq

/-- the key that a tree is -/
def keyT : T → Option NestedKey
  | .non => some .none
  | .bl b => some (.num (if b then 1 else 0))
  | .int i => some (.num i)
  | .str s => some (.text (tx s))
  | .tup xs => (keysT xs).map .tup
  | _ => none
where keysT : List T → Option (List NestedKey)
  | [] => some []
  | x :: xs => match keyT x, keysT xs with
    | some k, some ks => some (k :: ks)
    | _, _ => none

/-! ### the relation -/
mutual
inductive VR (G : GD) (R : List Addr) (H : Hp) : T → V → Prop where
  | non : VR G R H .non .non
  | bl (b : Bool) : VR G R H (.bl b) (.bl b)
  | int (i : Int) : VR G R H (.int i) (.int i)
  | str (s : List Nat) : VR G R H (.str s) (.str (tx s))
  | tup {xs : List T} {a : Addr} {vs : List V} (h : SqT G.K H a vs) (r : VRs G R H xs vs) : VR G R H (.tup xs) (.ref a)
  | lst {xs : List T} {a : Addr} {vs : List V} (h : FzL G.K H a vs) (r : VRs G R H xs vs) : VR G R H (.lst xs) (.ref a)
  | dct {ks ys : List T} {a : Addr} {es : List DictEntry} (h : FzD G.K H a es) (r : DE G R H ks ys es) : VR G R H (.dct ks ys) (.ref a)
  | loc {n : Nat} {a : Addr} (h : R[n]? = some a) : VR G R H (.loc n) (.ref a)
  | fn {f : String} {a : Addr} (h : G.fa f = some a) : VR G R H (.fn f) (.ref a)
  | cls {c : String} {a : Addr} (h : G.ca c = some a) : VR G R H (.cls c) (.ref a)
inductive VRs (G : GD) (R : List Addr) (H : Hp) : List T → List V → Prop where
  | nil : VRs G R H [] []
  | cons {x : T} {v : V} {xs : List T} {vs : List V} (h : VR G R H x v) (r : VRs G R H xs vs) : VRs G R H (x :: xs) (v :: vs)
inductive DE (G : GD) (R : List Addr) (H : Hp) : List T → List T → List DictEntry → Prop where
  | nil : DE G R H [] [] []
  | cons {k y : T} {vk vy : V} {ks ys : List T} {e : DictEntry} {es : List DictEntry} {nk : NestedKey} (hk : VR G R H k vk) (rk : RelV vk e.key) (hn : keyT k = some nk) (hh : e.hash = nk.hash G.w) (hy : VR G R H y vy) (ry : RelV vy e.val)
      (r : DE G R H ks ys es) : DE G R H (k :: ks) (y :: ys) (e :: es)
end

/-- what is never written -/
def FT : HO → Prop
  | .tup _ => True
  | .frz _ _ => True
  | _ => False
/-- a later state -/
structure Lq (R : List Addr) (H : Hp) (R' : List Addr) (H' : Hp) : Prop where
  pre : ∀ (n : Nat) (a : Addr), R[n]? = some a → R'[n]? = some a
  new : ∀ a ∈ R', a ∉ R → H a = none
  keep : ∀ b o, H b = some o → (b ∉ R ∨ FT o) → H' b = some o
theorem Lq.refl (R : List Addr) (H : Hp) : Lq R H R H := ⟨fun _ _ h => h, fun _ h n => absurd h n, fun _ _ h _ => h⟩
theorem Lq.trans {R R1 R2 : List Addr} {H H1 H2 : Hp} (a : Lq R H R1 H1) (b : Lq R1 H1 R2 H2) : Lq R H R2 H2 where
  pre n x h := b.pre n x (a.pre n x h)
  new x h n := by
    by_cases q : x ∈ R1
    · exact a.new x q n
    · have z := b.new x h q
      cases e : H x with
      | none => rfl
      | some o =>
        have := a.keep x o e (.inl n)
        rw [this] at z
        cases z
  keep x o h c := by
    have h1 := a.keep x o h c
    refine b.keep x o h1 ?_
    rcases c with c | c
    · left
      intro q
      have z := a.new x q c
      rw [z] at h
      cases h
    · exact .inr c
/-- nothing but new things -/
theorem Lq.all {R : List Addr} {H H' : Hp} (k : ∀ b o, H b = some o → H' b = some o) : Lq R H R H' := ⟨fun _ _ h => h, fun _ h n => absurd h n, fun b o h _ => k b o h⟩

/-- what is never written stays -/
structure Lf (R : List Addr) (H : Hp) (R' : List Addr) (H' : Hp) : Prop where
  pre : ∀ (n : Nat) (a : Addr), R[n]? = some a → R'[n]? = some a
  keep : ∀ b o, H b = some o → FT o → H' b = some o
theorem Lf.refl (R : List Addr) (H : Hp) : Lf R H R H := ⟨fun _ _ h => h, fun _ _ h _ => h⟩
theorem Lf.trans {R R1 R2 : List Addr} {H H1 H2 : Hp} (a : Lf R H R1 H1) (b : Lf R1 H1 R2 H2) : Lf R H R2 H2 := ⟨fun n x h => b.pre n x (a.pre n x h), fun x o h f => b.keep x o (a.keep x o h f) f⟩
theorem Lq.lf {R R' : List Addr} {H H' : Hp} (q : Lq R H R' H') : Lf R H R' H' := ⟨q.pre, fun b o e f => q.keep b o e (.inr f)⟩
section
variable {G : GD} {R R' : List Addr} {H H' : Hp}
theorem Lf.sqT {a : Addr} {vs : List V} (q : Lf R H R' H') (h : SqT G.K H a vs) : SqT G.K H' a vs := by
  rcases h with h | h
  · rcases h with h | ⟨o, h⟩
    · exact .inl (.inl (q.keep _ _ h trivial))
    · exact .inl (.inr ⟨o, q.keep _ _ h trivial⟩)
  · exact .inr h
theorem Lf.fzL {a : Addr} {vs : List V} (q : Lf R H R' H') (h : FzL G.K H a vs) : FzL G.K H' a vs := by
  rcases h with ⟨o, h⟩ | h
  · exact .inl ⟨o, q.keep _ _ h trivial⟩
  · exact .inr h
theorem Lf.fzD {a : Addr} {es : List DictEntry} (q : Lf R H R' H') (h : FzD G.K H a es) : FzD G.K H' a es := by
  rcases h with ⟨o, h⟩ | h
  · exact .inl ⟨o, q.keep _ _ h trivial⟩
  · exact .inr h
mutual
theorem VR.monoF (q : Lf R H R' H') : ∀ {t : T} {v : V}, VR G R H t v → VR G R' H' t v
  | _, _, .non => .non
  | _, _, .bl b => .bl b
  | _, _, .int i => .int i
  | _, _, .str s => .str s
  | _, _, .tup h r => .tup (q.sqT h) (VRs.monoF q r)
  | _, _, .lst h r => .lst (q.fzL h) (VRs.monoF q r)
  | _, _, .dct h r => .dct (q.fzD h) (DE.monoF q r)
  | _, _, .loc h => .loc (q.pre _ _ h)
  | _, _, .fn h => .fn h
  | _, _, .cls h => .cls h
theorem VRs.monoF (q : Lf R H R' H') : ∀ {xs : List T} {vs : List V}, VRs G R H xs vs → VRs G R' H' xs vs
  | _, _, .nil => .nil
  | _, _, .cons h r => .cons (VR.monoF q h) (VRs.monoF q r)
theorem DE.monoF (q : Lf R H R' H') : ∀ {ks ys : List T} {es : List DictEntry}, DE G R H ks ys es → DE G R' H' ks ys es
  | _, _, _, .nil => .nil
  | _, _, _, .cons hk rk hn hh hy ry r => .cons (VR.monoF q hk) rk hn hh (VR.monoF q hy) ry (DE.monoF q r)
end
theorem VR.mono (q : Lq R H R' H') {t : T} {v : V} (r : VR G R H t v) : VR G R' H' t v := r.monoF q.lf
theorem VRs.mono (q : Lq R H R' H') {xs : List T} {vs : List V} (r : VRs G R H xs vs) : VRs G R' H' xs vs := r.monoF q.lf
theorem DE.mono (q : Lq R H R' H') {ks ys : List T} {es : List DictEntry} (r : DE G R H ks ys es) : DE G R' H' ks ys es := r.monoF q.lf
theorem VRs.length : ∀ {xs : List T} {vs : List V}, VRs G R H xs vs → xs.length = vs.length
  | _, _, .nil => rfl
  | _, _, .cons _ r => by simp [VRs.length r]
theorem VRs.get : ∀ {xs : List T} {vs : List V} {i : Nat} {x : T}, VRs G R H xs vs → xs[i]? = some x → ∃ v, vs[i]? = some v ∧ VR G R H x v
  | _, _, i, x, .nil, e => by simp at e
  | _, _, 0, x, .cons h r, e => by simp at e; subst e; exact ⟨_, by simp, h⟩
  | _, _, i + 1, x, .cons h r, e => by
    simp at e
    obtain ⟨v, h1, h2⟩ := VRs.get r e
    exact ⟨v, by simpa using h1, h2⟩
theorem VRs.getV : ∀ {xs : List T} {vs : List V} {i : Nat} {v : V}, VRs G R H xs vs → vs[i]? = some v → ∃ x, xs[i]? = some x ∧ VR G R H x v
  | _, _, i, x, .nil, e => by simp at e
  | _, _, 0, x, .cons h r, e => by simp at e; subst e; exact ⟨_, by simp, h⟩
  | _, _, i + 1, x, .cons h r, e => by
    simp at e
    obtain ⟨v, h1, h2⟩ := VRs.getV r e
    exact ⟨v, by simpa using h1, h2⟩
theorem VRs.append : ∀ {xs ys : List T} {vs us : List V}, VRs G R H xs vs → VRs G R H ys us → VRs G R H (xs ++ ys) (vs ++ us)
  | _, _, _, _, .nil, s => s
  | _, _, _, _, .cons h r, s => .cons h (VRs.append r s)
theorem VRs.set {y : T} {u : V} (hy : VR G R H y u) : ∀ {xs : List T} {vs : List V} (i : Nat), VRs G R H xs vs → VRs G R H (xs.set i y) (vs.set i u)
  | _, _, _, .nil => .nil
  | _, _, 0, .cons _ r => .cons hy r
  | _, _, i + 1, .cons h r => .cons h (VRs.set hy i r)
theorem VRs.take : ∀ {xs : List T} {vs : List V} (n : Nat), VRs G R H xs vs → VRs G R H (xs.take n) (vs.take n)
  | _, _, 0, _ => by simp; exact .nil
  | _, _, _ + 1, .nil => .nil
  | _, _, n + 1, .cons h r => .cons h (VRs.take n r)
theorem VRs.drop : ∀ {xs : List T} {vs : List V} (n : Nat), VRs G R H xs vs → VRs G R H (xs.drop n) (vs.drop n)
  | _, _, 0, r => r
  | _, _, _ + 1, .nil => .nil
  | _, _, n + 1, .cons _ r => VRs.drop n r
/-! places below n only: the same under a shorter table -/
mutual
theorem VR.shrink {n : Nat} (p : ∀ k, k < n → ∀ a, R'[k]? = some a → R[k]? = some a) : ∀ {t : T} {v : V}, t.within n = true → VR G R' H t v → VR G R H t v
  | _, _, _, .non => .non
  | _, _, _, .bl b => .bl b
  | _, _, _, .int i => .int i
  | _, _, _, .str s => .str s
  | _, _, w, .tup h r => .tup h (VRs.shrink p (by simpa [T.within] using w) r)
  | _, _, w, .lst h r => .lst h (VRs.shrink p (by simpa [T.within] using w) r)
  | _, _, w, .dct h r => .dct h (DE.shrink p (by simp [T.within] at w; exact w.1) (by simp [T.within] at w; exact w.2) r)
  | _, _, w, .loc h => .loc (p _ (by simpa [T.within] using w) _ h)
  | _, _, _, .fn h => .fn h
  | _, _, _, .cls h => .cls h
theorem VRs.shrink {n : Nat} (p : ∀ k, k < n → ∀ a, R'[k]? = some a → R[k]? = some a) : ∀ {xs : List T} {vs : List V}, T.withins n xs = true → VRs G R' H xs vs → VRs G R H xs vs
  | _, _, _, .nil => .nil
  | _, _, w, .cons h r => .cons (VR.shrink p (by simp [T.withins] at w; exact w.1) h) (VRs.shrink p (by simp [T.withins] at w; exact w.2) r)
theorem DE.shrink {n : Nat} (p : ∀ k, k < n → ∀ a, R'[k]? = some a → R[k]? = some a) : ∀ {ks ys : List T} {es : List DictEntry}, T.withins n ks = true → T.withins n ys = true → DE G R' H ks ys es → DE G R H ks ys es
  | _, _, _, _, _, .nil => .nil
  | _, _, _, wk, wy, .cons hk rk hn hh hy ry r => .cons (VR.shrink p (by simp [T.withins] at wk; exact wk.1) hk) rk hn hh (VR.shrink p (by simp [T.withins] at wy; exact wy.1) hy) ry
      (DE.shrink p (by simp [T.withins] at wk; exact wk.2) (by simp [T.withins] at wy; exact wy.2) r)
end
/-! what is related lies within the table -/
mutual
theorem VR.within : ∀ {t : T} {v : V}, VR G R H t v → t.within R.length = true
  | _, _, .non => rfl
  | _, _, .bl b => rfl
  | _, _, .int i => rfl
  | _, _, .str s => rfl
  | _, _, .tup h r => by simpa [T.within] using VRs.within r
  | _, _, .lst h r => by simpa [T.within] using VRs.within r
  | _, _, .dct h r => by simpa [T.within] using DE.within r
  | _, _, .loc h => by simpa [T.within] using (List.getElem?_eq_some_iff.mp h).1
  | _, _, .fn h => rfl
  | _, _, .cls h => rfl
theorem VRs.within : ∀ {xs : List T} {vs : List V}, VRs G R H xs vs → T.withins R.length xs = true
  | _, _, .nil => rfl
  | _, _, .cons h r => by simp [T.withins, VR.within h, VRs.within r]
theorem DE.within : ∀ {ks ys : List T} {es : List DictEntry}, DE G R H ks ys es → T.withins R.length ks = true ∧ T.withins R.length ys = true
  | _, _, _, .nil => ⟨rfl, rfl⟩
  | _, _, _, .cons hk rk hn hh hy ry r => by simp [T.withins, VR.within hk, VR.within hy, DE.within r]
end
end

/-- an instance's fields -/
inductive FR (G : GD) (R : List Addr) (H : Hp) : List (String × T) → List (Str × V) → Prop where
  | nil : FR G R H [] []
  | cons {n : String} {x : T} {v : V} {fs : List (String × T)} {gs : List (Str × V)} (h : VR G R H x v) (r : FR G R H fs gs) : FR G R H ((n, x) :: fs) ((Str.ofString n, v) :: gs)
/-- what stands at a place -/
def OR (G : GD) (R : List Addr) (H : Hp) (a : Addr) : O → Prop
  | .lst xs => ∃ vs, H a = some (.lst vs) ∧ VRs G R H xs vs
  | .dct ks ys => ∃ es, H a = some (DX a es) ∧ DE G R H ks ys es
  | .ins c fs => ∃ C dx gs, G.ca c = some C ∧ H a = some (.ins C dx gs) ∧ FR G R H fs gs
  | .dead => True
structure HRel (G : GD) (h : Heap) (R : List Addr) (H : Hp) : Prop where
  len : R.length = h.length
  nd : R.Nodup
  live : ∀ a ∈ R, H a ≠ none
  obj : ∀ (n : Nat) (o : O) (a : Addr), h[n]? = some o → R[n]? = some a → OR G R H a o
section
variable {G : GD} {R R' : List Addr} {H H' : Hp} {h : Heap}
theorem FR.monoF (q : Lf R H R' H') : ∀ {fs : List (String × T)} {gs : List (Str × V)}, FR G R H fs gs → FR G R' H' fs gs
  | _, _, .nil => .nil
  | _, _, .cons h r => .cons (h.monoF q) (FR.monoF q r)
theorem FR.mono (q : Lq R H R' H') {fs : List (String × T)} {gs : List (Str × V)} (r : FR G R H fs gs) : FR G R' H' fs gs := r.monoF q.lf
theorem OR.monoF (q : Lf R H R' H') {a : Addr} (ha : ∀ o, H a = some o → H' a = some o) : ∀ {o : O}, OR G R H a o → OR G R' H' a o
  | .lst _, ⟨vs, e, r⟩ => ⟨vs, ha _ e, r.monoF q⟩
  | .dct _ _, ⟨es, e, r⟩ => ⟨es, ha _ e, r.monoF q⟩
  | .ins _ _, ⟨C, dx, gs, c, e, r⟩ => ⟨C, dx, gs, c, ha _ e, r.monoF q⟩
  | .dead, _ => trivial
theorem OR.mono (q : Lq R H R' H') {a : Addr} (ha : ∀ o, H a = some o → H' a = some o) {o : O} (r : OR G R H a o) : OR G R' H' a o := r.monoF q.lf ha
/-- a thing that is none of ours is written -/
theorem HRel.aside {D : Addr} {u0 u : HO} (hr : HRel G h R H) (hD : D ∉ R) (e : H D = some u0) (nft : ¬ FT u0) : HRel G h R (upd H D u) ∧ Lf R H R (upd H D u) := by
  have lf : Lf R H R (upd H D u) := ⟨fun _ _ z => z, fun b o z f => by
    by_cases w : b = D
    · subst w; rw [e] at z; cases z; exact absurd f nft
    · rw [upd_ne w]; exact z⟩
  have ne : ∀ a ∈ R, a ≠ D := fun a ha z => hD (z ▸ ha)
  refine ⟨⟨hr.len, hr.nd, fun a ha => by rw [upd_ne (ne a ha)]; exact hr.live a ha, fun n o a e1 e2 => ?_⟩, lf⟩
  exact (hr.obj n o a e1 e2).monoF lf fun o z => by rw [upd_ne (ne a (List.mem_of_getElem? e2))]; exact z
/-- the abstract heap only grew -/
theorem HRel.grow (hr : HRel G h R H) (k : ∀ b o, H b = some o → H' b = some o) : HRel G h R H' where
  len := hr.len
  nd := hr.nd
  live a ha e := by
    cases q : H a with
    | none => exact hr.live a ha q
    | some o => rw [k a o q] at e; cases e
  obj n o a e1 e2 := (hr.obj n o a e1 e2).mono (Lq.all k) (k a)
theorem HRel.at (hr : HRel G h R H) {n : Nat} {o : O} (e : h[n]? = some o) : ∃ a, R[n]? = some a ∧ OR G R H a o := by
  have hn := (List.getElem?_eq_some_iff.mp e).1
  rw [← hr.len] at hn
  exact ⟨R[n], by simp [hn], hr.obj n o _ e (by simp [hn])⟩
/-- a new tracked thing -/
theorem HRel.push {p : Addr} {u : HO} {o : O} (hr : HRel G h R H) (hp : H p = none) (hu : H' = upd H p u) (ho : OR G (R ++ [p]) H' p o) : HRel G (h ++ [o]) (R ++ [p]) H' ∧ Lq R H (R ++ [p]) H' := by
  subst hu
  have hpR : p ∉ R := fun q => hr.live p q hp
  have k : ∀ b o, H b = some o → upd H p u b = some o := fun b o e => by rw [upd_ne (ne_of_none e hp)]; exact e
  have lq : Lq R H (R ++ [p]) (upd H p u) := ⟨fun n a e => by rw [List.getElem?_append_left (List.getElem?_eq_some_iff.mp e).1]; exact e, fun a ha n => by
    rcases List.mem_append.mp ha with z | z
    · exact absurd z n
    · rw [List.mem_singleton.mp z]; exact hp, fun b o e _ => k b o e⟩
  refine ⟨⟨by simp [hr.len], ?_, fun a ha => ?_, fun n o' a e1 e2 => ?_⟩, lq⟩
  · rw [List.nodup_append]
    exact ⟨hr.nd, by simp, fun a ha b hb => by simp at hb; subst hb; intro z; exact hpR (z ▸ ha)⟩
  · rcases List.mem_append.mp ha with z | z
    · cases q : H a with
      | none => exact absurd q (hr.live a z)
      | some o => rw [k a o q]; simp
    · rw [List.mem_singleton.mp z, upd_same]; simp
  · by_cases hn : n < h.length
    · rw [List.getElem?_append_left hn] at e1
      rw [List.getElem?_append_left (by rw [hr.len]; exact hn)] at e2
      exact (hr.obj n o' a e1 e2).mono lq (k a)
    · have hn' : n = h.length := by
        have := (List.getElem?_eq_some_iff.mp e1).1
        simp at this
        omega
      subst hn'
      simp at e1
      rw [← hr.len] at e2
      simp at e2
      subst e1 e2
      exact ho
theorem nodup_at {R : List Addr} (nd : R.Nodup) {n m : Nat} {a : Addr} (h1 : R[n]? = some a) (h2 : R[m]? = some a) : n = m := by
  obtain ⟨p, e⟩ := List.getElem?_eq_some_iff.mp h1
  obtain ⟨q, f⟩ := List.getElem?_eq_some_iff.mp h2
  exact (List.getElem_inj nd).mp (e.trans f.symm)
/-- a place is written -/
theorem HRel.put {n : Nat} {a : Addr} {u0 u : HO} {o : O} (hr : HRel G h R H) (hn : R[n]? = some a) (hu0 : H a = some u0) (nft : ¬ FT u0) (hu : H' = upd H a u) (ho : OR G R H' a o) : HRel G (h.set n o) R H' ∧ Lq R H R H' := by
  subst hu
  have k : ∀ b o, b ≠ a → H b = some o → upd H a u b = some o := fun b o z e => by rw [upd_ne z]; exact e
  have haR : a ∈ R := List.mem_of_getElem? hn
  have lq : Lq R H R (upd H a u) := ⟨fun _ _ e => e, fun _ z n => absurd z n, fun b o e c => by
    refine k b o ?_ e
    rintro rfl
    rcases c with c | c
    · exact c haR
    · rw [hu0] at e; cases e; exact nft c⟩
  refine ⟨⟨by simp [hr.len], hr.nd, fun b hb => ?_, fun m o' b e1 e2 => ?_⟩, lq⟩
  · by_cases z : b = a
    · subst z; rw [upd_same]; simp
    · rw [upd_ne z]; exact hr.live b hb
  · by_cases z : m = n
    · subst z
      rw [hn] at e2
      cases e2
      have hm : m < h.length := by rw [← hr.len]; exact (List.getElem?_eq_some_iff.mp hn).1
      rw [List.getElem?_set_self hm] at e1
      cases e1
      exact ho
    · rw [List.getElem?_set_ne (Ne.symm z)] at e1
      have zb : b ≠ a := fun e => z (nodup_at hr.nd e2 (e ▸ hn))
      exact (hr.obj m o' b e1 e2).mono lq fun o e => k b o zb e
end

/-! ### the slots -/
def ERel (G : GD) (R : List Addr) (H : Hp) (ρ : Rho) (σ : St) : Prop := ρ.length = σ.length ∧ ∀ (i : Nat) (t : T), ρ[i]? = some (some t) → ∃ v, σ[i]? = some (some v) ∧ VR G R H t v
structure SR (G : GD) (ρ : Rho) (h : Heap) (R : List Addr) (σ : St) (H : Hp) : Prop where
  hr : HRel G h R H
  er : ERel G R H ρ σ
section
variable {G : GD} {R R' : List Addr} {H H' : Hp} {h h' : Heap} {ρ : Rho} {σ : St}
theorem ERel.mono (q : Lq R H R' H') (e : ERel G R H ρ σ) : ERel G R' H' ρ σ := ⟨e.1, fun i t z => let ⟨v, a, b⟩ := e.2 i t z; ⟨v, a, b.mono q⟩⟩
theorem ERel.set {t : T} {v : V} (e : ERel G R H ρ σ) (i : Nat) (r : VR G R H t v) : ERel G R H (ρ.set i (some t)) (σ.set i (some v)) := by
  refine ⟨by simp [e.1], fun j u z => ?_⟩
  by_cases q : j = i
  · subst q
    have hj := (List.getElem?_eq_some_iff.mp z).1
    simp at hj
    rw [List.getElem?_set_self hj] at z
    cases z
    exact ⟨v, by rw [List.getElem?_set_self (by rw [← e.1]; exact hj)], r⟩
  · rw [List.getElem?_set_ne (Ne.symm q)] at z
    obtain ⟨w, a, b⟩ := e.2 j u z
    exact ⟨w, by rw [List.getElem?_set_ne (Ne.symm q)]; exact a, b⟩
theorem ERel.drop (e : ERel G R H ρ σ) (i : Nat) (x : Option V) : ERel G R H (ρ.set i none) (σ.set i x) := by
  refine ⟨by simp [e.1], fun j u z => ?_⟩
  by_cases q : j = i
  · subst q
    have hj := (List.getElem?_eq_some_iff.mp z).1
    simp at hj
    rw [List.getElem?_set_self hj] at z
    cases z
  · rw [List.getElem?_set_ne (Ne.symm q)] at z
    obtain ⟨w, a, b⟩ := e.2 j u z
    exact ⟨w, by rw [List.getElem?_set_ne (Ne.symm q)]; exact a, b⟩
theorem ERel.wipe (e : ERel G R H ρ σ) : ∀ own : List Nat, ERel G R H (Lite.wipe ρ own) (L2.wipe σ own)
  | [] => e
  | i :: own => (ERel.wipe e own).drop i none
theorem SR.next (s : SR G ρ h R σ H) (q : Lq R H R' H') (hr : HRel G h' R' H') : SR G ρ h' R' σ H' := ⟨hr, s.er.mono q⟩
end

/-! ### ends of a run -/
def Sat {α : Type} (r : Rs α) (Q : α → Heap → Prop) (X : T → Heap → Prop) : Prop := match r with
  | .ok a h => Q a h
  | .exc e h => X e h
  | .stuck => False
theorem Sat.bind {α β : Type} {r : Rs α} {f : α → Heap → Rs β} {Q : β → Heap → Prop} {X : T → Heap → Prop} : Sat (r.bind f) Q X ↔ Sat r (fun a h => Sat (f a h) Q X) X := by
  cases r <;> exact Iff.rfl
theorem Sat.imp {α : Type} {r : Rs α} {Q Q' : α → Heap → Prop} {X X' : T → Heap → Prop} (s : Sat r Q X) (hq : ∀ a h, Q a h → Q' a h) (hx : ∀ e h, X e h → X' e h) : Sat r Q' X' := by
  cases r with
  | ok a h => exact hq a h s
  | exc e h => exact hx e h s
  | stuck => exact s
theorem Sat.of {α : Type} {o : Option α} {h : Heap} {Q : α → Heap → Prop} {X : T → Heap → Prop} (s : Sat (Rs.of o h) Q X) : ∃ a, o = some a ∧ Q a h := by
  cases o with
  | none => exact s.elim
  | some a => exact ⟨a, rfl, s⟩
/-- an exception's object -/
def XR (G : GD) (R : List Addr) (H : Hp) (e : T) (cls : Value) (d : Option Addr) : Prop := ∃ c vs C, e = .exn c vs ∧ G.ca c = some C ∧ cls = .ref C ∧
  ((vs = [] ∧ d = none) ∨ ∃ x v da f, vs = [x] ∧ d = some da ∧ VR G R H x v ∧ H da = some (.xd [(f, v)]))
section
variable (G : GD) (R : List Addr) (H : Hp)
def PostE (Q : VK) : T → Heap → Prop := fun t h' => ∀ R' H' v, Lq R H R' H' → HRel G h' R' H' → VR G R' H' t v → Q v H'
def PostEs (Q : List V → Hp → Prop) : List T → Heap → Prop := fun ts h' => ∀ R' H' vs, Lq R H R' H' → HRel G h' R' H' → VRs G R' H' ts vs → Q vs H'
def PostB (Q : Bool → Hp → Prop) : Bool → Heap → Prop := fun b h' => ∀ R' H', Lq R H R' H' → HRel G h' R' H' → Q b H'
def PostX (W : Value → Option Addr → Hp → Prop) : T → Heap → Prop := fun e h' => ∀ R' H' cls d, Lq R H R' H' → HRel G h' R' H' → XR G R' H' e cls d → W cls d H'
def PostS (D : Ends) : Fl → Heap → Prop := fun fl h' => match fl with
  | .nx ρ => ∀ R' H' σ, Lq R H R' H' → HRel G h' R' H' → ERel G R' H' ρ σ → D.nx σ H'
  | .brk ρ => ∀ R' H' σ, Lq R H R' H' → HRel G h' R' H' → ERel G R' H' ρ σ → D.bk σ H'
  | .cnt ρ => ∀ R' H' σ, Lq R H R' H' → HRel G h' R' H' → ERel G R' H' ρ σ → D.ct σ H'
  | .ret t => ∀ R' H' v, Lq R H R' H' → HRel G h' R' H' → VR G R' H' t v → D.rt v H'
end
end Lite

/-! LITE, 3: the promise of a def by the interpreter, calls, contexts, readings. -/
namespace Lite
open PySem L2 PySem.Spec
open PyProof.Rows hiding St

/-! ### promises of defs, where no repr is under way -/
structure FnG (G : GD) (k : Nat) (f : Addr) (fd : FuncData) (ps : List Str) (sp : Sp) : Prop where
  len : ∀ xs H Q E, sp xs H Q E → xs.length = ps.length
  run : ∀ (A : Around) (out : List Env) (s : Shared) (H : Hp) (args : Args) (us : List Value) (xs : List V) (Q : VK) (E : XK), Room k A → A.guards = some [] → Env0 G.prog G.w G.K G.mg G.base A out s H →
    BindsTo s fd args (ps.zip us) → Vals xs us → sp xs H Q E → codeAny (model G.prog G.w) A (.call (.ref f) args) (CR (CX G.prog G.w) out G.prog G.w H s Q E) s

/-- a def by its body -/
theorem fnG_of {G : GD} {k : Nat} {f : Addr} {name qual : Str} {params : Arguments} {body : List Stmt} {scope : Scope} {dV kV doc pm cdv ct oc : Value} {an od : Option Addr} {osl : Array (Option Value)} {N ps : List Str} {sp : Sp}
    (lk : G.K.lookup f = some ⟨oc, od, .func (PySem.W.fnOf name qual params body scope dV kV doc pm an cdv ct), osl⟩) (hcd : PySem.W.codeIn G.K cdv qual = true) (S : FnScope N ps scope) (len : ∀ xs H Q E, sp xs H Q E → xs.length = ps.length)
    (hbody : ∀ (A : Around) (out : List Env) (s : Shared) (H : Hp) (xs : List V) (Q : VK) (E : XK), Room k (A.deeper (envOfC qual scope s.heap.objs.size f cdv)) → A.guards = some [] → sp xs H Q E →
      ∃ t, PSs (cxOf (CX G.prog G.w) G.prog G.w G.K G.mg G.base N qual scope f cdv A out s H E) body t ∧ t { nx := fun _ H' => Q .non H', rt := Q } (start N xs) H) :
    FnG G (k + 1) f (PySem.W.fnOf name qual params body scope dV kV doc pm an cdv ct) ps sp := by
  refine ⟨len, fun A out s H args us xs Q E hr hg e0 hb r hsp => ?_⟩
  have hl := len _ _ _ _ hsp
  have KX : G.K.In s.heap := e0.mod.kin.keeps (fun b o e => (e0.bs b o e).1)
  have lim : s.heap.NoLimit := e0.mod.nolimit.keeps (fun b o e => (e0.bs b o e).1)
  have hkind : ∀ y ∈ ps.zip us, scope.names.lookup y.1 = some .local ∨ (scope.names.lookup y.1 = some .cell ∧ ((cellsFrom (s.heap.objs.size + 1) scope.names []).lookup y.1).isSome = true) := by
    rintro ⟨n, v⟩ hy
    cases S.par n (List.of_mem_zip hy).1 with
    | inl q => exact .inl q
    | inr q => exact .inr ⟨q, PySem.W.cellsFrom_some _ _ _ (.inl q)⟩
  refine codeAny_call_function hr.depth (KX _ _ lk) rfl S.co S.gen rfl (PySem.W.codeRec_of KX hcd) (hb _ _ _ _ (wpAny_newFunctionEnv_cells S.kind hkind fun env he s1 x => ?_))
  subst he
  refine ⟨lim.keeps x.toInCall.keep, codeAny_func ?_⟩
  obtain ⟨t, ht, hq⟩ := hbody A out s H xs Q E (hr.deeper _) hg hsp
  have I := inv_start (CX := CX G.prog G.w) (P := G.prog) (w := G.w) (f := f) (cd := cdv) (E := E) (qual := qual) S hr.hd e0 hl r x
  refine wpAny_mono (ht.run [] s1 (start N xs) H _ I hq) (fun fl s' hs => ?_) (fun _ _ z => z)
  have fin : ∀ {σ' : St} {H' : Hp} {v : V} {u : Value}, Inv (cxOf (CX G.prog G.w) G.prog G.w G.K G.mg G.base N qual scope f cdv A out s H E) [] σ' H' s' → RelV v u → Q v H' → CE out G.prog G.w H s Q u s' :=
    fun {σ' H' v u} J rv q => ⟨v, H', J.os, J.bare, J.base, J.hok, rv, q⟩
  cases fl with
  | ret u => obtain ⟨v, σ', H', J, rv, q⟩ := hs; exact fin J rv q
  | next => obtain ⟨σ', H', J, q⟩ := hs; exact fin (v := V.non) (u := Value.none) J rfl q
  | brk => obtain ⟨_, _, _, q⟩ := hs; exact q.elim
  | cont => obtain ⟨_, _, _, q⟩ := hs; exact q.elim

section
variable {X : L2.Cx} {pins : List (Addr × Obj)} {σ : St} {H : Hp} {s : Shared} {Q : VK} {E : XK} {k : Nat} {f C : Addr} {fd : FuncData} {ps : List Str} {sp : Sp} {us ds : List Value} {xs dvs : List V}
/-- the model's side of X is G's -/
structure Same5 (G : GD) (X : L2.Cx) : Prop where
  prog : X.prog = G.prog
  w : X.w = G.w
  K : X.K = G.K
  mg : X.mg = G.mg
  base : X.base = G.base
theorem run_fnG {G : GD} (S : Same5 G X) (F : FnG G k f fd ps sp) (hr : Room k X.A) (hg : X.A.guards = some []) (hb : Binds G.K fd ps ds) (hd : Vals dvs ds) {W : WX} (tk : Takes X W) (hW : ∀ cls d H', E cls d H' → W cls d σ H')
    (I : Inv X pins σ H s) (r : Vals xs us) (h : sp (xs ++ dvs) H Q E) : wpAny (model X.prog X.w) X.A (PySem.call (.ref f) us) (EP X pins σ Q) X.xe s := by
  have r2 := r.append hd
  have hl : (us ++ ds).length = ps.length := by rw [← r2.length]; exact F.len _ _ _ _ h
  have KI : G.K.In s.heap := S.K ▸ I.kIn
  have e0 : Env0 G.prog G.w G.K G.mg G.base X.A X.stack s H := by
    have z := I.env0
    rw [S.prog, S.w, S.K, S.mg, S.base] at z
    exact z
  rw [S.prog, S.w]
  refine wpAny_call (codeAny_mono (F.run X.A X.stack s H ⟨us, []⟩ (us ++ ds) (xs ++ dvs) Q E hr hg e0 (hb s us KI hl) r2 h) fun r s' hq => ?_)
  rcases r with e | fl
  · exact tk e s' (XE.of_call (E := E) I hW (by rw [S.prog, S.w]; exact hq))
  · cases fl with
    | ret u => exact I.after (by rw [S.prog, S.w]; exact hq)
    | _ => exact (show False from hq).elim
theorem guards_make {A : Around} (h : A.guards = some []) (C : Addr) (us : List Value) : (A.under (.builtin "type.__call__" ⟨.ref C :: us, []⟩)).guards = some [] := by
  have e : (Code.builtin "type.__call__" ⟨.ref C :: us, []⟩).guards = [] := by
    have z : (Code.builtin "type.__call__" ⟨.ref C :: us, []⟩).isGuard = false := by show guardIds.contains "type.__call__" = false; decide +kernel
    unfold Code.guards
    rw [z]; rfl
  unfold Around.under
  show pushGuards (Code.builtin "type.__call__" ⟨.ref C :: us, []⟩).guards A.guards = some []
  rw [e]
  exact h
theorem run_makeG {G : GD} (S : Same5 G X) (M : Mk G.K C f) (F : FnG G k f fd ps sp) (hr : Room (k + 1) X.A) (hg : X.A.guards = some []) (hb : Binds G.K fd ps ds) (hd : Vals dvs ds) {W : WX} (tk : Takes X W) (hW : ∀ cls d H', E cls d H' → W cls d σ H')
    (I : Inv X pins σ H s) (r : Vals xs us) (h : ∀ x dx, H x = none → H dx = none → dx ≠ x → sp (.ref x :: (xs ++ dvs)) (upd (upd H dx (.own x)) x (.ins C dx [])) (fun v H2 => v = .non ∧ Q (.ref x) H2) E) :
    wpAny (model X.prog X.w) X.A (PySem.call (.ref C) us) (EP X pins σ Q) X.xe s := by
  have hq := h (s.heap.objs.size + 1) s.heap.objs.size (I.hok.fresh (Nat.le_succ _)) (I.hok.fresh (Nat.le_refl _)) (Nat.ne_of_lt (Nat.lt_succ_self _))
  have I2 := Inv.made (C := C) I
  have r2 : Vals (V.ref (s.heap.objs.size + 1) :: (xs ++ dvs)) (Value.ref (s.heap.objs.size + 1) :: (us ++ ds)) := .cons rfl (r.append hd)
  have hl : ((Value.ref (s.heap.objs.size + 1) :: us) ++ ds).length = ps.length := by
    have e := r2.length
    rw [F.len _ _ _ _ hq] at e
    exact e.symm
  have KI : X.K.In s.heap := I.kIn
  have KI2 : G.K.In _ := S.K ▸ I2.kIn
  have e0 := I2.env0
  rw [S.prog, S.w, S.K, S.mg, S.base] at e0
  rw [S.K] at KI
  have main := F.run _ X.stack _ _ ⟨Value.ref (s.heap.objs.size + 1) :: us, []⟩ (Value.ref (s.heap.objs.size + 1) :: (us ++ ds)) _ _ E (hr.make C us []) (guards_make hg C us) (e0.make C us []) (hb _ (Value.ref (s.heap.objs.size + 1) :: us) KI2 hl) r2 hq
  rw [S.prog, S.w]
  refine wpAny_call (make_map (f := f) KI M.makes M.init (beq_iff_eq.mp M.fn) (codeAny_mono main fun r s' hq' => ?_))
  rcases r with e | fl
  · exact tk e s' (XE.of_call (E := E) I2 hW (by rw [S.prog, S.w]; exact hq'))
  · cases fl with
    | ret u =>
      obtain ⟨v, H', I3, rv, ev, q3⟩ := I2.after (by rw [S.prog, S.w]; exact hq')
      subst ev
      exact ⟨rv, ⟨V.ref (s.heap.objs.size + 1), H', I3, rfl, q3⟩⟩
    | _ => exact (show False from hq').elim
end

/-! ### a new list is locked at once -/
section
variable {X : L2.Cx} {pins : List (Addr × Obj)} {σ : St} {H : Hp} {s : Shared}
theorem Inv.lock (I : Inv X pins σ H s) {p : Addr} {ys : List V} (hp : H p = some (.lst ys)) : ∃ o, Inv X pins σ (upd H p (.frz o (.lst ys))) s := by
  obtain ⟨z, its, n, r, e⟩ := I.hok p _ hp
  refine ⟨_, I.write (t' := s.toks) (h' := s.heap) (x := p) (e := p) (o := .frz _ (.lst ys)) (by rw [hp]; exact trivial) (.inl rfl) (fun _ _ _ q => q) ⟨_, e⟩ ⟨e, z, its, n, r, e⟩⟩
/-- a new list, or what it is when locked -/
def LockQ (Q : VK) : VK := fun v H' => ∃ p H1 ys, v = .ref p ∧ H1 p = none ∧ H' = upd H1 p (.lst ys) ∧ ∀ o, Q (.ref p) (upd H1 p (.frz o (.lst ys)))
theorem EP.lock {Q : VK} {u : Value} {s' : Shared} (h : EP X pins σ (LockQ Q) u s') : EP X pins σ Q u s' := by
  obtain ⟨v, H', I, r, p, H1, ys, rfl, hp, rfl, q⟩ := h
  obtain ⟨o, I2⟩ := Inv.lock I (p := p) upd_same
  rw [upd_upd] at I2
  exact ⟨.ref p, _, I2, r, q o⟩
theorem pe_lock {e : Expr} {t : TE} (h : PE X e t) : PE X e (fun σ H Q => t σ H (LockQ Q)) := ⟨fun pins s σ H Q I q => thn (h.run pins s σ H _ I q) fun _ _ z => EP.lock z⟩
theorem pe_imp {e : Expr} {t t' : TE} (h : PE X e t) (f : ∀ σ H Q, t' σ H Q → t σ H Q) : PE X e t' := ⟨fun pins s σ H Q I q => h.run pins s σ H Q I (f σ H Q q)⟩
theorem pt_imp {e : Expr} {t t' : TT} (h : PT X e t) (f : ∀ σ H Q, t' σ H Q → t σ H Q) : PT X e t' := ⟨fun pins s σ H Q I q => h.run pins s σ H Q I (f σ H Q q)⟩
theorem pa_imp {es : List Expr} {t t' : TA} (h : PA X es t) (f : ∀ σ H Q, t' σ H Q → t σ H Q) : PA X es t' := ⟨fun pos pins s σ H Q I q => h.run pos pins s σ H Q I (f σ H Q q)⟩
theorem ps_imp {st : Stmt} {t t' : TS} (h : PS X st t) (f : ∀ D σ H, t' D σ H → t D σ H) : PS X st t' := ⟨fun pins s σ H D I q => h.run pins s σ H D I (f D σ H q)⟩
theorem pss_imp {st : List Stmt} {t t' : TS} (h : PSs X st t) (f : ∀ D σ H, t' D σ H → t D σ H) : PSs X st t' := ⟨fun pins s σ H D I q => h.run pins s σ H D I (f D σ H q)⟩
end

/-! ### readings -/
section
variable (G : GD) (K : Cn) (W : WX)
def rdE (le : LE) : TE := fun σ H Q => ∃ ρ h R, SR G ρ h R σ H ∧ Sat (evE K le ρ h) (PostE G R H Q) (PostX G R H fun c d H' => W c d σ H')
def rdA (ls : List LE) : TA := fun σ H Q => ∃ ρ h R, SR G ρ h R σ H ∧ Sat (evEs K ls ρ h) (PostEs G R H Q) (PostX G R H fun c d H' => W c d σ H')
/-- an expression's truth -/
def rdT (le : LE) : TT := fun σ H Q => ∃ ρ h R, SR G ρ h R σ H ∧ Sat ((evE K le ρ h).bind fun x h => Rs.of (truth h x) h) (PostB G R H Q) (PostX G R H fun c d H' => W c d σ H')
end
end Lite

/-! LITE, 4: the operations. -/
namespace Lite
open PySem L2 PySem.Spec
open PyProof.Rows hiding St

section
variable {G : GD} {R : List Addr} {H : Hp} {h : Heap} {t : T} {v : V}
theorem view_loc (n : Nat) : view h (.loc n) = match h[n]? with
    | some (.lst xs) => some (.lst xs)
    | some (.dct ks vs) => some (.dct ks vs)
    | _ => none := rfl
theorem view_lst {xs : List T} (hr : HRel G h R H) (r : VR G R H t v) (e : view h t = some (.lst xs)) : ∃ a vs, v = .ref a ∧ ExL G.K H a vs ∧ VRs G R H xs vs := by
  cases r with
  | lst hf r => simp [view] at e; subst e; exact ⟨_, _, rfl, .inr hf, r⟩
  | @loc n a hn =>
    rw [view_loc] at e
    cases q : h[n]? with
    | none => rw [q] at e; cases e
    | some o =>
      rw [q] at e
      cases o with
      | lst ys =>
        simp at e; subst e
        obtain ⟨vs, z, r⟩ := hr.obj n _ a q hn
        exact ⟨a, vs, rfl, .inl z, r⟩
      | dct ks ys => simp at e
      | ins c fs => simp at e
      | dead => simp at e
  | _ => simp [view] at e
theorem view_tup {xs : List T} (hr : HRel G h R H) (r : VR G R H t v) (e : view h t = some (.tup xs)) : ∃ a vs, v = .ref a ∧ SqT G.K H a vs ∧ VRs G R H xs vs := by
  cases r with
  | tup hf r => simp [view] at e; subst e; exact ⟨_, _, rfl, hf, r⟩
  | @loc n a hn =>
    rw [view_loc] at e
    split at e <;> simp at e
  | _ => simp [view] at e
theorem view_int {i : Int} (r : VR G R H t v) (e : view h t = some (.int i)) : v = .int i := by
  cases r with
  | int j => simp [view] at e; rw [e]
  | @loc n a hn =>
    rw [view_loc] at e
    split at e <;> simp at e
  | _ => simp [view] at e
theorem view_str {i : List Nat} (r : VR G R H t v) (e : view h t = some (.str i)) : v = .str (tx i) := by
  cases r with
  | str j => simp [view] at e; rw [e]
  | @loc n a hn =>
    rw [view_loc] at e
    split at e <;> simp at e
  | _ => simp [view] at e
theorem view_bl {b : Bool} (r : VR G R H t v) (e : view h t = some (.bl b)) : v = .bl b := by
  cases r with
  | bl j => simp [view] at e; rw [e]
  | @loc n a hn =>
    rw [view_loc] at e
    split at e <;> simp at e
  | _ => simp [view] at e
theorem view_non (r : VR G R H t v) (e : view h t = some .non) : v = .non := by
  cases r with
  | non => rfl
  | @loc n a hn =>
    rw [view_loc] at e
    split at e <;> simp at e
  | _ => simp [view] at e
end

theorem tx_len (s : List Nat) : (tx s).length = s.length := by simp [tx, Str.length]
theorem tx_app (a b : List Nat) : tx a ++ tx b = tx (a ++ b) := by
  show Str.mk _ = Str.mk _
  simp [tx]
theorem top_eq : sizeLine = top := by decide

/-- an operation of ours on two values -/
def rO2 (G : GD) (f : Heap → T → T → Option T) : R2 := fun x y H Q => ∃ h R a b z, HRel G h R H ∧ VR G R H a x ∧ VR G R H b y ∧ f h a b = some z ∧ PostE G R H Q z h
section
variable {G : GD} {R : List Addr} {H : Hp} {h : Heap} {Q : VK}
/-- an answer that makes nothing -/
theorem PostE.here {t : T} {v : V} (p : PostE G R H Q t h) (hr : HRel G h R H) (r : VR G R H t v) : Q v H := p R H v (Lq.refl _ _) hr r
/-- a new locked list -/
theorem PostE.newF {xs : List T} {vs : List V} (p : PostE G R H Q (.lst xs) h) (hr : HRel G h R H) (r : VRs G R H xs vs) {a : Addr} (ha : H a = none) (o : Obj) : Q (.ref a) (upd H a (.frz o (.lst vs))) := by
  have k : ∀ b u, H b = some u → upd H a (.frz o (.lst vs)) b = some u := fun b u e => by rw [upd_ne (ne_of_none e ha)]; exact e
  exact p R _ _ (Lq.all k) (hr.grow k) (.lst (.inl ⟨o, upd_same⟩) (r.mono (Lq.all k)))
/-- a new tuple -/
theorem PostE.newT {xs : List T} {vs : List V} (p : PostE G R H Q (.tup xs) h) (hr : HRel G h R H) (r : VRs G R H xs vs) {a : Addr} (ha : H a = none) : Q (.ref a) (upd H a (.tup vs)) := by
  have k : ∀ b u, H b = some u → upd H a (.tup vs) b = some u := fun b u e => by rw [upd_ne (ne_of_none e ha)]; exact e
  exact p R _ _ (Lq.all k) (hr.grow k) (.tup (.inl (.inl upd_same)) (r.mono (Lq.all k)))
end

section
variable {G : GD} {X : L2.Cx} {pins : List (Addr × Obj)} {σ : St} {H : Hp} {s : Shared}
theorem Inv.exl (S : Same5 G X) (I : Inv X pins σ H s) {a : Addr} {vs : List V} (h : ExL G.K H a vs) :
    vs.length ≤ sizeLine ∧ ∃ (its : List Value) (n : Nat), Vals vs its ∧ s.heap.get? a = some { cls := .type "list", data := .seq its.toArray n } := by
  rcases h with h | ⟨o, h⟩ | ⟨its, n, e, z, r⟩
  · exact I.hok a _ h
  · obtain ⟨_, q⟩ := I.hok a _ h
    exact q
  · exact ⟨z, its, n, r, I.kIn a _ (by rw [S.K]; exact e)⟩
/-- a new list, locked -/
theorem Inv.newF (I : Inv X pins σ H s) {ys : List V} {its : List Value} {t' : Nat} (r : Vals ys its) (hz : ys.length ≤ sizeLine) :
    ∃ o, Inv X pins σ (upd H s.heap.objs.size (.frz o (.lst ys))) { s with heap := s.heap.push { cls := .type "list", data := .seq its.toArray }, toks := t' } := by
  refine ⟨_, I.laid (t' := t') (o := .frz _ (.lst ys)) (fun b ob q => Heap.get?_push_of_some _ q) (Nat.le_refl _) ⟨Heap.get?_push_size _ rfl, hz, its, 0, r, Heap.get?_push_size _ rfl⟩⟩
/-- two lists of any kind joined: a new locked list -/
def rCatF (G : GD) : R2 := fun x y H Q => ∃ a b xs zs, x = .ref a ∧ y = .ref b ∧ ExL G.K H a xs ∧ ExL G.K H b zs ∧ xs.length + zs.length ≤ sizeLine ∧ ∀ p o, H p = none → Q (.ref p) (upd H p (.frz o (.lst (xs ++ zs))))
theorem op_catF (S : Same5 G X) : OpR X (binaryOp .Add) (rCatF G) := by
  intro pins s σ H x y v u Q I rx ry hh
  obtain ⟨a, b, xs, zs, rfl, rfl, ha, hb, hz, q⟩ := hh
  cases rx
  cases ry
  obtain ⟨_, its, n, r, e⟩ := Inv.exl S I ha
  obtain ⟨_, its2, n2, r2, e2⟩ := Inv.exl S I hb
  have w1 := r.length
  have w2 := r2.length
  have ea : its.toArray ++ its2.toArray = (its ++ its2).toArray := by simp
  obtain ⟨o, I2⟩ := Inv.newF (t' := s.toks) I (r.append r2) (by rw [List.length_append]; exact hz)
  refine PySem.P.add_list e e2 ?_ (by rw [List.size_toArray, List.size_toArray]; omega)
  rw [ea]
  exact ⟨.ref _, _, I2, rfl, q _ o (I.hok.fresh (Nat.le_refl _))⟩
/-- ** of ints of some million bits -/
theorem op_powW : OpR X (binaryOp .Pow) (rI (fun i j => 0 ≤ j ∧ ((i.natAbs.log2 + 1 : Nat) : Int) * j ≤ 134217728) fun i j => .int (i ^ j.toNat)) := by
  refine opI fun i j t u s Q E hc q => ?_
  obtain ⟨h1, h2⟩ := hc
  refine PyProof.Rows.pow_int h1 ?_ q
  have b : (Builtin.Int.intBits i : Int) ≤ ((i.natAbs.log2 + 1 : Nat) : Int) := by
    unfold Builtin.Int.intBits
    split <;> omega
  have b2 := Int.mul_le_mul_of_nonneg_right b h1
  omega
/-- // of ints of any size by one of some thousand bits -/
theorem op_fdivL : OpR X (binaryOp .FloorDiv) (rI (fun _ j => j ≠ 0 ∧ j.natAbs.log2 < 9000) fun i j => .int (i.fdiv j)) := opI fun i j _ _ _ _ _ hc q => floordiv_int hc.1 q (.inl (PyProof.noPylong_of_log2 hc.2))
/-- an operation on two values, by ours -/
theorem op_bin (S : Same5 G X) : ∀ o : BOp, OpR X (binaryOp (match o with | .add => .Add | .sub => .Sub | .mul => .Mult | .fdiv => .FloorDiv | .mod => .Mod | .pow => .Pow)) (rO2 G (binop o)) := by
  intro o pins s σ H x y v u Q I rx ry hh
  obtain ⟨h, R, a, b, z, hr, va, vb, e, p⟩ := hh
  unfold binop at e
  split at e
  · rename_i i j e1 e2
    cases e
    exact op_add pins s σ H x y v u Q I rx ry ⟨_, _, view_int va e1, view_int vb e2, p.here hr (.int _)⟩
  · rename_i i j e1 e2
    split at e
    · rename_i hl
      cases e
      refine op_add_str pins s σ H x y v u Q I rx ry ⟨_, _, view_str va e1, view_str vb e2, by rw [tx_len, tx_len, top_eq]; exact hl, ?_⟩
      rw [tx_app]
      exact p.here hr (.str _)
    · cases e
  · rename_i i j e1 e2
    split at e
    · rename_i hl
      cases e
      obtain ⟨a1, xs, rfl, q1, r1⟩ := view_lst hr va e1
      obtain ⟨a2, ys, rfl, q2, r2⟩ := view_lst hr vb e2
      exact op_catF S pins s σ H _ _ v u Q I rx ry ⟨_, _, _, _, rfl, rfl, q1, q2, by rw [← r1.length, ← r2.length, top_eq]; exact hl, fun q o hq => p.newF hr (r1.append r2) hq o⟩
    · cases e
  · rename_i i j e1 e2
    split at e
    · rename_i hl
      cases e
      obtain ⟨a1, xs, rfl, q1, r1⟩ := view_tup hr va e1
      obtain ⟨a2, ys, rfl, q2, r2⟩ := view_tup hr vb e2
      refine op_catA pins s σ H _ _ v u Q I rx ry ⟨_, _, xs, ys, rfl, rfl, by rw [S.K]; exact q1, by rw [S.K]; exact q2, by rw [← r1.length, ← r2.length, top_eq]; exact hl, ?_, ?_, ?_⟩
      · rintro rfl
        cases r1
        exact p.here hr (.tup q2 r2)
      · rintro - rfl
        cases r2
        rw [List.append_nil] at p
        exact p.here hr (.tup q1 r1)
      · exact fun _ _ q hq => p.newT hr (r1.append r2) hq
    · cases e
  · rename_i i j e1 e2
    cases e
    exact op_sub pins s σ H x y v u Q I rx ry ⟨_, _, view_int va e1, view_int vb e2, p.here hr (.int _)⟩
  · rename_i i j e1 e2
    split at e
    · rename_i hl
      cases e
      refine op_mul pins s σ H x y v u Q I rx ry ⟨_, _, view_int va e1, view_int vb e2, ?_, p.here hr (.int _)⟩
      simp only [Lite.small64, Bool.or_eq_true, decide_eq_true_eq] at hl
      exact hl
    · cases e
  · rename_i i j e1 e2
    split at e
    · rename_i hl
      cases e
      exact op_fdivL pins s σ H x y v u Q I rx ry ⟨_, _, view_int va e1, view_int vb e2, hl, p.here hr (.int _)⟩
    · cases e
  · rename_i i j e1 e2
    split at e
    · rename_i hl
      cases e
      exact op_modN pins s σ H x y v u Q I rx ry ⟨_, _, view_int va e1, view_int vb e2, hl, p.here hr (.int _)⟩
    · cases e
  · rename_i i j e1 e2
    split at e
    · rename_i hl
      cases e
      exact op_powW pins s σ H x y v u Q I rx ry ⟨_, _, view_int va e1, view_int vb e2, hl, p.here hr (.int _)⟩
    · cases e
  · cases e
end
end Lite

/-! LITE, 5: comparisons. -/
namespace Lite
open PySem L2 PySem.Spec
open PyProof.Rows hiding St

mutual
theorem T.pd_lay : ∀ t : T, t.flat = true → t.pd.canLay0 = true
  | .non, _ => by simp [T.pd, PyData.canLay0]
  | .bl _, _ => by simp [T.pd, PyData.canLay0]
  | .int _, _ => by simp [T.pd, PyData.canLay0]
  | .str s, h => by
    simp only [T.pd, PyData.canLay0, PyData.strOk]
    simpa [T.flat] using h
  | .tup xs, h => by simp only [T.pd, PyData.canLay0]; exact T.pds_lay xs (by simpa [T.flat] using h)
  | .lst xs, h => by simp only [T.pd, PyData.canLay0]; exact T.pds_lay xs (by simpa [T.flat] using h)
  | .dct _ _, h => by simp [T.flat] at h
  | .loc _, h => by simp [T.flat] at h
  | .fn _, h => by simp [T.flat] at h
  | .cls _, h => by simp [T.flat] at h
  | .exn _ _, h => by simp [T.flat] at h
theorem T.pds_lay : ∀ xs : List T, T.flats xs = true → PyData.canLayAll0 (T.pds xs) = true
  | [], _ => by simp [T.pds, PyData.canLayAll0]
  | x :: xs, h => by
    simp only [T.flats, Bool.and_eq_true] at h
    simp only [T.pds, PyData.canLayAll0, Bool.and_eq_true]
    exact ⟨T.pd_lay x h.1, T.pds_lay xs h.2⟩
end
mutual
theorem T.pd_depth : ∀ t : T, t.pd.depth = t.depth
  | .non => by simp [T.pd, PyData.depth, T.depth]
  | .bl _ => by simp [T.pd, PyData.depth, T.depth]
  | .int _ => by simp [T.pd, PyData.depth, T.depth]
  | .str s => by simp [T.pd, PyData.depth, T.depth]
  | .tup xs => by simp only [T.pd, PyData.depth, T.depth, T.pds_depth xs]
  | .lst xs => by simp only [T.pd, PyData.depth, T.depth, T.pds_depth xs]
  | .dct _ _ => by simp [T.pd, PyData.depth, T.depth]
  | .loc _ => by simp [T.pd, PyData.depth, T.depth]
  | .fn _ => by simp [T.pd, PyData.depth, T.depth]
  | .cls _ => by simp [T.pd, PyData.depth, T.depth]
  | .exn _ _ => by simp [T.pd, PyData.depth, T.depth]
theorem T.pds_depth : ∀ xs : List T, PyData.depthAll (T.pds xs) = T.depths xs
  | [] => by simp [T.pds, PyData.depthAll, T.depths]
  | x :: xs => by simp only [T.pds, PyData.depthAll, T.depths, T.pd_depth x, T.pds_depth xs]
end
theorem tx_beq (a b : List Nat) : (tx a == tx b) = (a == b) := by
  cases h : a == b with
  | true => rw [eq_of_beq h]; simp
  | false =>
    cases q : tx a == tx b with
    | false => rfl
    | true =>
      have := tx_inj (eq_of_beq q)
      subst this
      simp at h
mutual
theorem T.pd_eqv : ∀ a b : T, a.flat = true → b.flat = true → PyData.eqv a.pd b.pd = T.eqv a b
  | .non, b, _, h => by cases b <;> first | simp [T.flat] at h; done | simp [T.pd, PyData.eqv, T.eqv]
  | .bl _, b, _, h => by cases b <;> first | simp [T.flat] at h; done | simp [T.pd, PyData.eqv, T.eqv]
  | .int _, b, _, h => by cases b <;> first | simp [T.flat] at h; done | simp [T.pd, PyData.eqv, T.eqv]
  | .str s, b, _, h => by
    cases b with
    | str r => simp only [T.pd, PyData.eqv, T.eqv]; exact tx_beq _ _
    | _ => first | simp [T.flat] at h; done | simp [T.pd, PyData.eqv, T.eqv]
  | .tup xs, b, g, h => by
    cases b with
    | tup ys => simp only [T.pd, PyData.eqv, T.eqv]; exact T.pds_eqv xs ys (by simpa [T.flat] using g) (by simpa [T.flat] using h)
    | _ => first | simp [T.flat] at h; done | simp [T.pd, PyData.eqv, T.eqv]
  | .lst xs, b, g, h => by
    cases b with
    | lst ys => simp only [T.pd, PyData.eqv, T.eqv]; exact T.pds_eqv xs ys (by simpa [T.flat] using g) (by simpa [T.flat] using h)
    | _ => first | simp [T.flat] at h; done | simp [T.pd, PyData.eqv, T.eqv]
  | .dct _ _, _, h, _ => by simp [T.flat] at h
  | .loc _, _, h, _ => by simp [T.flat] at h
  | .fn _, _, h, _ => by simp [T.flat] at h
  | .cls _, _, h, _ => by simp [T.flat] at h
  | .exn _ _, _, h, _ => by simp [T.flat] at h
theorem T.pds_eqv : ∀ a b : List T, T.flats a = true → T.flats b = true → PyData.eqvAll (T.pds a) (T.pds b) = T.eqvs a b
  | [], b, _, _ => by cases b <;> simp [T.pds, PyData.eqvAll, T.eqvs]
  | x :: xs, b, g, h => by
    cases b with
    | nil => simp [T.pds, PyData.eqvAll, T.eqvs]
    | cons y ys =>
      simp only [T.flats, Bool.and_eq_true] at g h
      simp only [T.pds, PyData.eqvAll, T.eqvs, T.pd_eqv x y g.1 h.1, T.pds_eqv xs ys g.2 h.2]
end

section
variable {G : GD} {X : L2.Cx} {pins : List (Addr × Obj)} {σ : St} {H : Hp} {s : Shared} {R : List Addr} {h : Heap}
mutual
theorem VR.reads (S : Same5 G X) (I : Inv X pins σ H s) : ∀ {t : T} {v : V} {u : Value}, t.flat = true → VR G R H t v → RelV v u → ∃ as, Reads s.heap u t.pd as
  | _, _, _, _, .non, r => by cases r; exact ⟨_, .none⟩
  | _, _, _, _, .bl b, r => by cases r; exact ⟨_, .bool b⟩
  | _, _, _, _, .int i, r => by obtain ⟨t, rfl⟩ := r; exact ⟨_, .int i t⟩
  | _, _, _, _, .str z, r => by obtain ⟨t, rfl⟩ := r; exact ⟨_, .str _ t⟩
  | _, _, _, f, .tup hq rv, r => by
    cases r
    rw [← S.K] at hq
    obtain ⟨its, r, ⟨o, e, c, n, d⟩, _⟩ := I.tuple hq
    obtain ⟨as, ra⟩ := VRs.reads S I (by simpa [T.flat] using f) rv r
    exact ⟨_, .tuple e c d (by simpa using ra)⟩
  | _, _, _, f, .lst hq rv, r => by
    cases r
    obtain ⟨_, its, n, r, e⟩ := Inv.exl S I (.inr hq)
    obtain ⟨as, ra⟩ := VRs.reads S I (by simpa [T.flat] using f) rv r
    exact ⟨_, .list e rfl rfl (by simpa using ra)⟩
  | _, _, _, f, .dct _ _, _ => by simp [T.flat] at f
  | _, _, _, f, .loc _, _ => by simp [T.flat] at f
  | _, _, _, f, .fn _, _ => by simp [T.flat] at f
  | _, _, _, f, .cls _, _ => by simp [T.flat] at f
theorem VRs.reads (S : Same5 G X) (I : Inv X pins σ H s) : ∀ {xs : List T} {vs : List V} {us : List Value}, T.flats xs = true → VRs G R H xs vs → Vals vs us → ∃ as, ReadsAll s.heap us (T.pds xs) as
  | _, _, _, _, .nil, r => by cases r; exact ⟨_, .nil⟩
  | _, _, _, f, .cons hv rv, r => by
    simp only [T.flats, Bool.and_eq_true] at f
    cases r with
    | cons r1 r2 =>
      obtain ⟨as, q1⟩ := VR.reads S I f.1 hv r1
      obtain ⟨bs, q2⟩ := VRs.reads S I f.2 rv r2
      exact ⟨_, .cons q1 q2⟩
end
/-- .. of what stands at a place, too -/
theorem view_reads (S : Same5 G X) (I : Inv X pins σ H s) (hr : HRel G h R H) {t t' : T} {v : V} {u : Value} (e : view h t = some t') (f : t'.flat = true) (r : VR G R H t v) (ru : RelV v u) : ∃ as, Reads s.heap u t'.pd as := by
  cases t with
  | loc n =>
    rw [view_loc] at e
    split at e
    · rename_i xs q
      cases e
      obtain ⟨a, vs, rfl, q1, r1⟩ := view_lst hr r (by rw [view_loc, q])
      cases ru
      obtain ⟨_, its, n, r, e⟩ := Inv.exl S I q1
      obtain ⟨as, ra⟩ := VRs.reads S I (by simpa [T.flat] using f) r1 r
      exact ⟨_, .list e rfl rfl (by simpa using ra)⟩
    · cases e; simp [T.flat] at f
    · cases e
  | _ => cases e; exact VR.reads S I f r ru
mutual
/-- what an address means is one thing -/
theorem VR.fun (S : Same5 G X) (I : Inv X pins σ H s) : ∀ {t t' : T} {v : V}, t.flat = true → t'.flat = true → VR G R H t v → VR G R H t' v → t = t'
  | _, _, _, _, _, .non, r => by cases r; rfl
  | _, _, _, _, _, .bl b, r => by cases r; rfl
  | _, _, _, _, _, .int i, r => by cases r; rfl
  | _, _, _, _, _, .str z, r => by
    generalize hv : V.str (tx z) = v at r
    cases r with
    | str z' => injection hv with e; rw [tx_inj e]
    | _ => cases hv
  | _, _, _, f, g, .tup hq rv, r => by
    cases r with
    | tup hq' rv' =>
      rw [← S.K] at hq hq'
      have e := I.tuple_inj hq hq'
      subst e
      rw [VRs.fun S I (by simpa [T.flat] using f) (by simpa [T.flat] using g) rv rv']
    | lst hq' rv' =>
      rw [← S.K] at hq
      obtain ⟨its, _, ⟨o, e, c, n, d⟩, _⟩ := I.tuple hq
      obtain ⟨_, its2, n2, _, e2⟩ := Inv.exl S I (.inr hq')
      rw [e] at e2; cases e2; simp at c
    | dct _ _ => simp [T.flat] at g
    | loc _ => simp [T.flat] at g
    | fn _ => simp [T.flat] at g
    | cls _ => simp [T.flat] at g
  | _, _, _, f, g, .lst hq rv, r => by
    cases r with
    | tup hq' rv' =>
      rw [← S.K] at hq'
      obtain ⟨its, _, ⟨o, e, c, n, d⟩, _⟩ := I.tuple hq'
      obtain ⟨_, its2, n2, _, e2⟩ := Inv.exl S I (.inr hq)
      rw [e] at e2; cases e2; simp at c
    | lst hq' rv' =>
      have e := I.list_inj (S.K.symm ▸ hq.sq) (S.K.symm ▸ hq'.sq)
      subst e
      rw [VRs.fun S I (by simpa [T.flat] using f) (by simpa [T.flat] using g) rv rv']
    | dct _ _ => simp [T.flat] at g
    | loc _ => simp [T.flat] at g
    | fn _ => simp [T.flat] at g
    | cls _ => simp [T.flat] at g
  | _, _, _, f, _, .dct _ _, _ => by simp [T.flat] at f
  | _, _, _, f, _, .loc _, _ => by simp [T.flat] at f
  | _, _, _, f, _, .fn _, _ => by simp [T.flat] at f
  | _, _, _, f, _, .cls _, _ => by simp [T.flat] at f
theorem VRs.fun (S : Same5 G X) (I : Inv X pins σ H s) : ∀ {xs ys : List T} {vs : List V}, T.flats xs = true → T.flats ys = true → VRs G R H xs vs → VRs G R H ys vs → xs = ys
  | _, _, _, _, _, .nil, r => by cases r; rfl
  | _, _, _, f, g, .cons h1 r1, r => by
    cases r with
    | cons h2 r2 =>
      simp only [T.flats, Bool.and_eq_true] at f g
      rw [VR.fun S I f.1 g.1 h1 h2, VRs.fun S I f.2 g.2 r1 r2]
end
/-- x in its, as the model looks -/
theorem memT_any (S : Same5 G X) (I : Inv X pins σ H s) {x : T} {vx : V} {ux : Value} (fx : x.fit = true) (hx : VR G R H x vx) (rx : RelV vx ux) {A : Around} (hu : A.units + 101 < cLine) :
    ∃ e : Value → Bool, ∀ {ys : List T} {vs : List V} {us : List Value}, T.flats ys = true → T.depths ys ≤ 100 → VRs G R H ys vs → Vals vs us → (∀ u ∈ us, SeqAt.EqAt A s u ux (e u)) ∧ us.any e = memT x ys := by
  classical
  simp only [T.fit, Bool.and_eq_true, decide_eq_true_eq] at fx
  refine ⟨fun u => decide (∃ (y : T) (v : V), RelV v u ∧ VR G R H y v ∧ y.flat = true ∧ T.eqv y x = true), ?_⟩
  have one : ∀ {y : T} {v : V} {u : Value}, y.flat = true → VR G R H y v → RelV v u → decide (∃ (y : T) (v : V), RelV v u ∧ VR G R H y v ∧ y.flat = true ∧ T.eqv y x = true) = T.eqv y x := by
    intro y v u fy hy ry
    cases q : T.eqv y x with
    | true => exact decide_eq_true ⟨y, v, ry, hy, fy, q⟩
    | false =>
      refine decide_eq_false ?_
      rintro ⟨y', v', r', h', f', e'⟩
      obtain rfl := r'.inj ry
      rw [VR.fun S I f' fy h' hy, q] at e'
      cases e'
  intro ys
  induction ys with
  | nil =>
    intro vs us _ _ r1 r2
    cases r1; cases r2
    exact ⟨fun u hu => by simp at hu, rfl⟩
  | cons y ys ih =>
    intro vs us f d r1 r2
    cases r1 with
    | cons hy r1 =>
      cases r2 with
      | cons ry r2 =>
        simp only [T.flats, Bool.and_eq_true] at f
        simp only [T.depths] at d
        obtain ⟨a, b⟩ := ih f.2 (by omega) r1 r2
        refine ⟨fun u hm => ?_, ?_⟩
        · rcases List.mem_cons.mp hm with rfl | hm
          · obtain ⟨as, ra⟩ := VR.reads S I f.1 hy ry
            obtain ⟨bs, rb⟩ := VR.reads S I fx.1 hx rx
            show SeqAt.EqAt A s u ux (decide _)
            rw [one f.1 hy ry, ← T.pd_eqv y x f.1 fx.1]
            intro prog w E Q hq
            exact SeqAt.eqBoolOverData prog w A E s _ _ _ _ as bs Q ra rb (T.pd_lay y f.1) (T.pd_lay x fx.1) (by rw [T.pd_depth, T.pd_depth]; omega) hq
          · exact a u hm
        · rw [List.any_cons, b, one f.1 hy ry]
          rfl
theorem signIn_some {a b : List Nat} {k : Bool} (h : signIn a b = some k) : ∃ c, a = [c] ∧ k = b.contains c := by
  unfold signIn at h
  split at h
  · rename_i c; exact ⟨c, rfl, (Option.some.inj h).symm⟩
  · cases h
theorem tx_has (c : Nat) (j : List Nat) : decide (c ∈ (tx j).cps.toList) = j.contains c := by
  by_cases h : c ∈ j
  · rw [decide_eq_true (show c ∈ (tx j).cps.toList by simpa [tx] using h)]
    simp [h]
  · rw [decide_eq_false (show ¬ c ∈ (tx j).cps.toList by simpa [tx] using h)]
    simp [h]
/-- the model's operator of ours -/
abbrev cOp : COp → CmpOp
  | .eq => .Eq | .ne => .NotEq | .lt => .Lt | .le => .LtE | .gt => .Gt | .ge => .GtE | .is => .Is | .isn => .IsNot | .isin => .In | .nin => .NotIn
def rCmp (G : GD) (o : COp) : R2 := fun x y H Q => ∃ h R a b k, HRel G h R H ∧ VR G R H a x ∧ VR G R H b y ∧ cmpop o h a b = some k ∧ Q (.bl k) H
theorem isNon {t : T} {v : V} (r : VR G R H t v) : decide (v = .non) = decide (t = .non) := by
  cases r <;> simp
end
section
variable {G : GD} {X : L2.Cx}
theorem op_cmp (S : Same5 G X) (hu : X.A.units + 200 < cLine) (o : COp) : OpR X (compareOp (cOp o)) (rCmp G o) := by
  intro pins s σ H x y v u Q I rx ry hh
  obtain ⟨h, R, a, b, z, hr, va, vb, e, p⟩ := hh
  have eqs : ∀ {a' b' : T}, view h a = some a' → view h b = some b' → (a'.fit && b'.fit) = true → ∃ as bs, Reads s.heap v a'.pd as ∧ Reads s.heap u b'.pd bs ∧ a'.pd.canLay0 = true ∧ b'.pd.canLay0 = true ∧
      X.A.units + min a'.pd.depth b'.pd.depth < cLine ∧ PyData.eqv a'.pd b'.pd = T.eqv a' b' := by
    intro a' b' e1 e2 f
    simp only [T.fit, Bool.and_eq_true, decide_eq_true_eq] at f
    obtain ⟨as, ra⟩ := view_reads S I hr e1 f.1.1 va rx
    obtain ⟨bs, rb⟩ := view_reads S I hr e2 f.2.1 vb ry
    exact ⟨as, bs, ra, rb, T.pd_lay _ f.1.1, T.pd_lay _ f.2.1, by rw [T.pd_depth, T.pd_depth]; omega, T.pd_eqv _ _ f.1.1 f.2.1⟩
  have inl : ∀ {ys : List T}, (x1 : view h b = some (.lst ys)) → (a.fit && T.fits ys) = true → ∃ e l its n, u = .ref l ∧ s.heap.get? l = some { cls := .type "list", data := .seq its n } ∧ (∀ y ∈ its, SeqAt.EqAt X.A.in1 s y v (e y)) ∧ its.any e = memT a ys := by
    intro ys x1 f
    simp only [T.fits, Bool.and_eq_true, decide_eq_true_eq] at f
    obtain ⟨e, he⟩ := memT_any S I f.1 va rx (A := X.A.in1) (by show X.A.units + 1 + 101 < cLine; omega)
    obtain ⟨l, vs, rfl, q1, r1⟩ := view_lst hr vb x1
    cases ry
    obtain ⟨_, its, n, r, e1⟩ := Inv.exl S I q1
    obtain ⟨h1, h2⟩ := he f.2.1 f.2.2 r1 r
    exact ⟨e, l, _, n, rfl, e1, fun y hy => h1 y (by simpa using hy), by simpa using h2⟩
  have int : ∀ {ys : List T}, (x1 : view h b = some (.tup ys)) → (a.fit && T.fits ys) = true → ∃ e l its, u = .ref l ∧ s.heap.IsTuple l its ∧ (∀ y ∈ its, SeqAt.EqAt X.A.in1 s y v (e y)) ∧ its.any e = memT a ys := by
    intro ys x1 f
    simp only [T.fits, Bool.and_eq_true, decide_eq_true_eq] at f
    obtain ⟨e, he⟩ := memT_any S I f.1 va rx (A := X.A.in1) (by show X.A.units + 1 + 101 < cLine; omega)
    obtain ⟨l, vs, rfl, q1, r1⟩ := view_tup hr vb x1
    cases ry
    rw [← S.K] at q1
    obtain ⟨its, r, tt, _⟩ := I.tuple q1
    obtain ⟨h1, h2⟩ := he f.2.1 f.2.2 r1 r
    exact ⟨e, l, _, rfl, tt, fun y hy => h1 y (by simpa using hy), by simpa using h2⟩
  unfold cmpop at e
  split at e
  · rename_i a' b' e1 e2
    cases e
    have q1 := view_str va e1
    have q2 := view_str vb e2
    subst q1 q2
    exact L2.op_eq pins s σ H _ _ v u Q I rx ry ⟨rfl, by rw [dec_str, tx_beq]; exact p⟩
  · rename_i a' b' e1 e2
    cases e
    have q1 := view_str va e1
    have q2 := view_str vb e2
    subst q1 q2
    exact L2.op_ne pins s σ H _ _ v u Q I rx ry ⟨rfl, by rw [dec_str, tx_beq]; exact p⟩
  · rename_i a' b' e1 e2
    split at e
    · rename_i f
      cases e
      obtain ⟨as, bs, ra, rb, la, lb, d, q⟩ := eqs e1 e2 f
      exact SeqAt.compareEq_reads ra rb la lb d ⟨.bl _, H, I, rfl, by rw [q]; exact p⟩
    · cases e
  · rename_i a' b' e1 e2
    split at e
    · rename_i f
      cases e
      obtain ⟨as, bs, ra, rb, la, lb, d, q⟩ := eqs e1 e2 f
      exact SeqAt.compareNe_reads ra rb la lb d ⟨.bl _, H, I, rfl, by rw [q]; exact p⟩
    · cases e
  · rename_i i j e1 e2
    cases e
    exact op_lt pins s σ H x y v u Q I rx ry ⟨_, _, view_int va e1, view_int vb e2, p⟩
  · rename_i i j e1 e2
    cases e
    exact op_le pins s σ H x y v u Q I rx ry ⟨_, _, view_int va e1, view_int vb e2, p⟩
  · rename_i i j e1 e2
    cases e
    exact op_gt pins s σ H x y v u Q I rx ry ⟨_, _, view_int va e1, view_int vb e2, p⟩
  · rename_i i j e1 e2
    cases e
    exact op_ge pins s σ H x y v u Q I rx ry ⟨_, _, view_int va e1, view_int vb e2, p⟩
  · rename_i e2
    cases e
    exact op_isN pins s σ H x y v u Q I rx ry ⟨view_non vb e2, by rw [isNon va]; exact p⟩
  · rename_i e2
    cases e
    exact op_notN pins s σ H x y v u Q I rx ry ⟨view_non vb e2, by rw [isNon va]; exact p⟩
  · rename_i ys e2
    split at e
    · rename_i f
      cases e
      obtain ⟨e, l, its, n, rfl, g1, g2, g3⟩ := inl e2 f
      exact SeqAt.in_listAt e (PlainL.isList ⟨_, n, g1, rfl, rfl, rfl⟩) g2 ⟨.bl _, H, I, rfl, by rw [g3]; exact p⟩
    · cases e
  · rename_i ys e2
    split at e
    · rename_i f
      cases e
      obtain ⟨e, l, its, rfl, g1, g2, g3⟩ := int e2 f
      exact SeqAt.in_tupleAt e g1 g2 ⟨.bl _, H, I, rfl, by rw [g3]; exact p⟩
    · cases e
  · rename_i i j e1 e2
    obtain ⟨c, rfl, rfl⟩ := signIn_some e
    exact op_in_sign pins s σ H x y v u Q I rx ry ⟨c, _, view_str va e1, view_str vb e2, by rw [tx_has]; exact p⟩
  · rename_i ys e2
    split at e
    · rename_i f
      cases e
      obtain ⟨e, l, its, n, rfl, g1, g2, g3⟩ := inl e2 f
      exact SeqAt.notIn_listAt e (PlainL.isList ⟨_, n, g1, rfl, rfl, rfl⟩) g2 ⟨.bl _, H, I, rfl, by rw [g3]; exact p⟩
    · cases e
  · rename_i ys e2
    split at e
    · rename_i f
      cases e
      obtain ⟨e, l, its, rfl, g1, g2, g3⟩ := int e2 f
      exact SeqAt.notIn_tupleAt e g1 g2 ⟨.bl _, H, I, rfl, by rw [g3]; exact p⟩
    · cases e
  · rename_i i j e1 e2
    obtain ⟨k, e3, rfl⟩ := Option.map_eq_some_iff.mp e
    obtain ⟨c, rfl, rfl⟩ := signIn_some e3
    exact op_notIn_sign pins s σ H x y v u Q I rx ry ⟨c, _, view_str va e1, view_str vb e2, by rw [tx_has]; exact p⟩
  · cases e
end
end Lite

/-! LITE, 6: truth, subscripts, slices, built-in functions. -/
namespace Lite
open PySem L2 PySem.Spec
open PyProof.Rows hiding St

theorem place_ix (n : Nat) (i : Int) : place n i = ixN n i := rfl
theorem six_ix (n d : Nat) (o : Option Int) : six n d o = HT.sIx n d o := by cases o <;> rfl
theorem cut_cutV (xs : List V) (lo hi : Option Int) : cut xs lo hi = cutV xs lo hi := by
  unfold cut cutV
  rw [six_ix, six_ix]
theorem VRs.cut {G : GD} {R : List Addr} {H : Hp} {xs : List T} {vs : List V} (r : VRs G R H xs vs) (lo hi : Option Int) : VRs G R H (Lite.cut xs lo hi) (cutV vs lo hi) := by
  rw [← cut_cutV]
  unfold Lite.cut
  rw [r.length]
  exact (r.drop _).take _
theorem VRs.nth {G : GD} {R : List Addr} {H : Hp} {xs : List T} {vs : List V} (r : VRs G R H xs vs) {i : Int} {x : T} (e : nth xs i = some x) : ∃ v, atI vs i = some v ∧ VR G R H x v := by
  unfold Lite.nth at e
  obtain ⟨k, h1, h2⟩ := Option.bind_eq_some_iff.mp e
  obtain ⟨v, h3, h4⟩ := r.get h2
  refine ⟨v, ?_, h4⟩
  unfold atI
  rw [← place_ix, ← r.length, h1]
  exact h3
theorem cut_tx (s : List Nat) (lo hi : Option Int) : cutS (tx s) lo hi = tx (cut s lo hi) := by
  unfold cutS cut tx
  simp only [six_ix, Str.length]
  simp

section
variable {G : GD} {R : List Addr} {H : Hp} {h : Heap}
/-- a value's truth by ours -/
theorem truth_ok (hr : HRel G h R H) {x : T} {v : V} {k : Bool} (r : VR G R H x v) (e : truth h x = some k) : TruV G.K v H k := by
  unfold truth at e
  split at e
  · rename_i q; cases e; rw [view_non r q]; rfl
  · rename_i q; cases e; rw [view_bl r q]; rfl
  · rename_i i q; cases e; rw [view_int r q]; rfl
  · rename_i s q
    split at e
    · rename_i hl
      cases e
      rw [view_str r q]
      refine ⟨by rw [tx_len, top_eq]; exact hl, ?_⟩
      rw [tx_len]
      cases s with
      | nil => rfl
      | cons a b =>
        symm
        show (((b.length + 1 : Nat) : Int) != 0) = true
        rw [bne_iff_ne]; omega
    · cases e
  · rename_i xs q
    cases e
    obtain ⟨a, vs, rfl, h1, h2⟩ := view_tup hr r q
    refine .inr (.inl ⟨vs, h1, ?_⟩)
    cases h2 <;> rfl
  · rename_i xs q
    cases e
    obtain ⟨a, vs, rfl, h1, h2⟩ := view_lst hr r q
    refine .inl ⟨vs, h1.sq, ?_⟩
    cases h2 <;> rfl
  · cases e
end

section
variable {G : GD} {X : L2.Cx}
/-- a subscript, by ours -/
theorem ix_ours (S : Same5 G X) : IxR X (rO2 G index) := by
  intro value slice pins s σ H x y v u Q I rx ry hh hs
  obtain ⟨h, R, a, b, z, hr, va, vb, e, p⟩ := hh
  unfold index at e
  split at e
  · rename_i xs k q
    obtain ⟨a', vs, rfl, h1, h2⟩ := view_lst hr va q
    obtain ⟨w, h3, h4⟩ := h2.nth e
    cases vb
    exact ix_list value slice pins s σ H _ _ v u Q I rx ry ⟨_, _, _, _, rfl, rfl, by rw [S.K]; exact h1.sq, h3, p.here hr h4⟩ hs
  · rename_i xs k q
    obtain ⟨a', vs, rfl, h1, h2⟩ := view_tup hr va q
    obtain ⟨w, h3, h4⟩ := h2.nth e
    cases vb
    exact ix_tup value slice pins s σ H _ _ v u Q I rx ry ⟨_, _, _, _, rfl, rfl, by rw [S.K]; exact h1, h3, p.here hr h4⟩ hs
  · rename_i t k q
    split at e
    · rename_i hl
      obtain ⟨c, h1, rfl⟩ := Option.map_eq_some_iff.mp e
      cases vb
      rw [view_str va q] at rx
      refine ix_str value slice pins s σ H _ _ v u Q I rx ry ⟨_, _, c, rfl, rfl, by rw [tx_len, top_eq]; exact hl, ?_, ?_⟩ hs
      · simp only [tx]
        exact h1
      · exact p.here hr (.str [c])
    · cases e
  · cases e
/-- a slice, by ours -/
def rSlO (G : GD) : V → Option Int → Option Int → Hp → VK → Prop := fun x lo hi H Q => ∃ h R a z, HRel G h R H ∧ VR G R H a x ∧ slice h a lo hi = some z ∧ PostE G R H Q z h
theorem sl_ours (S : Same5 G X) : SlR X (rSlO G) := by
  intro pins s σ H x v vl vu lo hi sl Q I rx hs pl pu hh
  obtain ⟨h, R, a, z, hr, va, e, p⟩ := hh
  unfold slice at e
  split at e
  · rename_i xs q
    cases e
    obtain ⟨a', vs, rfl, h1, h2⟩ := view_lst hr va q
    obtain ⟨T, id, g1, g2, g3⟩ := sl_list pins s σ H _ v vl vu lo hi sl (LockQ Q) I rx hs pl pu ⟨a', vs, rfl, by rw [S.K]; exact h1.sq, fun q hq => ⟨q, H, _, rfl, hq, rfl, fun o => p.newF hr (h2.cut lo hi) hq o⟩⟩
    exact ⟨T, id, g1, g2, thn g3 fun _ _ z => EP.lock z⟩
  · rename_i xs q
    cases e
    obtain ⟨a', vs, rfl, h1, h2⟩ := view_tup hr va q
    refine sl_tupA pins s σ H _ v vl vu lo hi sl Q I rx hs pl pu ⟨a', vs, rfl, by rw [S.K]; exact h1, fun w => ?_, fun w q hq => p.newT hr (h2.cut lo hi) hq⟩
    have e : cut xs lo hi = xs := by
      unfold cut
      rw [h2.length, six_ix, six_ix, w.1, w.2]
      rw [← h2.length]; simp
    rw [e] at p
    exact p.here hr (.tup h1 h2)
  · rename_i t q
    split at e
    · rename_i hl
      cases e
      rw [view_str va q] at rx
      refine sl_str pins s σ H _ v vl vu lo hi sl Q I rx hs pl pu ⟨_, rfl, by rw [tx_len, top_eq]; exact hl, ?_⟩
      rw [cut_tx]
      exact p.here hr (.str _)
    · cases e
  · cases e
end

/-! ### repr -/
mutual
theorem T.pd_show : ∀ t : T, t.showy = true → t.pd.showable = true
  | .non, _ => by simp [T.pd, PyData.showable]
  | .bl _, _ => by simp [T.pd, PyData.showable]
  | .int _, h => by simpa [T.pd, PyData.showable, T.showy] using h
  | .str s, h => by simp [T.pd, PyData.showable]
  | .tup xs, h => by simp only [T.pd, PyData.showable]; exact T.pds_show xs (by simpa [T.showy] using h)
  | .lst xs, h => by simp only [T.pd, PyData.showable]; exact T.pds_show xs (by simpa [T.showy] using h)
  | .dct _ _, h => by simp [T.pd, PyData.showable]
  | .loc _, h => by simp [T.pd, PyData.showable]
  | .fn _, h => by simp [T.pd, PyData.showable]
  | .cls _, h => by simp [T.pd, PyData.showable]
  | .exn _ _, h => by simp [T.pd, PyData.showable]
theorem T.pds_show : ∀ xs : List T, T.showys xs = true → PyData.showableAll (T.pds xs) = true
  | [], _ => by simp [T.pds, PyData.showableAll]
  | x :: xs, h => by
    simp only [T.showys, Bool.and_eq_true] at h
    simp only [T.pds, PyData.showableAll, Bool.and_eq_true]
    exact ⟨T.pd_show x h.1, T.pds_show xs h.2⟩
end
mutual
theorem T.pd_noDict : ∀ t : T, t.pd.hasDict = false
  | .non => by simp [T.pd, PyData.hasDict]
  | .bl _ => by simp [T.pd, PyData.hasDict]
  | .int _ => by simp [T.pd, PyData.hasDict]
  | .str s => by simp [T.pd, PyData.hasDict]
  | .tup xs => by simp only [T.pd, PyData.hasDict, T.pds_noDict xs]
  | .lst xs => by simp only [T.pd, PyData.hasDict, T.pds_noDict xs]
  | .dct _ _ => by simp [T.pd, PyData.hasDict]
  | .loc _ => by simp [T.pd, PyData.hasDict]
  | .fn _ => by simp [T.pd, PyData.hasDict]
  | .cls _ => by simp [T.pd, PyData.hasDict]
  | .exn _ _ => by simp [T.pd, PyData.hasDict]
theorem T.pds_noDict : ∀ xs : List T, PyData.hasDictAll (T.pds xs) = false
  | [] => by simp [T.pds, PyData.hasDictAll]
  | x :: xs => by simp only [T.pds, PyData.hasDictAll, T.pd_noDict x, T.pds_noDict xs]; rfl
end
theorem text_len (s : String) : (s : Str).length = s.toList.length := by
  show (Str.ofString s).cps.size = _
  rw [Str.ofString_eq_toList]
  simp
theorem int_len (i : Int) : ((toString i : String) : Str).length ≤ i.natAbs.log2 + 3 := by
  have nat : ∀ n : Nat, (toString n).toList.length ≤ n.log2 + 1 := fun n => by
    have h := nat_repr_length_le (n := n) (k := n.log2 + 1) (Nat.succ_pos _) Nat.lt_log2_self
    exact h
  rw [text_len]
  cases i with
  | ofNat n => exact Nat.le_trans (nat n) (by show n.log2 + 1 ≤ n.log2 + 3; omega)
  | negSucc n =>
    show ("-" ++ toString (n + 1)).toList.length ≤ (n + 1).log2 + 3
    have := nat (n + 1)
    rw [String.toList_append, List.length_append]
    show 1 + _ ≤ _
    omega
mutual
theorem T.shown_len : ∀ t : T, t.flat = true → t.pd.shown.length ≤ t.rlen
  | .non, _ => by simp only [T.pd, PyData.shown, T.rlen]; decide +kernel
  | .bl b, _ => by cases b <;> simp only [T.pd, PyData.shown, T.rlen] <;> decide +kernel
  | .int i, _ => by simp only [T.pd, PyData.shown, T.rlen]; exact int_len i
  | .str s, h => by
    simp only [T.pd, PyData.shown, T.rlen]
    have h1 := StrLaws.reprText_len (tx s) (fun c hc => by
      have := List.all_eq_true.mp (show s.all (fun c => decide (c < 1114112)) = true from by simpa [T.flat] using h) c (by simpa [tx] using hc)
      have := of_decide_eq_true this
      omega)
    rw [tx_len] at h1
    exact h1
  | .tup xs, h => by
    simp only [T.pd, PyData.shown, T.rlen]
    have h1 := tupleText_len_le (PyData.shownAll (T.pds xs))
    have h2 := T.showns_len xs (by simpa [T.flat] using h)
    omega
  | .lst xs, h => by
    simp only [T.pd, PyData.shown, T.rlen]
    have h1 := listText_len_le (PyData.shownAll (T.pds xs))
    have h2 := T.showns_len xs (by simpa [T.flat] using h)
    omega
  | .dct _ _, h => by simp [T.flat] at h
  | .loc _, h => by simp [T.flat] at h
  | .fn _, h => by simp [T.flat] at h
  | .cls _, h => by simp [T.flat] at h
  | .exn _ _, h => by simp [T.flat] at h
theorem T.showns_len : ∀ xs : List T, T.flats xs = true → ((PyData.shownAll (T.pds xs)).map (·.length)).sum + 2 * (PyData.shownAll (T.pds xs)).length ≤ T.rlens xs
  | [], _ => by simp [T.pds, PyData.shownAll, T.rlens]
  | x :: xs, h => by
    simp only [T.flats, Bool.and_eq_true] at h
    have h1 := T.shown_len x h.1
    have h2 := T.showns_len xs h.2
    simp only [T.pds, PyData.shownAll, T.rlens, List.map_cons, List.sum_cons, List.length_cons]
    omega
end
section
variable {G : GD} {X : L2.Cx}
/-- a built-in function, by ours -/
def rFn (G : GD) (f : Heap → List T → Option T) : List V → Hp → VK → Prop := fun vs H Q => ∃ h R ts z, HRel G h R H ∧ VRs G R H ts vs ∧ f h ts = some z ∧ PostE G R H Q z h
theorem VRs.one {R : List Addr} {H : Hp} {x : T} {vs : List V} (r : VRs G R H [x] vs) : ∃ v, vs = [v] ∧ VR G R H x v := by
  cases r with
  | cons h r => cases r; exact ⟨_, rfl, h⟩
theorem VRs.two {R : List Addr} {H : Hp} {x y : T} {vs : List V} (r : VRs G R H [x, y] vs) : ∃ v u, vs = [v, u] ∧ VR G R H x v ∧ VR G R H y u := by
  cases r with
  | cons h r => obtain ⟨u, rfl, h2⟩ := VRs.one r; exact ⟨_, _, rfl, h, h2⟩
theorem fn_repr (S : Same5 G X) (hu : X.A.units + 200 < cLine) (hg : X.A.guards = some []) : CallR X (.builtin "repr") (rFn G fRepr) := by
  intro pins s σ H xs us Q I r hh
  obtain ⟨h, R, ts, z, hr, rv, e, p⟩ := hh
  unfold fRepr at e
  split at e
  · rename_i x
    split at e
    · rename_i y ey
      split at e
      · rename_i f
        cases e
        simp only [T.fit, Bool.and_eq_true, decide_eq_true_eq] at f
        obtain ⟨v, rfl, hx⟩ := rv.one
        obtain ⟨u, rfl, ru⟩ := vals1 r
        obtain ⟨as, ra⟩ := view_reads S I hr ey f.1.1.1 hx ru
        have hz : y.pd.shown.length ≤ sizeLine := by rw [top_eq]; exact Nat.le_trans (T.shown_len y f.1.1.1) f.2
        have fin : ∀ h' u tk, (∀ b o, s.heap.get? b = some o → h'.get? b = some o) → EP X pins σ Q (.str y.pd.shown u) { s with heap := h', toks := tk } := fun h' u tk hk =>
          ⟨.str y.pd.shown, H, I.kept hk, ⟨u, rfl⟩, by
            have q := p.here hr (.str _)
            have e : tx y.shown = y.pd.shown := by simp [tx, T.shown]
            rw [e] at q
            exact q⟩
        have big : ∀ a, u = .ref a → wpAny (model X.prog X.w) X.A (PySem.call (Value.builtin "repr") [u]) (EP X pins σ Q) X.xe s := by
          rintro a rfl
          exact repr_of_reads' ra (T.pd_show y f.1.2) (fun z => by rw [T.pd_noDict] at z; cases z) hg (by rw [T.pd_depth]; omega) (fun _ _ e => e) fin hz
        have f0 := f.1.1.1
        have f1 := f.1.2
        generalize hd : y.pd = d at *
        cases ra with
        | none => exact PySem.P.repr_of_none (fin s.heap _ _ fun _ _ e => e)
        | bool b =>
          have q := fin s.heap s.toks (s.toks + 1) fun _ _ e => e
          simp only [PyData.shown] at q
          exact PySem.P.repr_of_bool (b := b) (by cases b <;> exact q)
        | int i t =>
          have q := fin s.heap s.toks (s.toks + 1) fun _ _ e => e
          simp only [PyData.shown] at q
          refine PySem.P.repr_of_int ?_ q
          cases y <;> simp [T.pd] at hd
          subst hd
          simpa [T.showy] using f1
        | str x t =>
          have q := fin s.heap s.toks (s.toks + 1) fun _ _ e => e
          simp only [PyData.shown] at q hz
          exact PySem.P.repr_of_str q hz
        | list _ _ _ _ => exact big _ rfl
        | tuple _ _ _ _ => exact big _ rfl
        | dict _ _ _ _ _ => exact big _ rfl
      · cases e
    · cases e
  · cases e
/-- a call by a finer rule -/
theorem CallR.imp {X : L2.Cx} {f : Value} {r r' : List V → Hp → VK → Prop} (h : CallR X f r) (k : ∀ vs H Q, r' vs H Q → r vs H Q) : CallR X f r' := fun pins s σ H xs us Q I rv q => h pins s σ H xs us Q I rv (k _ _ _ q)
theorem CallR.lock {X : L2.Cx} {f : Value} {r r' : List V → Hp → VK → Prop} (h : CallR X f r) (k : ∀ vs H Q, r' vs H Q → r vs H (LockQ Q)) : CallR X f r' := fun pins s σ H xs us Q I rv q => thn (h pins s σ H xs us (LockQ Q) I rv (k _ _ _ q)) fun _ _ z => EP.lock z
theorem intsOf_vals {R : List Addr} {H : Hp} : ∀ {ys : List T} {vs : List V} {is : List Int}, intsOf ys = some is → VRs G R H ys vs → vs = is.map V.int
  | [], _, _, e, r => by cases r; cases e; rfl
  | y :: ys, _, _, e, r => by
    cases y <;> first | (cases e; done) | skip
    rename_i i
    obtain ⟨js, h1, rfl⟩ := Option.map_eq_some_iff.mp (show (intsOf ys).map (i :: ·) = some _ from e)
    cases r with
    | cons h r => cases h; rw [intsOf_vals h1 r]; rfl
theorem blsOf_vals {R : List Addr} {H : Hp} : ∀ {ys : List T} {vs : List V} {is : List Bool}, blsOf ys = some is → VRs G R H ys vs → vs = is.map V.bl
  | [], _, _, e, r => by cases r; cases e; rfl
  | y :: ys, _, _, e, r => by
    cases y <;> first | (cases e; done) | skip
    rename_i i
    obtain ⟨js, h1, rfl⟩ := Option.map_eq_some_iff.mp (show (blsOf ys).map (i :: ·) = some _ from e)
    cases r with
    | cons h r => cases h; rw [blsOf_vals h1 r]; rfl
theorem maxI_spec : ∀ {xs : List Int} {m : Int}, maxI xs = some m → 0 < xs.length ∧ m ∈ xs ∧ ∀ y ∈ xs, y ≤ m
  | x :: xs, m, e => by
    unfold maxI at e
    cases q : maxI xs with
    | none =>
      rw [q] at e; cases e
      have : xs = [] := by
        cases xs with
        | nil => rfl
        | cons a b => unfold maxI at q; cases z : maxI b <;> rw [z] at q <;> cases q
      subst this
      simp
    | some k =>
      rw [q] at e; cases e
      obtain ⟨_, h2, h3⟩ := maxI_spec q
      refine ⟨by simp, ?_, fun y hy => ?_⟩
      · split
        · exact List.mem_cons_of_mem _ h2
        · exact List.mem_cons_self
      · rcases List.mem_cons.mp hy with rfl | hy
        · split <;> omega
        · have := h3 y hy
          split <;> omega
theorem minI_spec : ∀ {xs : List Int} {m : Int}, minI xs = some m → 0 < xs.length ∧ m ∈ xs ∧ ∀ y ∈ xs, m ≤ y
  | x :: xs, m, e => by
    unfold minI at e
    cases q : minI xs with
    | none =>
      rw [q] at e; cases e
      have : xs = [] := by
        cases xs with
        | nil => rfl
        | cons a b => unfold minI at q; cases z : minI b <;> rw [z] at q <;> cases q
      subst this
      simp
    | some k =>
      rw [q] at e; cases e
      obtain ⟨_, h2, h3⟩ := minI_spec q
      refine ⟨by simp, ?_, fun y hy => ?_⟩
      · split
        · exact List.mem_cons_of_mem _ h2
        · exact List.mem_cons_self
      · rcases List.mem_cons.mp hy with rfl | hy
        · split <;> omega
        · have := h3 y hy
          split <;> omega
theorem fn_len (S : Same5 G X) : CallR X (.builtin "len") (rFn G fLen) := by
  refine CallR.imp call_len fun vs H Q hh => ?_
  obtain ⟨h, R, ts, z, hr, rv, e, p⟩ := hh
  unfold fLen at e
  split at e
  · obtain ⟨v, rfl, hx⟩ := rv.one
    split at e
    · rename_i q
      cases e
      obtain ⟨a, us, rfl, h1, h2⟩ := view_lst hr hx q
      exact ⟨_, us.length, rfl, .inl ⟨us, by rw [S.K]; exact h1.sq, rfl⟩, by rw [← h2.length]; exact p.here hr (.int _)⟩
    · rename_i q
      cases e
      obtain ⟨a, us, rfl, h1, h2⟩ := view_tup hr hx q
      exact ⟨_, us.length, rfl, .inr ⟨us, by rw [S.K]; exact h1, rfl⟩, by rw [← h2.length]; exact p.here hr (.int _)⟩
    · rename_i q
      split at e
      · rename_i hl
        cases e
        rw [view_str hx q]
        exact ⟨_, _, rfl, ⟨by rw [tx_len, top_eq]; exact hl, rfl⟩, by rw [tx_len]; exact p.here hr (.int _)⟩
      · cases e
    · cases e
  · cases e
theorem fn_abs : CallR X (.builtin "abs") (rFn G fAbs) := by
  refine CallR.imp call_abs fun vs H Q hh => ?_
  obtain ⟨h, R, ts, z, hr, rv, e, p⟩ := hh
  unfold fAbs at e
  split at e
  · cases e
    obtain ⟨v, rfl, hx⟩ := rv.one
    cases hx
    exact ⟨_, rfl, p.here hr (.int _)⟩
  · cases e
theorem fn_max (S : Same5 G X) (hc : X.calm = true) : CallR X (.builtin "max") (rFn G fMax) := by
  refine CallR.imp (CallR.or (call_max2 hc) (cr_max hc)) fun vs H Q hh => ?_
  obtain ⟨h, R, ts, z, hr, rv, e, p⟩ := hh
  unfold fMax at e
  split at e
  · cases e
    obtain ⟨v, u, rfl, hx, hy⟩ := rv.two
    cases hx; cases hy
    exact .inl ⟨_, _, rfl, p.here hr (.int _)⟩
  · obtain ⟨v, rfl, hx⟩ := rv.one
    split at e
    · rename_i q
      obtain ⟨is, h1, h2⟩ := Option.bind_eq_some_iff.mp e
      obtain ⟨m, h3, rfl⟩ := Option.map_eq_some_iff.mp h2
      obtain ⟨a, us, rfl, h4, h5⟩ := view_lst hr hx q
      obtain rfl := intsOf_vals h1 h5
      obtain ⟨k1, k2, k3⟩ := maxI_spec h3
      refine .inr ⟨a, is, rfl, by rw [S.K]; exact h4.sq, k1, fun m' a1 a2 => ?_⟩
      have e1 := k3 _ a1
      have e2 := a2 _ k2
      obtain rfl : m' = m := by omega
      exact p.here hr (.int _)
    · cases e
  · cases e
theorem fn_min (S : Same5 G X) (hc : X.calm = true) : CallR X (.builtin "min") (rFn G fMin) := by
  refine CallR.imp (CallR.or (call_min2 hc) (cr_min hc)) fun vs H Q hh => ?_
  obtain ⟨h, R, ts, z, hr, rv, e, p⟩ := hh
  unfold fMin at e
  split at e
  · cases e
    obtain ⟨v, u, rfl, hx, hy⟩ := rv.two
    cases hx; cases hy
    exact .inl ⟨_, _, rfl, p.here hr (.int _)⟩
  · obtain ⟨v, rfl, hx⟩ := rv.one
    split at e
    · rename_i q
      obtain ⟨is, h1, h2⟩ := Option.bind_eq_some_iff.mp e
      obtain ⟨m, h3, rfl⟩ := Option.map_eq_some_iff.mp h2
      obtain ⟨a, us, rfl, h4, h5⟩ := view_lst hr hx q
      obtain rfl := intsOf_vals h1 h5
      obtain ⟨k1, k2, k3⟩ := minI_spec h3
      refine .inr ⟨a, is, rfl, by rw [S.K]; exact h4.sq, k1, fun m' a1 a2 => ?_⟩
      have e1 := k3 _ a1
      have e2 := a2 _ k2
      obtain rfl : m' = m := by omega
      exact p.here hr (.int _)
    · cases e
  · cases e
theorem fn_sum (S : Same5 G X) (hc : X.calm = true) : CallR X (.builtin "sum") (rFn G fSum) := by
  refine CallR.imp (cr_sum hc) fun vs H Q hh => ?_
  obtain ⟨h, R, ts, z, hr, rv, e, p⟩ := hh
  unfold fSum at e
  split at e
  · obtain ⟨v, rfl, hx⟩ := rv.one
    split at e
    · rename_i q
      obtain ⟨is, h1, rfl⟩ := Option.map_eq_some_iff.mp e
      obtain ⟨a, us, rfl, h4, h5⟩ := view_lst hr hx q
      obtain rfl := intsOf_vals h1 h5
      exact ⟨a, is, rfl, by rw [S.K]; exact h4.sq, p.here hr (.int _)⟩
    · cases e
  · cases e
theorem fn_all (S : Same5 G X) (hc : X.calm = true) : CallR X (.builtin "all") (rFn G fAll) := by
  refine CallR.imp (cr_all hc) fun vs H Q hh => ?_
  obtain ⟨h, R, ts, z, hr, rv, e, p⟩ := hh
  unfold fAll at e
  split at e
  · obtain ⟨v, rfl, hx⟩ := rv.one
    split at e
    · rename_i q
      obtain ⟨is, h1, rfl⟩ := Option.map_eq_some_iff.mp e
      obtain ⟨a, us, rfl, h4, h5⟩ := view_lst hr hx q
      obtain rfl := blsOf_vals h1 h5
      exact ⟨a, is, rfl, by rw [S.K]; exact h4.sq, p.here hr (.bl _)⟩
    · cases e
  · cases e
theorem fn_any (S : Same5 G X) (hc : X.calm = true) : CallR X (.builtin "any") (rFn G fAny) := by
  refine CallR.imp (cr_any hc) fun vs H Q hh => ?_
  obtain ⟨h, R, ts, z, hr, rv, e, p⟩ := hh
  unfold fAny at e
  split at e
  · obtain ⟨v, rfl, hx⟩ := rv.one
    split at e
    · rename_i q
      obtain ⟨is, h1, rfl⟩ := Option.map_eq_some_iff.mp e
      obtain ⟨a, us, rfl, h4, h5⟩ := view_lst hr hx q
      obtain rfl := blsOf_vals h1 h5
      exact ⟨a, is, rfl, by rw [S.K]; exact h4.sq, p.here hr (.bl _)⟩
    · cases e
  · cases e
theorem fn_int : CallR X (.type "int") (rFn G fInt) := by
  refine CallR.imp call_int1 fun vs H Q hh => ?_
  obtain ⟨h, R, ts, z, hr, rv, e, p⟩ := hh
  unfold fInt at e
  split at e
  · cases e
    obtain ⟨v, rfl, hx⟩ := rv.one
    cases hx
    exact .inl ⟨_, rfl, p.here hr (.int _)⟩
  · cases e
    obtain ⟨v, rfl, hx⟩ := rv.one
    cases hx
    exact .inr ⟨_, rfl, p.here hr (.int _)⟩
  · cases e
theorem fn_str : CallR X (.type "str") (rFn G fStr) := by
  refine CallR.imp call_str_int fun vs H Q hh => ?_
  obtain ⟨h, R, ts, z, hr, rv, e, p⟩ := hh
  unfold fStr at e
  split at e
  · rename_i i
    split at e
    · rename_i hl
      cases e
      obtain ⟨v, rfl, hx⟩ := rv.one
      cases hx
      refine ⟨_, rfl, hl, ?_⟩
      have q := p.here hr (.str _)
      have e : tx (intText i) = ((toString i : String) : Str) := by
        show _ = Str.ofString _
        rw [Str.ofString_eq_toList]
        rfl
      rw [e] at q
      exact q
    · cases e
  · cases e
theorem fn_tuple (S : Same5 G X) : CallR X (.type "tuple") (rFn G fTuple) := by
  refine CallR.imp call_tuple_of fun vs H Q hh => ?_
  obtain ⟨h, R, ts, z, hr, rv, e, p⟩ := hh
  unfold fTuple at e
  split at e
  · obtain ⟨v, rfl, hx⟩ := rv.one
    split at e
    · rename_i q
      cases e
      obtain ⟨a, us, rfl, h1, h2⟩ := view_lst hr hx q
      exact ⟨a, us, rfl, .inl ⟨by rw [S.K]; exact h1.sq, fun l hl => p.newT hr h2 hl⟩⟩
    · rename_i q
      cases e
      obtain ⟨a, us, rfl, h1, h2⟩ := view_tup hr hx q
      exact ⟨a, us, rfl, .inr ⟨by rw [S.K]; exact h1, p.here hr (.tup h1 h2)⟩⟩
    · cases e
  · cases e
theorem fn_list (S : Same5 G X) : CallR X (.type "list") (rFn G fList) := by
  refine CallR.lock call_list_of fun vs H Q hh => ?_
  obtain ⟨h, R, ts, z, hr, rv, e, p⟩ := hh
  unfold fList at e
  split at e
  · obtain ⟨v, rfl, hx⟩ := rv.one
    split at e
    · rename_i q
      cases e
      obtain ⟨a, us, rfl, h1, h2⟩ := view_lst hr hx q
      exact ⟨a, us, rfl, .inl (by rw [S.K]; exact h1.sq), fun l hl => ⟨l, H, us, rfl, hl, rfl, fun o => p.newF hr h2 hl o⟩⟩
    · rename_i q
      cases e
      obtain ⟨a, us, rfl, h1, h2⟩ := view_tup hr hx q
      exact ⟨a, us, rfl, .inr (by rw [S.K]; exact h1), fun l hl => ⟨l, H, us, rfl, hl, rfl, fun o => p.newF hr h2 hl o⟩⟩
    · cases e
  · cases e
end
end Lite

/-! LITE, 7: soundness: expressions. -/
namespace Lite
open PySem L2 PySem.Spec
open PyProof.Rows hiding St

/-! ### the check: the small syntax says what the text says -/
/-- a def's names by slot, its scope as written, the canonical names' names -/
structure Sc where
  nm : String → Str
  known : String → Bool
  N : List Str
  sc : Scope
def isGlob (c : Sc) (x : Str) : Bool := decide (c.sc.names.lookup x = some .globalImplicit) && !(x == ("__debug__" : Str))
def isVis (c : Sc) (x : Str) : Bool := (decide (c.sc.names.lookup x = some .local) || decide (c.sc.names.lookup x = some .cell) || decide (c.sc.names.lookup x = some .free)) && !(x == ("__debug__" : Str)) && !(x == ("__classdict__" : Str))
def plainE : Expr → Bool
  | .Starred .. => false
  | _ => true
/-- its test is its value's truth -/
def valueE : Expr → Bool
  | .UnaryOp .Not _ _ => false
  | .BoolOp .. => false
  | .IfExp .. => false
  | .Compare .. => false
  | _ => true
/-- what may stand in brackets -/
def ixE : Expr → Bool
  | .Slice .. => false
  | _ => true
abbrev bOp : BOp → Operator
  | .add => .Add | .sub => .Sub | .mul => .Mult | .fdiv => .FloorDiv | .mod => .Mod | .pow => .Pow
/-- built-in functions that are classes -/
def isTyFn (b : String) : Bool := ["int", "str", "tuple", "list"].contains b
def fnNames : List String := ["len", "abs", "max", "min", "sum", "int", "repr", "all", "any", "str", "tuple", "list"]
def tyNames : List String := ["int", "bool", "str", "tuple", "list", "dict"]
def isLoc (c : Sc) (x : Str) : Bool := decide (c.sc.names.lookup x = some .local) || decide (c.sc.names.lookup x = some .cell)
/-- the names of a target -/
def chkNs (c : Sc) (A : List Nat) : List Nat → List Expr → Bool
  | [], [] => true
  | i :: is, .Name x _ :: es => decide (c.N[i]? = some x) && isLoc c x && A.contains i && chkNs c A is es
  | _, _ => false
def chkG (c : Sc) (A : List Nat) : Tg → Expr → Bool
  | .v i, .Name x _ => decide (c.N[i]? = some x) && isLoc c x && A.contains i
  | .t is, .Tuple es _ _ => chkNs c A is es
  | _, _ => false
/-- a list, a tuple, a text walked -/
def chkOne (e : Expr) : Bool := match e with | .Set .. => false | _ => true
def isTup : Expr → Bool
  | .Tuple .. => true
  | _ => false
/-- the block's own names -/
def ownN (c : Sc) (own : List Nat) : List (Str × Nat) := own.map fun i => (c.N.getD i Str.empty, i)
/-- what an attribute is looked up on -/
def plainB : Expr → Bool
  | .Call .. => false
  | _ => true
mutual
def chkE (c : Sc) : LE → Expr → Bool
  | .var i, .Name x _ => decide (c.N[i]? = some x) && isVis c x
  | .int i, .Constant (.int j) _ _ => decide (i = j)
  | .str s, .Constant (.str x) _ _ => decide (tx s = x)
  | .bl b, .Constant (.bool k) _ _ => b == k
  | .non, .Constant .none _ _ => true
  | .glob g, .Name x _ => decide (c.nm g = x) && isGlob c x
  | .bin o a b, .BinOp l op r _ => decide (bOp o = op) && chkE c a l && chkE c b r
  | .neg a, .UnaryOp .USub x _ => chkE c a x
  | .not a, .UnaryOp .Not x _ => chkE c a x
  | .and es, .BoolOp .And xs _ => chkB c es xs
  | .or es, .BoolOp .Or xs _ => chkB c es xs
  | .cmp o a b, .Compare l [op] [r] _ => decide (cOp o = op) && !behindInMarks op r && chkE c a l && chkE c b r
  | .chain o p a b d, .Compare l [op, op'] [r, r'] _ => decide (cOp o = op) && decide (cOp p = op') && !lastMarks [op, op'] [r, r'] && chkE c a l && chkE c b r && chkE c d r'
  | .ife t a b, .IfExp u l r _ => chkE c t u && chkE c a l && chkE c b r
  | .tup es, .Tuple xs _ _ => chkEs c es xs && decide (es.length ≤ 1000)
  | .lst _ es, .List xs _ => chkEs c es xs && decide (es.length ≤ 1000)
  | .slc a lo hi, .Subscript x (.Slice l u none _) _ => chkE c a x && chkO c lo l && chkO c hi u
  | .idx a i, .Subscript x y _ => ixE y && chkE c a x && chkE c i y
  | .call f es, .Call (.Name x _) xs [] _ => c.known f && decide (c.nm f = x) && isGlob c x && chkEs c es xs
  | .bi b es, .Call (.Name x _) xs [] _ => decide (Str.ofString b = x) && fnNames.contains b && isGlob c x && !xs.isEmpty && chkEs c es xs
  | .isi a [t], .Call (.Name x _) [e, .Name y _] [] _ => decide (x = ("isinstance" : Str)) && isGlob c x && plainE e && chkE c a e && tyNames.contains t && decide (Str.ofString t = y) && isGlob c y
  | .bm o m es, .Call (.Attribute x y ap) xs [] p => decide (m = "append") && decide (y = ("append" : Str)) && plainB x && (ap.endLine == p.line) && decide (xs.length = 1) && chkE c o x && chkEs c es xs
  | .comp _ own elt tg kd it ifs, .ListComp e [⟨t, i, is, 0⟩] scope _ => blkC c.N c.sc scope (ownN c own) && chkOne i && chkI c t kd it i && chkG { c with sc := scope } own tg t && chkF { c with sc := scope } ifs is && chkE { c with sc := scope } elt e
  | .comp2 _ own elt tg kd it ifs own1 tg1 k1 it1 ifs1, .ListComp e [⟨t, i, is, 0⟩, ⟨t1, i1, is1, 0⟩] scope _ => blkC c.N c.sc scope (ownN c own) && chkOne i && chkOne i1 && (own1.all fun j => own.contains j) && chkI c t kd it i && chkG { c with sc := scope } own tg t && chkF { c with sc := scope } ifs is &&
      chkI { c with sc := scope } t1 k1 it1 i1 && chkG { c with sc := scope } own1 tg1 t1 && chkF { c with sc := scope } ifs1 is1 && chkE { c with sc := scope } elt e
  | _, _ => false
def chkI (c : Sc) (tg : Expr) (kd : String) : List LE → Expr → Bool
  | [l], it => if kd = "" then chkOne it && chkE c l it
    else if kd = "range" then (match it with
      | .Call (.Name x _) [e] [] _ => decide (x = ("range" : Str)) && isGlob c x && plainE e && chkE c l e
      | _ => false)
    else if kd = "enumerate" then (match it with
      | .Call (.Name x _) [e] [] _ => decide (x = ("enumerate" : Str)) && isGlob c x && isTup tg && plainE e && chkE c l e
      | _ => false)
    else false
  | [l, l2], it => if kd = "range" then (match it with
      | .Call (.Name x _) [e, e2] [] _ => decide (x = ("range" : Str)) && isGlob c x && plainE e && plainE e2 && chkE c l e && chkE c l2 e2
      | _ => false)
    else if kd = "zip" then (match it with
      | .Call (.Name x _) [e, e2] [] _ => decide (x = ("zip" : Str)) && isGlob c x && isTup tg && plainE e && plainE e2 && chkE c l e && chkE c l2 e2
      | _ => false)
    else false
  | _, _ => false
def chkF (c : Sc) : List LE → List Expr → Bool
  | [], [] => true
  | [l], [e] => chkE c l e
  | _, _ => false
def chkO (c : Sc) : List LE → Option Expr → Bool
  | [], none => true
  | [e], some y => chkE c e y
  | _, _ => false
def chkB (c : Sc) : List LE → List Expr → Bool
  | [l], [e] => chkE c l e
  | l :: l2 :: ls, e :: e2 :: es => chkE c l e && chkB c (l2 :: ls) (e2 :: es)
  | _, _ => false
def chkEs (c : Sc) : List LE → List Expr → Bool
  | [], [] => true
  | l :: ls, e :: es => plainE e && chkE c l e && chkEs c ls es
  | _, _ => false
end

/-! ### contexts -/
structure GX (G : GD) (k : Nat) (X : L2.Cx) (c : Sc) (W : WX) : Prop where
  s5 : Same5 G X
  room : Room k X.A
  gd : X.A.guards = some []
  calm : X.calm = true
  nm : c.nm = G.nm
  N : X.N = c.N
  nd : c.N.Nodup
  sc1 : ∀ x kd, kd ≠ .free → c.sc.names.lookup x = some kd → X.env.scope.names.lookup x = some kd
  sc2 : ∀ x, c.sc.names.lookup x = some .free → X.env.scope.names.lookup x = some .free ∨ X.env.scope.names.lookup x = some .cell
  fnc : ∀ x, c.sc.names.lookup x = some .cell → X.fn x = true
  tk : Takes X W
  po : PassesOwn (model X.prog X.w) X.A X.env X.xe
section
variable {G : GD} {k : Nat} {X : L2.Cx} {c : Sc} {W : WX}
theorem GX.units (g : GX G k X c W) : X.A.units + 200 < cLine := by
  have := g.room.un
  omega
theorem GX.gl (g : GX G k X c W) {x : Str} (h : isGlob c x = true) : Gl X x ∧ (x == ("__debug__" : Str)) = false := by
  simp only [isGlob, Bool.and_eq_true, decide_eq_true_eq, Bool.not_eq_true'] at h
  exact ⟨g.sc1 x _ (by decide) h.1, h.2⟩
theorem GX.vis (g : GX G k X c W) {x : Str} (h : isVis c x = true) : Vis X.env.scope x ∧ (x == ("__debug__" : Str)) = false ∧ (x == ("__classdict__" : Str)) = false := by
  simp only [isVis, Bool.and_eq_true, Bool.or_eq_true, decide_eq_true_eq, Bool.not_eq_true'] at h
  refine ⟨?_, h.1.2, h.2⟩
  rcases h.1.1 with (q | q) | q
  · exact .inl (g.sc1 x _ (by decide) q)
  · exact .inr (.inl (g.sc1 x _ (by decide) q))
  · rcases g.sc2 x q with z | z
    · exact .inr (.inr z)
    · exact .inr (.inl z)
end
/-- what the row's top has left -/
structure GD.Ok (G : GD) : Prop where
  con : ∀ g t, G.P.con g = some t → ∃ u v, G.mg (G.nm g) = some u ∧ RelV v u ∧ ∀ R H, VR G R H t v
  free : ∀ b, (fnNames ++ tyNames ++ ["isinstance", "range", "enumerate", "zip"]).contains b = true → G.mg (Str.ofString b) = none
/-- a def's promise by the interpreter's call -/
def spI (G : GD) (call : List T → Heap → Rs T) : Sp := fun vs H Q E => ∃ ts h R, HRel G h R H ∧ VRs G R H ts vs ∧ Sat (call ts h) (PostE G R H Q) (PostX G R H E)
/-- the calls of a level -/
structure Calls (G : GD) (k : Nat) (call : String → List T → Heap → Rs T) : Prop where
  fn : ∀ f d, G.P.fn f = some d → ∃ a fd ps, G.mg (G.nm f) = some (.ref a) ∧ G.fa f = some a ∧ PySem.W.keepIn G.K (.ref a) = true ∧ L2.Binds G.K fd ps [] ∧ FnG G k a fd ps (spI G (call f)) ∧ (∃ oc od osl, G.K.lookup a = some ⟨oc, od, .func fd, osl⟩) ∧ ps = fd.params.args.map (·.arg)
  none : ∀ f ts h, G.P.fn f = none → call f ts h = .stuck

/-! ### readings, composed -/
section
variable {G : GD} {K : Cn} {W : WX} {ρ : Rho} {h : Heap} {R : List Addr} {σ : St} {H : Hp}
def LaterP {α : Type} (P : List Addr → Hp → α → Heap → Prop) : Prop := ∀ R H R' H' a h, Lq R H R' H' → P R H a h → P R' H' a h
theorem later_E (Q : VK) : LaterP (fun R H => PostE G R H Q) := fun _ _ _ _ _ _ q p R2 H2 v l hr vr => p R2 H2 v (q.trans l) hr vr
theorem later_Es (Q : List V → Hp → Prop) : LaterP (fun R H => PostEs G R H Q) := fun _ _ _ _ _ _ q p R2 H2 v l hr vr => p R2 H2 v (q.trans l) hr vr
theorem later_B (Q : Bool → Hp → Prop) : LaterP (fun R H => PostB G R H Q) := fun _ _ _ _ _ _ q p R2 H2 l hr => p R2 H2 (q.trans l) hr
theorem later_X (w : Value → Option Addr → Hp → Prop) : LaterP (fun R H => PostX G R H w) := fun _ _ _ _ _ _ q p R2 H2 c d l hr x => p R2 H2 c d (q.trans l) hr x
theorem later_S (D : Ends) : LaterP (fun R H => PostS G R H D) := fun R H R' H' a h q p => by
  cases a with
  | nx ρ => exact fun R2 H2 s l hr e => p R2 H2 s (q.trans l) hr e
  | brk ρ => exact fun R2 H2 s l hr e => p R2 H2 s (q.trans l) hr e
  | cnt ρ => exact fun R2 H2 s l hr e => p R2 H2 s (q.trans l) hr e
  | ret v => exact fun R2 H2 s l hr e => p R2 H2 s (q.trans l) hr e
theorem Sat.later {α : Type} {P : List Addr → Hp → α → Heap → Prop} (lp : LaterP P) {w : Value → Option Addr → Hp → Prop} {r : Rs α} {R R' : List Addr} {H H' : Hp} (q : Lq R H R' H') (s : Sat r (P R H) (PostX G R H w)) : Sat r (P R' H') (PostX G R' H' w) :=
  s.imp (fun _ _ p => lp _ _ _ _ _ _ q p) fun _ _ p => later_X w _ _ _ _ _ _ q p
abbrev At (W : WX) (σ : St) : Value → Option Addr → Hp → Prop := fun c d H' => W c d σ H'
theorem rdE.bind {α : Type} {f : T → Heap → Rs α} {P : List Addr → Hp → α → Heap → Prop} (lp : LaterP P) {le : LE} (sr : SR G ρ h R σ H) (o : Sat ((evE K le ρ h).bind f) (P R H) (PostX G R H (At W σ))) {Q : VK}
    (k : ∀ t h' R' H' v, SR G ρ h' R' σ H' → Lq R H R' H' → VR G R' H' t v → Sat (f t h') (P R' H') (PostX G R' H' (At W σ)) → Q v H') : rdE G K W le σ H Q :=
  ⟨ρ, h, R, sr, (Sat.bind.mp o).imp (fun t h' s R' H' v lq hr vr => k t h' R' H' v (sr.next lq hr) lq vr (Sat.later lp lq s)) fun _ _ x => x⟩
theorem rdA.bind {α : Type} {f : List T → Heap → Rs α} {P : List Addr → Hp → α → Heap → Prop} (lp : LaterP P) {les : List LE} (sr : SR G ρ h R σ H) (o : Sat ((evEs K les ρ h).bind f) (P R H) (PostX G R H (At W σ))) {Q : List V → Hp → Prop}
    (k : ∀ ts h' R' H' vs, SR G ρ h' R' σ H' → Lq R H R' H' → VRs G R' H' ts vs → Sat (f ts h') (P R' H') (PostX G R' H' (At W σ)) → Q vs H') : rdA G K W les σ H Q :=
  ⟨ρ, h, R, sr, (Sat.bind.mp o).imp (fun t h' s R' H' v lq hr vr => k t h' R' H' v (sr.next lq hr) lq vr (Sat.later lp lq s)) fun _ _ x => x⟩
theorem bind_assoc {α β γ : Type} (r : Rs α) (f : α → Heap → Rs β) (g : β → Heap → Rs γ) : (r.bind f).bind g = r.bind fun a h => (f a h).bind g := by cases r <;> rfl
theorem rdT.bind {α : Type} {f : T → Heap → Rs α} {P : List Addr → Hp → α → Heap → Prop} (lp : LaterP P) {le : LE} (sr : SR G ρ h R σ H) {g : Bool → Heap → Rs α} (hf : ∀ t h b, truth h t = some b → f t h = g b h) (hn : ∀ t h, truth h t = none → f t h = .stuck)
    (o : Sat ((evE K le ρ h).bind f) (P R H) (PostX G R H (At W σ))) {Q : Bool → Hp → Prop}
    (k : ∀ b h' R' H', SR G ρ h' R' σ H' → Lq R H R' H' → Sat (g b h') (P R' H') (PostX G R' H' (At W σ)) → Q b H') : rdT G K W le σ H Q := by
  refine ⟨ρ, h, R, sr, ?_⟩
  rw [Sat.bind] at o ⊢
  refine o.imp (fun t h' s => ?_) fun _ _ x => x
  cases e : truth h' t with
  | none => rw [hn _ _ e] at s; exact s.elim
  | some b =>
    rw [hf _ _ _ e] at s
    exact fun R' H' lq hr => k b h' R' H' (sr.next lq hr) lq (Sat.later lp lq s)
end

section
variable {G : GD} {k : Nat} {X : L2.Cx} {c : Sc} {W : WX} {K : Cn}
theorem star_cons {e : Expr} {es : List Expr} {env : PySem.Env} (h : plainE e = true) : starEach (e :: es) env = (false, eval e env) :: starEach es env := by
  cases e <;> first | rfl | cases h
theorem noStar {c : Sc} : ∀ {ls : List LE} {es : List Expr} {env : PySem.Env} {pos : Pos}, chkEs c ls es = true → (backTo pos (starEach es env)).any (·.1) = false
  | [], [], _, _, _ => rfl
  | [], _ :: _, _, _, h => by simp [chkEs] at h
  | _ :: _, [], _, _, h => by simp [chkEs] at h
  | l :: ls, e :: es, env, pos, h => by
    simp only [chkEs, Bool.and_eq_true] at h
    rw [star_cons h.1.1]
    have := noStar (env := env) (pos := pos) h.2
    simpa [backTo] using this
theorem test_value {e : Expr} (h : valueE e = true) (env : PySem.Env) (whole : Sem Value) : isTrue e env whole = (do let v ← whole; standAt e.pos; holding [v] (truthy v)) := by
  cases e <;> first | rfl | (simp [valueE] at h; done) | skip
  rename_i op x p
  cases op <;> first | rfl | (simp [valueE] at h)
theorem ix_plain {e : Expr} (h : ixE e = true) : PlainIx e := by
  intro o i
  cases e <;> first | rfl | (simp [ixE] at h)
/-- a value's truth, of any expression -/
theorem pt_of (g : GX G k X c W) {e : Expr} {le : LE} (hv : valueE e = true) (he : PE X e (rdE G K W le)) : PT X e (rdT G K W le) := by
  refine pt_imp (pt_truth he (test_value hv X.env)) fun σ H Q ⟨ρ, h, R, sr, o⟩ => ?_
  refine rdE.bind (later_B Q) sr o fun t h' R' H' v sr' lq vr o' => ?_
  obtain ⟨b, e, p⟩ := o'.of
  exact ⟨b, by rw [g.s5.K]; exact truth_ok sr'.hr vr e, p R' H' (Lq.refl _ _) sr'.hr⟩
end
end Lite

/-! LITE, 8: soundness: expressions, the induction. -/
namespace Lite
open PySem L2 PySem.Spec
open PyProof.Rows hiding St

section
variable (G : GD) (K : Cn) (W : WX)
def rdAnd (ls : List LE) : TE := fun σ H Q => ∃ ρ h R, SR G ρ h R σ H ∧ Sat (evAnd K ls ρ h) (PostE G R H Q) (PostX G R H (At W σ))
def rdOr (ls : List LE) : TE := fun σ H Q => ∃ ρ h R, SR G ρ h R σ H ∧ Sat (evOr K ls ρ h) (PostE G R H Q) (PostX G R H (At W σ))
def rdTAnd (ls : List LE) : TT := fun σ H Q => ∃ ρ h R, SR G ρ h R σ H ∧ Sat ((evAnd K ls ρ h).bind fun x h => Rs.of (truth h x) h) (PostB G R H Q) (PostX G R H (At W σ))
def rdTOr (ls : List LE) : TT := fun σ H Q => ∃ ρ h R, SR G ρ h R σ H ∧ Sat ((evOr K ls ρ h).bind fun x h => Rs.of (truth h x) h) (PostB G R H Q) (PostX G R H (At W σ))
def rdPart (lo : List LE) : TO := fun σ H Q => ∃ ρ h R, SR G ρ h R σ H ∧ Sat (evEs K lo ρ h) (fun ts h' => ∀ R' H', Lq R H R' H' → HRel G h' R' H' → ∃ o, partOf ts = some o ∧ Q o H') (PostX G R H (At W σ))
end

section
variable {G : GD} {k : Nat} {X : L2.Cx} {c : Sc} {W : WX} {K : Cn}
theorem isTrue_ife {t a b : Expr} {p : Pos} {env : PySem.Env} {wh : Sem Value} {M : Model} {A : Around} {E : Value → Shared → Prop} {s : Shared} {Q : Bool → Shared → Prop}
    (h : wpAny M A (isTrue t env (eval t env)) (fun d s1 => if d = true then wpAny M A (isTrue a env (eval a env)) Q E s1 else wpAny M A (isTrue b env (eval b env)) Q E s1) E s) : wpAny M A (isTrue (.IfExp t a b p) env wh) Q E s := by
  show wpAny M A (do if ← isTrue t env (eval t env) then isTrue a env (eval a env) else isTrue b env (eval b env)) Q E s
  refine wpAny_bind (thn h fun d s1 q => ?_)
  cases d with
  | true => exact q
  | false => exact q
theorem pt_ife {t a b : Expr} {p : Pos} {tc ta tb : TT} (hc : PT X t tc) (ha : PT X a ta) (hb : PT X b tb) : PT X (.IfExp t a b p) (fun σ H Q => tc σ H fun d H1 => if d = true then ta σ H1 Q else tb σ H1 Q) := by
  refine ⟨fun pins s σ H Q I h => isTrue_ife (thn (hc.run pins s σ H _ I h) fun d s1 ⟨H1, I1, q1⟩ => ?_)⟩
  cases d with
  | true => rw [if_pos rfl]; exact ha.run pins s1 σ H1 Q I1 q1
  | false => rw [if_neg Bool.false_ne_true]; exact hb.run pins s1 σ H1 Q I1 q1
theorem po_imp {e : Option Expr} {t t' : TO} (h : PO X e t) (f : ∀ σ H Q, t' σ H Q → t σ H Q) : PO X e t' := ⟨fun pins s σ H Q I q => h.run pins s σ H Q I (f σ H Q q)⟩
theorem kit_table {a b : String} (ha : a ∈ ["NoneType", "bool", "int", "str", "tuple", "list", "dict"]) (hb : b ∈ tyNames) : kitB a b = some (decide (a = b) || (decide (a = "bool") && decide (b = "int"))) := by
  have h : (["NoneType", "bool", "int", "str", "tuple", "list", "dict"].all fun a => tyNames.all fun b => decide (kitB a b = some (decide (a = b) || (decide (a = "bool") && decide (b = "int"))))) = true := by decide +kernel
  have h1 := List.all_eq_true.mp h a ha
  exact of_decide_eq_true (List.all_eq_true.mp h1 b hb)
theorem boot_ty {b : String} (hb : b ∈ tyNames) : bootBuiltins (Str.ofString b) = some (.type b) := by
  have h : (tyNames.all fun b => decide (bootBuiltins (Str.ofString b) = some (.type b))) = true := by decide +kernel
  exact of_decide_eq_true (List.all_eq_true.mp h b hb)
theorem ty_plain {b : String} (hb : b ∈ tyNames) : Str.ofString b ≠ "__name__" := by
  have h : (tyNames.all fun b => decide (Str.ofString b ≠ "__name__")) = true := by decide +kernel
  exact of_decide_eq_true (List.all_eq_true.mp h b hb)
/-- a value's built-in class -/
theorem ty_of (S : Same5 G X) {H : Hp} {h : Heap} {R : List Addr} (hr : HRel G h R H) {x : T} {v : V} {b : String} {r : Bool} {sub : String → String → Bool} (hb : b ∈ tyNames) (vr : VR G R H x v) (e : isTy h sub x b = some r) :
    ∃ t, TyX X.K H v t ∧ PySem.W.kitOne X.K t (.type b) = some r := by
  have go : ∀ a : String, a ∈ ["NoneType", "bool", "int", "str", "tuple", "list", "dict"] → (decide (a = b) || (decide (a = "bool") && decide (b = "int"))) = r → PySem.W.kitOne X.K (.type a) (.type b) = some r := fun a ha q => by
    rw [← q]; exact kit_ty (kit_table ha hb)
  unfold isTy at e
  split at e
  · rename_i q; cases e; rw [view_non vr q]
    refine ⟨_, .base .non, go "NoneType" (by simp) ?_⟩
    cases hd : decide ("NoneType" = b) <;> simp_all [eq_comm]
  · rename_i q; cases e; rw [view_bl vr q]
    refine ⟨_, .base (.bl _), go "bool" (by simp) ?_⟩
    simp [eq_comm]
  · rename_i q; cases e; rw [view_int vr q]
    refine ⟨_, .base (.int _), go "int" (by simp) ?_⟩
    simp [eq_comm]
  · rename_i q; cases e; rw [view_str vr q]
    refine ⟨_, .base (.str _), go "str" (by simp) ?_⟩
    simp [eq_comm]
  · rename_i q; cases e
    obtain ⟨a, vs, rfl, h1, h2⟩ := view_tup hr vr q
    rw [← S.K] at h1
    refine ⟨.type "tuple", ?_, go "tuple" (by simp) (by simp [eq_comm])⟩
    rcases h1 with (h1 | ⟨o, h1⟩) | ⟨o, its, n, h1, c1, _⟩
    · exact .base (.tup h1)
    · exact .fTuple h1
    · exact .kTuple h1 c1
  · rename_i q; cases e
    obtain ⟨a, vs, rfl, h1, h2⟩ := view_lst hr vr q
    refine ⟨.type "list", ?_, go "list" (by simp) (by simp [eq_comm])⟩
    rcases h1 with h1 | ⟨o, h1⟩ | ⟨its, n, h1, _⟩
    · exact .base (.lst h1)
    · exact .base (.frz h1)
    · exact .kList (by rw [S.K]; exact h1) rfl
  · rename_i q
    cases vr <;> (try (cases q; done))
    rw [view_loc] at q
    split at q <;> cases q
  · cases e

/-- the built-in functions by name -/
theorem fn_of_name (ok : G.Ok) (g : GX G k X c W) {b : String} (hb : fnNames.contains b = true) :
    (isTyFn b = false → CallR X (.builtin b) (rFn G (bfun b)) ∧ bootBuiltins (Str.ofString b) = some (.builtin b)) ∧ (isTyFn b = true → CallR X (.type b) (rFn G (bfun b)) ∧ bootBuiltins (Str.ofString b) = some (.type b)) ∧ Str.ofString b ≠ "__name__" := by
  have hm : b ∈ fnNames := by simpa using hb
  simp only [fnNames, List.mem_cons, List.not_mem_nil, or_false] at hm
  have S := g.s5
  rcases hm with rfl | rfl | rfl | rfl | rfl | rfl | rfl | rfl | rfl | rfl | rfl | rfl
  · exact ⟨fun _ => ⟨fn_len S, by decide +kernel⟩, fun z => by simp [isTyFn] at z, by decide +kernel⟩
  · exact ⟨fun _ => ⟨fn_abs, by decide +kernel⟩, fun z => by simp [isTyFn] at z, by decide +kernel⟩
  · exact ⟨fun _ => ⟨fn_max S g.calm, by decide +kernel⟩, fun z => by simp [isTyFn] at z, by decide +kernel⟩
  · exact ⟨fun _ => ⟨fn_min S g.calm, by decide +kernel⟩, fun z => by simp [isTyFn] at z, by decide +kernel⟩
  · exact ⟨fun _ => ⟨fn_sum S g.calm, by decide +kernel⟩, fun z => by simp [isTyFn] at z, by decide +kernel⟩
  · exact ⟨fun z => by simp [isTyFn] at z, fun _ => ⟨fn_int, by decide +kernel⟩, by decide +kernel⟩
  · exact ⟨fun _ => ⟨fn_repr S g.units g.gd, by decide +kernel⟩, fun z => by simp [isTyFn] at z, by decide +kernel⟩
  · exact ⟨fun _ => ⟨fn_all S g.calm, by decide +kernel⟩, fun z => by simp [isTyFn] at z, by decide +kernel⟩
  · exact ⟨fun _ => ⟨fn_any S g.calm, by decide +kernel⟩, fun z => by simp [isTyFn] at z, by decide +kernel⟩
  · exact ⟨fun z => by simp [isTyFn] at z, fun _ => ⟨fn_str, by decide +kernel⟩, by decide +kernel⟩
  · exact ⟨fun z => by simp [isTyFn] at z, fun _ => ⟨fn_tuple S, by decide +kernel⟩, by decide +kernel⟩
  · exact ⟨fun z => by simp [isTyFn] at z, fun _ => ⟨fn_list S, by decide +kernel⟩, by decide +kernel⟩
end
end Lite

/-! LITE, 9: soundness: expressions, the induction. -/
namespace Lite
open PySem L2 PySem.Spec
open PyProof.Rows hiding St

section
variable {G : GD} {k : Nat} {X : L2.Cx} {c : Sc} {W : WX} {K : Cn}
/-- what the soundness of a body stands on -/
structure SX (G : GD) (k : Nat) (X : L2.Cx) (c : Sc) (W : WX) (K : Cn) : Prop where
  g : GX G k X c W
  ok : G.Ok
  P : K.P = G.P
  kn : ∀ f, c.known f = true → (G.P.fn f).isSome = true
  calls : Calls G k K.call

theorem SR.same (sr : SR G ρ h R σ H) : Lq R H R H := Lq.refl R H
/-- a value and what a test of it says -/
def EV (G : GD) (X : L2.Cx) (K : Cn) (W : WX) (le : LE) (e : Expr) : Prop := PE X e (rdE G K W le) ∧ PT X e (rdT G K W le)
theorem ev_of (g : GX G k X c W) {e : Expr} {le : LE} (hv : valueE e = true) (he : PE X e (rdE G K W le)) : EV G X K W le e := ⟨he, pt_of g hv he⟩

/-- a truth of a value that is a bool -/
theorem rdT.bl {ρ : Rho} {h : Heap} {R : List Addr} {σ : St} {H : Hp} {le : LE} {Q : Bool → Hp → Prop} (o : Sat ((evE K le ρ h).bind fun x h => Rs.of (truth h x) h) (PostB G R H Q) (PostX G R H (At W σ))) :
    Sat (evE K le ρ h) (PostE G R H fun x H' => ∀ k, x = .bl k → Q k H') (PostX G R H (At W σ)) := by
  refine (Sat.bind.mp o).imp (fun t h' s R' H' v lq hr vr k e => ?_) fun _ _ x => x
  obtain ⟨b, e1, p⟩ := s.of
  subst e
  cases vr
  cases e1
  exact p R' H' lq hr

theorem sound_call0 (s : SX G k X c W K) {f : String} {x : Str} {xs : List Expr} {es : List LE} {p pos : Pos} (hk : c.known f = true) (hn : c.nm f = x) (hg : isGlob c x = true) (hc : chkEs c es xs = true) (ha : PA X xs (rdA G K W es)) : PE X (.Call (.Name x p) xs [] pos) (rdE G K W (.call f es)) := by
  refine ⟨fun pins s0 σ H Q I ⟨ρ, h, R, sr, o⟩ => ?_⟩
  obtain ⟨hg1, hg2⟩ := s.g.gl hg
  unfold evE at o
  have key := rdA.bind (later_E Q) sr o (Q := fun vs H' => spI G (K.call f) vs H' Q (At W σ)) fun ts h' R' H' vs sr' lq vr o' => ⟨ts, h', R', sr'.hr, vr, o'⟩
  obtain ⟨d, hf⟩ := Option.isSome_iff_exists.mp (s.kn f hk)
  obtain ⟨a, fd, ps, e1, e2, e3, e4, F, _⟩ := s.calls.fn f d hf
  refine wpAny_Call_Name_kw (ld_glob I hg1 (by rw [s.g.s5.mg, ← hn, s.g.nm]; exact e1) ?_ hg2)
  have hk : PySem.W.keepIn X.K (.ref a) = true := by rw [s.g.s5.K]; exact e3
  have fin : ∀ (us : List Value) (s1 : Shared) (vs : List V) (H1 : Hp), Inv X pins σ H1 s1 → Vals vs us → spI G (K.call f) vs H1 Q (At W σ) → wpAny (model X.prog X.w) X.A (PySem.call (.ref a) us) (EP X pins σ Q) X.xe s1 := fun us s1 vs H1 I1 r q =>
    run_fnG s.g.s5 F s.g.room s.g.gd e4 .nil s.g.tk (fun _ _ _ z => z) I1 r (by rw [List.append_nil]; exact q)
  cases xs with
  | nil =>
    cases es with
    | cons _ _ => simp [chkEs] at hc
    | nil =>
      refine PySem.W.callWith_K0 I.kIn hk ?_
      obtain ⟨ρ', h', R', sr', o'⟩ := key
      exact fin [] s0 [] H I .nil (o' R' H [] (Lq.refl _ _) sr'.hr .nil)
  | cons e es' =>
    cases es with
    | nil => simp [chkEs] at hc
    | cons l ls =>
      simp only [chkEs, Bool.and_eq_true] at hc
      refine PySem.W.callWith_K (h₀ := X.base) I.ok.mod.kin hk (thn (ha.run pos pins s0 σ H _ I key) fun us s1 ⟨vs, H1, I1, r, q⟩ => ⟨I1.kIn, ?_⟩) (star_cons hc.1.1) (noStar hc.2)
      exact fin us s1 vs H1 I1 r q

theorem sound_bi (s : SX G k X c W K) {b : String} {x : Str} {xs : List Expr} {es : List LE} {p pos : Pos} (hn : Str.ofString b = x) (hb : fnNames.contains b = true) (hg : isGlob c x = true) (hx : xs.isEmpty = false) (hc : chkEs c es xs = true)
    (ha : PA X xs (rdA G K W es)) : PE X (.Call (.Name x p) xs [] pos) (rdE G K W (.bi b es)) := by
  cases xs with
  | nil => cases hx
  | cons e es' =>
  cases es with
  | nil => simp [chkEs] at hc
  | cons l ls =>
  simp only [chkEs, Bool.and_eq_true] at hc
  obtain ⟨hg1, hg2⟩ := s.g.gl hg
  subst hn
  obtain ⟨h1, h2, h3⟩ := fn_of_name s.ok s.g hb
  have hm : X.mg (Str.ofString b) = none := by
    rw [s.g.s5.mg]
    refine s.ok.free b ?_
    simp only [List.contains_eq_mem, List.mem_append, decide_eq_true_eq] at hb ⊢
    exact .inl (.inl hb)
  have key : ∀ σ H Q, rdE G K W (.bi b (l :: ls)) σ H Q → tCB (rFn G (bfun b)) (rdA G K W (l :: ls)) σ H Q := fun σ H Q ⟨ρ, h, R, sr, o⟩ => by
    unfold evE at o
    refine rdA.bind (later_E Q) sr o fun ts h' R' H' vs sr' lq vr o' => ?_
    obtain ⟨z, e, q⟩ := o'.of
    exact ⟨h', R', ts, z, sr'.hr, vr, e, q⟩
  cases ht : isTyFn b with
  | false => exact pe_imp (pe_callB (h1 ht).1 hg1 hm (h1 ht).2 ha h3 hg2 (star_cons hc.1.1) (noStar hc.2)) key
  | true => exact pe_imp (pe_callTy (h2 ht).1 hg1 hm (h2 ht).2 ha h3 hg2 (star_cons hc.1.1) (noStar hc.2)) key

theorem sound_isi (s : SX G k X c W K) {t : String} {x y : Str} {e : Expr} {a : LE} {p p2 pos : Pos} (hx : x = ("isinstance" : Str)) (hgx : isGlob c x = true) (hpl : plainE e = true) (ht : tyNames.contains t = true) (hn : Str.ofString t = y) (hgy : isGlob c y = true)
    (ha : PE X e (rdE G K W a)) : PE X (.Call (.Name x p) [e, .Name y p2] [] pos) (rdE G K W (.isi a [t])) := by
  subst hn hx
  obtain ⟨hg1, hg2⟩ := s.g.gl hgx
  obtain ⟨hg3, hg4⟩ := s.g.gl hgy
  have htm : t ∈ tyNames := by simpa using ht
  have hm : X.mg (Str.ofString t) = none := by
    rw [s.g.s5.mg]
    refine s.ok.free t ?_
    simp only [List.contains_eq_mem, List.mem_append, decide_eq_true_eq]
    exact .inl (.inr htm)
  have hm2 : X.mg ("isinstance" : Str) = none := by
    rw [s.g.s5.mg]
    exact s.ok.free "isinstance" (by decide)
  have pb : PE X (.Name (Str.ofString t) p2) (tC (.ty t)) := pe_bltn hg3 hm (boot_ty htm) rfl (ty_plain htm) hg4
  refine pe_imp (pe_callB call_isi hg1 hm2 (by decide +kernel) (pa_cons ha (pa_cons pb pa_nil) (star_cons hpl)) (by decide +kernel) hg2 (star_cons hpl) rfl) fun σ H Q ⟨ρ, h, R, sr, o⟩ => ?_
  unfold evE at o
  refine rdE.bind (later_E Q) sr o fun t' h' R' H' v sr' lq vr o' => ?_
  obtain ⟨z, e, q⟩ := o'.of
  cases e1 : isTy h' K.P.sub t' t with
  | none => simp [e1] at e
  | some r =>
    simp [e1] at e
    subst e
    obtain ⟨ty, h1, h2⟩ := ty_of s.g.s5 sr'.hr htm vr e1
    exact ⟨v, .ty t, ty, .type t, r, rfl, .ty t, h1, h2, PostE.here q sr'.hr (.bl r)⟩
end
end Lite

/-! LITE, 10: soundness: expressions, the cases and the induction. -/
namespace Lite
open PySem L2 PySem.Spec
open PyProof.Rows hiding St

section
variable {G : GD} {k : Nat} {X : L2.Cx} {c : Sc} {W : WX} {K : Cn}

theorem sd_var (s : SX G k X c W K) {i : Nat} {x : Str} {p : Pos} (h1 : c.N[i]? = some x) (h2 : isVis c x = true) : PE X (.Name x p) (rdE G K W (.var i)) := by
  obtain ⟨v1, v2, v3⟩ := s.g.vis h2
  refine pe_imp (pe_var (by rw [s.g.N]; exact h1) v1 v2 v3) fun σ H Q ⟨ρ, h, R, sr, o⟩ => ?_
  unfold evE at o
  split at o
  · rename_i t e
    obtain ⟨v, e2, r⟩ := sr.er.2 i t e
    exact ⟨v, e2, o R H v (Lq.refl _ _) sr.hr r⟩
  · exact o.elim
theorem sd_here {e : Expr} {le : LE} {t : T} {v : V} (he : PE X e (tC v)) (ev : ∀ ρ h, evE K le ρ h = .ok t h) (r : ∀ R H, VR G R H t v) : PE X e (rdE G K W le) :=
  pe_imp he fun σ H Q ⟨ρ, h, R, sr, o⟩ => by
    rw [ev] at o
    exact o R H v (Lq.refl _ _) sr.hr (r R H)
theorem sd_glob (s : SX G k X c W K) {g : String} {x : Str} {p : Pos} (h1 : c.nm g = x) (h2 : isGlob c x = true) : PE X (.Name x p) (rdE G K W (.glob g)) := by
  obtain ⟨hg1, hg2⟩ := s.g.gl h2
  cases hc : G.P.con g with
  | none =>
    refine ⟨fun pins s0 σ H Q I ⟨ρ, h, R, sr, o⟩ => ?_⟩
    unfold evE at o
    rw [s.P, hc] at o
    exact o.elim
  | some t =>
    obtain ⟨u, v, e1, e2, e3⟩ := s.ok.con g t hc
    refine sd_here (pe_glob hg1 (by rw [s.g.s5.mg, ← h1, s.g.nm]; exact e1) e2 hg2) (fun ρ h => ?_) e3
    unfold evE
    rw [s.P, hc]
    rfl
theorem sd_bin (s : SX G k X c W K) {o : BOp} {op : Operator} {a b : LE} {l r : Expr} {p : Pos} (h : bOp o = op) (ha : PE X l (rdE G K W a)) (hb : PE X r (rdE G K W b)) : PE X (.BinOp l op r p) (rdE G K W (.bin o a b)) := by
  subst h
  refine pe_imp (pe_op (op_bin s.g.s5 o) ha hb) fun σ H Q ⟨ρ, h, R, sr, o⟩ => ?_
  unfold evE at o
  refine rdE.bind (later_E Q) sr o fun x h1 R1 H1 vx sr1 lq1 rx o1 => ?_
  refine rdE.bind (later_E Q) sr1 o1 fun y h2 R2 H2 vy sr2 lq2 ry o2 => ?_
  obtain ⟨z, e, q⟩ := o2.of
  exact ⟨h2, R2, x, y, z, sr2.hr, rx.mono lq2, ry, e, q⟩
theorem un_neg : UnR X (unaryOp .USub) (fun x H Q => ∃ i, x = .int i ∧ Q (.int (-i)) H) := by
  intro pins s σ H x v Q I rx h
  obtain ⟨i, rfl, q⟩ := h
  obtain ⟨t, rfl⟩ := rx
  exact neg_int ⟨.int (-i), H, I.tok _, ⟨_, rfl⟩, q⟩
theorem sd_neg {a : LE} {x : Expr} {p : Pos} (ha : PE X x (rdE G K W a)) : PE X (.UnaryOp .USub x p) (rdE G K W (.neg a)) := by
  refine pe_imp (pe_un un_neg ha) fun σ H Q ⟨ρ, h, R, sr, o⟩ => ?_
  unfold evE at o
  refine rdE.bind (later_E Q) sr o fun x h1 R1 H1 vx sr1 lq1 rx o1 => ?_
  split at o1
  · cases rx
    exact ⟨_, rfl, o1 R1 H1 _ (Lq.refl _ _) sr1.hr (.int _)⟩
  · exact o1.elim
theorem un_not (X : L2.Cx) : UnR X (unaryOp .Not) (fun x H Q => ∃ k, TruV X.K x H k ∧ Q (.bl (!k)) H) := by
  intro pins s σ H x v Q I rx h
  obtain ⟨k, e, q⟩ := h
  refine not_of (thn (tru_ok pins s σ H x v (fun c H' => c = k ∧ H' = H) I rx ⟨k, e, rfl, rfl⟩) fun c s1 ⟨H1, I1, e1, e2⟩ => ?_)
  subst e1 e2
  exact ⟨.bl (!c), H1, I1, rfl, q⟩
theorem sd_not (s : SX G k X c W K) {a : LE} {x : Expr} {p : Pos} (ha : PE X x (rdE G K W a)) : PE X (.UnaryOp .Not x p) (rdE G K W (.not a)) := by
  refine pe_imp (pe_un (un_not X) ha) fun σ H Q ⟨ρ, h, R, sr, o⟩ => ?_
  unfold evE at o
  refine rdE.bind (later_E Q) sr o fun x h1 R1 H1 vx sr1 lq1 rx o1 => ?_
  obtain ⟨z, e, q⟩ := o1.of
  cases e1 : truth h1 x with
  | none => simp [e1] at e
  | some b =>
    simp [e1] at e
    subst e
    exact ⟨b, by rw [s.g.s5.K]; exact truth_ok sr1.hr rx e1, q R1 H1 _ (Lq.refl _ _) sr1.hr (.bl _)⟩
theorem sd_notT {a : LE} {x : Expr} {p : Pos} (ha : PT X x (rdT G K W a)) : PT X (.UnaryOp .Not x p) (rdT G K W (.not a)) := by
  refine pt_imp (pt_not ha) fun σ H Q ⟨ρ, h, R, sr, o⟩ => ?_
  unfold evE at o
  rw [bind_assoc] at o
  refine rdT.bind (later_B Q) sr (g := fun b h => Rs.of (some (!b)) h) (fun t h b e => ?_) (fun t h e => ?_) o fun b h1 R1 H1 sr1 lq o1 => ?_
  · rw [e]; rfl
  · rw [e]; rfl
  · obtain ⟨z, e, q⟩ := o1.of
    cases e
    exact q R1 H1 (Lq.refl _ _) sr1.hr

theorem sd_cmp (s : SX G k X c W K) {co : COp} {op : CmpOp} {a b : LE} {l r : Expr} {p : Pos} (h : cOp co = op) (hm : behindInMarks op r = false) (ha : PE X l (rdE G K W a)) (hb : PE X r (rdE G K W b)) : EV G X K W (.cmp co a b) (.Compare l [op] [r] p) := by
  subst h
  have key : ∀ σ H Q, rdE G K W (.cmp co a b) σ H Q → tOp (rCmp G co) (rdE G K W a) (rdE G K W b) σ H Q := fun σ H Q ⟨ρ, h, R, sr, o⟩ => by
    unfold evE at o
    refine rdE.bind (later_E Q) sr o fun x h1 R1 H1 vx sr1 lq1 rx o1 => ?_
    refine rdE.bind (later_E Q) sr1 o1 fun y h2 R2 H2 vy sr2 lq2 ry o2 => ?_
    obtain ⟨z, e, q⟩ := o2.of
    cases e1 : cmpop co h2 x y with
    | none => simp [e1] at e
    | some b =>
      simp [e1] at e
      subst e
      exact ⟨h2, R2, x, y, b, sr2.hr, rx.mono lq2, ry, e1, q R2 H2 _ (Lq.refl _ _) sr2.hr (.bl _)⟩
  refine ⟨pe_imp (pe_cmpR (op_cmp s.g.s5 s.g.units co) ha hb hm) key, pt_imp (pt_cmpR (op_cmp s.g.s5 s.g.units co) ha hb hm) fun σ H Q ⟨ρ, h, R, sr, o⟩ => ?_⟩
  unfold evE at o
  rw [bind_assoc] at o
  refine rdE.bind (later_B Q) sr o fun x h1 R1 H1 vx sr1 lq1 rx o1 => ?_
  rw [bind_assoc] at o1
  refine rdE.bind (later_B Q) sr1 o1 fun y h2 R2 H2 vy sr2 lq2 ry o2 => ?_
  cases e1 : cmpop co h2 x y with
  | none => rw [e1] at o2; exact o2.elim
  | some b =>
    rw [e1] at o2
    exact ⟨h2, R2, x, y, b, sr2.hr, rx.mono lq2, ry, e1, b, rfl, o2 R2 H2 (Lq.refl _ _) sr2.hr⟩
theorem sd_chain (s : SX G k X c W K) {o o' : COp} {op op' : CmpOp} {a b d : LE} {l r r' : Expr} {p : Pos} (h : cOp o = op) (h' : cOp o' = op') (hm : lastMarks [op, op'] [r, r'] = false) (ha : PE X l (rdE G K W a)) (hb : PE X r (rdE G K W b)) (hd : PE X r' (rdE G K W d)) :
    EV G X K W (.chain o o' a b d) (.Compare l [op, op'] [r, r'] p) := by
  subst h h'
  refine ⟨pe_imp (pe_chain (op_cmp s.g.s5 s.g.units o) (op_cmp s.g.s5 s.g.units o') ha hb hd hm) fun σ H Q ⟨ρ, h, R, sr, oo⟩ => ?_, pt_imp (pt_chain (op_cmp s.g.s5 s.g.units o) (op_cmp s.g.s5 s.g.units o') ha hb hd hm) fun σ H Q ⟨ρ, h, R, sr, oo⟩ => ?_⟩
  · unfold evE at oo
    refine rdE.bind (later_E Q) sr oo fun x h1 R1 H1 vx sr1 lq1 rx o1 => ?_
    refine rdE.bind (later_E Q) sr1 o1 fun y h2 R2 H2 vy sr2 lq2 ry o2 => ?_
    split at o2
    · rename_i e
      refine ⟨h2, R2, x, y, true, sr2.hr, rx.mono lq2, ry, e, true, rfl, ?_⟩
      rw [if_pos rfl]
      refine rdE.bind (later_E Q) sr2 o2 fun z h3 R3 H3 vz sr3 lq3 rz o3 => ?_
      obtain ⟨w, e3, q⟩ := o3.of
      cases e1 : cmpop o' h3 y z with
      | none => simp [e1] at e3
      | some b =>
        simp [e1] at e3
        subst e3
        exact ⟨h3, R3, y, z, b, sr3.hr, ry.mono lq3, rz, e1, q R3 H3 _ (Lq.refl _ _) sr3.hr (.bl _)⟩
    · rename_i e
      refine ⟨h2, R2, x, y, false, sr2.hr, rx.mono lq2, ry, e, false, rfl, ?_⟩
      rw [if_neg Bool.false_ne_true]
      exact o2 R2 H2 _ (Lq.refl _ _) sr2.hr (.bl _)
    · exact o2.elim
  · unfold evE at oo
    rw [bind_assoc] at oo
    refine rdE.bind (later_B Q) sr oo fun x h1 R1 H1 vx sr1 lq1 rx o1 => ?_
    rw [bind_assoc] at o1
    refine rdE.bind (later_B Q) sr1 o1 fun y h2 R2 H2 vy sr2 lq2 ry o2 => ?_
    cases e : cmpop o h2 x y with
    | none => rw [e] at o2; exact o2.elim
    | some b =>
      rw [e] at o2
      cases b with
      | true =>
        refine ⟨h2, R2, x, y, true, sr2.hr, rx.mono lq2, ry, e, true, rfl, ?_⟩
        rw [if_pos rfl]
        rw [bind_assoc] at o2
        refine rdE.bind (later_B Q) sr2 o2 fun z h3 R3 H3 vz sr3 lq3 rz o3 => ?_
        cases e1 : cmpop o' h3 y z with
        | none => rw [e1] at o3; exact o3.elim
        | some b =>
          rw [e1] at o3
          exact ⟨h3, R3, y, z, b, sr3.hr, ry.mono lq3, rz, e1, b, rfl, o3 R3 H3 (Lq.refl _ _) sr3.hr⟩
      | false =>
        refine ⟨h2, R2, x, y, false, sr2.hr, rx.mono lq2, ry, e, false, rfl, ?_⟩
        rw [if_neg Bool.false_ne_true]
        exact ⟨false, rfl, o2 R2 H2 (Lq.refl _ _) sr2.hr⟩
theorem sd_ife {t a b : LE} {u l r : Expr} {p : Pos} (ht : PT X u (rdT G K W t)) (ha : EV G X K W a l) (hb : EV G X K W b r) : EV G X K W (.ife t a b) (.IfExp u l r p) := by
  refine ⟨pe_imp (pe_ifExp ht ha.1 hb.1) fun σ H Q ⟨ρ, h, R, sr, o⟩ => ?_, pt_imp (pt_ife ht ha.2 hb.2) fun σ H Q ⟨ρ, h, R, sr, o⟩ => ?_⟩
  · unfold evE at o
    refine rdT.bind (later_E Q) sr (g := fun q h => if q = true then evE K a ρ h else evE K b ρ h) (fun t h b e => ?_) (fun t h e => ?_) o fun q h1 R1 H1 sr1 lq o1 => ?_
    · rw [e]; cases b <;> rfl
    · rw [e]
    · cases q with
      | true => exact ⟨ρ, h1, R1, sr1, o1⟩
      | false => exact ⟨ρ, h1, R1, sr1, o1⟩
  · unfold evE at o
    rw [bind_assoc] at o
    refine rdT.bind (later_B Q) sr (g := fun q h => (if q = true then evE K a ρ h else evE K b ρ h).bind fun x h => Rs.of (truth h x) h) (fun t h b e => ?_) (fun t h e => ?_) o fun q h1 R1 H1 sr1 lq o1 => ?_
    · rw [e]; cases b <;> rfl
    · rw [e]; rfl
    · cases q with
      | true => exact ⟨ρ, h1, R1, sr1, o1⟩
      | false => exact ⟨ρ, h1, R1, sr1, o1⟩
theorem Lq.push {R : List Addr} {H : Hp} {p : Addr} {u : HO} (hp : H p = none) : Lq R H (R ++ [p]) (upd H p u) :=
  ⟨fun n a e => by rw [List.getElem?_append_left (List.getElem?_eq_some_iff.mp e).1]; exact e, fun a ha n => by
    rcases List.mem_append.mp ha with z | z
    · exact absurd z n
    · rw [List.mem_singleton.mp z]; exact hp, fun b o e _ => by rw [upd_ne (ne_of_none e hp)]; exact e⟩
theorem evEs_len {ρ : Rho} : ∀ {ls : List LE} {h : Heap} {Q : List T → Heap → Prop} {E : T → Heap → Prop}, Sat (evEs K ls ρ h) Q E → Sat (evEs K ls ρ h) (fun ts h => ts.length = ls.length ∧ Q ts h) E
  | [], h, Q, E, s => by unfold evEs at s ⊢; exact ⟨rfl, s⟩
  | l :: ls, h, Q, E, s => by
    unfold evEs at s ⊢
    rw [Sat.bind] at s ⊢
    refine s.imp (fun x h1 s1 => ?_) fun _ _ z => z
    rw [Sat.bind] at s1 ⊢
    exact (evEs_len s1).imp (fun xs h2 z => ⟨by simp [z.1], z.2⟩) fun _ _ z => z
theorem rdA.bindL {α : Type} {ρ : Rho} {h : Heap} {R : List Addr} {σ : St} {H : Hp} {f : List T → Heap → Rs α} {P : List Addr → Hp → α → Heap → Prop} (lp : LaterP P) {les : List LE} (sr : SR G ρ h R σ H) (o : Sat ((evEs K les ρ h).bind f) (P R H) (PostX G R H (At W σ))) {Q : List V → Hp → Prop}
    (k : ∀ ts h' R' H' vs, ts.length = les.length → SR G ρ h' R' σ H' → Lq R H R' H' → VRs G R' H' ts vs → Sat (f ts h') (P R' H') (PostX G R' H' (At W σ)) → Q vs H') : rdA G K W les σ H Q :=
  ⟨ρ, h, R, sr, (evEs_len (Sat.bind.mp o)).imp (fun t h' s R' H' v lq hr vr => k t h' R' H' v s.1 (sr.next lq hr) lq vr (Sat.later lp lq s.2)) fun _ _ x => x⟩
theorem sd_tup {es : List LE} {xs : List Expr} {q : Nat} {p : Pos} (ha : PA X xs (rdA G K W es)) (hz : es.length ≤ 1000) : PE X (.Tuple xs q p) (rdE G K W (.tup es)) := by
  refine pe_imp (pe_tup ha) fun σ H Q ⟨ρ, h, R, sr, o⟩ => ?_
  unfold evE at o
  refine rdA.bindL (later_E Q) sr o fun ts h1 R1 H1 vs hl sr1 lq r o1 => ⟨?_, fun p hp => PostE.newT o1 sr1.hr r hp⟩
  have := r.length
  rw [top_eq]
  show vs.length ≤ 16777216
  omega
theorem sd_lst {m : Bool} {es : List LE} {xs : List Expr} {p : Pos} (ha : PA X xs (rdA G K W es)) (hz : es.length ≤ 1000) : PE X (.List xs p) (rdE G K W (.lst m es)) := by
  cases m with
  | true =>
    refine pe_imp (pe_lst ha) fun σ H Q ⟨ρ, h, R, sr, o⟩ => ?_
    unfold evE at o
    refine rdA.bindL (later_E Q) sr o fun ts h1 R1 H1 vs hl sr1 lq r o1 => ⟨?_, fun p hp => ?_⟩
    · have := r.length
      rw [top_eq]
      show vs.length ≤ 16777216
      omega
    · obtain ⟨hr2, lq2⟩ := sr1.hr.push (o := .lst ts) hp rfl ⟨vs, upd_same, r.mono (Lq.push hp)⟩
      exact o1 _ _ _ lq2 hr2 (.loc (by rw [← sr1.hr.len]; simp))
  | false =>
    refine pe_imp (pe_lock (pe_lst ha)) fun σ H Q ⟨ρ, h, R, sr, o⟩ => ?_
    unfold evE at o
    refine rdA.bindL (later_E Q) sr o fun ts h1 R1 H1 vs hl sr1 lq r o1 => ⟨?_, fun p hp => ⟨p, H1, vs, rfl, hp, rfl, fun o => PostE.newF o1 sr1.hr r hp o⟩⟩
    have := r.length
    rw [top_eq]
    show vs.length ≤ 16777216
    omega
theorem rdPart.bind {α : Type} {ρ : Rho} {h : Heap} {R : List Addr} {σ : St} {H : Hp} {f : List T → Heap → Rs α} {P : List Addr → Hp → α → Heap → Prop} (lp : LaterP P) {les : List LE} (sr : SR G ρ h R σ H) (o : Sat ((evEs K les ρ h).bind f) (P R H) (PostX G R H (At W σ)))
    (hn : ∀ ts h, partOf ts = none → f ts h = .stuck) {Q : Option Int → Hp → Prop} (k : ∀ ts l, partOf ts = some l → ∀ h' R' H', SR G ρ h' R' σ H' → Lq R H R' H' → Sat (f ts h') (P R' H') (PostX G R' H' (At W σ)) → Q l H') : rdPart G K W les σ H Q :=
  ⟨ρ, h, R, sr, (Sat.bind.mp o).imp (fun t h' s R' H' lq hr => by
    cases e : partOf t with
    | none => rw [hn t h' e] at s; exact s.elim
    | some l => exact ⟨l, rfl, k t l e h' R' H' (sr.next lq hr) lq (Sat.later lp lq s)⟩) fun _ _ x => x⟩
theorem sd_slc (s : SX G k X c W K) {a : LE} {lo hi : List LE} {x : Expr} {l u : Option Expr} {p p2 : Pos} (ha : PE X x (rdE G K W a)) (hl : PO X l (rdPart G K W lo)) (hu : PO X u (rdPart G K W hi)) : PE X (.Subscript x (.Slice l u none p2) p) (rdE G K W (.slc a lo hi)) := by
  refine pe_imp (pe_slice (sl_ours s.g.s5) ha hl hu) fun σ H Q ⟨ρ, h, R, sr, o⟩ => ?_
  unfold evE at o
  refine rdE.bind (later_E Q) sr o fun x h1 R1 H1 vx sr1 lq1 rx o1 => ?_
  refine rdPart.bind (later_E Q) sr1 o1 (fun ts h e => by show (match partOf ts with | none => _ | some l => _) = _; rw [e]) fun us l e1 h2 R2 H2 sr2 lq2 o2 => ?_
  rw [e1] at o2
  refine rdPart.bind (later_E Q) sr2 o2 (fun ts h e => by show (match partOf ts with | none => _ | some l => _) = _; rw [e]) fun vs u e2 h3 R3 H3 sr3 lq3 o3 => ?_
  rw [e2] at o3
  obtain ⟨z, e, q⟩ := o3.of
  exact ⟨h3, R3, x, z, sr3.hr, (rx.mono lq2).mono lq3, e, q⟩
theorem sd_part0 : PO X none (rdPart G K W []) := po_imp po_none fun σ H Q ⟨ρ, h, R, sr, o⟩ => by
  unfold evEs at o
  obtain ⟨z, e, q⟩ := o R H (Lq.refl _ _) sr.hr
  cases e
  exact q
theorem sd_part1 {l : LE} {e : Expr} (h : PE X e (rdE G K W l)) : PO X (some e) (rdPart G K W [l]) := po_imp (po_some h) fun σ H Q ⟨ρ, h, R, sr, o⟩ => by
  unfold evEs evEs at o
  refine ⟨ρ, h, R, sr, (Sat.bind.mp o).imp (fun t h' s R' H' v lq hr vr => ?_) fun _ _ z => z⟩
  obtain ⟨z, e, q⟩ := s R' H' lq hr
  cases t <;> (try (cases e; done))
  cases vr
  cases e
  exact ⟨_, rfl, q⟩
theorem sd_idx (s : SX G k X c W K) {a b : LE} {l r : Expr} {p : Pos} (hs : ixE r = true) (ha : PE X l (rdE G K W a)) (hb : PE X r (rdE G K W b)) : PE X (.Subscript l r p) (rdE G K W (.idx a b)) := by
  refine pe_imp (pe_ix (ix_ours s.g.s5) ha hb (ix_plain hs)) fun σ H Q ⟨ρ, h, R, sr, o⟩ => ?_
  unfold evE at o
  refine rdE.bind (later_E Q) sr o fun x h1 R1 H1 vx sr1 lq1 rx o1 => ?_
  refine rdE.bind (later_E Q) sr1 o1 fun y h2 R2 H2 vy sr2 lq2 ry o2 => ?_
  obtain ⟨z, e, q⟩ := o2.of
  exact ⟨h2, R2, x, y, z, sr2.hr, rx.mono lq2, ry, e, q⟩
theorem sd_nil : PA X [] (rdA G K W []) := pa_imp pa_nil fun σ H Q ⟨ρ, h, R, sr, o⟩ => by
  unfold evEs at o
  exact o R H [] (Lq.refl _ _) sr.hr .nil
theorem sd_cons {l : LE} {ls : List LE} {e : Expr} {es : List Expr} (hp : plainE e = true) (ha : PE X e (rdE G K W l)) (hr : PA X es (rdA G K W ls)) : PA X (e :: es) (rdA G K W (l :: ls)) := by
  refine pa_imp (pa_cons ha hr (star_cons hp)) fun σ H Q ⟨ρ, h, R, sr, o⟩ => ?_
  unfold evEs at o
  refine rdE.bind (later_Es Q) sr o fun x h1 R1 H1 vx sr1 lq1 rx o1 => ?_
  refine rdA.bind (later_Es Q) sr1 o1 fun xs h2 R2 H2 vs sr2 lq2 rs o2 => ?_
  exact o2 R2 H2 _ (Lq.refl _ _) sr2.hr (.cons (rx.mono lq2) rs)
theorem sd_and1 {l : LE} {e : Expr} {p : Pos} (h : EV G X K W l e) : PE X (.BoolOp .And [e] p) (rdAnd G K W [l]) ∧ PW X (.BoolOp .And [e] p) (rdTAnd G K W [l]) := by
  refine ⟨pe_imp (pe_one h.1) fun σ H Q ⟨ρ, h, R, sr, o⟩ => ⟨ρ, h, R, sr, by unfold evAnd at o; exact o⟩, ⟨fun wh pins s σ H Q I ⟨ρ, h0, R, sr, o⟩ => (pw_and1 h.2).run wh pins s σ H Q I ⟨ρ, h0, R, sr, by unfold evAnd at o; exact o⟩⟩⟩
theorem sd_or1 {l : LE} {e : Expr} {p : Pos} (h : EV G X K W l e) : PE X (.BoolOp .Or [e] p) (rdOr G K W [l]) ∧ PW X (.BoolOp .Or [e] p) (rdTOr G K W [l]) := by
  refine ⟨pe_imp (pe_one h.1) fun σ H Q ⟨ρ, h, R, sr, o⟩ => ⟨ρ, h, R, sr, by unfold evOr at o; exact o⟩, ⟨fun wh pins s σ H Q I ⟨ρ, h0, R, sr, o⟩ => (pw_or1 h.2).run wh pins s σ H Q I ⟨ρ, h0, R, sr, by unfold evOr at o; exact o⟩⟩⟩
theorem sd_and2 (s : SX G k X c W K) {l l2 : LE} {ls : List LE} {e e2 : Expr} {es : List Expr} {p : Pos} (h : EV G X K W l e) (hr : PE X (.BoolOp .And (e2 :: es) p) (rdAnd G K W (l2 :: ls)) ∧ PW X (.BoolOp .And (e2 :: es) p) (rdTAnd G K W (l2 :: ls))) :
    PE X (.BoolOp .And (e :: e2 :: es) p) (rdAnd G K W (l :: l2 :: ls)) ∧ PW X (.BoolOp .And (e :: e2 :: es) p) (rdTAnd G K W (l :: l2 :: ls)) := by
  refine ⟨pe_imp (pe_andT h.1 hr.1) fun σ H Q ⟨ρ, h, R, sr, o⟩ => ?_, ⟨fun wh pins s0 σ H Q I ⟨ρ, h0, R, sr, o⟩ => (pw_and h.2 hr.2).run wh pins s0 σ H Q I ?_⟩⟩
  · unfold evAnd at o
    refine rdE.bind (later_E Q) sr o fun x h1 R1 H1 vx sr1 lq1 rx o1 => ?_
    cases e1 : truth h1 x with
    | none => rw [e1] at o1; exact o1.elim
    | some b =>
      rw [e1] at o1
      refine ⟨b, by rw [s.g.s5.K]; exact truth_ok sr1.hr rx e1, ?_⟩
      cases b with
      | true => rw [if_pos rfl]; exact ⟨ρ, h1, R1, sr1, o1⟩
      | false => rw [if_neg Bool.false_ne_true]; exact PostE.here o1 sr1.hr rx
  · unfold evAnd at o
    rw [bind_assoc] at o
    refine rdT.bind (later_B Q) sr (g := fun q h => if q = true then (evAnd K (l2 :: ls) ρ h).bind fun x h => Rs.of (truth h x) h else .ok false h) (fun t h b e => ?_) (fun t h e => ?_) o fun q h1 R1 H1 sr1 lq o1 => ?_
    · rw [e]
      cases b with
      | true => rfl
      | false => show Rs.of (truth h t) h = _; rw [e]; rfl
    · rw [e]; rfl
    · cases q with
      | true => rw [if_pos rfl]; exact ⟨ρ, h1, R1, sr1, o1⟩
      | false => rw [if_neg Bool.false_ne_true]; exact o1 R1 H1 (Lq.refl _ _) sr1.hr
theorem sd_or2 (s : SX G k X c W K) {l l2 : LE} {ls : List LE} {e e2 : Expr} {es : List Expr} {p : Pos} (h : EV G X K W l e) (hr : PE X (.BoolOp .Or (e2 :: es) p) (rdOr G K W (l2 :: ls)) ∧ PW X (.BoolOp .Or (e2 :: es) p) (rdTOr G K W (l2 :: ls))) :
    PE X (.BoolOp .Or (e :: e2 :: es) p) (rdOr G K W (l :: l2 :: ls)) ∧ PW X (.BoolOp .Or (e :: e2 :: es) p) (rdTOr G K W (l :: l2 :: ls)) := by
  refine ⟨pe_imp (pe_orT h.1 hr.1) fun σ H Q ⟨ρ, h, R, sr, o⟩ => ?_, ⟨fun wh pins s0 σ H Q I ⟨ρ, h0, R, sr, o⟩ => (pw_or h.2 hr.2).run wh pins s0 σ H Q I ?_⟩⟩
  · unfold evOr at o
    refine rdE.bind (later_E Q) sr o fun x h1 R1 H1 vx sr1 lq1 rx o1 => ?_
    cases e1 : truth h1 x with
    | none => rw [e1] at o1; exact o1.elim
    | some b =>
      rw [e1] at o1
      refine ⟨b, by rw [s.g.s5.K]; exact truth_ok sr1.hr rx e1, ?_⟩
      cases b with
      | false => rw [if_neg Bool.false_ne_true]; exact ⟨ρ, h1, R1, sr1, o1⟩
      | true => rw [if_pos rfl]; exact PostE.here o1 sr1.hr rx
  · unfold evOr at o
    rw [bind_assoc] at o
    refine rdT.bind (later_B Q) sr (g := fun q h => if q = true then .ok true h else (evOr K (l2 :: ls) ρ h).bind fun x h => Rs.of (truth h x) h) (fun t h b e => ?_) (fun t h e => ?_) o fun q h1 R1 H1 sr1 lq o1 => ?_
    · rw [e]
      cases b with
      | false => rfl
      | true => show Rs.of (truth h t) h = _; rw [e]; rfl
    · rw [e]; rfl
    · cases q with
      | false => rw [if_neg Bool.false_ne_true]; exact ⟨ρ, h1, R1, sr1, o1⟩
      | true => rw [if_pos rfl]; exact o1 R1 H1 (Lq.refl _ _) sr1.hr
end
end Lite

/-! LITE, 11: statements: what stays, targets, what is walked. -/
namespace Lite
open PySem L2 PySem.Spec
open PyProof.Rows hiding St

/-- the slots outside A are as they were -/
def Agree (A : List Nat) (σ σ' : St) : Prop := σ'.length = σ.length ∧ ∀ i, i ∉ A → σ'[i]? = σ[i]?
theorem Agree.refl (A : List Nat) (σ : St) : Agree A σ σ := ⟨rfl, fun _ _ => rfl⟩
theorem Agree.trans {A : List Nat} {a b c : St} (h : Agree A a b) (k : Agree A b c) : Agree A a c := ⟨k.1.trans h.1, fun i n => (k.2 i n).trans (h.2 i n)⟩
theorem Agree.set {A : List Nat} {a b : St} (h : Agree A a b) {i : Nat} (hi : i ∈ A) (v : Option V) : Agree A a (b.set i v) :=
  ⟨by simp [h.1], fun j n => by rw [List.getElem?_set_ne (fun (e : i = j) => n (e ▸ hi))]; exact h.2 j n⟩
def PostXS (G : GD) (A : List Nat) (σ : St) (R : List Addr) (H : Hp) (W : WX) : T → Heap → Prop := fun e h' => ∀ R' H' c d σ', Lq R H R' H' → HRel G h' R' H' → XR G R' H' e c d → Agree A σ σ' → W c d σ' H'
def PostT (G : GD) (A : List Nat) (σ : St) (R : List Addr) (H : Hp) (D : Ends) : Fl → Heap → Prop := fun fl h' => match fl with
  | .nx ρ => ∀ R' H' σ', Lq R H R' H' → HRel G h' R' H' → ERel G R' H' ρ σ' → Agree A σ σ' → D.nx σ' H'
  | .brk ρ => ∀ R' H' σ', Lq R H R' H' → HRel G h' R' H' → ERel G R' H' ρ σ' → Agree A σ σ' → D.bk σ' H'
  | .cnt ρ => ∀ R' H' σ', Lq R H R' H' → HRel G h' R' H' → ERel G R' H' ρ σ' → Agree A σ σ' → D.ct σ' H'
  | .ret t => ∀ R' H' v, Lq R H R' H' → HRel G h' R' H' → VR G R' H' t v → D.rt v H'
section
variable (G : GD) (K : Cn) (W : WX) (A : List Nat)
def rdS (l : LS) : TS := fun D σ H => ∃ ρ h R, SR G ρ h R σ H ∧ Sat (exS K l ρ h) (PostT G A σ R H D) (PostXS G A σ R H W)
def rdSs (l : List LS) : TS := fun D σ H => ∃ ρ h R, SR G ρ h R σ H ∧ Sat (exSs K l ρ h) (PostT G A σ R H D) (PostXS G A σ R H W)
end
section
variable {G : GD} {K : Cn} {W : WX} {A : List Nat} {ρ : Rho} {h : Heap} {R R' : List Addr} {σ σ' : St} {H H' : Hp} {D : Ends}
theorem PostT.later {fl : Fl} {h' : Heap} (q : Lq R H R' H') (g : Agree A σ σ') (p : PostT G A σ R H D fl h') : PostT G A σ' R' H' D fl h' := by
  cases fl with
  | nx ρ => exact fun R2 H2 s l hr e a => p R2 H2 s (q.trans l) hr e (g.trans a)
  | brk ρ => exact fun R2 H2 s l hr e a => p R2 H2 s (q.trans l) hr e (g.trans a)
  | cnt ρ => exact fun R2 H2 s l hr e a => p R2 H2 s (q.trans l) hr e (g.trans a)
  | ret v => exact fun R2 H2 s l hr e => p R2 H2 s (q.trans l) hr e
theorem PostXS.later {e : T} {h' : Heap} (q : Lq R H R' H') (g : Agree A σ σ') (p : PostXS G A σ R H W e h') : PostXS G A σ' R' H' W e h' := fun R2 H2 c d s l hr x a => p R2 H2 c d s (q.trans l) hr x (g.trans a)
theorem Sat.laterS {r : Rs Fl} (q : Lq R H R' H') (g : Agree A σ σ') (s : Sat r (PostT G A σ R H D) (PostXS G A σ R H W)) : Sat r (PostT G A σ' R' H' D) (PostXS G A σ' R' H' W) :=
  s.imp (fun _ _ p => p.later q g) fun _ _ p => p.later q g
theorem PostXS.at {e : T} {h' : Heap} (p : PostXS G A σ R H W e h') : PostX G R H (At W σ) e h' := fun R' H' c d l hr x => p R' H' c d σ l hr x (Agree.refl _ _)
theorem rdE.bindS {le : LE} {f : T → Heap → Rs Fl} (sr : SR G ρ h R σ H) (o : Sat ((evE K le ρ h).bind f) (PostT G A σ R H D) (PostXS G A σ R H W)) {Q : VK}
    (k : ∀ t h' R' H' v, SR G ρ h' R' σ H' → Lq R H R' H' → VR G R' H' t v → Sat (f t h') (PostT G A σ R' H' D) (PostXS G A σ R' H' W) → Q v H') : rdE G K W le σ H Q :=
  ⟨ρ, h, R, sr, (Sat.bind.mp o).imp (fun t h' s R' H' v lq hr vr => k t h' R' H' v (sr.next lq hr) lq vr (s.laterS lq (Agree.refl _ _))) fun _ _ x => x.at⟩
theorem rdA.bindS {les : List LE} {f : List T → Heap → Rs Fl} (sr : SR G ρ h R σ H) (o : Sat ((evEs K les ρ h).bind f) (PostT G A σ R H D) (PostXS G A σ R H W)) {Q : List V → Hp → Prop}
    (k : ∀ ts h' R' H' vs, ts.length = les.length → SR G ρ h' R' σ H' → Lq R H R' H' → VRs G R' H' ts vs → Sat (f ts h') (PostT G A σ R' H' D) (PostXS G A σ R' H' W) → Q vs H') : rdA G K W les σ H Q :=
  ⟨ρ, h, R, sr, (evEs_len (Sat.bind.mp o)).imp (fun t h' s R' H' v lq hr vr => k t h' R' H' v s.1 (sr.next lq hr) lq vr (s.2.laterS lq (Agree.refl _ _))) fun _ _ x => x.at⟩
theorem rdT.bindS {le : LE} {f : T → Heap → Rs Fl} {g : Bool → Heap → Rs Fl} (sr : SR G ρ h R σ H) (hf : ∀ t h b, truth h t = some b → f t h = g b h) (hn : ∀ t h, truth h t = none → f t h = .stuck)
    (o : Sat ((evE K le ρ h).bind f) (PostT G A σ R H D) (PostXS G A σ R H W)) {Q : Bool → Hp → Prop}
    (k : ∀ b h' R' H', SR G ρ h' R' σ H' → Lq R H R' H' → Sat (g b h') (PostT G A σ R' H' D) (PostXS G A σ R' H' W) → Q b H') : rdT G K W le σ H Q := by
  refine ⟨ρ, h, R, sr, ?_⟩
  rw [Sat.bind] at o ⊢
  refine o.imp (fun t h' s => ?_) fun _ _ x => x.at
  cases e : truth h' t with
  | none => rw [hn _ _ e] at s; exact s.elim
  | some b =>
    rw [hf _ _ _ e] at s
    exact fun R' H' lq hr => k b h' R' H' (sr.next lq hr) lq (s.laterS lq (Agree.refl _ _))
theorem SR.next2 {h' : Heap} (s : SR G ρ h R σ H) (q : Lq R H R' H') (hr : HRel G h' R' H') : SR G ρ h' R' σ H' := s.next q hr
end

/-! ### targets -/
theorem pg_imp {X : L2.Cx} {tg : Expr} {t t' : TG} (h : PG X tg t) (f : ∀ v σ H Q, t' v σ H Q → t v σ H Q) : PG X tg t' := ⟨fun pins s σ H v u Q I r q => h.run pins s σ H v u Q I r (f v σ H Q q)⟩
theorem pg_or {X : L2.Cx} {tg : Expr} {t t' : TG} (h : PG X tg t) (h' : PG X tg t') : PG X tg (fun v σ H Q => t v σ H Q ∨ t' v σ H Q) := ⟨fun pins s σ H v u Q I r q => q.elim (h.run pins s σ H v u Q I r) (h'.run pins s σ H v u Q I r)⟩
section
variable {G : GD} {k : Nat} {X : L2.Cx} {c : Sc} {W : WX} {K : Cn} {A : List Nat}
theorem GX.loc (g : GX G k X c W) {x : Str} (h : isLoc c x = true) : Loc X.env.scope x ∧ (X.fn x = true ∨ X.env.scope.names.lookup x = some .local) := by
  simp only [isLoc, Bool.or_eq_true, decide_eq_true_eq] at h
  rcases h with q | q
  · have := g.sc1 x _ (by decide) q
    exact ⟨.inl this, .inr this⟩
  · exact ⟨.inr (g.sc1 x _ (by decide) q), .inl (g.fnc x q)⟩
/-- slots set one after another -/
abbrev sets {α : Type} (ρ : List (Option α)) (is : List Nat) (xs : List α) : List (Option α) := (is.zip xs).foldl (fun r p => r.set p.1 (some p.2)) ρ
theorem ERel.sets {R : List Addr} {H : Hp} : ∀ {is : List Nat} {xs : List T} {vs : List V} {ρ : Rho} {σ : St}, ERel G R H ρ σ → VRs G R H xs vs → ERel G R H (sets ρ is xs) (sets σ is vs)
  | [], _, _, _, _, e, _ => by simpa [Lite.sets] using e
  | _ :: _, _, _, _, _, e, .nil => by simpa [Lite.sets] using e
  | i :: is, _, _, _, _, e, .cons h r => by
    simp only [Lite.sets, List.zip_cons_cons, List.foldl_cons]
    exact ERel.sets (e.set i h) r
theorem Agree.sets {a : St} : ∀ {is : List Nat} {vs : List V} {b : St}, Agree A a b → (∀ i ∈ is, i ∈ A) → Agree A a (sets b is vs)
  | [], _, _, e, _ => by simpa [Lite.sets] using e
  | _ :: _, [], _, e, _ => by simpa [Lite.sets] using e
  | i :: is, v :: vs, _, e, hi => by
    simp only [Lite.sets, List.zip_cons_cons, List.foldl_cons]
    exact Agree.sets (e.set (hi i (by simp)) _) fun j hj => hi j (by simp [hj])
theorem chkNs_mem : ∀ {is : List Nat} {es : List Expr}, chkNs c A is es = true → ∀ i ∈ is, i ∈ A
  | [], _, _, i, hi => by simp at hi
  | j :: is, [], h, _, _ => by simp [chkNs] at h
  | j :: is, e :: es, h, i, hi => by
    cases e <;> simp [chkNs] at h
    rcases List.mem_cons.mp hi with q | q
    · subst q; exact h.1.2
    · exact chkNs_mem h.2 i q
theorem chkNs_each {env : PySem.Env} : ∀ {is : List Nat} {es : List Expr}, chkNs c A is es = true → (assignEach es env).length = is.length ∧ (assignEach es env).findIdx? (·.1) = none
  | [], [], _ => ⟨rfl, rfl⟩
  | [], _ :: _, h => by simp [chkNs] at h
  | j :: is, [], h => by simp [chkNs] at h
  | j :: is, e :: es, h => by
    cases e <;> simp [chkNs] at h
    rename_i x p
    obtain ⟨h1, h2⟩ := chkNs_each (env := env) h.2
    have e1 : assignEach (.Name x p :: es) env = (false, assign (.Name x p) env) :: assignEach es env := rfl
    rw [e1]
    exact ⟨by simp [h1], by simp [List.findIdx?_cons, h2]⟩
def gSets (is : List Nat) : TGs := fun vs σ H Q => vs.length = is.length ∧ Q (sets σ is vs) H
theorem pgs_names (g : GX G k X c W) : ∀ {is : List Nat} {es : List Expr}, chkNs c A is es = true → PGs X es (gSets is)
  | [], [], _ => ⟨fun pins s σ H vs us Q I r h => pgs_nil.run pins s σ H vs us Q I r ⟨by have := h.1; cases vs <;> simp at this; rfl, by have := h.2; simpa [Lite.sets] using this⟩⟩
  | [], _ :: _, h => by simp [chkNs] at h
  | j :: is, [], h => by simp [chkNs] at h
  | j :: is, e :: es, h => by
    cases e <;> simp [chkNs] at h
    rename_i x p
    obtain ⟨l1, l2⟩ := g.loc h.1.1.2
    have h1 : PG X (.Name x p) (gName j) := pg_name (by rw [g.N]; exact g.nd) (by rw [g.N]; exact h.1.1.1) l1 l2
    refine ⟨fun pins s σ H vs us Q I r hq => (pgs_cons h1 (pgs_names g h.2)).run pins s σ H vs us Q I r ?_⟩
    cases vs with
    | nil => simp [gSets] at hq
    | cons v vs =>
      refine ⟨v, vs, rfl, ?_, ?_⟩
      · have := hq.1; simpa using this
      · have := hq.2; simpa [Lite.sets] using this
/-- a target, by ours -/
def rdG (G : GD) (A : List Nat) (tg : Tg) : TG := fun v σ H Q => ∃ ρ h R x ρ', SR G ρ h R σ H ∧ VR G R H x v ∧ bindTg tg x h ρ = some ρ' ∧ ∀ σ', ERel G R H ρ' σ' → Agree A σ σ' → Q σ' H
theorem soundG (g : GX G k X c W) {tg : Tg} {e : Expr} (h : chkG c A tg e = true) : PG X e (rdG G A tg) := by
  unfold chkG at h
  split at h
  · simp only [Bool.and_eq_true, decide_eq_true_eq] at h
    obtain ⟨l1, l2⟩ := g.loc h.1.2
    refine pg_imp (pg_name (by rw [g.N]; exact g.nd) (by rw [g.N]; exact h.1.1) l1 l2) fun v σ H Q ⟨ρ, h0, R, x, ρ', sr, vr, e, q⟩ => ?_
    cases e
    exact q _ (sr.er.set _ vr) ((Agree.refl _ _).set (by simpa using h.2) _)
  · rename_i is es _ _
    obtain ⟨h1, h2⟩ := chkNs_each (env := X.env) h
    refine pg_imp (pg_or (pg_tup g.calm (pgs_names g h) h1 h2) (pg_lst g.calm (pgs_names g h) h1 h2)) fun v σ H Q ⟨ρ, h0, R, x, ρ', sr, vr, e, q⟩ => ?_
    simp only [bindTg] at e
    split at e
    · rename_i xs ev
      split at e <;> (try (cases e; done))
      rename_i hl
      cases e
      obtain ⟨a, vs, rfl, hq, rs⟩ := view_tup sr.hr vr ev
      have hl2 : vs.length = is.length := by rw [← rs.length]; exact hl
      exact .inl ⟨a, vs, rfl, by rw [g.s5.K]; exact hq, hl2, hl2, q _ (sr.er.sets rs) ((Agree.refl _ _).sets (chkNs_mem h))⟩
    · rename_i xs ev
      split at e <;> (try (cases e; done))
      rename_i hl
      cases e
      obtain ⟨a, vs, rfl, hq, rs⟩ := view_lst sr.hr vr ev
      have hl2 : vs.length = is.length := by rw [← rs.length]; exact hl
      exact .inr ⟨a, vs, rfl, by rw [g.s5.K]; exact hq.sq, hl2, hl2, q _ (sr.er.sets rs) ((Agree.refl _ _).sets (chkNs_mem h))⟩
    · cases e
  · cases h

/-! ### what is walked -/
/-- what an iterator yields is ours -/
def Steps (G : GD) (J : It) (xs : List T) (ok : Heap → Bool) (R1 : List Addr) (H1 : Hp) : Prop := ∀ i h R H, Lf R1 H1 R H → HRel G h R H → ok h = true →
  (xs.length ≤ i → J.stop i H) ∧ ∀ x, xs[i]? = some x → J.go i H ∧ ∀ v H', J.yld i H v H' → Lq R H R H' ∧ HRel G h R H' ∧ VR G R H' x v
theorem Steps.mono {J : It} {xs : List T} {ok : Heap → Bool} {R R' : List Addr} {H H' : Hp} (s : Steps G J xs ok R H) (q : Lq R H R' H') : Steps G J xs ok R' H' := fun i h R2 H2 l => s i h R2 H2 (q.lf.trans l)
def rdI (G : GD) (K : Cn) (W : WX) (kd : String) (es : List LE) : TI := fun σ H Q => ∃ ρ h R, SR G ρ h R σ H ∧
  Sat ((evEs K es ρ h).bind fun xs h => Rs.of (walked kd h xs) h) (fun p h' => ∀ R' H' J, Lq R H R' H' → HRel G h' R' H' → Steps G J p.1 (still p.2) R' H' → Q J H') (PostX G R H (At W σ))
theorem pi_imp {tg it : Expr} {t t' : TI} (h : PI X tg it t) (f : ∀ σ H Q, t' σ H Q → t σ H Q) : PI X tg it t' := ⟨fun pins s σ H R I q => h.run pins s σ H R I (f σ H R q)⟩
theorem rdI.bindA {kd : String} {es : List LE} {σ : St} {H : Hp} {Q : It → Hp → Prop} (o : rdI G K W kd es σ H Q) {P : List V → Hp → Prop}
    (k : ∀ ts h' R' H' vs xs gs, ts.length = es.length → HRel G h' R' H' → VRs G R' H' ts vs → walked kd h' ts = some (xs, gs) → (∀ J, Steps G J xs (still gs) R' H' → Q J H') → P vs H') : rdA G K W es σ H P := by
  obtain ⟨ρ, h, R, sr, o⟩ := o
  refine ⟨ρ, h, R, sr, (evEs_len (Sat.bind.mp o)).imp (fun ts h' s R' H' vs lq hr vr => ?_) fun _ _ x => x⟩
  obtain ⟨p, e, q⟩ := s.2.of
  exact k ts h' R' H' vs p.1 p.2 s.1 hr vr e fun J st => q R' H' J lq hr st
theorem still_one {x y : T} {h : Heap} (e : still [(x, y)] h = true) : view h x = some y := by simpa [still] using e
theorem still_two {x y z w : T} {h : Heap} (e : still [(x, z), (y, w)] h = true) : view h x = some z ∧ view h y = some w := by simpa [still] using e
theorem view_dct {R : List Addr} {H : Hp} {h : Heap} {t : T} {v : V} {ks ys : List T} (hr : HRel G h R H) (r : VR G R H t v) (e : view h t = some (.dct ks ys)) : ∃ a es, v = .ref a ∧ (H a = some (DX a es) ∨ FzD G.K H a es) ∧ DE G R H ks ys es := by
  cases r <;> (try (cases e; done))
  · rename_i a es h1 h2
    cases e
    exact ⟨a, es, rfl, .inr h1, h2⟩
  · rename_i n a h1
    rw [view_loc] at e
    split at e <;> (try (cases e; done))
    rename_i ks' vs' e1
    cases e
    obtain ⟨es, e2, r2⟩ := hr.obj _ _ a e1 h1
    exact ⟨a, es, rfl, .inl e2, r2⟩
theorem walk_val {tg it : Expr} {te : TE} (he : PE X it te) : PI X tg it (fun σ H Q => te σ H fun x H1 => (∃ a, x = .ref a ∧ ((∃ xs, SqL X.K H1 a xs) ∧ Q (Itl X.K a) H1 ∨ (∃ xs, SqT X.K H1 a xs) ∧ Q (Itt X.K a) H1)) ∨ ∃ z, x = .str z ∧ Q (Its z) H1) := by
  refine ⟨fun pins s σ H Q I h => thn (he.run pins s σ H _ I h) fun u s1 ⟨x, H1, I1, r1, q1⟩ => ?_⟩
  rcases q1 with ⟨a, rfl, ⟨⟨xs, hq⟩, q⟩ | ⟨⟨xs, hq⟩, q⟩⟩ | ⟨z, rfl, q⟩
  · cases r1
    obtain ⟨its, rv, p, hz⟩ := I1.list hq
    exact wpAny_pyIter_list p.isList (pi_one (tk := s1.toks) I1 _ (turn_list a _) ⟨_, Heap.get?_push_size _ rfl, rfl, rfl⟩ q)
  · cases r1
    obtain ⟨its, rv, p, hz⟩ := I1.tuple hq
    exact wpAny_pyIter_tuple (show s1.heap.IsTuple a its.toArray from p) (pi_one (tk := s1.toks) I1 _ (turn_tuple a _) ⟨_, Heap.get?_push_size _ rfl, rfl, rfl⟩ q)
  · obtain ⟨t, rfl⟩ := r1
    cases ha : z.cps.all (· < 128) with
    | false => exact wpAny_pyIter_wide ha (pi_one (tk := s1.toks) I1 _ (turn_str _ z t "str_iterator" (.inr rfl)) ⟨_, Heap.get?_push_size _ rfl, rfl, rfl⟩ q)
    | true => exact wpAny_pyIter_ascii ha (pi_one (tk := s1.toks) I1 _ (turn_str _ z t "str_ascii_iterator" (.inl rfl)) ⟨_, Heap.get?_push_size _ rfl, rfl, rfl⟩ q)
theorem ref_lst {R : List Addr} {H : Hp} {h : Heap} {t : T} {a : Addr} {ys : List T} (hr : HRel G h R H) (vr : VR G R H t (.ref a)) (e : view h t = some (.lst ys)) : ∃ vs, SqL G.K H a vs ∧ VRs G R H ys vs := by
  obtain ⟨a', vs, e1, h1, h2⟩ := view_lst hr vr e
  cases e1
  exact ⟨vs, h1.sq, h2⟩
theorem ref_tup {R : List Addr} {H : Hp} {h : Heap} {t : T} {a : Addr} {ys : List T} (hr : HRel G h R H) (vr : VR G R H t (.ref a)) (e : view h t = some (.tup ys)) : ∃ vs, SqT G.K H a vs ∧ VRs G R H ys vs := by
  obtain ⟨a', vs, e1, h1, h2⟩ := view_tup hr vr e
  cases e1
  exact ⟨vs, h1, h2⟩
theorem step_lst {R1 : List Addr} {H1 : Hp} {t : T} {a : Addr} {ys : List T} (vr : VR G R1 H1 t (.ref a)) : Steps G (Itl G.K a) ys (still [(t, .lst ys)]) R1 H1 := fun i h R H lq hr ok => by
  obtain ⟨vs, h1, h2⟩ := ref_lst hr (vr.monoF lq) (still_one ok)
  refine ⟨fun hl => ⟨vs, h1, by rw [← h2.length]; exact hl⟩, fun x hx => ?_⟩
  obtain ⟨v, e1, r1⟩ := h2.get hx
  refine ⟨⟨vs, v, h1, e1⟩, fun v' H' ⟨e, q⟩ => ?_⟩
  subst e
  have := q vs h1
  rw [e1] at this
  cases this
  exact ⟨Lq.refl _ _, hr, r1⟩
theorem step_tup {R1 : List Addr} {H1 : Hp} {t : T} {a : Addr} {ys : List T} (vr : VR G R1 H1 t (.ref a)) : Steps G (Itt G.K a) ys (still [(t, .tup ys)]) R1 H1 := fun i h R H lq hr ok => by
  obtain ⟨vs, h1, h2⟩ := ref_tup hr (vr.monoF lq) (still_one ok)
  refine ⟨fun hl => ⟨vs, h1, by rw [← h2.length]; exact hl⟩, fun x hx => ?_⟩
  obtain ⟨v, e1, r1⟩ := h2.get hx
  refine ⟨⟨vs, v, h1, e1⟩, fun v' H' ⟨e, q⟩ => ?_⟩
  subst e
  have := q vs h1
  rw [e1] at this
  cases this
  exact ⟨Lq.refl _ _, hr, r1⟩
theorem step_str {R1 : List Addr} {H1 : Hp} {s : List Nat} {ok : Heap → Bool} : Steps G (Its (tx s)) (s.map fun c => T.str [c]) ok R1 H1 := fun i h R H lq hr _ => by
  refine ⟨fun hl => by show (tx s).cps.size ≤ i; simpa [tx] using hl, fun x hx => ⟨?_, fun v H' ⟨e, c, q, e2⟩ => ?_⟩⟩
  · have := (List.getElem?_eq_some_iff.mp hx).1
    show i < (tx s).cps.size
    simpa [tx] using this
  · subst e e2
    have q' : s[i]? = some c := by simpa [tx] using q
    rw [List.getElem?_map, q'] at hx
    cases hx
    exact ⟨Lq.refl _ _, hr, .str [c]⟩
theorem step_range {R1 : List Addr} {H1 : Hp} {lo hi : Int} {ok : Heap → Bool} : Steps G (Itr lo (hi - lo).toNat) (rangeT lo hi) ok R1 H1 := fun i h R H lq hr _ => by
  refine ⟨fun hl => by show (hi - lo).toNat ≤ i; simpa [rangeT] using hl, fun x hx => ⟨?_, fun v H' ⟨e, e2⟩ => ?_⟩⟩
  · have := (List.getElem?_eq_some_iff.mp hx).1
    show i < (hi - lo).toNat
    simpa [rangeT] using this
  · subst e e2
    have hi := (List.getElem?_eq_some_iff.mp hx).1
    simp only [rangeT, List.length_map, List.length_range] at hi
    simp only [rangeT, List.getElem?_map, List.getElem?_range hi] at hx
    cases hx
    exact ⟨Lq.refl _ _, hr, .int _⟩
theorem enumT_get : ∀ {xs : List T} {i k : Nat} {x : T}, (enumT k xs)[i]? = some x → ∃ y, xs[i]? = some y ∧ x = .tup [.int ((k + i : Nat) : Int), y]
  | [], i, k, x, h => by simp [enumT] at h
  | y :: ys, 0, k, x, h => by simp [enumT] at h; exact ⟨y, by simp, h.symm⟩
  | y :: ys, i + 1, k, x, h => by
    simp [enumT] at h
    obtain ⟨z, h1, h2⟩ := enumT_get h
    refine ⟨z, by simpa using h1, ?_⟩
    rw [h2]
    congr 3
    omega
theorem enumT_len : ∀ (xs : List T) (k : Nat), (enumT k xs).length = xs.length
  | [], _ => rfl
  | x :: xs, k => by simp [enumT, enumT_len xs]
theorem newTup {R : List Addr} {H : Hp} {h : Heap} (hr : HRel G h R H) {p : Addr} (hp : H p = none) {xs : List T} {vs : List V} (r : VRs G R H xs vs) : Lq R H R (upd H p (.tup vs)) ∧ HRel G h R (upd H p (.tup vs)) ∧ VR G R (upd H p (.tup vs)) (.tup xs) (.ref p) := by
  have k : ∀ b o, H b = some o → upd H p (.tup vs) b = some o := fun b o e => by rw [upd_ne (ne_of_none e hp)]; exact e
  exact ⟨Lq.all k, hr.grow k, .tup (.inl (.inl upd_same)) (r.mono (Lq.all k))⟩
theorem step_enum {R1 : List Addr} {H1 : Hp} {t : T} {a : Addr} {ys : List T} (vr : VR G R1 H1 t (.ref a)) : Steps G (Ite G.K a) (enumT 0 ys) (still [(t, .lst ys)]) R1 H1 := fun i h R H lq hr ok => by
  obtain ⟨vs, h1, h2⟩ := ref_lst hr (vr.monoF lq) (still_one ok)
  refine ⟨fun hl => ⟨vs, h1, by rw [← h2.length]; rw [enumT_len] at hl; exact hl⟩, fun x hx => ?_⟩
  obtain ⟨y, hy, rfl⟩ := enumT_get hx
  obtain ⟨v, e1, r1⟩ := h2.get hy
  refine ⟨⟨vs, v, h1, e1⟩, fun v' H' ⟨p, w, e, hp, e2, q⟩ => ?_⟩
  subst e e2
  have := q vs h1
  rw [e1] at this
  cases this
  have := newTup hr hp (.cons (.int (i : Int)) (.cons r1 .nil))
  simpa using this
theorem zipT_get : ∀ {xs ys : List T} {i : Nat} {x : T}, (zipT xs ys)[i]? = some x → ∃ y z, xs[i]? = some y ∧ ys[i]? = some z ∧ x = .tup [y, z]
  | [], _, i, x, h => by simp [zipT] at h
  | _ :: _, [], i, x, h => by simp [zipT] at h
  | y :: ys, z :: zs, 0, x, h => by simp [zipT] at h; exact ⟨y, z, by simp, by simp, h.symm⟩
  | y :: ys, z :: zs, i + 1, x, h => by
    simp [zipT] at h
    obtain ⟨u, w, h1, h2, h3⟩ := zipT_get h
    exact ⟨u, w, by simpa using h1, by simpa using h2, h3⟩
theorem zipT_len : ∀ (xs ys : List T), (zipT xs ys).length = min xs.length ys.length
  | [], _ => by simp [zipT]
  | _ :: _, [] => by simp [zipT]
  | x :: xs, y :: ys => by simp [zipT, zipT_len xs ys, Nat.succ_min_succ]
theorem step_zip {R1 : List Addr} {H1 : Hp} {t u : T} {a b : Addr} {ys zs : List T} (vr : VR G R1 H1 t (.ref a)) (vu : VR G R1 H1 u (.ref b)) : Steps G (Itz G.K a b) (zipT ys zs) (still [(t, .lst ys), (u, .lst zs)]) R1 H1 := fun i h R H lq hr ok => by
  obtain ⟨ok1, ok2⟩ := still_two ok
  obtain ⟨vs, h1, h2⟩ := ref_lst hr (vr.monoF lq) ok1
  obtain ⟨us, k1, k2⟩ := ref_lst hr (vu.monoF lq) ok2
  refine ⟨fun hl => ⟨vs, us, h1, k1, ?_⟩, fun x hx => ?_⟩
  · rw [zipT_len] at hl
    rw [← h2.length, ← k2.length]
    omega
  obtain ⟨y, z, hy, hz, rfl⟩ := zipT_get hx
  obtain ⟨v, e1, r1⟩ := h2.get hy
  obtain ⟨w, f1, s1⟩ := k2.get hz
  refine ⟨⟨vs, us, v, w, h1, k1, e1, f1⟩, fun v' H' ⟨p, x1, y1, e, hp, e2, q1, q2⟩ => ?_⟩
  subst e e2
  have t1 := q1 vs h1
  have t2 := q2 us k1
  rw [e1] at t1
  rw [f1] at t2
  cases t1
  cases t2
  exact newTup hr hp (.cons r1 (.cons s1 .nil))
theorem vr_ref {R : List Addr} {H : Hp} {h : Heap} {t : T} {v : V} {ys : List T} (hr : HRel G h R H) (vr : VR G R H t v) (e : view h t = some (.lst ys)) : ∃ a vs, v = .ref a ∧ SqL G.K H a vs := by
  obtain ⟨a, vs, e1, h1, h2⟩ := view_lst hr vr e
  exact ⟨a, vs, e1, h1.sq⟩
theorem walk_one (g : GX G k X c W) {tg it : Expr} {le : LE} (he : PE X it (rdE G K W le)) : PI X tg it (rdI G K W "" [le]) := by
  refine pi_imp (walk_val he) fun σ H Q ⟨ρ, h, R, sr, o⟩ => ?_
  refine ⟨ρ, h, R, sr, ?_⟩
  have o1 := Sat.bind.mp o
  unfold evEs at o1
  refine (Sat.bind.mp o1).imp (fun t h' s R' H' v lq hr vr => ?_) fun _ _ x => x
  unfold evEs at s
  obtain ⟨p, e, q⟩ := Sat.of s
  simp only [walked, if_true] at e
  split at e
  · rename_i ys ev
    cases e
    obtain ⟨a, vs, rfl, h1, h2⟩ := view_lst hr vr ev
    exact .inl ⟨a, rfl, .inl ⟨⟨vs, by rw [g.s5.K]; exact h1.sq⟩, q R' H' _ lq hr (by rw [g.s5.K]; exact step_lst vr)⟩⟩
  · rename_i ys ev
    cases e
    obtain ⟨a, vs, rfl, h1, h2⟩ := view_tup hr vr ev
    exact .inl ⟨a, rfl, .inr ⟨⟨vs, by rw [g.s5.K]; exact h1⟩, q R' H' _ lq hr (by rw [g.s5.K]; exact step_tup vr)⟩⟩
  · rename_i ys ev
    cases e
    obtain rfl := view_str vr ev
    exact .inr ⟨_, rfl, q R' H' _ lq hr step_str⟩
  · cases e
theorem big62_iff {i : Int} : big62 i = true ↔ -(2 ^ 62) ≤ i ∧ i < 2 ^ 62 := by simp [big62]
theorem walk_range (s : SX G k X c W K) {tg : Expr} {x : Str} {es : List LE} {xs : List Expr} {p pos : Pos} (hx : x = ("range" : Str)) (hg : isGlob c x = true) (hl : xs.length = 1 ∨ xs.length = 2) (hc : chkEs c es xs = true) (ha : PA X xs (rdA G K W es)) : PI X tg (.Call (.Name x p) xs [] pos) (rdI G K W "range" es) := by
  subst hx
  obtain ⟨hg1, hg2⟩ := s.g.gl hg
  have hm : X.mg ("range" : Str) = none := by rw [s.g.s5.mg]; exact s.ok.free "range" (by decide)
  match xs, es, hl, hc, ha with
  | [a], [l], _, hc, ha =>
    simp only [chkEs, Bool.and_eq_true] at hc
    refine pi_imp (pi_range1 hg1 hm ha (star_cons hc.1.1)) fun σ H Q o => ?_
    refine o.bindA fun ts h' R' H' vs ys gs hl hr vr e q => ?_
    simp only [walked] at e
    simp (config := { decide := true }) only [if_false, if_true] at e
    split at e <;> (try (cases e; done))
    · rename_i j
      split at e <;> (try (cases e; done))
      rename_i hb
      cases e
      obtain ⟨v, rfl, r⟩ := vr.one
      cases r
      have := big62_iff.mp hb
      refine ⟨j, rfl, this.1, this.2, q _ ?_⟩
      have z := step_range (G := G) (R1 := R') (H1 := H') (lo := 0) (hi := j) (ok := still [])
      rw [Int.sub_zero] at z
      exact z
    · simp at hl
  | [a, b], [l, m], _, hc, ha =>
    simp only [chkEs, Bool.and_eq_true] at hc
    refine pi_imp (pi_range2 hg1 hm ha (by rw [star_cons hc.1.1, star_cons hc.2.1.1]; rfl) (star_cons hc.2.1.1)) fun σ H Q o => ?_
    refine o.bindA fun ts h' R' H' vs ys gs hl hr vr e q => ?_
    simp only [walked] at e
    simp (config := { decide := true }) only [if_false, if_true] at e
    split at e <;> (try (cases e; done))
    · simp at hl
    · rename_i i j
      split at e <;> (try (cases e; done))
      rename_i hb
      cases e
      obtain ⟨v, w, rfl, r1, r2⟩ := vr.two
      cases r1
      cases r2
      simp only [Bool.and_eq_true] at hb
      have h1 := big62_iff.mp hb.1
      have h2 := big62_iff.mp hb.2
      exact ⟨i, j, rfl, ⟨h1.1, h1.2, h2.1, h2.2⟩, q _ step_range⟩
  | [a], [], _, hc, _ => simp [chkEs] at hc
  | [a], _ :: _ :: _, _, hc, _ => simp [chkEs] at hc
  | [a, b], [], _, hc, _ => simp [chkEs] at hc
  | [a, b], [_], _, hc, _ => simp [chkEs] at hc
  | [a, b], _ :: _ :: _ :: _, _, hc, _ => simp [chkEs] at hc
  | [], _, hl, _, _ => simp at hl
  | _ :: _ :: _ :: _, _, hl, _, _ => simp at hl
theorem walk_enum (s : SX G k X c W K) {es0 : List Expr} {kk : Nat} {tp : Pos} {x : Str} {l : LE} {e : Expr} {p pos : Pos} (hx : x = ("enumerate" : Str)) (hg : isGlob c x = true) (hp : plainE e = true) (ha : PA X [e] (rdA G K W [l])) : PI X (.Tuple es0 kk tp) (.Call (.Name x p) [e] [] pos) (rdI G K W "enumerate" [l]) := by
  subst hx
  obtain ⟨hg1, hg2⟩ := s.g.gl hg
  have hm : X.mg ("enumerate" : Str) = none := by rw [s.g.s5.mg]; exact s.ok.free "enumerate" (by decide)
  refine pi_imp (pi_enum hg1 hm ha (star_cons hp)) fun σ H Q o => ?_
  refine o.bindA fun ts h' R' H' vs ys gs hl hr vr e q => ?_
  simp only [walked] at e
  simp (config := { decide := true }) only [if_false, if_true] at e
  split at e <;> (try (cases e; done))
  split at e <;> (try (cases e; done))
  rename_i ev
  cases e
  obtain ⟨v, rfl, r⟩ := vr.one
  obtain ⟨a, us, rfl, h1⟩ := vr_ref hr r ev
  exact ⟨a, us, rfl, by rw [s.g.s5.K]; exact h1, q _ (by rw [s.g.s5.K]; exact step_enum r)⟩
theorem walk_zip (s : SX G k X c W K) {es0 : List Expr} {kk : Nat} {tp : Pos} {x : Str} {l l2 : LE} {e e2 : Expr} {p pos : Pos} (hx : x = ("zip" : Str)) (hg : isGlob c x = true) (hp : plainE e = true) (hp2 : plainE e2 = true) (ha : PA X [e, e2] (rdA G K W [l, l2])) :
    PI X (.Tuple es0 kk tp) (.Call (.Name x p) [e, e2] [] pos) (rdI G K W "zip" [l, l2]) := by
  subst hx
  obtain ⟨hg1, hg2⟩ := s.g.gl hg
  have hm : X.mg ("zip" : Str) = none := by rw [s.g.s5.mg]; exact s.ok.free "zip" (by decide)
  refine pi_imp (pi_zip hg1 hm ha (star_cons hp) (by rw [star_cons hp2]; rfl)) fun σ H Q o => ?_
  refine o.bindA fun ts h' R' H' vs ys gs hl hr vr e q => ?_
  simp only [walked] at e
  simp (config := { decide := true }) only [if_false, if_true] at e
  split at e <;> (try (cases e; done))
  split at e <;> (try (cases e; done))
  rename_i ev ev2
  cases e
  obtain ⟨v, w, rfl, r1, r2⟩ := vr.two
  obtain ⟨a, us, rfl, h1⟩ := vr_ref hr r1 ev
  obtain ⟨b, ws, rfl, h2⟩ := vr_ref hr r2 ev2
  exact ⟨a, b, us, ws, rfl, by rw [s.g.s5.K]; exact h1, by rw [s.g.s5.K]; exact h2, q _ (by rw [s.g.s5.K]; exact step_zip r1 r2)⟩
end
end Lite

/-! LITE, 11b: comprehensions. -/
namespace Lite
open PySem L2 PySem.Spec
open PyProof.Rows hiding St

/-- no exception is wanted -/
abbrev W0 : WX := fun _ _ _ _ => False
theorem relab_free {env : PySem.Env} : ∀ {names : List (Str × NameKind)} {x : Str}, names.lookup x = some .free →
    (names.map fun (n, k) => if (k == NameKind.free && env.scope.kind == .function && env.kindOf n == some .cell) then (n, NameKind.cell) else (n, k)).lookup x = some .free ∨
    (names.map fun (n, k) => if (k == NameKind.free && env.scope.kind == .function && env.kindOf n == some .cell) then (n, NameKind.cell) else (n, k)).lookup x = some .cell
  | [], _, h => by simp at h
  | (n, k) :: r, x, h => by
    have ih := @relab_free env r x
    rw [List.map_cons]
    simp only [List.lookup_cons] at h
    cases e : x == n with
    | true =>
      rw [e] at h
      cases h
      by_cases hc : (NameKind.free == NameKind.free && env.scope.kind == .function && env.kindOf n == some .cell) = true
      · right
        simp only [hc, if_true, List.lookup_cons, e]
      · left
        simp only [if_neg hc, List.lookup_cons, e]
    | false =>
      rw [e] at h
      have h2 := ih h
      by_cases hc : (k == NameKind.free && env.scope.kind == .function && env.kindOf n == some .cell) = true
      · simp only [hc, if_true, List.lookup_cons, e]; exact h2
      · simp only [if_neg hc, List.lookup_cons, e]; exact h2
theorem relab_keep {env : PySem.Env} : ∀ {names : List (Str × NameKind)} {x : Str} {k0 : NameKind}, k0 ≠ .free → names.lookup x = some k0 →
    (names.map fun (n, k) => if (k == NameKind.free && env.scope.kind == .function && env.kindOf n == some .cell) then (n, NameKind.cell) else (n, k)).lookup x = some k0
  | [], _, _, _, h => by simp at h
  | (n, k) :: r, x, k0, hk, h => by
    have ih := @relab_keep env r x k0 hk
    rw [List.map_cons]
    simp only [List.lookup_cons] at h
    cases e : x == n with
    | true =>
      rw [e] at h
      cases h
      have hc : ¬ (k == NameKind.free && env.scope.kind == .function && env.kindOf n == some .cell) = true := by
        intro z
        simp only [Bool.and_eq_true, beq_iff_eq] at z
        exact hk z.1.1
      simp only [if_neg hc, List.lookup_cons, e]
    | false =>
      rw [e] at h
      have h2 := ih h
      by_cases hc : (k == NameKind.free && env.scope.kind == .function && env.kindOf n == some .cell) = true
      · simp only [hc, if_true, List.lookup_cons, e]; exact h2
      · simp only [if_neg hc, List.lookup_cons, e]; exact h2
section
variable {G : GD} {k : Nat} {X : L2.Cx} {c : Sc} {W : WX} {K : Cn}
/-- a comprehension's block -/
theorem SX.blk (s : SX G k X c W K) (scope : Scope) (s0 : Shared) (H : Hp) (C : Addr) (cl : List (Str × Addr)) (fp : List Addr) : SX G k (X.blk s0 H scope (compEnvC scope cl C X.env) fp) { c with sc := scope } W0 K where
  ok := s.ok
  P := s.P
  kn := s.kn
  calls := s.calls
  g := {
    s5 := ⟨s.g.s5.prog, s.g.s5.w, s.g.s5.K, s.g.s5.mg, s.g.s5.base⟩
    room := s.g.room
    gd := s.g.gd
    calm := s.g.calm
    nm := s.g.nm
    N := s.g.N
    nd := s.g.nd
    sc1 := fun x kd hk h => relab_keep hk h
    sc2 := fun x h => relab_free h
    fnc := fun x h => by
      have h' : scope.names.lookup x = some .cell := h
      show (scope.names.lookup x == some .cell) = true
      rw [h']
      rfl
    tk := fun u s' ⟨_, _, _, _, _, _, _, _, _, _, _, _, _, _, _, _, w⟩ => w
    po := PassesOwn.never }
theorem blk_ok (g : GX G k X c W) {scope : Scope} {own : List (Str × Nat)} (h : blkC c.N c.sc scope own = true) : BlkOk X.N X.env.scope scope own := by
  have b := blkOk_by h
  refine ⟨b.kind, b.uniq, fun p hp => by rw [g.N]; exact b.ix p hp, fun y hy e => ?_, fun y hy e => by rw [g.N]; exact b.own y hy e⟩
  rcases b.free y hy e with z | z
  · exact .inl (g.sc1 _ _ (by decide) z)
  · exact (g.sc2 _ z).symm
theorem wipe_in {σ : St} {i : Nat} : ∀ {vs : List Nat}, i ∈ vs → i < σ.length → (L2.wipe σ vs)[i]? = some none
  | [], h, _ => by simp at h
  | v :: vs, h, hl => by
    show ((L2.wipe σ vs).set v none)[i]? = _
    by_cases e : v = i
    · subst e
      rw [List.getElem?_set_self (by rw [wipe_length]; exact hl)]
    · rw [List.getElem?_set_ne e]
      rcases List.mem_cons.mp h with z | z
      · exact absurd z.symm e
      · exact wipe_in z hl
theorem wipe_agree {σ σ2 : St} {vs : List Nat} (a : Agree vs (L2.wipe σ vs) σ2) : L2.wipe σ2 vs = L2.wipe σ vs := by
  have hl : σ2.length = σ.length := by rw [a.1, wipe_length]
  refine List.ext_getElem? fun i => ?_
  by_cases hi : i ∈ vs
  · by_cases hlt : i < σ.length
    · rw [wipe_in hi hlt, wipe_in hi (by omega)]
    · rw [List.getElem?_eq_none (by rw [wipe_length]; omega), List.getElem?_eq_none (by rw [wipe_length]; omega)]
  · rw [wipe_out hi, a.2 i hi]
theorem wipe_eq (ρ : Rho) : ∀ own : List Nat, Lite.wipe ρ own = own.foldr (fun i r => r.set i none) ρ := fun _ => rfl

/-! ### tests -/
def rdIf (G : GD) (K : Cn) (W : WX) (ifs : List LE) : TT := fun σ H Q => ∃ ρ h R, SR G ρ h R σ H ∧ Sat (evIfs K ifs ρ h) (PostB G R H Q) (PostX G R H (At W σ))
theorem ifs_nil : PTs X [] (rdIf G K W []) := ⟨fun pins s σ H Q I ⟨ρ, h, R, sr, o⟩ => pts_nil.run pins s σ H Q I (by
  unfold evIfs at o
  exact o R H (Lq.refl _ _) sr.hr)⟩
theorem ifs_one {l : LE} {e : Expr} (h : PT X e (rdT G K W l)) : PTs X [e] (rdIf G K W [l]) := ⟨fun pins s σ H Q I ⟨ρ, h0, R, sr, o⟩ => (pts_one h).run pins s σ H Q I ⟨ρ, h0, R, sr, by
  unfold evIfs at o
  refine Sat.bind.mpr ((Sat.bind.mp o).imp (fun t h' s => ?_) fun _ _ z => z)
  cases e1 : truth h' t with
  | none => rw [e1] at s; exact s.elim
  | some b =>
    rw [e1] at s
    cases b with
    | true => unfold evIfs at s; exact s
    | false => exact s⟩⟩
theorem Sat.calm {α : Type} {r : Rs α} {Q : α → Heap → Prop} {E E' : T → Heap → Prop} (s : Sat r.calm Q E) : Sat r Q E' := by
  cases r with
  | ok a h => exact s
  | exc e h => exact s.elim
  | stuck => exact s.elim

/-! ### one clause -/
/-- a turn's state: the places, the new list at D -/
structure TurnS (G : GD) (R1 : List Addr) (H1 : Hp) (D : Addr) (acc : List T) (h : Heap) (R : List Addr) (H : Hp) : Prop where
  lq : Lq R1 H1 R H
  hr : HRel G h R H
  out : D ∉ R
  at_ : ∃ vs, H D = some (.lst vs) ∧ VRs G R H acc vs
theorem TurnS.later {R1 R R' : List Addr} {H1 H H' : Hp} {D : Addr} {acc : List T} {h h' : Heap} (t : TurnS G R1 H1 D acc h R H) (lq : Lq R H R' H') (hr : HRel G h' R' H') : TurnS G R1 H1 D acc h' R' H' := by
  obtain ⟨vs, e, r⟩ := t.at_
  refine ⟨t.lq.trans lq, hr, fun z => ?_, vs, lq.keep D _ e (.inl t.out), r.mono lq⟩
  have := lq.new D z t.out
  rw [e] at this
  cases this
theorem TurnS.app {R1 R : List Addr} {H1 H : Hp} {D : Addr} {acc : List T} {h : Heap} {y : T} {v : V} (t : TurnS G R1 H1 D acc h R H) (hD : H1 D = none) (r : VR G R H y v) {vs : List V} (e : H D = some (.lst vs)) : TurnS G R1 H1 D (acc ++ [y]) h R (upd H D (.lst (vs ++ [v]))) := by
  obtain ⟨vs', e', rs⟩ := t.at_
  rw [e] at e'
  cases e'
  obtain ⟨hr2, lf⟩ := t.hr.aside (u := .lst (vs ++ [v])) t.out e (by simp [FT])
  refine ⟨⟨t.lq.pre, t.lq.new, fun b o q cc => ?_⟩, hr2, t.out, vs ++ [v], upd_same, (rs.monoF lf).append (.cons (r.monoF lf) .nil)⟩
  rw [upd_ne (ne_of_none q hD)]
  exact t.lq.keep b o q cc
/-- the end: the new list is ours -/
theorem TurnS.loc {R1 R : List Addr} {H1 H : Hp} {D : Addr} {acc : List T} {h : Heap} {Q : VK} (t : TurnS G R1 H1 D acc h R H) (hD : H1 D = none) (p : PostE G R1 H1 Q (.loc h.length) (h ++ [.lst acc])) : Q (.ref D) H := by
  obtain ⟨vs, e, rs⟩ := t.at_
  have pre : ∀ (n : Nat) (a : Addr), R[n]? = some a → (R ++ [D])[n]? = some a := fun n a q => by rw [List.getElem?_append_left (List.getElem?_eq_some_iff.mp q).1]; exact q
  have lf : Lf R H (R ++ [D]) H := ⟨pre, fun _ _ z _ => z⟩
  refine p (R ++ [D]) H _ ⟨fun n a q => pre n a (t.lq.pre n a q), fun a ha n => ?_, t.lq.keep⟩ ⟨by simp [t.hr.len], ?_, fun a ha => ?_, fun n o a e1 e2 => ?_⟩ (.loc (by rw [← t.hr.len]; simp))
  · rcases List.mem_append.mp ha with z | z
    · exact t.lq.new a z n
    · rw [List.mem_singleton.mp z]; exact hD
  · rw [List.nodup_append]
    exact ⟨t.hr.nd, by simp, fun a ha b hb => by simp at hb; subst hb; intro z; exact t.out (z ▸ ha)⟩
  · rcases List.mem_append.mp ha with z | z
    · exact t.hr.live a z
    · rw [List.mem_singleton.mp z, e]; simp
  · by_cases hn : n < h.length
    · rw [List.getElem?_append_left hn] at e1
      rw [List.getElem?_append_left (by rw [t.hr.len]; exact hn)] at e2
      exact (t.hr.obj n o a e1 e2).monoF lf fun _ z => z
    · have hn' : n = h.length := by
        have := (List.getElem?_eq_some_iff.mp e1).1
        simp at this
        omega
      subst hn'
      simp at e1
      rw [← t.hr.len] at e2
      simp at e2
      subst e1 e2
      exact ⟨vs, e, rs.monoF lf⟩
/-- the end: the new list is locked -/
theorem TurnS.frz {R1 R : List Addr} {H1 H : Hp} {D : Addr} {acc : List T} {h : Heap} {Q : VK} (t : TurnS G R1 H1 D acc h R H) (hD : H1 D = none) (p : PostE G R1 H1 Q (.lst acc) h) : LockQ Q (.ref D) H := by
  obtain ⟨vs, e, rs⟩ := t.at_
  refine ⟨D, fun b => if b = D then none else H b, vs, rfl, if_pos rfl, ?_, fun o => ?_⟩
  · funext b
    unfold upd
    by_cases z : b = D
    · rw [if_pos z, z, e]
    · rw [if_neg z]
      exact (if_neg z).symm
  · have eu : upd (fun b => if b = D then none else H b) D (.frz o (.lst vs)) = upd H D (.frz o (.lst vs)) := by
      funext b
      unfold upd
      by_cases z : b = D
      · rw [if_pos z, if_pos z]
      · rw [if_neg z, if_neg z]
        exact if_neg z
    rw [eu]
    obtain ⟨hr2, lf⟩ := t.hr.aside (u := .frz o (.lst vs)) t.out e (by simp [FT])
    refine p R _ _ ⟨t.lq.pre, t.lq.new, fun b u q cc => ?_⟩ hr2 (.lst (.inl ⟨o, upd_same⟩) (rs.monoF lf))
    rw [upd_ne (ne_of_none q hD)]
    exact t.lq.keep b u q cc
/-- the loop of a comprehension, by ours -/
theorem lc_loop {kd : String} {it : List LE} {own : List Nat} {elt : LE} {tg : Tg} {ifs : List LE} {σ : St} {H : Hp} {Q : VK} {fin : List T → Heap → Rs T}
    (o : ∃ ρ h R, SR G ρ h R σ H ∧ Sat ((evEs K it ρ h).bind fun xs h => match walked kd h xs with
      | some (xs, gs) => (turns (still gs) (fun x h => withB (bindTg tg x h (wipe ρ own)) fun ρ => ((evIfs K ifs ρ h).bind fun b h => if b then (evE K elt ρ h).bind fun y h => .ok (some y) h else .ok none h).calm) xs [] h).bind fin
      | none => .stuck) (PostE G R H Q) (PostX G R H (At W σ)))
    (hfin : ∀ ys h, Sat (fin ys h) (fun _ _ => True) (fun _ _ => True) → ys.length ≤ top)
    (Q2 : VK) (hQ : ∀ R1 H1 D acc h R H, H1 D = none → TurnS G R1 H1 D acc h R H → Sat (fin acc h) (PostE G R1 H1 Q) (PostX G R1 H1 (At W σ)) → Q2 (.ref D) H) :
    tLc (rdI G K W kd it) (rdG G own tg) (rdIf G K W0 ifs) (rdE G K W0 elt) own σ H Q2 := by
  obtain ⟨ρ, h, R, sr, o⟩ := o
  refine ⟨ρ, h, R, sr, Sat.bind.mpr ((Sat.bind.mp o).imp (fun ts h1 o1 => ?_) fun _ _ z => z)⟩
  cases ew : walked kd h1 ts with
  | none => rw [ew] at o1; exact o1.elim
  | some p =>
    obtain ⟨xs, gs⟩ := p
    rw [ew] at o1
    show Sat (.ok (xs, gs) h1) _ _
    intro R1 H1 J lq1 hr1 st D hD
    have o2 := Sat.later (later_E Q) lq1 o1
    have kD : ∀ b o, H1 b = some o → upd H1 D (.lst []) b = some o := fun b o e => by rw [upd_ne (ne_of_none e hD)]; exact e
    refine ⟨fun i m H' => m = xs.length - i ∧ i ≤ xs.length ∧ ∃ h' R' acc, TurnS G R1 H1 D acc h' R' H' ∧
        Sat ((turns (still gs) (fun x h => withB (bindTg tg x h (wipe ρ own)) fun ρ => ((evIfs K ifs ρ h).bind fun b h => if b then (evE K elt ρ h).bind fun y h => .ok (some y) h else .ok none h).calm) (xs.drop i) acc h').bind fin) (PostE G R1 H1 Q) (PostX G R1 H1 (At W σ)),
      ⟨xs.length, by simp, Nat.zero_le _, h1, R1, [], ⟨Lq.all kD, hr1.grow kD, fun z => hr1.live D z hD, [], upd_same, .nil⟩, by simpa using o2⟩, ?_⟩
    rintro i m H' ⟨rfl, hi, h', R', acc, ts', o3⟩
    by_cases hlt : i < xs.length
    · right
      rw [List.drop_eq_getElem_cons hlt] at o3
      unfold turns at o3
      split at o3 <;> (try (exact o3.elim))
      rename_i hok
      obtain ⟨st1, st2⟩ := st i h' R' H' ts'.lq.lf ts'.hr hok
      obtain ⟨go, yl⟩ := st2 xs[i] (by simp [hlt])
      refine ⟨go, _, fun H2 w => ⟨xs.length - (i + 1), by omega, w⟩, fun v H2 hy => ?_⟩
      obtain ⟨lq2, hr2, vr⟩ := yl v H2 hy
      have ts2 := ts'.later lq2 hr2
      rw [bind_assoc] at o3
      cases eb : bindTg tg xs[i] h' (wipe ρ own) with
      | none => rw [eb] at o3; exact o3.elim
      | some ρ2 =>
        rw [eb, withB_some] at o3
        have erw : ERel G R' H2 (wipe ρ own) (L2.wipe σ own) := ((sr.er.mono lq1).mono (ts'.lq.trans lq2)).wipe own
        refine ⟨wipe ρ own, h', R', xs[i], ρ2, ⟨hr2, erw⟩, vr, eb, fun σ3 er3 ag3 => ⟨wipe_agree ag3, ?_⟩⟩
        have o4 := Sat.calm (E' := fun _ _ => False) (Sat.bind.mp o3)
        refine ⟨ρ2, h', R', ⟨hr2, er3⟩, (Sat.bind.mp o4).imp (fun b h4 o5 => ?_) fun _ _ z => z.elim⟩
        intro R4 H4 lq4 hr4
        have ts4 := ts2.later lq4 hr4
        cases b with
        | false =>
          rw [if_neg Bool.false_ne_true] at o5 ⊢
          exact ⟨rfl, hlt, h4, R4, acc, ts4, o5⟩
        | true =>
          rw [if_pos rfl] at o5 ⊢
          refine ⟨ρ2, h4, R4, ⟨hr4, er3.mono lq4⟩, (Sat.bind.mp o5).imp (fun y h6 o6 => ?_) fun _ _ z => z.elim⟩
          intro R6 H6 v6 lq6 hr6 vr6
          have ts6 := ts4.later lq6 hr6
          obtain ⟨vs, e6, rs6⟩ := ts6.at_
          refine ⟨vs, e6, ?_, rfl, hlt, h6, R6, acc ++ [y], ts6.app hD vr6 e6, o6⟩
          have hle : (acc ++ [y]).length ≤ top := by
            have key : ∀ (zs : List T) (a : List T) (hh : Heap) (P : T → Heap → Prop) (E : T → Heap → Prop), Sat ((turns (still gs) (fun x h => withB (bindTg tg x h (wipe ρ own)) fun ρ => ((evIfs K ifs ρ h).bind fun b h => if b then (evE K elt ρ h).bind fun y h => .ok (some y) h else .ok none h).calm) zs a hh).bind fin) P E → a.length ≤ top := fun zs => by
              induction zs with
              | nil =>
                intro a hh P E q
                unfold turns at q
                split at q <;> (try (exact q.elim))
                exact hfin a hh (Sat.imp q (fun _ _ _ => trivial) fun _ _ _ => trivial)
              | cons z zs ih =>
                intro a hh P E q
                unfold turns at q
                split at q <;> (try (exact q.elim))
                rw [bind_assoc] at q
                cases ez : bindTg tg z hh (wipe ρ own) with
                | none => rw [ez] at q; exact q.elim
                | some ρz =>
                  rw [ez, withB_some] at q
                  cases er : ((evIfs K ifs ρz hh).bind fun b h => if b then (evE K elt ρz h).bind fun y h => Rs.ok (some y) h else .ok none h).calm with
                  | stuck => rw [er] at q; exact q.elim
                  | exc e h7 =>
                    exfalso
                    revert er
                    cases ((evIfs K ifs ρz hh).bind fun b h => if b then (evE K elt ρz h).bind fun y h => Rs.ok (some y) h else .ok none h) <;> intro er <;> cases er
                  | ok w h7 =>
                    rw [er] at q
                    cases w with
                    | none => exact ih a h7 P E q
                    | some w =>
                      have := ih (a ++ [w]) h7 P E q
                      simp at this
                      omega
            exact key _ _ _ _ _ o6
          rw [← rs6.length]
          rw [List.length_append, List.length_singleton] at hle
          change acc.length + 1 ≤ 16777216 at hle
          rw [top_eq]
          show acc.length < 16777216
          omega
    · left
      have e : i = xs.length := by omega
      subst e
      rw [List.drop_length] at o3
      unfold turns at o3
      split at o3 <;> (try (exact o3.elim))
      rename_i hok
      exact ⟨(st _ h' R' H' ts'.lq.lf ts'.hr hok).1 (Nat.le_refl _), hQ R1 H1 D acc h' R' H' hD ts' o3⟩
theorem ownN_ix (c : Sc) (own : List Nat) : (ownN c own).map (·.2) = own := by
  unfold ownN
  rw [List.map_map]
  exact List.map_id _
theorem fold_ok {it : Expr} (h : chkOne it = true) (env : PySem.Env) (x : Value) : foldedSetIterable it env x = pure x := by
  cases it <;> first | rfl | cases h
/-- what a comprehension wants of its parts -/
structure CompOk (G : GD) (X : L2.Cx) (c : Sc) (W : WX) (K : Cn) (scope : Scope) (own : List Nat) (elt : LE) (tg : Tg) (kd : String) (it : List LE) (ifs : List LE) (e t i : Expr) (is : List Expr) : Prop where
  blk : blkC c.N c.sc scope (ownN c own) = true
  one : chkOne i = true
  hi : PI X t i (rdI G K W kd it)
  hg : ∀ (s : Shared) (H : Hp) (C : Addr) (cl : List (Str × Addr)) (fp : List Addr), PG (X.blk s H scope (compEnvC scope cl C X.env) fp) t (rdG G own tg)
  ht : ∀ (s : Shared) (H : Hp) (C : Addr) (cl : List (Str × Addr)) (fp : List Addr), PTs (X.blk s H scope (compEnvC scope cl C X.env) fp) is (rdIf G K W0 ifs)
  he : ∀ (s : Shared) (H : Hp) (C : Addr) (cl : List (Str × Addr)) (fp : List Addr), PE (X.blk s H scope (compEnvC scope cl C X.env) fp) e (rdE G K W0 elt)
theorem comp_len {ys : List T} {h : Heap} {m : Bool} (q : Sat (if ys.length ≤ top then (if m then newO h (.lst ys) else Rs.ok (T.lst ys) h) else .stuck) (fun _ _ => True) (fun _ _ => True)) : ys.length ≤ top := by
  split at q
  · assumption
  · exact q.elim
theorem comp_end {R1 R : List Addr} {H1 H : Hp} {D : Addr} {acc : List T} {h : Heap} {Q : VK} {E : T → Heap → Prop} (hD : H1 D = none) (t : TurnS G R1 H1 D acc h R H) (q : Sat (if acc.length ≤ top then newO h (.lst acc) else .stuck) (PostE G R1 H1 Q) E) : Q (.ref D) H := by
  split at q
  · exact t.loc hD q
  · exact q.elim
theorem comp_endF {R1 R : List Addr} {H1 H : Hp} {D : Addr} {acc : List T} {h : Heap} {Q : VK} {E : T → Heap → Prop} (hD : H1 D = none) (t : TurnS G R1 H1 D acc h R H) (q : Sat (if acc.length ≤ top then Rs.ok (T.lst acc) h else .stuck) (PostE G R1 H1 Q) E) : LockQ Q (.ref D) H := by
  split at q
  · exact t.frz hD q
  · exact q.elim
theorem sd_comp (g : GX G k X c W) {scope : Scope} {own : List Nat} {elt : LE} {tg : Tg} {kd : String} {it : List LE} {ifs : List LE} {e t i : Expr} {is : List Expr} {p : Pos} (m : Bool) (o : CompOk G X c W K scope own elt tg kd it ifs e t i is) :
    PE X (.ListComp e [⟨t, i, is, 0⟩] scope p) (rdE G K W (.comp m own elt tg kd it ifs)) := by
  have hN : X.N.Nodup := by rw [g.N]; exact g.nd
  have base := pe_lc (pos := p) g.calm hN o.hi (blk_ok g o.blk) o.hg o.ht o.he (fold_ok o.one _)
  rw [ownN_ix] at base
  cases m with
  | true =>
    refine pe_imp base fun σ H Q ⟨ρ, h, R, sr, oo⟩ => ?_
    unfold evE at oo
    exact lc_loop ⟨ρ, h, R, sr, oo⟩ (fun ys h q => comp_len (m := true) q) Q fun R1 H1 D acc h R H hD ts q => comp_end hD ts q
  | false =>
    refine pe_imp (pe_lock base) fun σ H Q ⟨ρ, h, R, sr, oo⟩ => ?_
    unfold evE at oo
    exact lc_loop ⟨ρ, h, R, sr, oo⟩ (fun ys h q => comp_len (m := false) q) (LockQ Q) fun R1 H1 D acc h R H hD ts q => comp_endF hD ts q
theorem tLc_imp {wi : TI} {g : TG} {tt : TT} {te : TE} {vs : List Nat} {σ : St} {H : Hp} {Q Q' : VK} (hq : ∀ v H, Q v H → Q' v H) (hwi : True := trivial) (z : tLc wi g tt te vs σ H Q) (mono : ∀ R R' : It → Hp → Prop, (∀ J H, R J H → R' J H) → wi σ H R → wi σ H R') : tLc wi g tt te vs σ H Q' := by
  refine mono _ _ (fun J H1 q D hD => ?_) z
  obtain ⟨W, w0, st⟩ := q D hD
  refine ⟨W, w0, fun i m H w => (st i m H w).imp (fun ⟨a, b⟩ => ⟨a, hq _ _ b⟩) id⟩
theorem rdI_mono {kd : String} {es : List LE} {σ : St} {H : Hp} (R R' : It → Hp → Prop) (f : ∀ J H, R J H → R' J H) : rdI G K W kd es σ H R → rdI G K W kd es σ H R' := fun ⟨ρ, h, R0, sr, o⟩ => ⟨ρ, h, R0, sr, o.imp (fun p h' s R' H' J l hr st => f _ _ (s R' H' J l hr st)) fun _ _ z => z⟩
theorem st_comp (g : GX G k X c W) {A : List Nat} {scope : Scope} {own : List Nat} {elt : LE} {tg : Tg} {kd : String} {it : List LE} {ifs : List LE} {e t i : Expr} {is : List Expr} {p sp py : Pos} {y : Str} {j : Nat} (m : Bool) (o : CompOk G X c W K scope own elt tg kd it ifs e t i is)
    (h1 : c.N[j]? = some y) (h2 : c.sc.names.lookup y = some .local) (h3 : j ∈ A) (hl : (py.line == p.line) = true) (ha : (scope.names.any fun (n, k) => n == y && (k == .local || k == .cell)) = false) :
    PS X (.Assign [.Name y py] (.ListComp e [⟨t, i, is, 0⟩] scope p) sp) (rdS G K W A (.set j (.comp m own elt tg kd it ifs))) := by
  have hN : X.N.Nodup := by rw [g.N]; exact g.nd
  have hy := g.sc1 y _ (by decide) h2
  refine ⟨fun pins s σ H D I q => ?_⟩
  have hk : X.env.scope.kind = .function := I.ok.kind
  have hsw : swapsWith (.ListComp e [⟨t, i, is, 0⟩] scope p) (some (.Name y py)) sp.line X.env = pure true := sw_true hk hy hl ha
  have base := ps_setLc g.calm hN (by rw [g.N]; exact h1) hy hsw o.hi (blk_ok g o.blk) o.hg o.ht o.he (fold_ok o.one _)
  rw [ownN_ix] at base
  obtain ⟨ρ, h, R, sr, oo⟩ := q
  unfold exS at oo
  have oe : rdE G K W (.comp m own elt tg kd it ifs) σ H (fun v H' => D.nx (σ.set j (some v)) H') := rdE.bindS sr oo fun t h1 R1 H1 v sr1 lq vr o1 => o1 R1 H1 _ (Lq.refl _ _) sr1.hr (sr1.er.set _ vr) ((Agree.refl _ _).set h3 _)
  obtain ⟨ρ', h', R', sr', oo'⟩ := oe
  unfold evE at oo'
  cases m with
  | true =>
    exact base.run pins s σ H D I (lc_loop ⟨ρ', h', R', sr', oo'⟩ (fun ys h q => comp_len (m := true) q) (fun v H' => D.nx (σ.set j (some v)) H') fun R1 H1 D acc h R H hD ts q => comp_end hD ts q)
  | false =>
    -- the list is locked once it is bound
    have z := lc_loop (Q := fun v H' => D.nx (σ.set j (some v)) H') ⟨ρ', h', R', sr', oo'⟩ (fun ys h q => comp_len (m := false) q) (LockQ fun v H' => D.nx (σ.set j (some v)) H') fun R1 H1 D acc h R H hD ts q => comp_endF hD ts q
    refine thn (base.run pins s σ H { D with nx := fun σ' H' => ∃ v, σ' = σ.set j (some v) ∧ LockQ (fun v H' => D.nx (σ.set j (some v)) H') v H' } I ?_) fun f s' hs => ?_
    · exact tLc_imp (fun v H' q => ⟨v, rfl, q⟩) trivial z rdI_mono
    · cases f with
      | next =>
        obtain ⟨σ', H', I', v, rfl, q⟩ := hs
        obtain ⟨p', H2, ys, rfl, hp, rfl, q⟩ := q
        obtain ⟨ob, I2⟩ := Inv.lock I' (p := p') upd_same
        rw [upd_upd] at I2
        exact ⟨_, _, I2, q ob⟩
      | ret u => exact hs
      | brk => exact hs
      | cont => exact hs
end
end Lite

/-! LITE, 11c: comprehensions of two clauses. -/
namespace Lite
open PySem L2 PySem.Spec
open PyProof.Rows hiding St
section
variable {G : GD} {k : Nat} {X : L2.Cx} {c : Sc} {W : WX} {K : Cn}
/-- the second clause's turn, the first clause's turn -/
abbrev turn2 (K : Cn) (ρ : Rho) (own1 : List Nat) (elt : LE) (tg1 : Tg) (ifs1 : List LE) : T → Heap → Rs (Option T) := fun x h => withB (bindTg tg1 x h (wipe ρ own1)) fun ρ => (evIfs K ifs1 ρ h).bind fun b h => if b then (evE K elt ρ h).bind fun y h => .ok (some y) h else .ok none h
abbrev turn1 (K : Cn) (ρ : Rho) (own : List Nat) (elt : LE) (tg : Tg) (ifs : List LE) (own1 : List Nat) (tg1 : Tg) (k1 : String) (it1 : List LE) (ifs1 : List LE) : T → Heap → Rs (Option (List T)) := fun x h => withB (bindTg tg x h (wipe ρ own)) fun ρ => ((evIfs K ifs ρ h).bind fun b h => if b then (evEs K it1 ρ h).bind fun x1 h => (match walked k1 h x1 with
  | some (xs1, gs1) => (turns (still gs1) (turn2 K ρ own1 elt tg1 ifs1) xs1 [] h).bind fun ys h => .ok (some ys) h
  | none => .stuck) else .ok none h).calm
theorem turn1_some {K : Cn} {ρ ρ2 : Rho} {own own1 : List Nat} {elt : LE} {tg tg1 : Tg} {k1 : String} {it1 ifs ifs1 : List LE} {x : T} {h : Heap} (e : bindTg tg x h (wipe ρ own) = some ρ2) :
    turn1 K ρ own elt tg ifs own1 tg1 k1 it1 ifs1 x h = ((evIfs K ifs ρ2 h).bind fun b h => if b then (evEs K it1 ρ2 h).bind fun x1 h => (match walked k1 h x1 with
      | some (xs1, gs1) => (turns (still gs1) (turn2 K ρ2 own1 elt tg1 ifs1) xs1 [] h).bind fun ys h => .ok (some ys) h
      | none => .stuck) else .ok none h).calm := by
  show withB (bindTg tg x h (wipe ρ own)) _ = _
  rw [e]
  rfl
theorem turn1_none {K : Cn} {ρ : Rho} {own own1 : List Nat} {elt : LE} {tg tg1 : Tg} {k1 : String} {it1 ifs ifs1 : List LE} {x : T} {h : Heap} (e : bindTg tg x h (wipe ρ own) = none) : turn1 K ρ own elt tg ifs own1 tg1 k1 it1 ifs1 x h = .stuck := by
  show withB (bindTg tg x h (wipe ρ own)) _ = _
  rw [e]
  rfl
theorem turn2_some {K : Cn} {ρ ρ2 : Rho} {own1 : List Nat} {elt : LE} {tg1 : Tg} {ifs1 : List LE} {x : T} {h : Heap} (e : bindTg tg1 x h (wipe ρ own1) = some ρ2) : turn2 K ρ own1 elt tg1 ifs1 x h = (evIfs K ifs1 ρ2 h).bind fun b h => if b then (evE K elt ρ2 h).bind fun y h => .ok (some y) h else .ok none h := by
  show withB (bindTg tg1 x h (wipe ρ own1)) _ = _
  rw [e]
  rfl
theorem turn2_none {K : Cn} {ρ : Rho} {own1 : List Nat} {elt : LE} {tg1 : Tg} {ifs1 : List LE} {x : T} {h : Heap} (e : bindTg tg1 x h (wipe ρ own1) = none) : turn2 K ρ own1 elt tg1 ifs1 x h = .stuck := by
  show withB (bindTg tg1 x h (wipe ρ own1)) _ = _
  rw [e]
  rfl
theorem ev_comp2 {K : Cn} {m : Bool} {own own1 : List Nat} {elt : LE} {tg tg1 : Tg} {kd k1 : String} {it it1 ifs ifs1 : List LE} {ρ : Rho} {h : Heap} : evE K (.comp2 m own elt tg kd it ifs own1 tg1 k1 it1 ifs1) ρ h = (evEs K it ρ h).bind fun xs h => match walked kd h xs with
    | some (xs, gs) => (turns (still gs) (turn1 K ρ own elt tg ifs own1 tg1 k1 it1 ifs1) xs [] h).bind fun yss h => fin2 m yss h
    | none => .stuck := by unfold evE; rfl
/-- what is gathered stays short enough -/
theorem turns_pre {α : Type} {ok : Heap → Bool} {f : T → Heap → Rs (Option α)} : ∀ {xs : List T} {acc r : List α} {h h' : Heap}, turns ok f xs acc h = .ok r h' → ∃ w, r = acc ++ w
  | [], acc, r, h, h', e => by
    unfold turns at e
    split at e
    · cases e; exact ⟨[], by simp⟩
    · cases e
  | x :: xs, acc, r, h, h', e => by
    unfold turns at e
    split at e <;> (try (cases e; done))
    cases ef : f x h with
    | stuck => rw [ef] at e; cases e
    | exc a b => rw [ef] at e; cases e
    | ok o h2 =>
      rw [ef, Rs.bind_ok] at e
      cases o with
      | none => exact turns_pre e
      | some a =>
        obtain ⟨w, rfl⟩ := turns_pre e
        exact ⟨a :: w, by simp [addO]⟩
theorem sat_ok {α : Type} {r : Rs α} {Q : α → Heap → Prop} {E : T → Heap → Prop} (s : Sat r Q E) (hE : ∀ e h, E e h → False) : ∃ a h, r = .ok a h ∧ Q a h := by
  cases r with
  | ok a h => exact ⟨a, h, rfl, s⟩
  | exc e h => exact (hE e h s).elim
  | stuck => exact s.elim
theorem calm_noexc {α : Type} {r : Rs α} {e : T} {h : Heap} (q : r.calm = .exc e h) : False := by
  cases r <;> cases q
theorem turns_noexc {own own1 : List Nat} {elt : LE} {tg tg1 : Tg} {k1 : String} {it1 ifs ifs1 : List LE} {ρ : Rho} {ok : Heap → Bool} : ∀ {xs : List T} {acc : List (List T)} {h h' : Heap} {e : T}, turns ok (turn1 K ρ own elt tg ifs own1 tg1 k1 it1 ifs1) xs acc h = .exc e h' → False
  | [], acc, h, h', e, q => by
    unfold turns at q
    split at q <;> cases q
  | x :: xs, acc, h, h', e, q => by
    unfold turns at q
    split at q <;> (try (cases q; done))
    cases ef : turn1 K ρ own elt tg ifs own1 tg1 k1 it1 ifs1 x h with
    | stuck => rw [ef] at q; cases q
    | exc a b =>
      cases eb : bindTg tg x h (wipe ρ own) with
      | none => rw [turn1_none eb] at ef; cases ef
      | some ρ2 =>
        rw [turn1_some eb] at ef
        exact calm_noexc ef
    | ok o h2 =>
      rw [ef, Rs.bind_ok] at q
      exact turns_noexc q
theorem lc2_loop {kd k1 : String} {it it1 : List LE} {own own1 : List Nat} {elt : LE} {tg tg1 : Tg} {ifs ifs1 : List LE} {σ : St} {H : Hp} {Q : VK} {b0 : Bool}
    (o : rdE G K W (.comp2 b0 own elt tg kd it ifs own1 tg1 k1 it1 ifs1) σ H Q) :
    tLc2 (rdI G K W kd it) (rdG G own tg) (rdIf G K W0 ifs) (rdI G K W0 k1 it1) (rdG G own1 tg1) (rdIf G K W0 ifs1) (rdE G K W0 elt) own own1 σ H (if b0 = true then Q else LockQ Q) := by
  obtain ⟨ρ, h, R, sr, o⟩ := o
  rw [ev_comp2] at o
  refine ⟨ρ, h, R, sr, Sat.bind.mpr ((Sat.bind.mp o).imp (fun ts h1 o1 => ?_) fun _ _ z => z)⟩
  cases ew : walked kd h1 ts with
  | none => rw [ew] at o1; exact o1.elim
  | some p =>
    obtain ⟨xs, gs⟩ := p
    rw [ew] at o1
    show Sat (.ok (xs, gs) h1) _ _
    intro R1 H1 J lq1 hr1 st D hD
    have o2 := Sat.later (later_E Q) lq1 o1
    have kD : ∀ b o, H1 b = some o → upd H1 D (.lst []) b = some o := fun b o e => by rw [upd_ne (ne_of_none e hD)]; exact e
    refine ⟨fun i m H' => m = xs.length - i ∧ i ≤ xs.length ∧ ∃ h' R' acc, TurnS G R1 H1 D acc.flatten h' R' H' ∧
        Sat ((turns (still gs) (turn1 K ρ own elt tg ifs own1 tg1 k1 it1 ifs1) (xs.drop i) acc h').bind fun yss h => fin2 b0 yss h) (PostE G R1 H1 Q) (PostX G R1 H1 (At W σ)),
      ⟨xs.length, by simp, Nat.zero_le _, h1, R1, [], ⟨Lq.all kD, hr1.grow kD, fun z => hr1.live D z hD, [], upd_same, .nil⟩, by simpa using o2⟩, ?_⟩
    rintro i m H' ⟨rfl, hi, h', R', acc, ts', o3⟩
    by_cases hlt : i < xs.length
    · right
      rw [List.drop_eq_getElem_cons hlt] at o3
      unfold turns at o3
      split at o3 <;> (try (exact o3.elim))
      rename_i hok
      obtain ⟨st1, st2⟩ := st i h' R' H' ts'.lq.lf ts'.hr hok
      obtain ⟨go, yl⟩ := st2 xs[i] (by simp [hlt])
      refine ⟨go, _, fun H2 w => ⟨xs.length - (i + 1), by omega, w⟩, fun v H2 hy => ?_⟩
      obtain ⟨lq2, hr2, vr⟩ := yl v H2 hy
      have ts2 := ts'.later lq2 hr2
      rw [bind_assoc] at o3
      cases eb : bindTg tg xs[i] h' (wipe ρ own) with
      | none => rw [turn1_none eb] at o3; exact o3.elim
      | some ρ2 =>
        rw [turn1_some eb] at o3
        have erw : ERel G R' H2 (wipe ρ own) (L2.wipe σ own) := ((sr.er.mono lq1).mono (ts'.lq.trans lq2)).wipe own
        refine ⟨wipe ρ own, h', R', xs[i], ρ2, ⟨hr2, erw⟩, vr, eb, fun σ3 er3 ag3 => ⟨wipe_agree ag3, ?_⟩⟩
        have o4 := Sat.calm (E' := fun _ _ => False) (Sat.bind.mp o3)
        refine ⟨ρ2, h', R', ⟨hr2, er3⟩, (Sat.bind.mp o4).imp (fun b h4 o5 => ?_) fun _ _ z => z.elim⟩
        intro R4 H4 lq4 hr4
        have ts4 := ts2.later lq4 hr4
        cases b with
        | false =>
          rw [if_neg Bool.false_ne_true] at o5 ⊢
          exact ⟨rfl, hlt, h4, R4, acc, ts4, o5⟩
        | true =>
          rw [if_pos rfl] at o5 ⊢
          refine ⟨ρ2, h4, R4, ⟨hr4, er3.mono lq4⟩, Sat.bind.mpr ((Sat.bind.mp o5).imp (fun ts5 h5 o6 => ?_) fun _ _ z => z.elim)⟩
          cases ew1 : walked k1 h5 ts5 with
          | none => rw [ew1] at o6; exact o6.elim
          | some p1 =>
            obtain ⟨xs1, gs1⟩ := p1
            rw [ew1] at o6
            show Sat (.ok (xs1, gs1) h5) _ _
            intro R5 H5 J1 lq5 hr5 sti
            have ts5 := ts4.later lq5 hr5
            have er5 : ERel G R5 H5 ρ2 σ3 := (er3.mono lq4).mono lq5
            refine ⟨fun j m H' => m = xs1.length - j ∧ j ≤ xs1.length ∧ ∃ h' R' a1, TurnS G R1 H1 D (acc.flatten ++ a1) h' R' H' ∧ Lf R5 H5 R' H' ∧
                Sat ((turns (still gs1) (turn2 K ρ2 own1 elt tg1 ifs1) (xs1.drop j) a1 h').bind fun ys h => Rs.ok (some ys) h)
                  (fun a h => Sat ((turns (still gs) (turn1 K ρ own elt tg ifs own1 tg1 k1 it1 ifs1) (xs.drop (i + 1)) (addO acc a) h).bind fun yss h => fin2 b0 yss h) (PostE G R1 H1 Q) (PostX G R1 H1 (At W σ))) (fun _ _ => False),
              ⟨xs1.length, by simp, Nat.zero_le _, h5, R5, [], by rw [List.append_nil]; exact ts5, Lf.refl _ _, by rw [List.drop_zero]; exact o6⟩, ?_⟩
            rintro j m H' ⟨rfl, hj, h', R', a1, tj, lfj, o7⟩
            by_cases hjt : j < xs1.length
            · right
              rw [List.drop_eq_getElem_cons hjt, turns_cons] at o7
              split at o7 <;> (try (exact o7.elim))
              rename_i hok1
              obtain ⟨_, st4⟩ := sti j h' R' H' lfj tj.hr hok1
              obtain ⟨go1, yl1⟩ := st4 xs1[j] (by simp [hjt])
              refine ⟨go1, _, fun H6 w => ⟨xs1.length - (j + 1), by omega, w⟩, fun v6 H6 hy6 => ?_⟩
              obtain ⟨lq6, hr6, vr6⟩ := yl1 v6 H6 hy6
              have t6 := tj.later lq6 hr6
              have lf6 := lfj.trans lq6.lf
              rw [bind_assoc] at o7
              cases eb1 : bindTg tg1 xs1[j] h' (wipe ρ2 own1) with
              | none => rw [turn2_none eb1] at o7; exact o7.elim
              | some ρ7 =>
                rw [turn2_some eb1] at o7
                have erw1 : ERel G R' H6 (wipe ρ2 own1) (L2.wipe σ3 own1) := by
                  refine ERel.wipe ⟨er5.1, fun i t z => ?_⟩ own1
                  obtain ⟨v, a, b⟩ := er5.2 i t z
                  exact ⟨v, a, b.monoF lf6⟩
                refine ⟨wipe ρ2 own1, h', R', xs1[j], ρ7, ⟨hr6, erw1⟩, vr6, eb1, fun σ7 er7 ag7 => ⟨wipe_agree ag7, ?_⟩⟩
                refine ⟨ρ7, h', R', ⟨hr6, er7⟩, (Sat.bind.mp (Sat.bind.mp o7)).imp (fun b h8 o8 => ?_) fun _ _ z => z.elim⟩
                intro R8 H8 lq8 hr8
                have t8 := t6.later lq8 hr8
                have lf8 := lf6.trans lq8.lf
                cases b with
                | false =>
                  rw [if_neg Bool.false_ne_true] at o8 ⊢
                  exact ⟨rfl, hjt, h8, R8, a1, t8, lf8, o8⟩
                | true =>
                  rw [if_pos rfl] at o8 ⊢
                  refine ⟨ρ7, h8, R8, ⟨hr8, er7.mono lq8⟩, (Sat.bind.mp o8).imp (fun y h9 o9 => ?_) fun _ _ z => z.elim⟩
                  intro R9 H9 v9 lq9 hr9 vr9
                  have t9 := t8.later lq9 hr9
                  obtain ⟨vs, e9, rs9⟩ := t9.at_
                  have ta := t9.app hD vr9 e9
                  rw [List.append_assoc] at ta
                  obtain ⟨_, lfa⟩ := t9.hr.aside (u := .lst (vs ++ [v9])) t9.out e9 (by simp [FT])
                  refine ⟨vs, e9, ?_, rfl, hjt, h9, R9, a1 ++ [y], ta, (lf8.trans lq9.lf).trans lfa, o9⟩
                  have hle : (acc.flatten ++ (a1 ++ [y])).length ≤ top := by
                    obtain ⟨w1, g1, e1, q1⟩ := sat_ok (show Sat ((turns (still gs1) (turn2 K ρ2 own1 elt tg1 ifs1) (xs1.drop (j + 1)) (a1 ++ [y]) h9).bind fun ys h => Rs.ok (some ys) h) _ (fun _ _ => False) from o9) (fun _ _ z => z)
                    cases et : turns (still gs1) (turn2 K ρ2 own1 elt tg1 ifs1) (xs1.drop (j + 1)) (a1 ++ [y]) h9 with
                    | stuck => rw [et] at e1; cases e1
                    | exc a b => rw [et] at e1; cases e1
                    | ok r1 g2 =>
                      rw [et, Rs.bind_ok] at e1
                      cases e1
                      obtain ⟨w2, rfl⟩ := turns_pre et
                      have q2 : Sat (turns (still gs) (turn1 K ρ own elt tg ifs own1 tg1 k1 it1 ifs1) (xs.drop (i + 1)) (acc ++ [a1 ++ [y] ++ w2]) g1) _ _ := Sat.bind.mp q1
                      cases et2 : turns (still gs) (turn1 K ρ own elt tg ifs own1 tg1 k1 it1 ifs1) (xs.drop (i + 1)) (acc ++ [a1 ++ [y] ++ w2]) g1 with
                      | stuck => rw [et2] at q2; exact q2.elim
                      | exc a b =>
                        exfalso
                        revert et2
                        generalize (acc ++ [a1 ++ [y] ++ w2]) = A0
                        generalize g1 = G0
                        generalize xs.drop (i + 1) = X0
                        intro et2
                        exact turns_noexc et2
                      | ok r2 g3 =>
                        rw [et2] at q2
                        obtain ⟨w3, rfl⟩ := turns_pre et2
                        have q3 : Sat (fin2 b0 (acc ++ [a1 ++ [y] ++ w2] ++ w3) g3) (PostE G R1 H1 Q) (PostX G R1 H1 (At W σ)) := q2
                        unfold fin2 at q3
                        split at q3
                        · rename_i hz
                          refine Nat.le_trans ?_ hz
                          simp only [List.flatten_append, List.flatten_cons, List.flatten_nil, List.append_nil, List.length_append]
                          omega
                        · exact q3.elim
                  rw [← rs9.length]
                  rw [List.length_append, List.length_append, List.length_singleton] at hle
                  change acc.flatten.length + (a1.length + 1) ≤ 16777216 at hle
                  rw [top_eq, List.length_append]
                  show acc.flatten.length + a1.length < 16777216
                  omega
            · left
              have e : j = xs1.length := by omega
              subst e
              rw [List.drop_length, turns_nil] at o7
              split at o7 <;> (try (exact o7.elim))
              rename_i hok1
              refine ⟨(sti _ h' R' H' lfj tj.hr hok1).1 (Nat.le_refl _), rfl, hlt, h', R', acc ++ [a1], ?_, o7⟩
              simpa using tj
    · left
      have e : i = xs.length := by omega
      subst e
      rw [List.drop_length] at o3
      unfold turns at o3
      split at o3 <;> (try (exact o3.elim))
      rename_i hok
      refine ⟨(st _ h' R' H' ts'.lq.lf ts'.hr hok).1 (Nat.le_refl _), ?_⟩
      cases b0 with
      | true =>
        rw [if_pos rfl]
        have o3' : Sat (if acc.flatten.length ≤ top then newO h' (.lst acc.flatten) else .stuck) (PostE G R1 H1 Q) (PostX G R1 H1 (At W σ)) := o3
        exact comp_end hD ts' o3'
      | false =>
        rw [if_neg Bool.false_ne_true]
        have o3' : Sat (if acc.flatten.length ≤ top then Rs.ok (T.lst acc.flatten) h' else .stuck) (PostE G R1 H1 Q) (PostX G R1 H1 (At W σ)) := o3
        exact comp_endF hD ts' o3'
theorem sd_comp2 (g : GX G k X c W) (b0 : Bool) {scope : Scope} {own own1 : List Nat} {elt : LE} {tg tg1 : Tg} {kd k1 : String} {it it1 ifs ifs1 : List LE} {e t i t1 i1 : Expr} {is is1 : List Expr} {p : Pos} (hb : blkC c.N c.sc scope (ownN c own) = true) (h1 : chkOne i = true) (h2 : chkOne i1 = true) (hv : ∀ j ∈ own1, j ∈ own)
    (hi : PI X t i (rdI G K W kd it)) (hg : ∀ (s : Shared) (H : Hp) (C : Addr) (cl : List (Str × Addr)) (fp : List Addr), PG (X.blk s H scope (compEnvC scope cl C X.env) fp) t (rdG G own tg)) (ht : ∀ (s : Shared) (H : Hp) (C : Addr) (cl : List (Str × Addr)) (fp : List Addr), PTs (X.blk s H scope (compEnvC scope cl C X.env) fp) is (rdIf G K W0 ifs))
    (hi1 : ∀ (s : Shared) (H : Hp) (C : Addr) (cl : List (Str × Addr)) (fp : List Addr), PI (X.blk s H scope (compEnvC scope cl C X.env) fp) t1 i1 (rdI G K W0 k1 it1)) (hg1 : ∀ (s : Shared) (H : Hp) (C : Addr) (cl : List (Str × Addr)) (fp : List Addr), PG (X.blk s H scope (compEnvC scope cl C X.env) fp) t1 (rdG G own1 tg1))
    (ht1 : ∀ (s : Shared) (H : Hp) (C : Addr) (cl : List (Str × Addr)) (fp : List Addr), PTs (X.blk s H scope (compEnvC scope cl C X.env) fp) is1 (rdIf G K W0 ifs1)) (he : ∀ (s : Shared) (H : Hp) (C : Addr) (cl : List (Str × Addr)) (fp : List Addr), PE (X.blk s H scope (compEnvC scope cl C X.env) fp) e (rdE G K W0 elt)) :
    PE X (.ListComp e [⟨t, i, is, 0⟩, ⟨t1, i1, is1, 0⟩] scope p) (rdE G K W (.comp2 b0 own elt tg kd it ifs own1 tg1 k1 it1 ifs1)) := by
  have hN : X.N.Nodup := by rw [g.N]; exact g.nd
  have base := pe_lc2 (pos := p) (vs1 := own1) g.calm hN hi (blk_ok g hb) (by rw [ownN_ix]; exact hv) hg ht hi1 hg1 ht1 he (fold_ok h1 _) (fun env x => fold_ok h2 env x)
  rw [ownN_ix] at base
  cases b0 with
  | true => exact pe_imp base fun σ H Q o => lc2_loop (b0 := true) o
  | false => exact pe_imp (pe_lock base) fun σ H Q o => lc2_loop (b0 := false) o
end
end Lite

/-! LITE, 12: soundness: expressions, the induction. -/
namespace Lite
open PySem L2 PySem.Spec
open PyProof.Rows hiding St

section
variable {G : GD} {k : Nat} {X : L2.Cx} {c : Sc} {W : WX} {K : Cn}
theorem Lq.put {R : List Addr} {H : Hp} {n : Nat} {a : Addr} {u0 u : HO} (hn : R[n]? = some a) (h0 : H a = some u0) (nft : ¬ FT u0) : Lq R H R (upd H a u) :=
  ⟨fun _ _ e => e, fun _ z n => absurd z n, fun b o e cc => by
    by_cases z : b = a
    · subst z
      rcases cc with cc | cc
      · exact absurd (List.mem_of_getElem? hn) cc
      · rw [h0] at e; cases e; exact absurd cc nft
    · rw [upd_ne z]; exact e⟩
theorem base_plain {o : Expr} (h : plainB o = true) (a : Str) (env : PySem.Env) : attributeBase o a env (eval o env) = eval o env := by
  cases o <;> first | rfl | cases h
/-- xs.append(e) -/
theorem sd_append (s : SX G k X c W K) {o : LE} {m : String} {es : List LE} {x : Expr} {y : Str} {xs : List Expr} {ap p : Pos} (hm : m = "append") (hy : y = ("append" : Str)) (hb : plainB x = true) (hl : (ap.endLine == p.line) = true) (h1 : xs.length = 1) (hc : chkEs c es xs = true)
    (ho : PE X x (rdE G K W o)) (ha : PA X xs (rdA G K W es)) : PE X (.Call (.Attribute x y ap) xs [] p) (rdE G K W (.bm o m es)) := by
  subst hm hy
  match xs, es, h1, hc, ha with
  | [e], [], _, hc, _ => simp [chkEs] at hc
  | [e], _ :: _ :: _, _, hc, _ => simp [chkEs] at hc
  | [e], [l], _, hc, ha =>
    simp only [chkEs, Bool.and_eq_true] at hc
    refine pe_imp (pe_bm PySem.F.plainAttrs_list PySem.F.slot_list_append PySem.F.type_list_append mt_append ho ha (base_plain hb _ _) (by rw [star_cons hc.1.1]; rfl) hl (star_cons hc.1.1) rfl) fun σ H Q ⟨ρ, h, R, sr, o⟩ => ?_
    unfold evE at o
    refine rdE.bind (later_E Q) sr o fun x h1 R1 H1 vx sr1 lq1 rx o1 => ?_
    split at o1 <;> (try (exact o1.elim))
    rename_i hr
    have hv : ∃ ys, view h1 x = some (.lst ys) := by
      simp only [recv, if_true] at hr
      split at hr
      · exact ⟨_, by assumption⟩
      · cases hr
    obtain ⟨ys, hv⟩ := hv
    obtain ⟨a, vs, rfl, h2, h3⟩ := view_lst sr1.hr rx hv
    refine ⟨.inl ⟨rfl, vs, by rw [s.g.s5.K]; exact h2.sq⟩, ?_⟩
    refine rdA.bind (later_E Q) sr1 o1 fun ts h2 R2 H2 us sr2 lq2 rs o2 => ?_
    simp only [bmeth, if_true] at o2
    split at o2 <;> (try (exact o2.elim))
    rename_i n z
    split at o2 <;> (try (exact o2.elim))
    rename_i zs ez
    split at o2 <;> (try (exact o2.elim))
    rename_i hz
    cases rx
    rename_i ea
    obtain ⟨ws, e3, r3⟩ := sr2.hr.obj n _ a ez (lq2.pre _ _ ea)
    obtain ⟨u, rfl, ru⟩ := rs.one
    have lq4 : Lq R2 H2 R2 (upd H2 a (.lst (ws ++ [u]))) := Lq.put (lq2.pre _ _ ea) e3 (by simp [FT])
    obtain ⟨hr4, _⟩ := sr2.hr.put (o := .lst (zs ++ [z])) (lq2.pre _ _ ea) e3 (by simp [FT]) rfl ⟨ws ++ [u], upd_same, (r3.append (.cons ru .nil)).mono lq4⟩
    exact ⟨a, ws, u, rfl, rfl, e3, by rw [← r3.length, top_eq]; exact hz, o2 R2 _ _ lq4 hr4 .non⟩

mutual
theorem soundE {X : L2.Cx} {c : Sc} {W : WX} (s : SX G k X c W K) (le : LE) (e : Expr) (h : chkE c le e = true) : EV G X K W le e := by
  unfold chkE at h
  split at h
  · simp only [Bool.and_eq_true, decide_eq_true_eq] at h
    exact ev_of s.g rfl (sd_var s h.1 h.2)
  · simp only [decide_eq_true_eq] at h
    subst h
    exact ev_of s.g rfl (sd_here pe_int (fun _ _ => by unfold evE; rfl) fun _ _ => .int _)
  · simp only [decide_eq_true_eq] at h
    subst h
    exact ev_of s.g rfl (sd_here pe_str (fun _ _ => by unfold evE; rfl) fun _ _ => .str _)
  · simp only [beq_iff_eq] at h
    subst h
    exact ev_of s.g rfl (sd_here pe_bl (fun _ _ => by unfold evE; rfl) fun _ _ => .bl _)
  · exact ev_of s.g rfl (sd_here pe_non (fun _ _ => by unfold evE; rfl) fun _ _ => .non)
  · simp only [Bool.and_eq_true, decide_eq_true_eq] at h
    exact ev_of s.g rfl (sd_glob s h.1 h.2)
  · simp only [Bool.and_eq_true, decide_eq_true_eq] at h
    exact ev_of s.g rfl (sd_bin s h.1.1 (soundE s _ _ h.1.2).1 (soundE s _ _ h.2).1)
  · exact ev_of s.g rfl (sd_neg (soundE s _ _ h).1)
  · exact ⟨sd_not s (soundE s _ _ h).1, sd_notT (soundE s _ _ h).2⟩
  · obtain ⟨h1, h2⟩ := soundAnd s _ _ _ h
    exact ⟨pe_imp h1 fun σ H Q ⟨ρ, h, R, sr, o⟩ => ⟨ρ, h, R, sr, by unfold evE at o; exact o⟩, pt_imp h2.pt fun σ H Q ⟨ρ, h, R, sr, o⟩ => ⟨ρ, h, R, sr, by unfold evE at o; exact o⟩⟩
  · obtain ⟨h1, h2⟩ := soundOr s _ _ _ h
    exact ⟨pe_imp h1 fun σ H Q ⟨ρ, h, R, sr, o⟩ => ⟨ρ, h, R, sr, by unfold evE at o; exact o⟩, pt_imp h2.pt fun σ H Q ⟨ρ, h, R, sr, o⟩ => ⟨ρ, h, R, sr, by unfold evE at o; exact o⟩⟩
  · simp only [Bool.and_eq_true, decide_eq_true_eq, Bool.not_eq_true'] at h
    exact sd_cmp s h.1.1.1 h.1.1.2 (soundE s _ _ h.1.2).1 (soundE s _ _ h.2).1
  · simp only [Bool.and_eq_true, decide_eq_true_eq, Bool.not_eq_true'] at h
    exact sd_chain s h.1.1.1.1.1 h.1.1.1.1.2 h.1.1.1.2 (soundE s _ _ h.1.1.2).1 (soundE s _ _ h.1.2).1 (soundE s _ _ h.2).1
  · simp only [Bool.and_eq_true] at h
    exact sd_ife (soundE s _ _ h.1.1).2 (soundE s _ _ h.1.2) (soundE s _ _ h.2)
  · simp only [Bool.and_eq_true, decide_eq_true_eq] at h
    exact ev_of s.g rfl (sd_tup (soundEs s _ _ h.1) h.2)
  · simp only [Bool.and_eq_true, decide_eq_true_eq] at h
    exact ev_of s.g rfl (sd_lst (soundEs s _ _ h.1) h.2)
  · simp only [Bool.and_eq_true] at h
    exact ev_of s.g rfl (sd_slc s (soundE s _ _ h.1.1).1 (soundP s _ _ h.1.2) (soundP s _ _ h.2))
  · simp only [Bool.and_eq_true] at h
    exact ev_of s.g rfl (sd_idx s h.1.1 (soundE s _ _ h.1.2).1 (soundE s _ _ h.2).1)
  · simp only [Bool.and_eq_true, decide_eq_true_eq] at h
    exact ev_of s.g rfl (sound_call0 s h.1.1.1 h.1.1.2 h.1.2 h.2 (soundEs s _ _ h.2))
  · simp only [Bool.and_eq_true, decide_eq_true_eq, Bool.not_eq_true'] at h
    exact ev_of s.g rfl (sound_bi s h.1.1.1.1 h.1.1.1.2 h.1.1.2 h.1.2 h.2 (soundEs s _ _ h.2))
  · simp only [Bool.and_eq_true, decide_eq_true_eq] at h
    exact ev_of s.g rfl (sound_isi s h.1.1.1.1.1.1 h.1.1.1.1.1.2 h.1.1.1.1.2 h.1.1.2 h.1.2 h.2 (soundE s _ _ h.1.1.1.2).1)
  · simp only [Bool.and_eq_true, decide_eq_true_eq] at h
    exact ev_of s.g rfl (sd_append s h.1.1.1.1.1.1 h.1.1.1.1.1.2 h.1.1.1.1.2 h.1.1.1.2 h.1.1.2 h.2 (soundE s _ _ h.1.2).1 (soundEs s _ _ h.2))
  · simp only [Bool.and_eq_true] at h
    exact ev_of s.g rfl (sd_comp s.g _ ⟨h.1.1.1.1.1, h.1.1.1.1.2, soundI s _ _ _ _ h.1.1.1.2, fun s0 H C cl fp => soundG (s.blk _ s0 H C cl fp).g h.1.1.2, fun s0 H C cl fp => soundF (s.blk _ s0 H C cl fp) _ _ h.1.2, fun s0 H C cl fp => (soundE (s.blk _ s0 H C cl fp) _ _ h.2).1⟩)
  · simp only [Bool.and_eq_true, List.all_eq_true, List.contains_eq_mem, decide_eq_true_eq] at h
    obtain ⟨⟨⟨⟨⟨⟨⟨⟨⟨⟨hb, h1⟩, h2⟩, hv⟩, hi⟩, hg⟩, hf⟩, hi1⟩, hg1⟩, hf1⟩, he⟩ := h
    exact ev_of s.g rfl (sd_comp2 s.g _ hb h1 h2 hv (soundI s _ _ _ _ hi) (fun s0 H C cl fp => soundG (s.blk _ s0 H C cl fp).g hg) (fun s0 H C cl fp => soundF (s.blk _ s0 H C cl fp) _ _ hf) (fun s0 H C cl fp => soundI (s.blk _ s0 H C cl fp) _ _ _ _ hi1)
      (fun s0 H C cl fp => soundG (s.blk _ s0 H C cl fp).g hg1) (fun s0 H C cl fp => soundF (s.blk _ s0 H C cl fp) _ _ hf1) fun s0 H C cl fp => (soundE (s.blk _ s0 H C cl fp) _ _ he).1)
  · cases h
termination_by sizeOf le
theorem soundI {X : L2.Cx} {c : Sc} {W : WX} (s : SX G k X c W K) (tg : Expr) (kd : String) (es : List LE) (it : Expr) (h : chkI c tg kd es it = true) : PI X tg it (rdI G K W kd es) := by
  unfold chkI at h
  split at h
  · split at h
    · rename_i e
      subst e
      simp only [Bool.and_eq_true] at h
      exact walk_one s.g (soundE s _ _ h.2).1
    · split at h
      · rename_i e
        subst e
        split at h <;> (try (cases h; done))
        simp only [Bool.and_eq_true, decide_eq_true_eq] at h
        exact walk_range s h.1.1.1 h.1.1.2 (.inl rfl) (by simp only [chkEs, Bool.and_eq_true]; exact ⟨⟨h.1.2, h.2⟩, trivial⟩) (sd_cons h.1.2 (soundE s _ _ h.2).1 sd_nil)
      · split at h
        · rename_i e
          subst e
          split at h <;> (try (cases h; done))
          simp only [Bool.and_eq_true, decide_eq_true_eq] at h
          have ht := h.1.1.2
          cases tg <;> (try (cases ht; done))
          exact walk_enum s h.1.1.1.1 h.1.1.1.2 h.1.2 (sd_cons h.1.2 (soundE s _ _ h.2).1 sd_nil)
        · cases h
  · split at h
    · rename_i e
      subst e
      split at h <;> (try (cases h; done))
      simp only [Bool.and_eq_true, decide_eq_true_eq] at h
      exact walk_range s h.1.1.1.1.1 h.1.1.1.1.2 (.inr rfl) (by simp only [chkEs, Bool.and_eq_true]; exact ⟨⟨h.1.1.1.2, h.1.2⟩, ⟨h.1.1.2, h.2⟩, trivial⟩) (sd_cons h.1.1.1.2 (soundE s _ _ h.1.2).1 (sd_cons h.1.1.2 (soundE s _ _ h.2).1 sd_nil))
    · split at h
      · rename_i e
        subst e
        split at h <;> (try (cases h; done))
        simp only [Bool.and_eq_true, decide_eq_true_eq] at h
        have ht := h.1.1.1.1.2
        cases tg <;> (try (cases ht; done))
        exact walk_zip s h.1.1.1.1.1.1 h.1.1.1.1.1.2 h.1.1.1.2 h.1.1.2 (sd_cons h.1.1.1.2 (soundE s _ _ h.1.2).1 (sd_cons h.1.1.2 (soundE s _ _ h.2).1 sd_nil))
      · cases h
  · cases h
termination_by sizeOf es
theorem soundF {X : L2.Cx} {c : Sc} {W : WX} (s : SX G k X c W K) (ls : List LE) (es : List Expr) (h : chkF c ls es = true) : PTs X es (rdIf G K W ls) := by
  unfold chkF at h
  split at h
  · exact ifs_nil
  · exact ifs_one (soundE s _ _ h).2
  · cases h
termination_by sizeOf ls
theorem soundP {X : L2.Cx} {c : Sc} {W : WX} (s : SX G k X c W K) : ∀ (lo : List LE) (l : Option Expr), chkO c lo l = true → PO X l (rdPart G K W lo)
  | [], none, _ => sd_part0
  | [a], some e, h => by
    simp only [chkO] at h
    exact sd_part1 (soundE s a e h).1
  | [], some _, h => by simp [chkO] at h
  | [_], none, h => by simp [chkO] at h
  | _ :: _ :: _, none, h => by simp [chkO] at h
  | _ :: _ :: _, some _, h => by simp [chkO] at h
termination_by lo => sizeOf lo
theorem soundAnd {X : L2.Cx} {c : Sc} {W : WX} (s : SX G k X c W K) : ∀ (ls : List LE) (es : List Expr) (p : Pos), chkB c ls es = true → PE X (.BoolOp .And es p) (rdAnd G K W ls) ∧ PW X (.BoolOp .And es p) (rdTAnd G K W ls)
  | [], _, _, h => by simp [chkB] at h
  | _ :: _, [], _, h => by simp [chkB] at h
  | [l], [e], p, h => by
    simp only [chkB] at h
    exact sd_and1 (soundE s l e h)
  | [_], _ :: _ :: _, _, h => by simp [chkB] at h
  | _ :: _ :: _, [_], _, h => by simp [chkB] at h
  | l :: l2 :: ls, e :: e2 :: es, p, h => by
    simp only [chkB, Bool.and_eq_true] at h
    exact sd_and2 s (soundE s l e h.1) (soundAnd s (l2 :: ls) (e2 :: es) p h.2)
termination_by ls => sizeOf ls
theorem soundOr {X : L2.Cx} {c : Sc} {W : WX} (s : SX G k X c W K) : ∀ (ls : List LE) (es : List Expr) (p : Pos), chkB c ls es = true → PE X (.BoolOp .Or es p) (rdOr G K W ls) ∧ PW X (.BoolOp .Or es p) (rdTOr G K W ls)
  | [], _, _, h => by simp [chkB] at h
  | _ :: _, [], _, h => by simp [chkB] at h
  | [l], [e], p, h => by
    simp only [chkB] at h
    exact sd_or1 (soundE s l e h)
  | [_], _ :: _ :: _, _, h => by simp [chkB] at h
  | _ :: _ :: _, [_], _, h => by simp [chkB] at h
  | l :: l2 :: ls, e :: e2 :: es, p, h => by
    simp only [chkB, Bool.and_eq_true] at h
    exact sd_or2 s (soundE s l e h.1) (soundOr s (l2 :: ls) (e2 :: es) p h.2)
termination_by ls => sizeOf ls
theorem soundEs {X : L2.Cx} {c : Sc} {W : WX} (s : SX G k X c W K) : ∀ (ls : List LE) (es : List Expr), chkEs c ls es = true → PA X es (rdA G K W ls)
  | [], [], _ => sd_nil
  | [], _ :: _, h => by simp [chkEs] at h
  | _ :: _, [], h => by simp [chkEs] at h
  | l :: ls, e :: es, h => by
    simp only [chkEs, Bool.and_eq_true] at h
    exact sd_cons h.1.1 (soundE s l e h.1.2).1 (soundEs s ls es h.2)
termination_by ls => sizeOf ls
end
end
end Lite

/-! LITE, 12b: a, b = x, y. -/
namespace Lite
open PySem L2 PySem.Spec
open PyProof.Rows hiding St
theorem swapped2 {env : PySem.Env} {x y : Str} {px py pt pt2 : Pos} {kt k2 : Nat} {a b : Expr} (hk : env.scope.kind = .function) (hx : env.scope.names.lookup x = some .local) (hy : env.scope.names.lookup y = some .local) (hl : (py.line == px.line) = true) (hne : (x == y) = false)
    (pa : plainE a = true) (pb : plainE b = true) (hf : ([a, b].all (foldedForSure 8)) = false) (hc : ([a, b].all (constantsAlone 8)) = false) :
    swappedStores [.Tuple [.Name x px, .Name y py] kt pt] (.Tuple [a, b] k2 pt2) env = pure (some [x, y]) := by
  have hne2 : ¬ x = y := by simpa using hne
  have hne3 : ¬ y = x := fun e => hne2 e.symm
  have kx : env.kindOf x = some .local := hx
  have ky : env.kindOf y = some .local := hy
  have bk : env.blockKind = .function := by simp [Env.blockKind, hk]
  have ed : ([x, y] : List Str).eraseDups = [x, y] := by simp [List.eraseDups_cons, hne3]
  have hl2 : py.line = px.line := by simpa using hl
  unfold swappedStores
  simp only [List.length_cons, List.length_nil, bk]
  simp [kx, ky, hl2, ed, Expr.pos]
  rw [if_neg, if_neg, if_neg]
  · rintro ⟨h1, h2⟩
    simp [h1, h2] at hc
  · rintro ⟨h1, h2⟩
    simp [h1, h2] at hf
  · rintro (h | h)
    · cases a <;> first | (cases pa; done) | (cases h; done)
    · cases b <;> first | (cases pb; done) | (cases h; done)
theorem swapped3 {env : PySem.Env} {x y z : Str} {px py pz pt pt2 : Pos} {kt k2 : Nat} {a b d : Expr} (hk : env.scope.kind = .function) (hx : env.scope.names.lookup x = some .local) (hy : env.scope.names.lookup y = some .local) (hz : env.scope.names.lookup z = some .local)
    (hl : (py.line == px.line) = true) (hl' : (pz.line == px.line) = true) (hne : (x == y) = false) (hne' : (x == z) = false) (hne'' : (y == z) = false)
    (pa : plainE a = true) (pb : plainE b = true) (pd : plainE d = true) (hf : ([a, b, d].all (foldedForSure 8)) = false) (hc : ([a, b, d].all (constantsAlone 8)) = false) :
    swappedStores [.Tuple [.Name x px, .Name y py, .Name z pz] kt pt] (.Tuple [a, b, d] k2 pt2) env = pure (some [x, y, z]) := by
  have n1 : ¬ y = x := fun e => by simp [e] at hne
  have n2 : ¬ z = x := fun e => by simp [e] at hne'
  have n3 : ¬ z = y := fun e => by simp [e] at hne''
  have kx : env.kindOf x = some .local := hx
  have ky : env.kindOf y = some .local := hy
  have kz : env.kindOf z = some .local := hz
  have bk : env.blockKind = .function := by simp [Env.blockKind, hk]
  have ed : ([x, y, z] : List Str).eraseDups = [x, y, z] := by simp [List.eraseDups_cons, n1, n2, n3]
  have hl2 : py.line = px.line := by simpa using hl
  have hl3 : pz.line = px.line := by simpa using hl'
  unfold swappedStores
  simp only [List.length_cons, List.length_nil, bk]
  simp [kx, ky, kz, hl2, hl3, ed, Expr.pos]
  rw [if_neg, if_neg, if_neg]
  · rintro ⟨h1, h2, h3⟩
    simp [h1, h2, h3] at hc
  · rintro ⟨h1, h2, h3⟩
    simp [h1, h2, h3] at hf
  · rintro (h | h | h)
    · cases a <;> first | (cases pa; done) | (cases h; done)
    · cases b <;> first | (cases pb; done) | (cases h; done)
    · cases d <;> first | (cases pd; done) | (cases h; done)
section
variable {G : GD} {k : Nat} {X : L2.Cx} {c : Sc} {W : WX} {K : Cn} {A : List Nat}
/-- the target and the value of such a statement -/
def chkPar (c : Sc) (A : List Nat) (is : List Nat) : Expr → Expr → Bool
  | .Tuple [.Name x px, .Name y py] _ _, .Tuple [a, b] _ _ => (match is with
    | [i, j] => decide (c.N[i]? = some x) && decide (c.N[j]? = some y) && decide (c.sc.names.lookup x = some .local) && decide (c.sc.names.lookup y = some .local) && A.contains i && A.contains j && decide (i ≠ j) && (py.line == px.line) && !(x == y) &&
        plainE a && plainE b && !([a, b].all (foldedForSure 8)) && !([a, b].all (constantsAlone 8))
    | _ => false)
  | .Tuple [.Name x px, .Name y py, .Name z pz] _ _, .Tuple [a, b, d] _ _ => (match is with
    | [i, j, l] => decide (c.N[i]? = some x) && decide (c.N[j]? = some y) && decide (c.N[l]? = some z) && decide (c.sc.names.lookup x = some .local) && decide (c.sc.names.lookup y = some .local) && decide (c.sc.names.lookup z = some .local) && A.contains i && A.contains j && A.contains l &&
        decide (i ≠ j) && decide (i ≠ l) && decide (j ≠ l) && (py.line == px.line) && (pz.line == px.line) && !(x == y) && !(x == z) && !(y == z) &&
        plainE a && plainE b && plainE d && !([a, b, d].all (foldedForSure 8)) && !([a, b, d].all (constantsAlone 8))
    | _ => false)
  | _, _ => false
def tupEs : Expr → List Expr
  | .Tuple es _ _ => es
  | _ => []
theorem st_par (g : GX G k X c W) {is : List Nat} {es : List LE} {t e : Expr} {p : Pos} (h : chkPar c A is t e = true) (ha : PA X (tupEs e) (rdA G K W es)) : PS X (.Assign [t] e p) (rdS G K W A (.par is es)) := by
  refine ⟨fun pins s σ H D I q => ?_⟩
  have hk : X.env.scope.kind = .function := I.ok.kind
  have hN : X.N.Nodup := by rw [g.N]; exact g.nd
  obtain ⟨ρ, h0, R, sr, oo⟩ := q
  unfold exS at oo
  unfold chkPar at h
  split at h
  · split at h <;> (try (cases h; done))
    rename_i i j
    simp only [Bool.and_eq_true, decide_eq_true_eq, List.contains_eq_mem, Bool.not_eq_true'] at h
    obtain ⟨⟨⟨⟨⟨⟨⟨⟨⟨⟨⟨⟨n1, n2⟩, l1⟩, l2⟩, a1⟩, a2⟩, hij⟩, hl⟩, hne⟩, pa⟩, pb⟩, hf⟩, hc⟩ := h
    refine (ps_par g.calm hN (by rw [g.N]; exact n1) (by rw [g.N]; exact n2) hij (g.sc1 _ _ (by decide) l1) (g.sc1 _ _ (by decide) l2) ha (swapped2 hk (g.sc1 _ _ (by decide) l1) (g.sc1 _ _ (by decide) l2) hl hne pa pb hf hc)).run pins s σ H D I ?_
    refine rdA.bindS sr oo fun ts h1 R1 H1 vs hlen sr1 lq rs o1 => ?_
    split at o1 <;> (try (exact o1.elim))
    rename_i hl2
    match ts, vs, rs, hl2, o1 with
    | [x, y], [v, w], .cons r1 (.cons r2 .nil), _, o1 =>
      exact ⟨v, w, rfl, o1 R1 H1 _ (Lq.refl _ _) sr1.hr ((sr1.er.set i r1).set j r2) (((Agree.refl _ _).set a1 _).set a2 _)⟩
    | [], _, _, hl2, _ => simp at hl2
    | [_], _, _, hl2, _ => simp at hl2
    | _ :: _ :: _ :: _, _, _, hl2, _ => simp at hl2
  · split at h <;> (try (cases h; done))
    rename_i i j l
    simp only [Bool.and_eq_true, decide_eq_true_eq, List.contains_eq_mem, Bool.not_eq_true'] at h
    obtain ⟨⟨⟨⟨⟨⟨⟨⟨⟨⟨⟨⟨⟨⟨⟨⟨⟨⟨⟨⟨⟨n1, n2⟩, n3⟩, l1⟩, l2⟩, l3⟩, a1⟩, a2⟩, a3⟩, hij⟩, hil⟩, hjl⟩, hl⟩, hl'⟩, hne⟩, hne'⟩, hne''⟩, pa⟩, pb⟩, pd⟩, hf⟩, hc⟩ := h
    refine (ps_par3 g.calm hN (by rw [g.N]; exact n1) (by rw [g.N]; exact n2) (by rw [g.N]; exact n3) hij hil hjl (g.sc1 _ _ (by decide) l1) (g.sc1 _ _ (by decide) l2) (g.sc1 _ _ (by decide) l3) ha
      (swapped3 hk (g.sc1 _ _ (by decide) l1) (g.sc1 _ _ (by decide) l2) (g.sc1 _ _ (by decide) l3) hl hl' hne hne' hne'' pa pb pd hf hc)).run pins s σ H D I ?_
    refine rdA.bindS sr oo fun ts h1 R1 H1 vs hlen sr1 lq rs o1 => ?_
    split at o1 <;> (try (exact o1.elim))
    rename_i hl2
    match ts, vs, rs, hl2, o1 with
    | [x, y, z], [v, w, u], .cons r1 (.cons r2 (.cons r3 .nil)), _, o1 =>
      exact ⟨v, w, u, rfl, o1 R1 H1 _ (Lq.refl _ _) sr1.hr (((sr1.er.set i r1).set j r2).set l r3) ((((Agree.refl _ _).set a1 _).set a2 _).set a3 _)⟩
    | [], _, _, hl2, _ => simp at hl2
    | [_], _, _, hl2, _ => simp at hl2
    | [_, _], _, _, hl2, _ => simp at hl2
    | _ :: _ :: _ :: _ :: _, _, _, hl2, _ => simp at hl2
  · cases h
end
end Lite

/-! LITE, 12: statements: the check and the induction. -/
namespace Lite
open PySem L2 PySem.Spec
open PyProof.Rows hiding St

/-- what is no comprehension -/
def noComp : Expr → Bool
  | .ListComp .. => false
  | .SetComp .. => false
  | .DictComp .. => false
  | _ => true
def noTup : Expr → Bool
  | .Tuple .. => false
  | _ => true
theorem swaps_no {e : Expr} (h : noComp e = true) (t : Option Expr) (n : Nat) (env : PySem.Env) : swapsWith e t n env = pure false := by
  cases e <;> first | rfl | cases h
/-- a tuple of constants -/
def allFold : Expr → Bool
  | .Tuple es _ _ => es.all (foldedForSure 8)
  | _ => false
theorem stores_fold {tg e : Expr} (h : (noTup e || allFold e) = true) (env : PySem.Env) : swappedStores [tg] e env = pure none := by
  cases e with
  | Tuple vs kk pp =>
    have hf : vs.all (foldedForSure 8) = true := by simpa [noTup, allFold] using h
    unfold swappedStores
    cases tg <;> first | rfl | skip
    all_goals
      simp only [hf, if_true]
      repeat' split
      all_goals first | rfl | (simp; done) | skip
  | _ => cases tg <;> rfl
theorem stores_no {tg e : Expr} (h : noTup e = true) (env : PySem.Env) : swappedStores [tg] e env = pure none := by
  cases e <;> first | (cases tg <;> rfl) | cases h
mutual
def chkS (c : Sc) (A : List Nat) : LS → Stmt → Bool
  | .expr l, .Expr e _ => noComp e && chkE c l e
  | .set i (.comp _ own elt tg kd it ifs), .Assign [.Name y py] (.ListComp e [⟨t, j, is, 0⟩] scope p) _ => decide (c.N[i]? = some y) && decide (c.sc.names.lookup y = some .local) && A.contains i && (py.line == p.line) && !(scope.names.any fun (n, k) => n == y && (k == .local || k == .cell)) &&
      (blkC c.N c.sc scope (ownN c own) && chkOne j && chkI c t kd it j && chkG { c with sc := scope } own tg t && chkF { c with sc := scope } ifs is && chkE { c with sc := scope } elt e)
  | .set i l, .Assign [.Name x _] e _ => decide (c.N[i]? = some x) && isLoc c x && A.contains i && noComp e && chkE c l e
  | .par is es, .Assign [t] e _ => chkPar c A is t e && chkEs c es (tupEs e)
  | .unp g l, .Assign [tg] e _ => isTup tg && chkG c A g tg && noComp e && (noTup e || allFold e) && chkE c l e
  | .sidx o i l, .Assign [.Subscript a b _] e _ => ixE b && noComp e && chkE c o a && chkE c i b && chkE c l e
  | .aug i o l, .AugAssign (.Name x _) op e _ => decide (c.N[i]? = some x) && isLoc c x && A.contains i && decide (bOp o = op) && chkE c l e
  | .ret l, .Return (some e) _ => chkE c l e
  | .retN, .Return none _ => true
  | .iff l a b, .If e x y _ => chkE c l e && chkSs c A a x && chkSs c A b y
  | .whl _ l b, .While e x [] _ => chkE c l e && chkSs c A b x
  | .for g k it b, .For tg e x [] _ => chkI c tg k it e && chkOne e && chkG c A g tg && chkSs c A b x
  | .pass, .Pass _ => true
  | .pass, .Expr (.Constant (.str _) _ _) _ => true
  | .brk, .Break _ => true
  | .cnt, .Continue _ => true
  | _, _ => false
def chkSs (c : Sc) (A : List Nat) : List LS → List Stmt → Bool
  | [], [] => true
  | .frz i :: ls, ss => decide (i < c.N.length) && A.contains i && chkSs c A ls ss
  | l :: ls, s :: ss => chkS c A l s && chkSs c A ls ss
  | _, _ => false
end

section
variable {G : GD} {k : Nat} {X : L2.Cx} {c : Sc} {W : WX} {K : Cn} {A : List Nat}
theorem set_same {α : Type} : ∀ {l : List α} {i : Nat} {x : α}, l[i]? = some x → l.set i x = l
  | [], i, x, h => by simp at h
  | y :: ys, 0, x, h => by simp at h; simp [h]
  | y :: ys, i + 1, x, h => by simp at h; simp [set_same h]
theorem Inv.lockD {pins : List (Addr × Obj)} {σ : St} {H : Hp} {s : Shared} (I : Inv X pins σ H s) {p : Addr} {es : List DictEntry} (hp : H p = some (DX p es)) : ∃ o, Inv X pins σ (upd H p (.frz o (DX p es))) s := by
  have hx := I.hok p _ hp
  obtain ⟨⟨n, e⟩, h2, h3⟩ := id hx
  exact ⟨_, I.write (t' := s.toks) (h' := s.heap) (x := p) (e := p) (o := .frz _ (DX p es)) (by rw [hp]; exact trivial) (.inl rfl) (fun _ _ _ q => q) ⟨_, e⟩ ⟨e, ⟨n, e⟩, h2, h3⟩⟩
/-! ### the cases -/
theorem st_expr {l : LE} {e : Expr} {p : Pos} (hn : noComp e = true) (he : PE X e (rdE G K W l)) : PS X (.Expr e p) (rdS G K W A (.expr l)) := by
  refine ps_imp (ps_expr he (swaps_no hn _ _ _)) fun D σ H ⟨ρ, h, R, sr, o⟩ => ?_
  unfold exS at o
  exact rdE.bindS sr o fun t h1 R1 H1 v sr1 lq vr o1 => o1 R1 H1 σ (Lq.refl _ _) sr1.hr sr1.er (Agree.refl _ _)
theorem st_set (g : GX G k X c W) {i : Nat} {x : Str} {l : LE} {e : Expr} {p p2 : Pos} (h1 : c.N[i]? = some x) (h2 : isLoc c x = true) (h3 : i ∈ A) (hn : noComp e = true) (he : PE X e (rdE G K W l)) : PS X (.Assign [.Name x p2] e p) (rdS G K W A (.set i l)) := by
  obtain ⟨l1, l2⟩ := g.loc h2
  refine ps_imp (ps_set (by rw [g.N]; exact g.nd) (by rw [g.N]; exact h1) l1 he (swaps_no hn _ _ _) l2) fun D σ H ⟨ρ, h, R, sr, o⟩ => ?_
  unfold exS at o
  exact rdE.bindS sr o fun t h1 R1 H1 v sr1 lq vr o1 => o1 R1 H1 _ (Lq.refl _ _) sr1.hr (sr1.er.set _ vr) ((Agree.refl _ _).set h3 _)
theorem each_tup {tg : Expr} (h : isTup tg = true) (env : PySem.Env) : (assignEach [tg] env).map (·.2) = [assign tg env] := by
  cases tg <;> first | rfl | cases h
theorem st_unp (g : GX G k X c W) {tg : Tg} {l : LE} {e t : Expr} {p : Pos} (h1 : isTup t = true) (h2 : chkG c A tg t = true) (hn : noComp e = true) (hm : (noTup e || allFold e) = true) (he : PE X e (rdE G K W l)) : PS X (.Assign [t] e p) (rdS G K W A (.unp tg l)) := by
  refine ps_imp (ps_asg he (soundG g h2) (swaps_no hn _ _ _) (stores_fold hm _) (each_tup h1 _)) fun D σ H ⟨ρ, h, R, sr, o⟩ => ?_
  unfold exS at o
  refine rdE.bindS sr o fun t h1 R1 H1 v sr1 lq vr o1 => ?_
  cases eb : bindTg tg t h1 ρ with
  | none => rw [eb] at o1; exact o1.elim
  | some ρ' =>
    rw [eb] at o1
    exact ⟨ρ, h1, R1, t, ρ', sr1, vr, eb, fun σ' er ag => o1 R1 H1 σ' (Lq.refl _ _) sr1.hr er ag⟩
theorem st_sidx {o i l : LE} {a b e : Expr} {p p2 : Pos} (hx : ixE b = true) (hn : noComp e = true) (ha : PE X a (rdE G K W o)) (hb : PE X b (rdE G K W i)) (he : PE X e (rdE G K W l)) : PS X (.Assign [.Subscript a b p2] e p) (rdS G K W A (.sidx o i l)) := by
  refine ps_imp (ps_asg he (pg_sub ha hb set_list (fun v => by cases b <;> first | rfl | cases hx)) (by show swapsWith e (some (.Subscript a b p2)) p.line X.env = pure false; exact swaps_no hn _ _ _) (by cases e <;> rfl) rfl) fun D σ H ⟨ρ, h, R, sr, oo⟩ => ?_
  unfold exS at oo
  refine rdE.bindS sr oo fun t h1 R1 H1 v sr1 lq1 vr o1 => ?_
  refine rdE.bindS sr1 o1 fun x h2 R2 H2 vx sr2 lq2 rx o2 => ?_
  refine rdE.bindS sr2 o2 fun y h3 R3 H3 vy sr3 lq3 ry o3 => ?_
  split at o3 <;> (try (exact o3.elim))
  rename_i n
  split at o3 <;> (try (exact o3.elim))
  · rename_i xs z ev
    split at o3 <;> (try (exact o3.elim))
    rename_i j ej
    cases ry
    cases rx
    rename_i a' ea
    obtain ⟨vs, hq, rs⟩ := sr3.hr.obj n _ a' ev (lq3.pre _ _ ea)
    have vr3 : VR G R3 H3 t v := (vr.mono lq2).mono lq3
    have lq4 : Lq R3 H3 R3 (upd H3 a' (.lst (vs.set j v))) := Lq.put (lq3.pre _ _ ea) hq (by simp [FT])
    obtain ⟨hr4, _⟩ := sr3.hr.put (o := .lst (xs.set j t)) (lq3.pre _ _ ea) hq (by simp [FT]) rfl ⟨vs.set j v, upd_same, (rs.set vr3 j).mono lq4⟩
    exact ⟨a', vs, z, j, rfl, rfl, hq, by rw [← place_ix, ← rs.length]; exact ej, o3 R3 _ σ lq4 hr4 (sr3.er.mono lq4) (Agree.refl _ _)⟩
theorem op_aug : ∀ o : BOp, PIp X (bOp o) (fun x y H Q => ∃ (R : List Addr) (a b z : T), VR G R H a x ∧ VR G R H b y ∧ augop o a b = some z ∧ ∀ v, VR G R H z v → Q v H) := by
  intro o pins s σ H x y v u Q I rx ry ⟨R, a, b, z, h1, h2, h3, q⟩
  unfold augop at h3
  split at h3 <;> (try (cases h3; done))
  · cases h1; cases h2; cases h3
    exact ip_add pins s σ H _ _ v u Q I rx ry ⟨_, _, rfl, rfl, q _ (.int _)⟩
  · cases h1; cases h2; cases h3
    exact ip_sub pins s σ H _ _ v u Q I rx ry ⟨_, _, rfl, rfl, q _ (.int _)⟩
  · split at h3 <;> (try (cases h3; done))
    rename_i hz
    cases h1; cases h2; cases h3
    refine iop_add_str pins s σ H _ _ v u Q I rx ry ⟨_, _, rfl, rfl, ?_, ?_⟩
    · rw [tx_len, tx_len, top_eq]; exact hz
    · rw [tx_app]; exact q _ (.str _)
theorem st_aug (g : GX G k X c W) {i : Nat} {o : BOp} {op : Operator} {x : Str} {l : LE} {e : Expr} {p p2 : Pos} (h1 : c.N[i]? = some x) (h2 : isLoc c x = true) (h3 : i ∈ A) (ho : bOp o = op) (he : PE X e (rdE G K W l)) : PS X (.AugAssign (.Name x p2) op e p) (rdS G K W A (.aug i o l)) := by
  subst ho
  obtain ⟨l1, l2⟩ := g.loc h2
  refine ps_imp (ps_aug (by rw [g.N]; exact g.nd) (by rw [g.N]; exact h1) l1 he (op_aug (G := G) o) l2) fun D σ H ⟨ρ, h, R, sr, oo⟩ => ?_
  unfold exS at oo
  split at oo
  · rename_i t et
    obtain ⟨v, ev, rv⟩ := sr.er.2 i t et
    refine ⟨v, ev, rdE.bindS sr oo fun y h1 R1 H1 vy sr1 lq ry o1 => ?_⟩
    obtain ⟨z, ez, q⟩ := o1.of
    cases e1 : augop o t y with
    | none => rw [e1] at ez; cases ez
    | some w =>
      rw [e1] at ez
      cases ez
      exact ⟨R1, t, y, w, rv.mono lq, ry, e1, fun v' r' => q R1 H1 _ (Lq.refl _ _) sr1.hr (sr1.er.set _ r') ((Agree.refl _ _).set h3 _)⟩
  · exact oo.elim
theorem st_ret {l : LE} {e : Expr} {p : Pos} (he : PE X e (rdE G K W l)) : PS X (.Return (some e) p) (rdS G K W A (.ret l)) := by
  refine ps_imp (ps_ret he) fun D σ H ⟨ρ, h, R, sr, o⟩ => ?_
  unfold exS at o
  exact rdE.bindS sr o fun t h1 R1 H1 v sr1 lq vr o1 => o1 R1 H1 v (Lq.refl _ _) sr1.hr vr
theorem st_retN {p : Pos} : PS X (.Return none p) (rdS G K W A .retN) := ps_imp ps_retN fun D σ H ⟨ρ, h, R, sr, o⟩ => by
  unfold exS at o
  exact o R H .non (Lq.refl _ _) sr.hr .non
theorem st_pass {t : Stmt} (ht : PS X t tNext) : PS X t (rdS G K W A .pass) := ps_imp ht fun D σ H ⟨ρ, h, R, sr, o⟩ => by
  unfold exS at o
  exact o R H σ (Lq.refl _ _) sr.hr sr.er (Agree.refl _ _)
theorem st_brk {p : Pos} : PS X (.Break p) (rdS G K W A .brk) := ps_imp ps_break fun D σ H ⟨ρ, h, R, sr, o⟩ => by
  unfold exS at o
  exact o R H σ (Lq.refl _ _) sr.hr sr.er (Agree.refl _ _)
theorem st_cnt {p : Pos} : PS X (.Continue p) (rdS G K W A .cnt) := ps_imp ps_continue fun D σ H ⟨ρ, h, R, sr, o⟩ => by
  unfold exS at o
  exact o R H σ (Lq.refl _ _) sr.hr sr.er (Agree.refl _ _)
theorem st_if {l : LE} {a b : List LS} {e : Expr} {x y : List Stmt} {p : Pos} (he : PT X e (rdT G K W l)) (ha : PSs X x (rdSs G K W A a)) (hb : PSs X y (rdSs G K W A b)) : PS X (.If e x y p) (rdS G K W A (.iff l a b)) := by
  refine ps_imp (ps_if he ha hb) fun D σ H ⟨ρ, h, R, sr, o⟩ => ?_
  unfold exS at o
  refine rdT.bindS sr (g := fun q h => if q = true then exSs K a ρ h else exSs K b ρ h) (fun t h b e => ?_) (fun t h e => ?_) o fun q h1 R1 H1 sr1 lq o1 => ?_
  · rw [e]; cases b <;> rfl
  · rw [e]
  · cases q with
    | true => exact ⟨ρ, h1, R1, sr1, o1⟩
    | false => exact ⟨ρ, h1, R1, sr1, o1⟩
theorem ss_nil : PSs X [] (rdSs G K W A []) := pss_imp pss_nil fun D σ H ⟨ρ, h, R, sr, o⟩ => by
  unfold exSs at o
  exact o R H σ (Lq.refl _ _) sr.hr sr.er (Agree.refl _ _)
theorem ss_cons {l : LS} {ls : List LS} {t : Stmt} {ts : List Stmt} (h1 : PS X t (rdS G K W A l)) (h2 : PSs X ts (rdSs G K W A ls)) : PSs X (t :: ts) (rdSs G K W A (l :: ls)) := by
  refine pss_imp (pss_cons h1 h2) fun D σ H ⟨ρ, h, R, sr, o⟩ => ?_
  unfold exSs at o
  refine ⟨ρ, h, R, sr, (Sat.bind.mp o).imp (fun fl h' q => ?_) fun _ _ z => z⟩
  cases fl with
  | nx ρ' => exact fun R' H' σ' lq hr er ag => ⟨ρ', h', R', ⟨hr, er⟩, q.laterS lq ag⟩
  | brk ρ' => exact q
  | cnt ρ' => exact q
  | ret v => exact q
theorem ss_frz {i : Nat} {ls : List LS} {ts : List Stmt} (hi : i ∈ A) (h2 : PSs X ts (rdSs G K W A ls)) : PSs X ts (rdSs G K W A (.frz i :: ls)) := by
  refine ⟨fun pins s σ H D I ⟨ρ, h, R, sr, o⟩ => ?_⟩
  unfold exSs at o
  have o1 := Sat.bind.mp o
  unfold exS at o1
  split at o1 <;> (try (exact o1.elim))
  rename_i n en
  split at o1 <;> (try (exact o1.elim))
  · rename_i xs ex
    obtain ⟨v, ev, rv⟩ := sr.er.2 i _ en
    cases rv
    rename_i a ea
    obtain ⟨vs, hq, rs⟩ := sr.hr.obj n _ a ex ea
    obtain ⟨ob, I2⟩ := Inv.lock I hq
    obtain ⟨hr2, lq2⟩ := sr.hr.put (o := .dead) (u := .frz ob (.lst vs)) ea hq (by simp [FT]) rfl trivial
    refine h2.run pins s σ _ D I2 ⟨_, _, R, ⟨hr2, ?_⟩, Sat.laterS lq2 (Agree.refl _ _) o1⟩
    have er2 := (sr.er.mono lq2).set i (VR.lst (.inl ⟨ob, upd_same⟩) (rs.mono lq2))
    rw [set_same ev] at er2
    exact er2
  · rename_i ks ys ex
    obtain ⟨v, ev, rv⟩ := sr.er.2 i _ en
    cases rv
    rename_i a ea
    obtain ⟨es, hq, rs⟩ := sr.hr.obj n _ a ex ea
    obtain ⟨ob, I2⟩ := Inv.lockD I hq
    obtain ⟨hr2, lq2⟩ := sr.hr.put (o := .dead) (u := .frz ob (DX a es)) ea hq (by simp [FT, DX]) rfl trivial
    refine h2.run pins s σ _ D I2 ⟨_, _, R, ⟨hr2, ?_⟩, Sat.laterS lq2 (Agree.refl _ _) o1⟩
    have er2 := (sr.er.mono lq2).set i (VR.dct (.inl ⟨ob, upd_same⟩) (rs.mono lq2))
    rw [set_same ev] at er2
    exact er2
/-! ### for -/
theorem st_for (s : SX G k X c W K) {g : Tg} {kd : String} {it : List LE} {b : List LS} {tg e : Expr} {x : List Stmt} {p : Pos} (hi : PI X tg e (rdI G K W kd it)) (hs : chkOne e = true) (hg : chkG c A g tg = true) (hb : PSs X x (rdSs G K W A b)) :
    PS X (.For tg e x [] p) (rdS G K W A (.for g kd it b)) := by
  refine ps_imp (ps_for s.g.po s.g.calm hi (soundG s.g hg) hb (fun y => by cases e <;> first | rfl | cases hs)) fun D σ H ⟨ρ, h, R, sr, o⟩ => ?_
  unfold exS at o
  refine ⟨ρ, h, R, sr, Sat.bind.mpr ((Sat.bind.mp o).imp (fun ts h1 o1 => ?_) fun _ _ z => z.at)⟩
  cases ew : walked kd h1 ts with
  | none => rw [ew] at o1; exact o1.elim
  | some p =>
    obtain ⟨xs, gs⟩ := p
    rw [ew] at o1
    show Sat (.ok (xs, gs) h1) _ _
    intro R1 H1 J lq1 hr1 st
    have o2 := o1.laterS lq1 (Agree.refl A σ)
    refine ⟨fun i m σ' H' => m = xs.length - i ∧ i ≤ xs.length ∧ ∃ ρ' h' R', SR G ρ' h' R' σ' H' ∧ Lq R1 H1 R' H' ∧
        Sat (loop (still gs) (fun x ρ h => withB (bindTg g x h ρ) fun ρ => exSs K b ρ h) (xs.drop i) ρ' h') (PostT G A σ' R' H' D) (PostXS G A σ' R' H' W),
      ⟨xs.length, by simp, Nat.zero_le _, ρ, h1, R1, ⟨hr1, sr.er.mono lq1⟩, Lq.refl _ _, by simpa using o2⟩, ?_⟩
    rintro i m σ' H' ⟨rfl, hi, ρ', h', R', sr', lq', o3⟩
    by_cases hlt : i < xs.length
    · right
      rw [List.drop_eq_getElem_cons hlt] at o3
      unfold loop at o3
      split at o3 <;> (try (exact o3.elim))
      rename_i hok
      obtain ⟨st1, st2⟩ := st i h' R' H' lq'.lf sr'.hr hok
      obtain ⟨go, yl⟩ := st2 xs[i] (by simp [hlt])
      refine ⟨go, _, fun σ2 H2 w => ⟨xs.length - (i + 1), by omega, w⟩, fun v H2 hy => ?_⟩
      obtain ⟨lq2, hr2, vr⟩ := yl v H2 hy
      cases eb : bindTg g xs[i] h' ρ' with
      | none => rw [eb] at o3; exact o3.elim
      | some ρ2 =>
        rw [eb] at o3
        refine ⟨ρ', h', R', xs[i], ρ2, ⟨hr2, sr'.er.mono lq2⟩, vr, eb, fun σ3 er3 ag3 => ⟨ρ2, h', R', ⟨hr2, er3⟩, ?_⟩⟩
        refine (Sat.bind.mp o3).imp (fun fl h4 o4 => ?_) fun _ _ z => z.later lq2 ag3
        have nxt : ∀ ρ5, Sat (loop (still gs) (fun x ρ h => withB (bindTg g x h ρ) fun ρ => exSs K b ρ h) (xs.drop (i + 1)) ρ5 h4) (PostT G A σ' R' H' D) (PostXS G A σ' R' H' W) →
            ∀ R5 H5 σ5, Lq R' H2 R5 H5 → HRel G h4 R5 H5 → ERel G R5 H5 ρ5 σ5 → Agree A σ3 σ5 → _ := fun ρ5 q R5 H5 σ5 l5 hr5 er5 ag5 =>
          (⟨rfl, hlt, ρ5, h4, R5, ⟨hr5, er5⟩, (lq'.trans lq2).trans l5, q.laterS (lq2.trans l5) (ag3.trans ag5)⟩ : (xs.length - (i + 1) = xs.length - (i + 1)) ∧ i + 1 ≤ xs.length ∧ ∃ ρ' h' R', SR G ρ' h' R' σ5 H5 ∧ Lq R1 H1 R' H5 ∧
            Sat (loop (still gs) (fun x ρ h => withB (bindTg g x h ρ) fun ρ => exSs K b ρ h) (xs.drop (i + 1)) ρ' h') (PostT G A σ5 R' H5 D) (PostXS G A σ5 R' H5 W))
        cases fl with
        | nx ρ5 => exact nxt ρ5 o4
        | cnt ρ5 => exact nxt ρ5 o4
        | brk ρ5 => exact fun R5 H5 σ5 l5 hr5 er5 ag5 => o4 R5 H5 σ5 (lq2.trans l5) hr5 er5 (ag3.trans ag5)
        | ret t => exact fun R5 H5 v5 l5 hr5 vr5 => o4 R5 H5 v5 (lq2.trans l5) hr5 vr5
    · left
      have e : i = xs.length := by omega
      subst e
      rw [List.drop_length] at o3
      unfold loop at o3
      split at o3 <;> (try (exact o3.elim))
      rename_i hok
      exact ⟨(st _ h' R' H' lq'.lf sr'.hr hok).1 (Nat.le_refl _), o3 R' H' σ' (Lq.refl _ _) sr'.hr sr'.er (Agree.refl _ _)⟩
/-! ### while -/
theorem st_whl (s : SX G k X c W K) {n : Nat} {l : LE} {b : List LS} {e : Expr} {x : List Stmt} {p : Pos} (he : PT X e (rdT G K W l)) (hb : PSs X x (rdSs G K W A b)) : PS X (.While e x [] p) (rdS G K W A (.whl n l b)) := by
  refine ps_imp (ps_while s.g.po he hb) fun D σ H ⟨ρ, h, R, sr, o⟩ => ?_
  unfold exS at o
  refine ⟨fun m σ' H' => ∃ ρ' h' R', SR G ρ' h' R' σ' H' ∧ Sat (wloop (fun ρ h => (evE K l ρ h).bind fun x h => Rs.of (truth h x) h) (fun ρ h => exSs K b ρ h) m ρ' h') (PostT G A σ' R' H' D) (PostXS G A σ' R' H' W), ⟨n, ρ, h, R, sr, o⟩, ?_⟩
  rintro m σ' H' ⟨ρ', h', R', sr', o1⟩
  cases m with
  | zero => exact o1.elim
  | succ m =>
    unfold wloop at o1
    refine ⟨ρ', h', R', sr', (Sat.bind.mp o1).imp (fun d h2 o2 => ?_) fun _ _ z => z.at⟩
    intro R2 H2 lq2 hr2
    cases d with
    | false =>
      rw [if_neg Bool.false_ne_true] at o2 ⊢
      exact o2 R2 H2 σ' lq2 hr2 (sr'.er.mono lq2) (Agree.refl _ _)
    | true =>
      rw [if_pos rfl] at o2 ⊢
      refine ⟨_, fun σ3 H3 w => ⟨m, Nat.lt_succ_self _, w⟩, ρ', h2, R2, ⟨hr2, sr'.er.mono lq2⟩, ?_⟩
      refine (Sat.bind.mp o2).imp (fun fl h4 o4 => ?_) fun _ _ z => z.later lq2 (Agree.refl _ _)
      cases fl with
      | nx ρ5 => exact fun R5 H5 σ5 l5 hr5 er5 ag5 => ⟨ρ5, h4, R5, ⟨hr5, er5⟩, o4.laterS (lq2.trans l5) ag5⟩
      | cnt ρ5 => exact fun R5 H5 σ5 l5 hr5 er5 ag5 => ⟨ρ5, h4, R5, ⟨hr5, er5⟩, o4.laterS (lq2.trans l5) ag5⟩
      | brk ρ5 => exact fun R5 H5 σ5 l5 hr5 er5 ag5 => o4 R5 H5 σ5 (lq2.trans l5) hr5 er5 ag5
      | ret t => exact fun R5 H5 v5 l5 hr5 vr5 => o4 R5 H5 v5 (lq2.trans l5) hr5 vr5
/-! ### the induction -/
mutual
theorem soundS (s : SX G k X c W K) (l : LS) (t : Stmt) (h : chkS c A l t = true) : PS X t (rdS G K W A l) := by
  unfold chkS at h
  split at h
  · simp only [Bool.and_eq_true] at h
    exact st_expr h.1 (soundE s _ _ h.2).1
  · simp only [Bool.and_eq_true, decide_eq_true_eq, List.contains_eq_mem, Bool.not_eq_true'] at h
    obtain ⟨⟨⟨⟨⟨h1, h2⟩, h3⟩, hl⟩, ha⟩, h⟩ := h
    exact st_comp s.g _ ⟨h.1.1.1.1.1, h.1.1.1.1.2, soundI s _ _ _ _ h.1.1.1.2, fun s0 H C cl fp => soundG (s.blk _ s0 H C cl fp).g h.1.1.2, fun s0 H C cl fp => soundF (s.blk _ s0 H C cl fp) _ _ h.1.2, fun s0 H C cl fp => (soundE (s.blk _ s0 H C cl fp) _ _ h.2).1⟩ h1 h2 h3 hl ha
  · simp only [Bool.and_eq_true, decide_eq_true_eq, List.contains_eq_mem] at h
    exact st_set s.g h.1.1.1.1 h.1.1.1.2 h.1.1.2 h.1.2 (soundE s _ _ h.2).1
  · simp only [Bool.and_eq_true] at h
    exact st_par s.g h.1 (soundEs s _ _ h.2)
  · simp only [Bool.and_eq_true] at h
    exact st_unp s.g h.1.1.1.1 h.1.1.1.2 h.1.1.2 h.1.2 (soundE s _ _ h.2).1
  · simp only [Bool.and_eq_true] at h
    exact st_sidx h.1.1.1.1 h.1.1.1.2 (soundE s _ _ h.1.1.2).1 (soundE s _ _ h.1.2).1 (soundE s _ _ h.2).1
  · simp only [Bool.and_eq_true, decide_eq_true_eq, List.contains_eq_mem] at h
    exact st_aug s.g h.1.1.1.1 h.1.1.1.2 h.1.1.2 h.1.2 (soundE s _ _ h.2).1
  · exact st_ret (soundE s _ _ h).1
  · exact st_retN
  · simp only [Bool.and_eq_true] at h
    exact st_if (soundE s _ _ h.1.1).2 (soundSs s _ _ h.1.2) (soundSs s _ _ h.2)
  · simp only [Bool.and_eq_true] at h
    exact st_whl s (soundE s _ _ h.1).2 (soundSs s _ _ h.2)
  · simp only [Bool.and_eq_true] at h
    exact st_for s (soundI s _ _ _ _ h.1.1.1) h.1.1.2 h.1.2 (soundSs s _ _ h.2)
  · exact st_pass ps_pass
  · exact st_pass ps_doc
  · exact st_brk
  · exact st_cnt
  · cases h
termination_by sizeOf l
theorem soundSs (s : SX G k X c W K) (ls : List LS) (ts : List Stmt) (h : chkSs c A ls ts = true) : PSs X ts (rdSs G K W A ls) := by
  unfold chkSs at h
  split at h
  · exact ss_nil
  · simp only [Bool.and_eq_true, decide_eq_true_eq, List.contains_eq_mem] at h
    exact ss_frz h.1.2 (soundSs s _ _ h.2)
  · simp only [Bool.and_eq_true] at h
    exact ss_cons (soundS s _ _ h.1) (soundSs s _ _ h.2)
  · cases h
termination_by sizeOf ls
end
end
end Lite

/-! LITE, 13: a def keeps what the interpreter says of it. -/
namespace Lite
open PySem L2 PySem.Spec
open PyProof.Rows hiding St

/-- a def's text and ours -/
structure DOk (G : GD) (kn : String → Bool) (f : String) (d : Fn) : Prop where
  ex : ∃ (a : Addr) (name qual : Str) (params : Arguments) (body : List Stmt) (scope : Scope) (dV kV doc pm cdv ct oc : Value) (an od : Option Addr) (osl : Array (Option Value)) (N ps : List Str),
    G.mg (G.nm f) = some (.ref a) ∧ G.fa f = some a ∧ PySem.W.keepIn G.K (.ref a) = true ∧
    G.K.lookup a = some ⟨oc, od, .func (PySem.W.fnOf name qual params body scope dV kV doc pm an cdv ct), osl⟩ ∧ PySem.W.codeIn G.K cdv qual = true ∧ FnScope N ps scope ∧
    L2.Binds G.K (PySem.W.fnOf name qual params body scope dV kV doc pm an cdv ct) ps [] ∧ ps.length = d.np ∧ N.length = d.ns ∧ chkSs ⟨G.nm, kn, N, scope⟩ (List.range d.ns) d.body body = true ∧ ps = params.args.map (·.arg)

theorem ERel.start {G : GD} {R : List Addr} {H : Hp} : ∀ {ts : List T} {xs : List V}, VRs G R H ts xs → ∀ n, ERel G R H (ts.map some ++ List.replicate n none) (xs.map some ++ List.replicate n none)
  | _, _, .nil, n => ⟨by simp, fun i t h => by simp [List.getElem?_replicate] at h⟩
  | _, _, .cons (x := x) (v := v) hx r, n => by
    obtain ⟨l, g⟩ := ERel.start r n
    refine ⟨by simpa using l, fun i t h => ?_⟩
    cases i with
    | zero => simp at h; subst h; exact ⟨v, by simp, hx⟩
    | succ i =>
      simp at h
      obtain ⟨w, h1, h2⟩ := g i t (by simpa using h)
      exact ⟨w, by simpa using h1, h2⟩

section
variable {G : GD} {R R' : List Addr} {H H' : Hp} {h h' : Heap}
theorem Lq.prefix (q : Lq R H R' H') : ∀ k, k < R.length → ∀ a, R'[k]? = some a → R[k]? = some a := fun k hk a e => by
  have := q.pre k R[k] (by simp [hk])
  rw [e] at this
  cases this
  simp [hk]
theorem FR.shrink {n : Nat} (p : ∀ k, k < n → ∀ a, R'[k]? = some a → R[k]? = some a) : ∀ {fs : List (String × T)} {gs : List (Str × V)}, (∀ q ∈ fs, q.2.within n = true) → FR G R' H fs gs → FR G R H fs gs
  | _, _, _, .nil => .nil
  | _, _, w, .cons h r => .cons (VR.shrink p (w (_, _) (List.mem_cons_self ..)) h) (FR.shrink p (fun q hq => w q (List.mem_cons_of_mem _ hq)) r)
theorem FR.within : ∀ {fs : List (String × T)} {gs : List (Str × V)}, FR G R H fs gs → ∀ q ∈ fs, q.2.within R.length = true
  | _, _, .nil, q, hq => by simp at hq
  | _, _, .cons h r, q, hq => by
    rcases List.mem_cons.mp hq with e | e
    · subst e; exact h.within
    · exact FR.within r q e
/-- the state behind a call that leaves the old places -/
theorem shrinkH (hr0 : HRel G h R H) (lq : Lq R H R' H') (hr : HRel G h' R' H') {g : Heap} (hl : g.length = h.length) (hg : ∀ (n : Nat) (o : O), g[n]? = some o → h'[n]? = some o) (hw : ∀ (n : Nat) (o : O), g[n]? = some o → h[n]? = some o ∨ ∃ xs, o = O.lst xs ∧ T.withins 0 xs = true) :
    Lq R H R H' ∧ HRel G g R H' := by
  have pf := lq.prefix
  refine ⟨⟨fun _ _ e => e, fun _ z n => absurd z n, lq.keep⟩, ⟨by rw [hl]; exact hr0.len, hr0.nd, fun a ha => ?_, fun n o a e1 e2 => ?_⟩⟩
  · obtain ⟨n, hn⟩ := List.getElem?_of_mem ha
    exact hr.live a (List.mem_of_getElem? (lq.pre n a hn))
  · have z := hr.obj n o a (hg n o e1) (lq.pre n a e2)
    rcases hw n o e1 with e | ⟨xs, rfl, w⟩
    · have y := hr0.obj n o a e e2
      cases o with
      | lst xs =>
        obtain ⟨vs, q, r⟩ := z
        obtain ⟨_, _, r0⟩ := y
        exact ⟨vs, q, VRs.shrink pf r0.within r⟩
      | dct ks ys =>
        obtain ⟨es, q, r⟩ := z
        obtain ⟨_, _, r0⟩ := y
        exact ⟨es, q, DE.shrink pf r0.within.1 r0.within.2 r⟩
      | ins c fs =>
        obtain ⟨C, dx, gs, c1, q, r⟩ := z
        obtain ⟨_, _, _, _, _, r0⟩ := y
        exact ⟨C, dx, gs, c1, q, FR.shrink pf (FR.within r0) r⟩
      | dead => trivial
    · obtain ⟨vs, q, r⟩ := z
      exact ⟨vs, q, VRs.shrink (n := 0) (fun k hk => absurd hk (Nat.not_lt_zero _)) w r⟩
theorem keeps_at : ∀ {h0 h : Heap}, keeps h0 h = true → ∀ (n : Nat) (o : O), h0[n]? = some o → ∃ p : O, h[n]? = some p ∧ (p = o ∨ ∃ xs, p = O.lst xs ∧ T.withins 0 xs = true)
  | [], _, _, n, o, e => by simp at e
  | _ :: _, [], k, _, _, _ => by simp [keeps] at k
  | o :: h0, p :: h, k, 0, o', e => by
    simp at e
    subst e
    simp only [keeps, Bool.and_eq_true, Bool.or_eq_true, decide_eq_true_eq] at k
    refine ⟨p, by simp, k.1.imp id fun z => ?_⟩
    cases p <;> first | exact ⟨_, rfl, z⟩ | cases z
  | o :: h0, p :: h, k, n + 1, o', e => by
    simp at e
    simp only [keeps, Bool.and_eq_true] at k
    obtain ⟨q, h1, h2⟩ := keeps_at k.2 n o' e
    exact ⟨q, by simpa using h1, h2⟩
theorem keeps_len : ∀ {h0 h : Heap}, keeps h0 h = true → h0.length ≤ h.length
  | [], _, _ => by simp
  | _ :: _, [], k => by simp [keeps] at k
  | o :: h0, p :: h, k => by
    simp only [keeps, Bool.and_eq_true] at k
    have := keeps_len k.2
    simp
    omega
/-- a call's end -/
theorem leave_ok {mode : Nat} {v : T} {Q : VK} {E : T → Heap → Prop} (hr0 : HRel G h R H) (s : Sat (leave mode h h' v) (PostE G R H Q) E) : ∀ R' H' u, Lq R H R' H' → HRel G h' R' H' → VR G R' H' v u → Q u H' := fun R' H' u lq hr vr => by
  unfold leave at s
  split at s
  · split at s <;> (try (exact s.elim))
    rename_i c
    have hle : h.length ≤ h'.length := by
      have := congrArg List.length c.1
      simp at this
      omega
    obtain ⟨l1, h1⟩ := shrinkH hr0 lq hr (g := h) rfl (fun n o e => by
      have hn := (List.getElem?_eq_some_iff.mp e).1
      rw [← c.1, List.getElem?_take_of_lt hn] at e
      exact e) fun n o e => .inl e
    exact s R H' u l1 h1 (VR.shrink lq.prefix (by rw [hr0.len]; exact c.2) vr)
  · split at s
    · split at s <;> (try (exact s.elim))
      rename_i c
      have hle := keeps_len c.2
      obtain ⟨l1, h1⟩ := shrinkH hr0 lq hr (g := h'.take h.length) (by simp; omega) (fun n o e => by
        have hn := (List.getElem?_eq_some_iff.mp e).1
        rw [List.getElem?_take_of_lt (by simp only [List.length_take] at hn; omega)] at e
        exact e) fun n o e => by
          have hn := (List.getElem?_eq_some_iff.mp e).1
          have hn2 : n < h.length := by
            simp only [List.length_take] at hn
            omega
          rw [List.getElem?_take_of_lt hn2] at e
          obtain ⟨p, e1, e2⟩ := keeps_at c.2 n h[n] (by simp [hn2])
          rw [e] at e1
          cases e1
          rcases e2 with z | z
          · left; rw [z]; simp [hn2]
          · exact .inr z
      exact s R H' u l1 h1 (VR.shrink lq.prefix (by rw [hr0.len]; exact c.1) vr)
    · exact s R' H' u lq hr vr
end

section
variable {G : GD} {kn : String → Bool}
theorem calls_zero (D : ∀ f d, G.P.fn f = some d → DOk G kn f d) : Calls G 0 (call G.P 0) where
  fn f d e := by
    obtain ⟨a, name, qual, params, body, scope, dV, kV, doc, pm, cdv, ct, oc, an, od, osl, N, ps, h1, h2, h3, h4, h5, h6, h7, h8, h9, h10, h11⟩ := (D f d e).ex
    refine ⟨a, _, ps, h1, h2, h3, h7, ⟨fun xs H Q E ⟨ts, h, R, _, _, s⟩ => ?_, fun A out s H args us xs Q E hr hg e0 hb r ⟨ts, h, R, _, _, s⟩ => ?_⟩, ⟨_, _, _, h4⟩, h11⟩
    · unfold call at s; exact s.elim
    · unfold call at s; exact s.elim
  none f ts h e := by unfold call; rfl
theorem calls_succ (ok : G.Ok) (hk : ∀ f, kn f = true → (G.P.fn f).isSome = true) (D : ∀ f d, G.P.fn f = some d → DOk G kn f d) {k : Nat} (C : Calls G k (call G.P k)) : Calls G (k + 1) (call G.P (k + 1)) where
  none f ts h e := by unfold call; rw [e]
  fn f d e := by
    obtain ⟨a, name, qual, params, body, scope, dV, kV, doc, pm, cdv, ct, oc, an, od, osl, N, ps, h1, h2, h3, h4, h5, h6, h7, h8, h9, h10, h11⟩ := (D f d e).ex
    have un := call_up e k
    refine ⟨a, _, ps, h1, h2, h3, h7, fnG_of h4 h5 h6 (fun xs H Q E ⟨ts, h, R, hr, vr, s⟩ => ?_) (fun A out s0 H xs Q E hroom hg ⟨ts, h, R, hr, vr, s⟩ => ?_), ⟨_, _, _, h4⟩, h11⟩
    · rw [un, runFn] at s
      split at s
      · rename_i hl
        rw [← vr.length, hl, h8]
      · exact s.elim
    · rw [un, runFn] at s
      split at s <;> (try (exact s.elim))
      rename_i hl
      have hx : xs.length = d.np := by rw [← vr.length]; exact hl
      have gx : GX G k (cxOf (CX G.prog G.w) G.prog G.w G.K G.mg G.base N qual scope a cdv A out s0 H E) ⟨G.nm, kn, N, scope⟩ (fun cls d _ H => E cls d H) :=
        ⟨⟨rfl, rfl, rfl, rfl, rfl⟩, hroom, hg, rfl, rfl, rfl, h6.nd, fun _ _ _ e => e, fun _ e => .inl e, fun _ _ => rfl, takes_of rfl rfl rfl rfl, passes_of rfl⟩
      refine ⟨_, soundSs (K := cnOf G.P k) ⟨gx, ok, rfl, hk, C⟩ _ _ h10, ?_⟩
      have es : L2.start N xs = xs.map some ++ List.replicate (d.ns - d.np) none := by
        unfold L2.start
        rw [h9, hx]
      refine ⟨_, h, R, ⟨hr, by rw [es]; exact ERel.start vr _⟩, (Sat.bind.mp s).imp (fun fl h' q => ?_) fun e h' q => fun R' H' c d σ' l hr' x _ => q R' H' c d l hr' x⟩
      cases fl with
      | ret v => exact fun R' H' u l hr' vr' => leave_ok hr q R' H' u l hr' vr'
      | nx ρ => exact fun R' H' σ' l hr' _ _ => leave_ok hr q R' H' .non l hr' .non
      | brk ρ => exact q.elim
      | cnt ρ => exact q.elim
/-- every level -/
theorem calls_all (ok : G.Ok) (hk : ∀ f, kn f = true → (G.P.fn f).isSome = true) (D : ∀ f d, G.P.fn f = some d → DOk G kn f d) : ∀ k, Calls G k (call G.P k)
  | 0 => calls_zero D
  | k + 1 => calls_succ ok hk D (calls_all ok hk D k)
end
end Lite

/-! LITE, 14: binding. -/
namespace Lite
open PySem L2 PySem.Spec
open PyProof.Rows hiding St
theorem lookup_zip : ∀ {ps : List Str} {us : List Value}, us.length = ps.length → ∀ n ∈ ps, ((ps.zip us).lookup n).isSome = true
  | [], _, _, n, h => by simp at h
  | p :: ps, [], hl, _, _ => by simp at hl
  | p :: ps, u :: us, hl, n, h => by
    simp only [List.zip_cons_cons, List.lookup_cons]
    cases e : n == p with
    | true => rfl
    | false =>
      have hn : n ∈ ps := by
        rcases List.mem_cons.mp h with z | z
        · subst z; simp at e
        · exact z
      exact lookup_zip (by simpa using hl) n hn
theorem filterMap_zip : ∀ {ps : List Str} {us : List Value} (q : List (Str × Value)), ps.Nodup → us.length = ps.length → (∀ p ∈ q, p.1 ∉ ps) → ps.filterMap (fun n => ((q ++ ps.zip us).lookup n).map (n, ·)) = ps.zip us
  | [], _, _, _, _, _ => by simp
  | p :: ps, [], _, _, hl, _ => by simp at hl
  | p :: ps, u :: us, q, nd, hl, hq => by
    have hp : (q ++ (p :: ps).zip (u :: us)).lookup p = some u := by
      have : q.lookup p = none := by
        rw [List.lookup_eq_none_iff]
        intro y hy
        have := hq y hy
        simp at this
        simp
        exact fun e => this.1 e.symm
      rw [List.lookup_append, this]
      simp
    rw [List.filterMap_cons, hp]
    simp only [Option.map_some, List.zip_cons_cons, List.cons.injEq, true_and]
    have nd' := List.nodup_cons.mp nd
    have := filterMap_zip (us := us) (q ++ [(p, u)]) nd'.2 (by simpa using hl) (fun y hy => by
      rcases List.mem_append.mp hy with z | z
      · have := hq y z
        simp at this
        exact this.2
      · simp at z
        subst z
        exact nd'.1)
    simpa using this
theorem bind_all {x qual : Str} {params : Arguments} {body : List Stmt} {scope : Scope} {kV doc pm cdv ct : Value} {an : Option Addr} {us : List Value} (h1 : params.posonlyargs = []) (h2 : params.vararg = none) (h3 : params.kwonlyargs = []) (h4 : params.kwarg = none)
    (nd : (params.args.map (·.arg)).Nodup) (hl : us.length = (params.args.map (·.arg)).length) : bindArgs (PySem.W.fnOf x qual params body scope .none kV doc pm an cdv ct) ⟨us, []⟩ = pure ((params.args.map (·.arg)).zip us) := by
  obtain ⟨po, as, va, ko, kd, kw, df⟩ := params
  simp only at h1 h2 h3 h4 hl nd
  subst h1 h2 h3 h4
  have hs : seqItems? Value.none = pure none := rfl
  unfold bindArgs PySem.W.fnOf
  simp only [hs]
  generalize List.map (fun x : Arg => x.arg) as = ps at hl nd
  have hm : List.filter (fun n => (List.lookup n (ps.zip us)).isNone) ps = [] := by
    rw [List.filter_eq_nil_iff]
    intro n hn
    have := lookup_zip hl n hn
    cases e : (ps.zip us).lookup n <;> simp_all
  have hf := filterMap_zip (us := us) [] nd hl (fun p hp => by simp at hp)
  simp only [List.nil_append] at hf
  simp [hl, hm, hf]
end Lite

/-! LITE, 15: from the row's head to the interpreter. -/
namespace Lite
open PySem L2 PySem.Spec
open PyProof.Rows hiding St

/-- the row's end: the law's def called with the script -/
theorem law_end {G : PySem.Heap → GD} {P : Program} {w : World} {K : PySem.W.Frag} {mg mb : Str → Option Value} {k : Nat} {fa a : Addr} {fd : FuncData} {x : Str} {pl : Prog} {f : String} {s1 : Shared} {vs : List Value} {ns : List Int}
    (hG : ∀ b, (G b).prog = P ∧ (G b).w = w ∧ (G b).K = K ∧ (G b).mg = mg ∧ (G b).base = b)
    (KX : K.In s1.heap) (hns : s1.heap.Ns mainGlobals mg) (hb : s1.heap.Ns builtinsNs mb) (hbb : ∀ x : Str, x ≠ "__name__" → mb x = bootBuiltins x) (hlim : s1.heap.NoLimit) (hg : s1.gens = #[])
    (ha : s1.heap.get? a = some { cls := .type "list", data := .seq vs.toArray }) (hi : IntsAre vs ns) (hl : ns.length ≤ sizeLine) (hr : Room k callerA)
    (F : ∀ b : PySem.Heap, K.In b → b.Ns mainGlobals mg → FnG (G b) k fa fd [x] (spI (G b) (call pl k f))) (hbind : ∀ (s : Shared) (u : Value), BindsTo s fd ⟨[u], []⟩ [(x, u)])
    (pure : ∃ h', call pl k f [.lst (ns.map T.int)] [] = .ok (.bl true) h') :
    codeAny (model P w) callerA (.call (.ref fa) ⟨[.ref a], []⟩) (fun r s' => r = .ok (.ret (.bool true)) ∧ OldK s1.heap s'.heap ∧ s'.os = s1.os ∧ AllBare s'.gens) s1 := by
  obtain ⟨h', hp⟩ := pure
  have rv := L2.vals_ints hi
  have main : ∀ H : Hp, (∀ b u, H b = some u → b = a ∧ K.lookup a = none ∧ ∃ o xs, u = .frz o (.lst xs)) → HOk P w H s1.heap → (∀ b, FzL (G b).K H a (ns.map V.int)) →
      codeAny (model P w) callerA (.call (.ref fa) ⟨[.ref a], []⟩) (fun r s' => r = .ok (.ret (.bool true)) ∧ OldK s1.heap s'.heap ∧ s'.os = s1.os ∧ AllBare s'.gens) s1 := by
    intro H hO hok hz
    have kept : ∀ {b : Addr} {o : Obj}, s1.heap.get? b = some o → H b = none → (hidT s1.heap H).get? b = some o := fun e n => hidT_get e n
    have nodict : ∀ {b : Addr} {o : Obj} {es : Array DictEntry} {ep : Nat}, s1.heap.get? b = some o → o.data = .dict es ep → H b = none := fun {b o es ep} e d => by
      match q : H b with
      | none => rfl
      | some u =>
        obtain ⟨rfl, _⟩ := hO b u q
        rw [ha] at e
        cases e
        cases (show Data.seq vs.toArray _ = Data.dict es ep from d)
    have names : ∀ {b : Addr} {m : Str → Option Value}, s1.heap.Ns b m → (hidT s1.heap H).Ns b m := fun {b m} ⟨o, es, ep, e, d, r⟩ => ⟨o, es, ep, kept e (nodict e d), d, r⟩
    have hK : K.In (hidT s1.heap H) := fun b o e => kept (KX b o e) (by
      match q : H b with
      | none => rfl
      | some u =>
        obtain ⟨rfl, n, _⟩ := hO b u q
        rw [n] at e
        cases e)
    have hM : L2.Mod K mg (hidT s1.heap H) := ⟨hK, names hns, ⟨mb, names hb, hbb⟩, let ⟨mc, h1, h2⟩ := hlim; ⟨mc, names h1, h2⟩⟩
    have e0 : Env0 P w K mg (hidT s1.heap H) callerA [] s1 H := ⟨rfl, hM, fun b o e => of_hidT e, Nat.le_of_eq (hidT_size _ _), trivial, fun b hb => absurd (show b ∈ ([] : List Addr) from hb) (by simp), hok, .of_eq hg⟩
    obtain ⟨g1, g2, g3, g4, g5⟩ := hG (hidT s1.heap H)
    have run := (F _ hK (names hns)).run callerA [] s1 H ⟨[.ref a], []⟩ [.ref a] [.ref a] (fun v _ => v = .bl true) (fun _ _ _ => False) hr rfl (by rw [g1, g2, g3, g4, g5]; exact e0) (hbind s1 (.ref a)) (.cons rfl .nil) (by
      refine ⟨[.lst (ns.map T.int)], [], [], ⟨rfl, List.nodup_nil, fun a h => by simp at h, fun n o a h => by simp at h⟩, .cons (.lst (hz _) ?_) .nil, ?_⟩
      · have : ∀ l : List Int, VRs (G (hidT s1.heap H)) [] H (l.map T.int) (l.map V.int) := fun l => by
          induction l with
          | nil => exact .nil
          | cons i l ih => exact .cons (.int i) ih
        exact this ns
      · rw [hp]
        intro R' H' v _ _ r
        cases r
        rfl)
    rw [g1, g2] at run
    refine codeAny_mono run fun r s' h => ?_
    match r, h with
    | .error e, h =>
      obtain ⟨_, _, _, _, _, _, _, _, _, _, _, _, z⟩ := h
      exact z.elim
    | .ok .next, h => exact False.elim h
    | .ok .brk, h => exact False.elim h
    | .ok .cont, h => exact False.elim h
    | .ok (.ret u), h =>
      obtain ⟨v, H', os, bare, un, hok', r', q⟩ := h
      have q' : v = .bl true := q
      subst q'
      cases (show u = Value.bool true from r')
      refine ⟨rfl, OldK.of_keep fun b o e => ?_, os, bare⟩
      match q : H b with
      | none => exact un.keep b o e q (by intro z; exact absurd (show b ∈ ([] : List Addr) from z) (by simp)) (by simp)
      | some u =>
        obtain ⟨_, _, ob, xs, rfl⟩ := hO b u q
        have e2 := (hok' b _ (un.frzs b ob _ q)).1
        rw [← e, (hok b _ q).1]
        exact e2
  match hk : K.lookup a with
  | some o =>
    have e := KX a o hk
    rw [ha] at e
    cases e
    refine main (fun _ => none) (fun b u z => by cases z) (fun b u z => by cases (show (none : Option HO) = some u from z)) fun b => .inr ⟨vs, 0, ?_, ?_, rv⟩
    · rw [(hG b).2.2.1]; exact hk
    · rw [List.length_map]; exact hl
  | none =>
    refine main (fun b => if b = a then some (.frz { cls := .type "list", data := .seq vs.toArray } (.lst (ns.map V.int))) else none) (fun b u z => ?_) (fun b u z => ?_) fun b => .inl ⟨{ cls := .type "list", data := .seq vs.toArray }, if_pos rfl⟩
    · by_cases hb : b = a
      · subst hb
        rw [if_pos rfl] at z
        cases z
        exact ⟨rfl, hk, _, _, rfl⟩
      · rw [if_neg hb] at z; cases z
    · by_cases hb : b = a
      · subst hb
        have z' := (if_pos rfl).symm.trans z
        cases z'
        exact ⟨ha, by rw [List.length_map]; exact hl, vs, _, rv, ha⟩
      · have z' := (if_neg hb).symm.trans z
        cases z'

/-! ### a row's defs and constants -/
/-- a def: its canonical name, its name in the row, its place among the top's statements, ours, its names by slot -/
structure Df where
  f : String
  x : Str
  i : Nat
  d : Fn
  N : List Str
/-- a constant: its canonical name, its name in the row, its value -/
structure Cd where
  g : String
  x : Str
  t : T
def dfAt (ds : List Df) (f : String) : Option Df := ds.find? fun e => e.f == f
def cdAt (cs : List Cd) (g : String) : Option Cd := cs.find? fun e => e.g == g
theorem dfAt_some {ds : List Df} {f : String} {e : Df} (h : dfAt ds f = some e) : e ∈ ds ∧ e.f = f := ⟨List.mem_of_find?_eq_some h, by simpa using List.find?_some h⟩
theorem cdAt_some {cs : List Cd} {g : String} {e : Cd} (h : cdAt cs g = some e) : e ∈ cs ∧ e.g = g := ⟨List.mem_of_find?_eq_some h, by simpa using List.find?_some h⟩
def nmOf (ds : List Df) (cs : List Cd) (f : String) : Str := match dfAt ds f with
  | some e => e.x
  | none => (match cdAt cs f with
    | some e => e.x
    | none => Str.ofString f)
def progOf (ds : List Df) (cs : List Cd) : Prog where
  fn f := (dfAt ds f).map (·.d)
  con g := (cdAt cs g).map (·.t)
  meth _ _ := none
  sub _ _ := false
def knownOf (ds : List Df) (f : String) : Bool := (dfAt ds f).isSome
def defD (p : Program) (e : Df) : He.DefD := ⟨(e.x, none), e.x, e.x, (HandSHeadRun.topDef p e.i).params, (HandSHeadRun.topDef p e.i).body, (HandSHeadRun.topDef p e.i).scope, [], []⟩
def psOf (p : Program) (e : Df) : List Str := (HandSHeadRun.topDef p e.i).params.args.map (·.arg)
def scopeB (N ps : List Str) (sc : Scope) : Bool := (match sc.kind with | .function => true | _ => false) && !sc.isCoroutine && !sc.isGenerator && decide N.Nodup && decide (N.take ps.length = ps) &&
  (ps.all fun x => decide (sc.names.lookup x = some .local) || decide (sc.names.lookup x = some .cell)) && sc.names.all fun y => decide (y.2 ≠ .free)
theorem scopeB_ok {N ps : List Str} {sc : Scope} (h : scopeB N ps sc = true) : FnScope N ps sc := by
  simp only [scopeB, Bool.and_eq_true, Bool.not_eq_true', decide_eq_true_eq, List.all_eq_true, Bool.or_eq_true] at h
  refine ⟨?_, h.1.1.1.1.1.2, h.1.1.1.1.2, h.1.1.1.2, h.1.1.2, h.1.2, h.2⟩
  have := h.1.1.1.1.1.1
  cases e : sc.kind <;> rw [e] at this <;> first | rfl | cases this
def paramsB (p : Arguments) : Bool := p.posonlyargs.isEmpty && p.vararg.isNone && p.kwonlyargs.isEmpty && p.kwarg.isNone && decide (p.args.map (·.arg)).Nodup
def dfB (p : Program) (ds : List Df) (cs : List Cd) (e : Df) : Bool := paramsB (HandSHeadRun.topDef p e.i).params && scopeB e.N (psOf p e) (HandSHeadRun.topDef p e.i).scope && decide ((psOf p e).length = e.d.np) && decide (e.N.length = e.d.ns) &&
  chkSs ⟨nmOf ds cs, knownOf ds, e.N, (HandSHeadRun.topDef p e.i).scope⟩ (List.range e.d.ns) e.d.body (HandSHeadRun.topDef p e.i).body

/-! ### constants -/
mutual
def repB (K : PySem.W.Frag) : T → Value → Bool
  | .non, .none => true
  | .bl b, .bool k => b == k
  | .int i, .int j _ => decide (i = j)
  | .str s, .str x _ => decide (tx s = x)
  | .tup xs, .ref a => (match K.lookup a with
    | some ⟨.type "tuple", _, .seq its _, _⟩ => decide (its.size ≤ sizeLine) && repsB K xs its.toList
    | _ => false)
  | .lst xs, .ref a => (match K.lookup a with
    | some ⟨.type "list", none, .seq its _, sl⟩ => decide (its.size ≤ sizeLine) && sl.isEmpty && repsB K xs its.toList
    | _ => false)
  | _, _ => false
def repsB (K : PySem.W.Frag) : List T → List Value → Bool
  | [], [] => true
  | x :: xs, u :: us => repB K x u && repsB K xs us
  | _, _ => false
end
mutual
theorem repB_ok {G : GD} (t : T) (u : Value) (h : repB G.K t u = true) : ∃ v, RelV v u ∧ ∀ R H, VR G R H t v := by
  unfold repB at h
  split at h
  · exact ⟨.non, rfl, fun _ _ => .non⟩
  · rename_i b k
    simp only [beq_iff_eq] at h
    subst h
    exact ⟨.bl b, rfl, fun _ _ => .bl b⟩
  · rename_i i j t
    simp only [decide_eq_true_eq] at h
    subst h
    exact ⟨.int i, ⟨t, rfl⟩, fun _ _ => .int i⟩
  · rename_i s x t
    simp only [decide_eq_true_eq] at h
    subst h
    exact ⟨.str (tx s), ⟨t, rfl⟩, fun _ _ => .str s⟩
  · rename_i xs a
    split at h <;> (try (cases h; done))
    rename_i od its n sl e
    simp only [Bool.and_eq_true, decide_eq_true_eq] at h
    obtain ⟨vs, h1, h2⟩ := repsB_ok xs its.toList h.2
    exact ⟨.ref a, rfl, fun R H => .tup (.inr ⟨_, its, n, e, rfl, rfl, h.1, h1⟩) (h2 R H)⟩
  · rename_i xs a
    split at h <;> (try (cases h; done))
    rename_i its n sl e
    simp only [Bool.and_eq_true, decide_eq_true_eq] at h
    obtain ⟨vs, h1, h2⟩ := repsB_ok xs its.toList h.2
    have hs : sl = #[] := by simpa using h.1.2
    subst hs
    exact ⟨.ref a, rfl, fun R H => .lst (.inr ⟨its.toList, n, e, by rw [h1.length]; simpa using h.1.1, h1⟩) (h2 R H)⟩
  · cases h
termination_by sizeOf t
theorem repsB_ok {G : GD} : ∀ (ts : List T) (us : List Value), repsB G.K ts us = true → ∃ vs, Vals vs us ∧ ∀ R H, VRs G R H ts vs
  | [], [], _ => ⟨[], .nil, fun _ _ => .nil⟩
  | [], _ :: _, h => by simp [repsB] at h
  | _ :: _, [], h => by simp [repsB] at h
  | t :: ts, u :: us, h => by
    simp only [repsB, Bool.and_eq_true] at h
    obtain ⟨v, h1, h2⟩ := repB_ok t u h.1
    obtain ⟨vs, h3, h4⟩ := repsB_ok ts us h.2
    exact ⟨v :: vs, .cons h1 h3, fun R H => .cons (h2 R H) (h4 R H)⟩
termination_by ts => sizeOf ts
end
def conB (cs : List Cd) (K : PySem.W.Frag) : Bool := cs.all fun e => match PySem.W.nsIn K mainGlobals e.x with
  | some (some u) => repB K e.t u
  | _ => false

/-! ### the row -/
def bltNames : List String := fnNames ++ tyNames ++ ["isinstance", "range", "enumerate", "zip"]
def facts (ds : List Df) : List He.Fa := ds.map (fun e => .glo e.x) ++ bltNames.map fun b => .free (Str.ofString b)
def gdOf (ds : List Df) (cs : List Cd) (p : Program) (w : World) (K : PySem.W.Frag) (mg : Str → Option Value) (base : PySem.Heap) : GD where
  prog := p
  w := w
  K := K
  mg := mg
  base := base
  P := progOf ds cs
  nm := nmOf ds cs
  fa := fun f => (dfAt ds f).map fun e => He.ga K e.x
  ca := fun _ => none
theorem nm_df {ds : List Df} {cs : List Cd} {f : String} {e : Df} (h : dfAt ds f = some e) : nmOf ds cs f = e.x := by unfold nmOf; rw [h]
/-- no constant is named like a def -/
def apartB (ds : List Df) (cs : List Cd) : Bool := cs.all fun e => (dfAt ds e.g).isNone
theorem nm_cd {ds : List Df} {cs : List Cd} (ap : apartB ds cs = true) {g : String} {e : Cd} (h : cdAt cs g = some e) : nmOf ds cs g = e.x := by
  obtain ⟨h1, h2⟩ := cdAt_some h
  have := List.all_eq_true.mp ap e h1
  rw [h2] at this
  unfold nmOf
  rw [Option.isNone_iff_eq_none.mp this, h]
section
variable {ds : List Df} {cs : List Cd} {p : Program} {w : World} {K : PySem.W.Frag} {mg : Str → Option Value} {h base : PySem.Heap} {fn : List He.DefD}
theorem row_ok (ap : apartB ds cs = true) (X : K.In h) (N : h.Ns mainGlobals mg) (c : He.SaysD (facts ds) (ds.map (defD p)) K) (hc : conB cs K = true) : (gdOf ds cs p w K mg base).Ok where
  con g t e := by
    obtain ⟨d, e1, e2⟩ := Option.map_eq_some_iff.mp e
    obtain ⟨h1, h2⟩ := cdAt_some e1
    have := List.all_eq_true.mp hc d h1
    split at this <;> (try (cases this; done))
    rename_i u eu
    obtain ⟨v, r1, r2⟩ := repB_ok (G := gdOf ds cs p w K mg base) d.t u this
    refine ⟨u, v, ?_, r1, by rw [← e2]; exact r2⟩
    show mg (nmOf ds cs g) = some u
    rw [nm_cd ap e1]
    exact PySem.W.mg_of X N eu
  free b hb := by
    refine He.free_ok X N (He.SaysD.facts c (f := .free (Str.ofString b)) ?_)
    simp only [facts, List.mem_append, List.mem_map]
    exact .inr ⟨b, by simpa [bltNames] using hb, rfl⟩
theorem row_def (X : K.In h) (N : h.Ns mainGlobals mg) (c : He.SaysD (facts ds) (ds.map (defD p)) K) (hd : (ds.all fun e => dfB p ds cs e) = true) (f : String) (d : Fn) (e : (progOf ds cs).fn f = some d) : DOk (gdOf ds cs p w K mg base) (knownOf ds) f d := by
  obtain ⟨x, e1, e2⟩ := Option.map_eq_some_iff.mp e
  subst e2
  obtain ⟨h1, h2⟩ := dfAt_some e1
  have hb := List.all_eq_true.mp hd x h1
  simp only [dfB, Bool.and_eq_true, decide_eq_true_eq] at hb
  obtain ⟨fd, F⟩ := He.SaysD.defs c (d := defD p x) (List.mem_map.mpr ⟨x, h1, rfl⟩)
  obtain ⟨oc, od, dV, kV, doc, pm, an, cdv, ct, osl, rfl, lk, hcd, hD, _⟩ := F.ex
  have hpar := hb.1.1.1.1
  simp only [paramsB, Bool.and_eq_true, decide_eq_true_eq, List.isEmpty_iff, Option.isNone_iff_eq_none] at hpar
  have hg : mg x.x = some (.ref (He.ga K x.x)) := He.glo_ok X N (He.SaysD.facts c (f := .glo x.x) (by
    simp only [facts, List.mem_append, List.mem_map]
    exact .inl ⟨x, h1, rfl⟩))
  have hdV : dV = .none := by
    rcases hD with ⟨_, z⟩ | ⟨z, _⟩
    · exact z
    · exact absurd rfl z
  subst hdV
  refine ⟨He.ga K x.x, x.x, x.x, _, _, _, .none, kV, doc, pm, cdv, ct, oc, an, od, osl, x.N, psOf p x, ?_, ?_, F.kp, lk, hcd, scopeB_ok hb.1.1.1.2, .all fun us hl => ?_, hb.1.1.2, hb.1.2, hb.2, rfl⟩
  · show mg (nmOf ds cs f) = _
    rw [nm_df e1]
    exact hg
  · show (dfAt ds f).map (fun e => He.ga K e.x) = _
    rw [e1]
    rfl
  · exact bind_all hpar.1.1.1.1 hpar.1.1.1.2 hpar.1.1.2 hpar.1.2 hpar.2 hl
/-- what the row's top leaves -/
abbrev hookL (n : Nat) (ds : List Df) (cs : List Cd) (p : Program) : PySem.W.Hook := He.hookX n (facts ds) (ds.map (defD p)) [] [] (conB cs)
/-- the whole check of a row's defs -/
def rowB (p : Program) (ds : List Df) (cs : List Cd) : Bool := apartB ds cs && ds.all fun e => dfB p ds cs e
/-- a law row, by the interpreter -/
theorem walk_lite {l : PySem.W.OpenLaw} {n k j : Nat} {q : Program} {loose : List Str} {XP : (Str → Option Value) → PySem.Heap → Prop} {d : DefRec} {x : Str} {f : String} {e : Df}
    (hn : l.most = some n) (hn2 : n ≤ sizeLine) (hdf : d.params.defaults = []) (hr : Room k callerA) (hrow : rowB l.prog ds cs = true) (he : dfAt ds f = some e) (hx : e.x = d.name) (hps : psOf l.prog e = [x])
    (hpure : ∀ ns : List Int, ns.length ≤ n → (∀ z ∈ ns, Builtin.Int.intBits z ≤ 1048576) → ∃ h', call (progOf ds cs) k f [.lst (ns.map T.int)] [] = .ok (.bl true) h') :
    PySem.W.WalkO q loose XP (hookL j ds cs l.prog).says l.row.toRowW d [] (fun f vs => PySem.call f vs) := by
  refine Att.attach_callB hn hdf fun w s₀ s₁ mg mb fa o pm cd doc a vs ns G Y ho hd hcd hmg hobj hints hlen hbits hg => ?_
  obtain ⟨K, KX, Z⟩ := Y
  simp only [rowB, Bool.and_eq_true] at hrow
  have D := fun (b : PySem.Heap) (X : K.In b) (N : b.Ns mainGlobals mg) => row_def (w := w) (base := b) X N Z.t.d hrow.2
  have hfn : (progOf ds cs).fn f = some e.d := by
    show (dfAt ds f).map (·.d) = _
    rw [he]
    rfl
  have C : ∀ (b : PySem.Heap), K.In b → b.Ns mainGlobals mg → Calls (gdOf ds cs l.prog w K mg b) k (call (progOf ds cs) k) := fun b X N =>
    calls_all (row_ok hrow.1 X N Z.t.d Z.more) (fun f hf => by
      show ((dfAt ds f).map (·.d)).isSome = true
      rw [Option.isSome_map]
      exact hf) (D b X N) k
  have hfa : fa = He.ga K e.x := by
    obtain ⟨h1, h2⟩ := dfAt_some he
    have hg : mg e.x = some (.ref (He.ga K e.x)) := He.glo_ok KX G.T.g (He.SaysD.facts Z.t.d (f := .glo e.x) (by
      simp only [facts, List.mem_append, List.mem_map]
      exact .inl ⟨e, h1, rfl⟩))
    rw [hx, hmg] at hg
    rw [hx]
    injection hg with z
    injection z
  obtain ⟨fd, F⟩ := He.SaysD.defs Z.t.d (d := defD l.prog e) (List.mem_map.mpr ⟨e, (dfAt_some he).1, rfl⟩)
  have hb := List.all_eq_true.mp hrow.2 e (dfAt_some he).1
  simp only [dfB, Bool.and_eq_true, decide_eq_true_eq] at hb
  have hpar := hb.1.1.1.1
  simp only [paramsB, Bool.and_eq_true, decide_eq_true_eq, List.isEmpty_iff, Option.isNone_iff_eq_none] at hpar
  have hfx := F
  obtain ⟨oc, od, dV, kV, doc', pm', an, cdv, ct, osl, efd, lk, _, hD, _⟩ := hfx.ex
  have hdV : dV = .none := by
    rcases hD with ⟨_, z⟩ | ⟨z, _⟩
    · exact z
    · exact absurd rfl z
  subst hdV
  have hpl := hps
  unfold psOf at hpl
  refine law_end (G := fun b => gdOf ds cs l.prog w K mg b) (fd := fd) (x := x) (pl := progOf ds cs) (f := f) (fun b => ⟨rfl, rfl, rfl, rfl, rfl⟩) KX G.T.g G.T.b G.T.builtins G.T.nolimit hg hobj hints (Nat.le_trans hlen hn2) hr (fun b X N => ?_) (fun s u => ?_) (hpure ns hlen hbits)
  · obtain ⟨a', fd', ps', e1, e2, e3, e4, FG, ⟨_, _, _, lk'⟩, eps⟩ := (C b X N).fn f e.d hfn
    have ha' : a' = fa := by
      have : (dfAt ds f).map (fun e => He.ga K e.x) = some a' := e2
      rw [he] at this
      rw [hfa]
      exact (Option.some.inj this).symm
    subst ha'
    have lk2 : K.lookup a' = some ⟨oc, od, .func fd, osl⟩ := by
      rw [hfa]
      exact lk
    have lk3 : K.lookup a' = some ⟨_, _, .func fd', _⟩ := lk'
    rw [lk2] at lk3
    cases lk3
    have : ps' = [x] := by
      rw [eps, efd]
      exact hpl
    subst this
    exact FG
  · rw [efd]
    have z := bind_all (x := (defD l.prog e).name) (qual := (defD l.prog e).qual) (params := (defD l.prog e).params) (body := (defD l.prog e).body) (scope := (defD l.prog e).scope) (kV := kV) (doc := doc') (pm := pm') (cdv := cdv) (ct := ct) (an := an) (us := [u]) hpar.1.1.1.1 hpar.1.1.1.2 hpar.1.1.2 hpar.1.2 hpar.2 (by show _ = ((HandSHeadRun.topDef l.prog e.i).params.args.map (·.arg)).length; rw [hpl]; rfl)
    refine .of_eq (z.trans ?_)
    show pure (((HandSHeadRun.topDef l.prog e.i).params.args.map (·.arg)).zip [u]) = _
    rw [hpl]
    rfl
end
end Lite

namespace Lite
def d_law__law_stream : Fn := ⟨2, 5, [
    .set 2 (.bin .add (.int 11) (.var 1)),
    .for (.v 3) "" [(.var 0)] [.set 2 (.bin .add (.bin .mod (.bin .pow (.bin .add (.bin .mul (.var 2) (.int 40127)) (.var 3)) (.int 3)) (.int 2147483629)) (.int 1))],
    .set 4 (.int 0),
    .iff (.and [(.cmp .lt (.var 1) (.bi "len" [(.var 0)])), (.cmp .ge (.idx (.var 0) (.var 1)) (.bin .pow (.int 10) (.int 18)))]) [.set 4 (.bin .sub (.idx (.var 0) (.var 1)) (.bin .pow (.int 10) (.int 18)))] [],
    .ret (.lst true [(.var 4), (.var 2)])], 0⟩
def d_law__law_draw : Fn := ⟨2, 3, [
    .iff (.cmp .ge (.idx (.var 0) (.int 0)) (.var 1)) [.set 2 (.bin .mod (.idx (.var 0) (.int 0)) (.var 1)), .sidx (.var 0) (.int 0) (.bin .fdiv (.idx (.var 0) (.int 0)) (.var 1)), .ret (.var 2)] [],
    .sidx (.var 0) (.int 1) (.bin .mod (.bin .add (.bin .mul (.idx (.var 0) (.int 1)) (.int 48271)) (.int 12345)) (.int 2147483647)),
    .ret (.bin .mod (.bin .fdiv (.bin .mod (.bin .pow (.bin .mod (.bin .pow (.idx (.var 0) (.int 1)) (.int 3)) (.int 2147483629)) (.int 5)) (.int 1000000007)) (.int 7)) (.var 1))], 0⟩
def d_law__law_choose : Fn := ⟨2, 2, [
    .ret (.idx (.var 1) (.call "law._law_draw" [(.var 0), (.bi "len" [(.var 1)])]))], 0⟩
end Lite

/-! LITE, 16a: running, step by step. -/
namespace Lite
section
variable {K : Cn} {ρ : Rho} {h h1 h2 h3 : Heap} {a b c i : LE} {x y z : T}
theorem ev_int {j : Int} : evE K (.int j) ρ h = .ok (.int j) h := by unfold evE; rfl
theorem ev_str {s : List Nat} : evE K (.str s) ρ h = .ok (.str s) h := by unfold evE; rfl
theorem ev_bl {s : Bool} : evE K (.bl s) ρ h = .ok (.bl s) h := by unfold evE; rfl
theorem ev_non : evE K .non ρ h = .ok .non h := by unfold evE; rfl
theorem ev_var {j : Nat} (e : ρ[j]? = some (some x)) : evE K (.var j) ρ h = .ok x h := by unfold evE; rw [e]
theorem ev_glob {g : String} (e : K.P.con g = some x) : evE K (.glob g) ρ h = .ok x h := by unfold evE; rw [e]; rfl
theorem ev_bin {o : BOp} (ha : evE K a ρ h = .ok x h1) (hb : evE K b ρ h1 = .ok y h2) (hz : binop o h2 x y = some z) : evE K (.bin o a b) ρ h = .ok z h2 := by unfold evE; rw [ha, Rs.bind_ok, hb, Rs.bind_ok, hz]; rfl
theorem ev_idx (ha : evE K a ρ h = .ok x h1) (hb : evE K b ρ h1 = .ok y h2) (hz : index h2 x y = some z) : evE K (.idx a b) ρ h = .ok z h2 := by unfold evE; rw [ha, Rs.bind_ok, hb, Rs.bind_ok, hz]; rfl
theorem ev_cmp {o : COp} {r : Bool} (ha : evE K a ρ h = .ok x h1) (hb : evE K b ρ h1 = .ok y h2) (hz : cmpop o h2 x y = some r) : evE K (.cmp o a b) ρ h = .ok (.bl r) h2 := by unfold evE; rw [ha, Rs.bind_ok, hb, Rs.bind_ok, hz]; rfl
theorem ev_not {r : Bool} (ha : evE K a ρ h = .ok x h1) (ht : truth h1 x = some r) : evE K (.not a) ρ h = .ok (.bl (!r)) h1 := by unfold evE; rw [ha, Rs.bind_ok, ht]; rfl
theorem ev_neg {j : Int} (ha : evE K a ρ h = .ok (.int j) h1) : evE K (.neg a) ρ h = .ok (.int (-j)) h1 := by unfold evE; rw [ha, Rs.bind_ok]
theorem ev_ife {r : Bool} {w : Rs T} (hc : evE K c ρ h = .ok x h1) (ht : truth h1 x = some r) (hw : (if r = true then evE K a ρ h1 else evE K b ρ h1) = w) : evE K (.ife c a b) ρ h = w := by
  unfold evE; rw [hc, Rs.bind_ok, ht]
  cases r <;> simpa using hw
theorem es_nil : evEs K [] ρ h = .ok [] h := by unfold evEs; rfl
theorem es_cons {e : LE} {es : List LE} {xs : List T} (ha : evE K e ρ h = .ok x h1) (hb : evEs K es ρ h1 = .ok xs h2) : evEs K (e :: es) ρ h = .ok (x :: xs) h2 := by unfold evEs; rw [ha, Rs.bind_ok, hb, Rs.bind_ok]
theorem es_one {e : LE} (ha : evE K e ρ h = .ok x h1) : evEs K [e] ρ h = .ok [x] h1 := es_cons ha es_nil
theorem es_two {e e' : LE} (ha : evE K e ρ h = .ok x h1) (hb : evE K e' ρ h1 = .ok y h2) : evEs K [e, e'] ρ h = .ok [x, y] h2 := es_cons ha (es_one hb)
theorem ev_call {f : String} {es : List LE} {xs : List T} {w : Rs T} (ha : evEs K es ρ h = .ok xs h1) (hc : K.call f xs h1 = w) : evE K (.call f es) ρ h = w := by unfold evE; rw [ha, Rs.bind_ok, hc]
theorem ev_bi {f : String} {es : List LE} {xs : List T} (ha : evEs K es ρ h = .ok xs h1) (hc : bfun f h1 xs = some z) : evE K (.bi f es) ρ h = .ok z h1 := by unfold evE; rw [ha, Rs.bind_ok, hc]; rfl
theorem ev_tup {es : List LE} {xs : List T} (ha : evEs K es ρ h = .ok xs h1) : evE K (.tup es) ρ h = .ok (.tup xs) h1 := by unfold evE; rw [ha, Rs.bind_ok]
theorem ev_lst {es : List LE} {xs : List T} (ha : evEs K es ρ h = .ok xs h1) : evE K (.lst false es) ρ h = .ok (.lst xs) h1 := by unfold evE; rw [ha, Rs.bind_ok]; rfl
theorem ev_lstM {es : List LE} {xs : List T} (ha : evEs K es ρ h = .ok xs h1) : evE K (.lst true es) ρ h = .ok (.loc h1.length) (h1 ++ [.lst xs]) := by unfold evE; rw [ha, Rs.bind_ok]; rfl
theorem ev_isi {t : String} {r : Bool} (ha : evE K a ρ h = .ok x h1) (ht : isTy h1 K.P.sub x t = some r) : evE K (.isi a [t]) ρ h = .ok (.bl r) h1 := by
  unfold evE; rw [ha, Rs.bind_ok]
  simp [ht, Rs.of]
theorem ev_and {es : List LE} : evE K (.and es) ρ h = evAnd K es ρ h := by unfold evE; rfl
theorem ev_or {es : List LE} : evE K (.or es) ρ h = evOr K es ρ h := by unfold evE; rfl
theorem and_one : evAnd K [a] ρ h = evE K a ρ h := by unfold evAnd; rfl
theorem or_one : evOr K [a] ρ h = evE K a ρ h := by unfold evOr; rfl
theorem and_cons {es : List LE} {r : Bool} (ha : evE K a ρ h = .ok x h1) (ht : truth h1 x = some r) : evAnd K (a :: b :: es) ρ h = if r = true then evAnd K (b :: es) ρ h1 else .ok x h1 := by
  rw [evAnd, ha, Rs.bind_ok, ht]; cases r <;> rfl
theorem or_cons {es : List LE} {r : Bool} (ha : evE K a ρ h = .ok x h1) (ht : truth h1 x = some r) : evOr K (a :: b :: es) ρ h = if r = true then .ok x h1 else evOr K (b :: es) ρ h1 := by
  rw [evOr, ha, Rs.bind_ok, ht]; cases r <;> rfl
theorem ev_chain {o p : COp} {r s : Bool} (ha : evE K a ρ h = .ok x h1) (hb : evE K b ρ h1 = .ok y h2) (h12 : cmpop o h2 x y = some r) (hc : r = true → evE K c ρ h2 = .ok z h3 ∧ cmpop p h3 y z = some s) (hh : r = false → h3 = h2 ∧ s = false) : evE K (.chain o p a b c) ρ h = .ok (.bl s) h3 := by
  unfold evE; rw [ha, Rs.bind_ok, hb, Rs.bind_ok, h12]
  cases r with
  | true =>
    obtain ⟨h4, h5⟩ := hc rfl
    show ((evE K c ρ h2).bind _) = _
    rw [h4, Rs.bind_ok, h5]; rfl
  | false =>
    obtain ⟨rfl, rfl⟩ := hh rfl
    rfl
/-! statements -/
variable {fl : Fl} {w : Rs Fl} {ss ts : List LS}
theorem ss_nil' : exSs K [] ρ h = .ok (.nx ρ) h := by unfold exSs; rfl
theorem ss_step {s : LS} {ρ' : Rho} (hs : exS K s ρ h = .ok (.nx ρ') h1) (hr : exSs K ss ρ' h1 = w) : exSs K (s :: ss) ρ h = w := by rw [exSs, hs, Rs.bind_ok]; exact hr
theorem ss_stop {s : LS} (hs : exS K s ρ h = .ok fl h1) (hf : ∀ ρ', fl ≠ .nx ρ') : exSs K (s :: ss) ρ h = .ok fl h1 := by
  rw [exSs, hs, Rs.bind_ok]
  cases fl with
  | nx ρ' => exact absurd rfl (hf ρ')
  | _ => rfl
theorem ss_ret {s : LS} {v : T} (hs : exS K s ρ h = .ok (.ret v) h1) : exSs K (s :: ss) ρ h = .ok (.ret v) h1 := ss_stop hs fun _ e => by cases e
theorem xs_set {j : Nat} (ha : evE K a ρ h = .ok x h1) : exS K (.set j a) ρ h = .ok (.nx (ρ.set j (some x))) h1 := by unfold exS; rw [ha, Rs.bind_ok]
theorem xs_expr (ha : evE K a ρ h = .ok x h1) : exS K (.expr a) ρ h = .ok (.nx ρ) h1 := by unfold exS; rw [ha, Rs.bind_ok]
theorem xs_ret (ha : evE K a ρ h = .ok x h1) : exS K (.ret a) ρ h = .ok (.ret x) h1 := by unfold exS; rw [ha, Rs.bind_ok]
theorem xs_iff {r : Bool} (ha : evE K a ρ h = .ok x h1) (ht : truth h1 x = some r) (hw : (if r = true then exSs K ss ρ h1 else exSs K ts ρ h1) = w) : exS K (.iff a ss ts) ρ h = w := by
  unfold exS; rw [ha, Rs.bind_ok, ht]
  cases r <;> simpa using hw
theorem xs_sidx {n : Nat} {k : Int} {xs : List T} {j : Nat} (he : evE K c ρ h = .ok z h1) (ho : evE K a ρ h1 = .ok (.loc n) h2) (hi : evE K b ρ h2 = .ok (.int k) h3) (hn : h3[n]? = some (.lst xs)) (hp : place xs.length k = some j) : exS K (.sidx a b c) ρ h = .ok (.nx ρ) (h3.set n (.lst (xs.set j z))) := by
  unfold exS; rw [he, Rs.bind_ok, ho, Rs.bind_ok, hi, Rs.bind_ok]
  simp [hn, hp]
theorem xs_unp {g : Tg} {ρ' : Rho} (ha : evE K a ρ h = .ok x h1) (hb : bindTg g x h1 ρ = some ρ') : exS K (.unp g a) ρ h = .ok (.nx ρ') h1 := by unfold exS; rw [ha, Rs.bind_ok, hb]; rfl
theorem xs_par {is : List Nat} {es : List LE} {xs : List T} (ha : evEs K es ρ h = .ok xs h1) (hl : xs.length = is.length) : exS K (.par is es) ρ h = .ok (.nx ((is.zip xs).foldl (fun r p => r.set p.1 (some p.2)) ρ)) h1 := by unfold exS; rw [ha, Rs.bind_ok, if_pos hl]
theorem xs_for {g : Tg} {k : String} {es : List LE} {xs ys : List T} {gs : List (T × T)} (ha : evEs K es ρ h = .ok xs h1) (hw : walked k h1 xs = some (ys, gs)) : exS K (.for g k es ss) ρ h = loop (still gs) (fun x ρ h => withB (bindTg g x h ρ) fun ρ => exSs K ss ρ h) ys ρ h1 := by unfold exS; rw [ha, Rs.bind_ok, hw]
theorem ev_comp {m : Bool} {own : List Nat} {tg : Tg} {k : String} {es ifs : List LE} {xs ys rs : List T} {gs : List (T × T)} (ha : evEs K es ρ h = .ok xs h1) (hw : walked k h1 xs = some (ys, gs))
    (ht : turns (still gs) (fun x h => withB (bindTg tg x h (wipe ρ own)) fun ρ => ((evIfs K ifs ρ h).bind fun b h => if b then (evE K a ρ h).bind fun y h => .ok (some y) h else .ok none h).calm) ys [] h1 = .ok rs h2) (hl : rs.length ≤ top) :
    evE K (.comp m own a tg k es ifs) ρ h = if m then newO h2 (.lst rs) else .ok (.lst rs) h2 := by unfold evE; rw [ha, Rs.bind_ok, hw]; simp only; rw [ht, Rs.bind_ok, if_pos hl]
theorem ifs_nil' : evIfs K [] ρ h = .ok true h := by unfold evIfs; rfl
theorem ifs_one' {r : Bool} (ha : evE K a ρ h = .ok x h1) (ht : truth h1 x = some r) : evIfs K [a] ρ h = .ok r h1 := by
  unfold evIfs; rw [ha, Rs.bind_ok, ht]
  cases r
  · rfl
  · exact ifs_nil'
theorem run_ret {d : Fn} {xs : List T} {v : T} (hl : xs.length = d.np) (hb : exSs K d.body (xs.map some ++ List.replicate (d.ns - d.np) none) h = .ok (.ret v) h1) (hm : d.mode = 0) : runFn K d xs h = .ok v h1 := by
  rw [runFn, if_pos hl, hb, Rs.bind_ok]
  simp [leave, hm]
end
/-! operations -/
section
variable {h : Heap} {i j : Int} {x y : T}
theorem b_add : binop .add h (.int i) (.int j) = some (.int (i + j)) := rfl
theorem b_sub : binop .sub h (.int i) (.int j) = some (.int (i - j)) := rfl
theorem b_mul (hs : (small64 i || small64 j) = true) : binop .mul h (.int i) (.int j) = some (.int (i * j)) := by
  show (if (small64 i || small64 j) = true then _ else _) = _; rw [if_pos hs]
theorem b_mod (hj : j ≠ 0) : binop .mod h (.int i) (.int j) = some (.int (i.fmod j)) := by show (if j ≠ 0 then _ else _) = _; rw [if_pos hj]
theorem b_fdiv (hj : j ≠ 0) (hl : j.natAbs.log2 < 9000) : binop .fdiv h (.int i) (.int j) = some (.int (i.fdiv j)) := by show (if j ≠ 0 ∧ j.natAbs.log2 < 9000 then _ else _) = _; rw [if_pos ⟨hj, hl⟩]
theorem b_pow {n : Nat} (hl : (i.natAbs.log2 + 1) * n ≤ 134217728) : binop .pow h (.int i) (.int (n : Int)) = some (.int (i ^ n)) := by
  show (if 0 ≤ (n : Int) ∧ ((i.natAbs.log2 + 1 : Nat) : Int) * (n : Int) ≤ 134217728 then some (T.int (i ^ ((n : Int)).toNat)) else none) = _
  rw [if_pos ⟨by omega, by rw [← Int.natCast_mul]; generalize (i.natAbs.log2 + 1) * n = m at hl ⊢; omega⟩, Int.toNat_natCast]
theorem c_lt : cmpop .lt h (.int i) (.int j) = some (decide (i < j)) := rfl
theorem c_le : cmpop .le h (.int i) (.int j) = some (decide (i ≤ j)) := rfl
theorem c_gt : cmpop .gt h (.int i) (.int j) = some (decide (j < i)) := rfl
theorem c_ge : cmpop .ge h (.int i) (.int j) = some (decide (j ≤ i)) := rfl
theorem t_bl {b : Bool} : truth h (.bl b) = some b := rfl
theorem c_isN : cmpop .is h x .non = some (decide (x = T.non)) := by cases x <;> rfl
theorem c_nN : cmpop .isn h x .non = some (!decide (x = T.non)) := by cases x <;> rfl
theorem log2_lt {b : Nat} (h : i.natAbs < 2 ^ b) (hb : 0 < b) : i.natAbs.log2 < b := by
  by_cases h0 : i.natAbs = 0
  · rw [h0, Nat.log2_zero]; exact hb
  · exact (Nat.log2_lt h0).mpr h
end
end Lite

/-! LITE, 16: running: loops, the stream of numbers. -/
namespace Lite

/-- a call of a def -/
theorem call_run {P : Prog} {f : String} {d : Fn} (e : P.fn f = some d) (n : Nat) (xs : List T) (h : Heap) : call P (n + 1) f xs h = runFn (cnOf P n) d xs h := call_up e n xs h
theorem cn_P (P : Prog) (n : Nat) : (cnOf P n).P = P := rfl
theorem cn_call (P : Prog) (n : Nat) : (cnOf P n).call = call P n := rfl

/-- a loop by an invariant -/
theorem loop_inv {ok : Heap → Bool} {f : T → Rho → Heap → Rs Fl} (I : List T → Rho → Heap → Prop)
    (step : ∀ x xs ρ h, I (x :: xs) ρ h → ok h = true ∧ ∃ ρ' h', (f x ρ h = .ok (.nx ρ') h' ∨ f x ρ h = .ok (.cnt ρ') h') ∧ I xs ρ' h') (last : ∀ ρ h, I [] ρ h → ok h = true) :
    ∀ xs ρ h, I xs ρ h → ∃ ρ' h', loop ok f xs ρ h = .ok (.nx ρ') h' ∧ I [] ρ' h'
  | [], ρ, h, i => ⟨ρ, h, by simp [loop, last ρ h i], i⟩
  | x :: xs, ρ, h, i => by
    obtain ⟨o, ρ', h', e, i'⟩ := step x xs ρ h i
    obtain ⟨ρ2, h2, e2, i2⟩ := loop_inv I step last xs ρ' h' i'
    refine ⟨ρ2, h2, ?_, i2⟩
    rcases e with e | e <;> simp [loop, o, e, Rs.bind, e2]
/-- .. that may return -/
theorem loop_ret {ok : Heap → Bool} {f : T → Rho → Heap → Rs Fl} (I : List T → Rho → Heap → Prop) (E : T → Heap → Prop)
    (step : ∀ x xs ρ h, I (x :: xs) ρ h → ok h = true ∧ ∃ fl h', f x ρ h = .ok fl h' ∧ match fl with
      | .nx ρ' => I xs ρ' h'
      | .cnt ρ' => I xs ρ' h'
      | .brk ρ' => I [] ρ' h'
      | .ret v => E v h') (last : ∀ ρ h, I [] ρ h → ok h = true) :
    ∀ xs ρ h, I xs ρ h → (∃ ρ' h', loop ok f xs ρ h = .ok (.nx ρ') h' ∧ I [] ρ' h') ∨ ∃ v h', loop ok f xs ρ h = .ok (.ret v) h' ∧ E v h'
  | [], ρ, h, i => .inl ⟨ρ, h, by simp [loop, last ρ h i], i⟩
  | x :: xs, ρ, h, i => by
    obtain ⟨o, fl, h', e, i'⟩ := step x xs ρ h i
    cases fl with
    | nx ρ' =>
      rcases loop_ret I E step last xs ρ' h' i' with ⟨ρ2, h2, e2, i2⟩ | ⟨v, h2, e2, i2⟩
      · exact .inl ⟨ρ2, h2, by simp [loop, o, e, Rs.bind, e2], i2⟩
      · exact .inr ⟨v, h2, by simp [loop, o, e, Rs.bind, e2], i2⟩
    | cnt ρ' =>
      rcases loop_ret I E step last xs ρ' h' i' with ⟨ρ2, h2, e2, i2⟩ | ⟨v, h2, e2, i2⟩
      · exact .inl ⟨ρ2, h2, by simp [loop, o, e, Rs.bind, e2], i2⟩
      · exact .inr ⟨v, h2, by simp [loop, o, e, Rs.bind, e2], i2⟩
    | brk ρ' => exact .inl ⟨ρ', h', by simp [loop, o, e, Rs.bind], i'⟩
    | ret v => exact .inr ⟨v, h', by simp [loop, o, e, Rs.bind], i'⟩
/-- turns of a pure test and item -/
theorem turns_pure {α : Type} {ok : Heap → Bool} {f : T → Heap → Rs (Option α)} {h : Heap} (g : T → Option α) (hok : ok h = true) : ∀ (xs : List T) (acc : List α), (∀ x ∈ xs, f x h = .ok (g x) h) → turns ok f xs acc h = .ok (acc ++ xs.filterMap g) h
  | [], acc, _ => by simp [turns, hok]
  | x :: xs, acc, e => by
    have e1 := e x (by simp)
    have ih := fun acc => turns_pure (f := f) g hok xs acc fun y hy => e y (by simp [hy])
    cases eg : g x with
    | none => simp [turns, hok, e1, eg, Rs.bind, addO, ih acc]
    | some a => simp [turns, hok, e1, eg, Rs.bind, addO, ih (acc ++ [a])]
/-- turns by an invariant -/
theorem turns_inv {α : Type} {ok : Heap → Bool} {f : T → Heap → Rs (Option α)} (I : List T → List α → Heap → Prop) (step : ∀ x xs acc h, I (x :: xs) acc h → ok h = true ∧ ∃ o h', f x h = .ok o h' ∧ I xs (addO acc o) h') (last : ∀ acc h, I [] acc h → ok h = true) :
    ∀ xs acc h, I xs acc h → ∃ r h', turns ok f xs acc h = .ok r h' ∧ I [] r h'
  | [], acc, h, i => ⟨acc, h, by simp [turns, last acc h i], i⟩
  | x :: xs, acc, h, i => by
    obtain ⟨o, w, h', e, i'⟩ := step x xs acc h i
    obtain ⟨r, h2, e2, i2⟩ := turns_inv I step last xs _ h' i'
    exact ⟨r, h2, by simp only [turns, o, if_true, e, Rs.bind]; exact e2, i2⟩

/-! ### the stream -/
/-- a stream stands at n -/
def StreamAt (h : Heap) (n : Nat) : Prop := ∃ a b : Int, 0 ≤ a ∧ h[n]? = some (.lst [.int a, .int b])
theorem stream_ix {h : Heap} {n : Nat} {a b : Int} (hs : h[n]? = some (.lst [.int a, .int b])) : index h (.loc n) (.int 0) = some (.int a) ∧ index h (.loc n) (.int 1) = some (.int b) := by
  constructor <;> simp [index, view, hs, nth, place]
theorem draw_ok {P : Prog} (hd : P.fn "law._law_draw" = some d_law__law_draw) {h : Heap} {n : Nat} {a b size : Int} (ha : 0 ≤ a) (hs : h[n]? = some (.lst [.int a, .int b])) (h1 : 1 ≤ size) (h2 : size.natAbs.log2 < 9000) (k : Nat) :
    ∃ r a' b' : Int, 0 ≤ r ∧ r < size ∧ 0 ≤ a' ∧ call P (k + 1) "law._law_draw" [.loc n, .int size] h = .ok (.int r) (h.set n (.lst [.int a', .int b'])) := by
  rw [call_run hd]
  have hn : n < h.length := (List.getElem?_eq_some_iff.mp hs).1
  have hz : size ≠ 0 := by omega
  obtain ⟨ρ, eρ⟩ : ∃ ρ : Rho, ρ = [some (T.loc n), some (.int size), none] := ⟨_, rfl⟩
  have v0 : ∀ h K, evE K (.var 0) ρ h = .ok (.loc n) h := fun h K => ev_var (by rw [eρ]; rfl)
  have v1 : ∀ h K, evE K (.var 1) ρ h = .ok (.int size) h := fun h K => ev_var (by rw [eρ]; rfl)
  obtain ⟨i0, i1⟩ := stream_ix hs
  have q0 : ∀ K, evE K (.idx (.var 0) (.int 0)) ρ h = .ok (.int a) h := fun K => ev_idx (v0 h K) ev_int i0
  have q1 : ∀ K, evE K (.idx (.var 0) (.int 1)) ρ h = .ok (.int b) h := fun K => ev_idx (v0 h K) ev_int i1
  have start : [T.loc n, T.int size].map some ++ List.replicate (d_law__law_draw.ns - d_law__law_draw.np) none = ρ := by rw [eρ]; rfl
  by_cases c : size ≤ a
  · refine ⟨a.fmod size, a.fdiv size, b, Int.fmod_nonneg_of_pos _ (by omega), Int.fmod_lt_of_pos _ (by omega), Int.fdiv_nonneg ha (by omega), ?_⟩
    refine run_ret rfl ?_ rfl
    rw [start]
    refine ss_ret (xs_iff (ev_cmp (q0 _) (v1 _ _) c_ge) t_bl ?_)
    rw [if_pos (by simpa using c)]
    have v1' : ∀ h K, evE K (.var 1) (ρ.set 2 (some (.int (a.fmod size)))) h = .ok (.int size) h := fun h K => ev_var (by rw [eρ]; rfl)
    have v0' : ∀ h K, evE K (.var 0) (ρ.set 2 (some (.int (a.fmod size)))) h = .ok (.loc n) h := fun h K => ev_var (by rw [eρ]; rfl)
    refine ss_step (xs_set (ev_bin (q0 _) (v1 _ _) (b_mod hz))) (ss_step (xs_sidx (ev_bin (ev_idx (v0' _ _) ev_int i0) (v1' _ _) (b_fdiv hz h2)) (v0' _ _) ev_int hs (j := 0) rfl) (ss_ret (xs_ret (ev_var (by rw [eρ]; rfl)))))
  · obtain ⟨b1, e1⟩ : ∃ z, z = (b * 48271 + 12345).fmod 2147483647 := ⟨_, rfl⟩
    have l1 : 0 ≤ b1 := by rw [e1]; exact Int.fmod_nonneg_of_pos _ (by omega)
    have u1 : b1 < 2147483647 := by rw [e1]; exact Int.fmod_lt_of_pos _ (by omega)
    obtain ⟨b2, e2⟩ : ∃ z, z = (b1 ^ 3).fmod 2147483629 := ⟨_, rfl⟩
    have l2 : 0 ≤ b2 := by rw [e2]; exact Int.fmod_nonneg_of_pos _ (by omega)
    have u2 : b2 < 2147483629 := by rw [e2]; exact Int.fmod_lt_of_pos _ (by omega)
    have g1 : b1.natAbs.log2 < 31 := log2_lt (by omega) (by omega)
    have g2 : b2.natAbs.log2 < 31 := log2_lt (by omega) (by omega)
    have k7 : (7 : Int).natAbs.log2 < 9000 := by decide +kernel
    refine ⟨(((b2 ^ 5).fmod 1000000007).fdiv 7).fmod size, a, b1, Int.fmod_nonneg_of_pos _ (by omega), Int.fmod_lt_of_pos _ (by omega), ha, ?_⟩
    refine run_ret rfl ?_ rfl
    rw [start]
    refine ss_step (ρ' := ρ) (xs_iff (ev_cmp (q0 _) (v1 _ _) c_ge) t_bl (by rw [if_neg (by simpa using c)]; exact ss_nil')) ?_
    have m48 : (small64 b || small64 48271) = true := by
      have : small64 48271 = true := by decide +kernel
      rw [this, Bool.or_true]
    have s1 := xs_sidx (K := cnOf P k) (ev_bin (ev_bin (ev_bin (q1 _) (ev_int (j := 48271)) (b_mul m48)) (ev_int (j := 12345)) b_add) (ev_int (j := 2147483647)) (b_mod (by omega))) (v0 h (cnOf P k)) (ev_int (j := 1)) hs (j := 1) rfl
    rw [← e1] at s1
    refine ss_step s1 ?_
    have hs2 : (h.set n (O.lst ([T.int a, T.int b].set 1 (.int b1))))[n]? = some (.lst [.int a, .int b1]) := by rw [List.getElem?_set_self hn]; rfl
    obtain ⟨_, i3⟩ := stream_ix hs2
    have p1 := ev_bin (ev_bin (K := cnOf P k) (ev_idx (v0 _ _) ev_int i3) (ev_int (j := 3)) (b_pow (n := 3) (by omega))) (ev_int (j := 2147483629)) (b_mod (by omega))
    rw [← e2] at p1
    exact ss_ret (xs_ret (ev_bin (ev_bin (ev_bin (ev_bin p1 (ev_int (j := 5)) (b_pow (n := 5) (by omega))) ev_int (b_mod (by omega))) ev_int (b_fdiv (by omega) k7)) (v1 _ _) (b_mod hz)))
/-- what a draw leaves -/
structure Drawn (n : Nat) (h h' : Heap) : Prop where
  at_ : StreamAt h' n
  eq : ∃ o, h' = h.set n o
theorem draw_at {P : Prog} (hd : P.fn "law._law_draw" = some d_law__law_draw) {h : Heap} {n : Nat} {size : Int} (hs : StreamAt h n) (h1 : 1 ≤ size) (h2 : size.natAbs.log2 < 9000) (k : Nat) :
    ∃ r h', 0 ≤ r ∧ r < size ∧ Drawn n h h' ∧ call P (k + 1) "law._law_draw" [.loc n, .int size] h = .ok (.int r) h' := by
  obtain ⟨a, b, ha, hs⟩ := hs
  have hn : n < h.length := (List.getElem?_eq_some_iff.mp hs).1
  obtain ⟨r, a', b', r1, r2, a1, e⟩ := draw_ok hd ha hs h1 h2 k
  exact ⟨r, _, r1, r2, ⟨⟨a', b', a1, by simp [hn]⟩, _, rfl⟩, e⟩
theorem Drawn.refl {n : Nat} {h : Heap} (s : StreamAt h n) : Drawn n h h := ⟨s, by
  obtain ⟨a, b, _, e⟩ := s
  obtain ⟨p, q⟩ := List.getElem?_eq_some_iff.mp e
  exact ⟨h[n], by simp⟩⟩
theorem Drawn.trans {n : Nat} {h h1 h2 : Heap} (a : Drawn n h h1) (b : Drawn n h1 h2) : Drawn n h h2 := ⟨b.at_, by
  obtain ⟨o, rfl⟩ := a.eq
  obtain ⟨p, rfl⟩ := b.eq
  exact ⟨p, by simp⟩⟩
theorem Drawn.len {n : Nat} {h h1 : Heap} (a : Drawn n h h1) : h1.length = h.length := by
  obtain ⟨o, rfl⟩ := a.eq
  simp
theorem choose_at {P : Prog} (hd : P.fn "law._law_draw" = some d_law__law_draw) (hc : P.fn "law._law_choose" = some d_law__law_choose) {h : Heap} {n : Nat} {xs : List T} (hs : StreamAt h n) (h1 : xs ≠ []) (h2 : xs.length < 100000) (k : Nat) :
    ∃ x h', x ∈ xs ∧ Drawn n h h' ∧ call P (k + 2) "law._law_choose" [.loc n, .lst xs] h = .ok x h' := by
  have hl : 1 ≤ (xs.length : Int) := by
    have := List.length_pos_iff.mpr h1
    omega
  obtain ⟨r, h', r1, r2, dr, e⟩ := draw_at hd hs hl (Nat.lt_trans (log2_lt (b := 17) (by omega) (by omega)) (by omega)) k
  have hr : r.toNat < xs.length := by omega
  refine ⟨xs[r.toNat], h', by simp, dr, ?_⟩
  rw [call_run hc]
  have hp : place xs.length r = some r.toNat := by simp [place, r1, r2]
  simp [runFn, d_law__law_choose, exSs, exS, evE, evEs, Rs.bind, Rs.of, bfun, fLen, view, cn_call, e, index, nth, hp, hr, leave]
theorem log2_add {x y : Int} {B : Nat} (hx : x.natAbs < 2 ^ B) (hy : y.natAbs < 2 ^ B) : (x + y).natAbs.log2 < B + 1 := log2_lt (by rw [Nat.pow_succ]; omega) (by omega)
theorem still_lst {xs : List T} {h : Heap} : still [(.lst xs, .lst xs)] h = true := by simp [still, view]
theorem walk_lst {xs : List T} {h : Heap} : walked "" h [.lst xs] = some (xs, [(.lst xs, .lst xs)]) := by simp [walked, view]
theorem walk_tup {xs : List T} {h : Heap} : walked "" h [.tup xs] = some (xs, [(.tup xs, .tup xs)]) := by simp [walked, view]
theorem still_tup {xs : List T} {h : Heap} : still [(.tup xs, .tup xs)] h = true := by simp [still, view]
theorem still_nil {h : Heap} : still [] h = true := rfl
theorem bf_len {xs : List T} {h : Heap} : bfun "len" h [.lst xs] = some (.int xs.length) := by simp [bfun, fLen, view]
theorem ix_lst {xs : List T} {h : Heap} {i : Nat} {x : T} (e : xs[i]? = some x) : index h (.lst xs) (.int (i : Int)) = some x := by
  have hi := (List.getElem?_eq_some_iff.mp e).1
  have hp : place xs.length (i : Int) = some i := by
    unfold place
    rw [if_pos (by omega), if_pos (by omega), Int.toNat_natCast]
  show nth xs (i : Int) = _
  unfold nth
  rw [hp]
  exact e
/-- the stream of a script: at a new place -/
theorem stream_at {P : Prog} (hd : P.fn "law._law_stream" = some d_law__law_stream) {h : Heap} {ns : List Int} {start B : Nat} (hB : 64 ≤ B) (hB2 : B ≤ 2000000) (hb : ∀ z ∈ ns, z.natAbs < 2 ^ B) (h9 : start < 100000) (k : Nat) :
    ∃ o, StreamAt (h ++ [o]) h.length ∧ call P (k + 1) "law._law_stream" [.lst (ns.map T.int), .int (start : Int)] h = .ok (.loc h.length) (h ++ [o]) := by
  rw [call_run hd]
  obtain ⟨K, eK⟩ : ∃ K, K = cnOf P k := ⟨_, rfl⟩
  rw [← eK]
  have l1 : ∀ w : List Int, (∀ z ∈ w, z.natAbs < 2 ^ B) → ∀ (ρ : Rho), (∃ s x, ρ = [some (T.lst (ns.map T.int)), some (.int (start : Int)), some (.int s), x, none] ∧ 0 ≤ s ∧ s < 2147483648) →
      ∃ s x, 0 ≤ s ∧ s < 2147483648 ∧ loop (still [(.lst (ns.map T.int), .lst (ns.map T.int))]) (fun x ρ h => withB (bindTg (.v 3) x h ρ) fun ρ => exSs K [.set 2 (.bin .add (.bin .mod (.bin .pow (.bin .add (.bin .mul (.var 2) (.int 40127)) (.var 3)) (.int 3)) (.int 2147483629)) (.int 1))] ρ h) (w.map T.int) ρ h =
        .ok (.nx [some (T.lst (ns.map T.int)), some (.int (start : Int)), some (.int s), x, none]) h := by
    intro w
    induction w with
    | nil =>
      rintro _ ρ ⟨s, x, rfl, h1, h2⟩
      exact ⟨s, x, h1, h2, by simp [loop, still_lst]⟩
    | cons z w ih =>
      rintro hw ρ ⟨s, x, rfl, h1, h2⟩
      have hz := hw z (by simp)
      have p64 : 2 ^ 64 ≤ 2 ^ B := Nat.pow_le_pow_right (by omega) hB
      have hs : (s * 40127).natAbs < 2 ^ B := Nat.lt_of_lt_of_le (by omega) p64
      have hlog := log2_add hs hz
      have e : exSs K [.set 2 (.bin .add (.bin .mod (.bin .pow (.bin .add (.bin .mul (.var 2) (.int 40127)) (.var 3)) (.int 3)) (.int 2147483629)) (.int 1))] [some (T.lst (ns.map T.int)), some (.int (start : Int)), some (.int s), some (.int z), none] h =
          .ok (.nx [some (T.lst (ns.map T.int)), some (.int (start : Int)), some (.int (((s * 40127 + z) ^ 3).fmod 2147483629 + 1)), some (.int z), none]) h := by
        have m4 : (small64 s || small64 40127) = true := by
          have : small64 40127 = true := by decide +kernel
          rw [this, Bool.or_true]
        refine ss_step (xs_set (ev_bin (ev_bin (ev_bin (ev_bin (ev_bin (ev_var rfl) (ev_int (j := 40127)) (b_mul m4)) (ev_var rfl) b_add) (ev_int (j := 3)) (b_pow (n := 3) (by omega))) (ev_int (j := 2147483629)) (b_mod (by omega))) (ev_int (j := 1)) b_add)) ?_
        exact ss_nil'
      have q1 : 0 ≤ ((s * 40127 + z) ^ 3).fmod 2147483629 := Int.fmod_nonneg_of_pos _ (by omega)
      have q2 : ((s * 40127 + z) ^ 3).fmod 2147483629 < 2147483629 := Int.fmod_lt_of_pos _ (by omega)
      obtain ⟨s', x', r1, r2, r3⟩ := ih (fun y hy => hw y (by simp [hy])) [some (T.lst (ns.map T.int)), some (.int (start : Int)), some (.int (((s * 40127 + z) ^ 3).fmod 2147483629 + 1)), some (.int z), none] ⟨_, _, rfl, by omega, by omega⟩
      refine ⟨s', x', r1, r2, ?_⟩
      rw [List.map_cons, loop, if_pos still_lst]
      show ((exSs K _ [some (T.lst (ns.map T.int)), some (.int (start : Int)), some (.int s), some (.int z), none] h).bind _) = _
      rw [e, Rs.bind_ok]
      exact r3
  obtain ⟨s, x, s1, s2, e1⟩ := l1 ns hb [some (T.lst (ns.map T.int)), some (.int (start : Int)), some (.int (11 + (start : Int))), none, none] ⟨_, _, rfl, by omega, by omega⟩
  have fin : ∀ d : Int, 0 ≤ d → exSs K (d_law__law_stream.body.drop 3) [some (T.lst (ns.map T.int)), some (.int (start : Int)), some (.int s), x, some (.int 0)] h = .ok (.ret (.loc h.length)) (h ++ [.lst [.int d, .int s]]) →
      ∃ o, StreamAt (h ++ [o]) h.length ∧ runFn K d_law__law_stream [.lst (ns.map T.int), .int (start : Int)] h = .ok (.loc h.length) (h ++ [o]) := fun d hd e => by
    refine ⟨.lst [.int d, .int s], ⟨d, s, hd, by simp⟩, run_ret rfl ?_ rfl⟩
    refine ss_step (xs_set (ev_bin ev_int (ev_var rfl) b_add)) (ss_step (ρ' := [some (T.lst (ns.map T.int)), some (.int (start : Int)), some (.int s), x, none]) ((xs_for (es_one (ev_var rfl)) walk_lst).trans e1) (ss_step (xs_set ev_int) e))
  have p18 : ∀ ρ, evE K (.bin .pow (.int 10) (.int 18)) ρ h = .ok (.int (10 ^ 18)) h := fun ρ => ev_bin ev_int (ev_int (j := 18)) (b_pow (n := 18) (by decide +kernel))
  have rt : ∀ d : Int, exSs K [.ret (.lst true [(.var 4), (.var 2)])] [some (T.lst (ns.map T.int)), some (.int (start : Int)), some (.int s), x, some (.int d)] h = .ok (.ret (.loc h.length)) (h ++ [.lst [.int d, .int s]]) := fun d => ss_ret (xs_ret (ev_lstM (es_two (ev_var rfl) (ev_var rfl))))
  have c1 : evE K (.cmp .lt (.var 1) (.bi "len" [(.var 0)])) [some (T.lst (ns.map T.int)), some (.int (start : Int)), some (.int s), x, some (.int 0)] h = .ok (.bl (decide ((start : Int) < ((ns.map T.int).length : Int)))) h := ev_cmp (ev_var rfl) (ev_bi (es_one (ev_var rfl)) bf_len) c_lt
  by_cases hl : start < ns.length
  · have hx : (ns.map T.int)[start]? = some (.int ns[start]) := by simp [hl]
    have c2 : evE K (.cmp .ge (.idx (.var 0) (.var 1)) (.bin .pow (.int 10) (.int 18))) [some (T.lst (ns.map T.int)), some (.int (start : Int)), some (.int s), x, some (.int 0)] h = .ok (.bl (decide (10 ^ 18 ≤ ns[start]))) h := ev_cmp (ev_idx (ev_var rfl) (ev_var rfl) (ix_lst hx)) (p18 _) c_ge
    have t1 : decide ((start : Int) < ((ns.map T.int).length : Int)) = true := by simp; omega
    rw [t1] at c1
    have cc : evE K (.and [(.cmp .lt (.var 1) (.bi "len" [(.var 0)])), (.cmp .ge (.idx (.var 0) (.var 1)) (.bin .pow (.int 10) (.int 18)))]) [some (T.lst (ns.map T.int)), some (.int (start : Int)), some (.int s), x, some (.int 0)] h = .ok (.bl (decide (10 ^ 18 ≤ ns[start]))) h := by
      rw [ev_and, and_cons c1 t_bl, if_pos rfl, and_one, c2]
    by_cases hg : (10 : Int) ^ 18 ≤ ns[start]
    · refine fin (ns[start] - 10 ^ 18) (by omega) ?_
      refine ss_step (ρ' := [some (T.lst (ns.map T.int)), some (.int (start : Int)), some (.int s), x, some (.int (ns[start] - 10 ^ 18))]) (xs_iff cc t_bl ?_) (rt _)
      rw [if_pos (by simpa using hg)]
      refine ss_step (xs_set (ev_bin (ev_idx (ev_var rfl) (ev_var rfl) (ix_lst hx)) (p18 _) b_sub)) ss_nil'
    · refine fin 0 (by omega) ?_
      refine ss_step (ρ' := [some (T.lst (ns.map T.int)), some (.int (start : Int)), some (.int s), x, some (.int 0)]) (xs_iff cc t_bl ?_) (rt _)
      rw [if_neg (by simpa using hg)]
      exact ss_nil'
  · have t1 : decide ((start : Int) < ((ns.map T.int).length : Int)) = false := by simp; omega
    rw [t1] at c1
    refine fin 0 (by omega) ?_
    refine ss_step (ρ' := [some (T.lst (ns.map T.int)), some (.int (start : Int)), some (.int s), x, some (.int 0)]) (xs_iff (r := false) (x := .bl false) (h1 := h) ?_ t_bl ?_) (rt _)
    · rw [ev_and, and_cons c1 t_bl, if_neg Bool.false_ne_true]
    · rw [if_neg Bool.false_ne_true]
      exact ss_nil'
theorem place_nat {n i : Nat} (h : i < n) : place n (i : Int) = some i := by
  unfold place
  rw [if_pos (by omega), if_pos (by omega), Int.toNat_natCast]
end Lite

/-! LITE, 17: running, what many laws want. -/
namespace Lite
open PySem
theorem is_ii {h : Heap} {sub} {i : Int} : isTy h sub (.int i) "int" = some true := rfl
theorem is_ib {h : Heap} {sub} {i : Int} : isTy h sub (.int i) "bool" = some false := rfl
theorem is_is {h : Heap} {sub} {i : Int} : isTy h sub (.int i) "str" = some false := rfl
theorem is_ss {h : Heap} {sub} {s : List Nat} : isTy h sub (.str s) "str" = some true := rfl
theorem is_ns {h : Heap} {sub} : isTy h sub .non "str" = some false := rfl
theorem is_bb {h : Heap} {sub} {b : Bool} : isTy h sub (.bl b) "bool" = some true := rfl
theorem ints_map : ∀ ns : List Int, intsOf (ns.map T.int) = some ns
  | [] => rfl
  | n :: ns => by simp [intsOf, ints_map ns]
theorem if_skip {K : Cn} {ρ : Rho} {h h1 : Heap} {c : LE} {a ss : List LS} {x : T} {w : Rs Fl} (hc : evE K c ρ h = .ok x h1) (ht : truth h1 x = some false) (hr : exSs K ss ρ h1 = w) : exSs K (.iff c a [] :: ss) ρ h = w :=
  ss_step (ρ' := ρ) (xs_iff hc ht (by rw [if_neg Bool.false_ne_true]; exact ss_nil')) hr
theorem if_take {K : Cn} {ρ : Rho} {h h1 h2 : Heap} {c e : LE} {ss : List LS} {x v : T} (hc : evE K c ρ h = .ok x h1) (ht : truth h1 x = some true) (hr : evE K e ρ h1 = .ok v h2) : exSs K (.iff c [.ret e] [] :: ss) ρ h = .ok (.ret v) h2 :=
  ss_ret (xs_iff hc ht (by rw [if_pos rfl]; exact ss_ret (xs_ret hr)))
theorem eq_str {h : Heap} {a b : List Nat} : cmpop .eq h (.str a) (.str b) = some (a == b) := rfl
theorem ne_str {h : Heap} {a b : List Nat} : cmpop .ne h (.str a) (.str b) = some (!(a == b)) := rfl
theorem fit_int (i : Int) : (T.int i).fit = true := by simp [T.fit, T.flat, T.depth]
theorem fit_bl (b : Bool) : (T.bl b).fit = true := by simp [T.fit, T.flat, T.depth]
theorem eq_fit {h : Heap} {a b : T} (va : view h a = some a) (vb : view h b = some b) (fa : a.fit = true) (fb : b.fit = true) (hs : ∀ s, a ≠ .str s) : cmpop .eq h a b = some (T.eqv a b) := by
  unfold cmpop
  rw [va, vb]
  cases a <;> simp_all
theorem ne_fit {h : Heap} {a b : T} (va : view h a = some a) (vb : view h b = some b) (fa : a.fit = true) (fb : b.fit = true) (hs : ∀ s, a ≠ .str s) : cmpop .ne h a b = some (!T.eqv a b) := by
  unfold cmpop
  rw [va, vb]
  cases a <;> simp_all
theorem eq_int {h : Heap} {i j : Int} : cmpop .eq h (.int i) (.int j) = some (decide (i = j)) := by
  rw [eq_fit rfl rfl (fit_int i) (fit_int j) (fun s e => by cases e)]
  show some (i == j) = _
  rw [Bool.beq_eq_decide_eq]
theorem eq_bl {h : Heap} {i j : Bool} : cmpop .eq h (.bl i) (.bl j) = some (i == j) := by
  rw [eq_fit rfl rfl (fit_bl i) (fit_bl j) (fun s e => by cases e)]
  rfl
theorem ne_bl {h : Heap} {i j : Bool} : cmpop .ne h (.bl i) (.bl j) = some (!(i == j)) := by
  rw [ne_fit rfl rfl (fit_bl i) (fit_bl j) (fun s e => by cases e)]
  rfl
theorem range1 {h : Heap} {j : Int} (h1 : -(2 ^ 62) ≤ j) (h2 : j < 2 ^ 62) : walked "range" h [.int j] = some (rangeT 0 j, []) := by
  show (if big62 j = true then _ else _) = _
  rw [if_pos (by simp only [big62, decide_eq_true_eq]; exact ⟨h1, h2⟩)]
theorem range2 {h : Heap} {i j : Int} (h1 : -(2 ^ 62) ≤ i) (h2 : i < 2 ^ 62) (h3 : -(2 ^ 62) ≤ j) (h4 : j < 2 ^ 62) : walked "range" h [.int i, .int j] = some (rangeT i j, []) := by
  show (if (big62 i && big62 j) = true then _ else _) = _
  rw [if_pos (by simp only [big62, Bool.and_eq_true, decide_eq_true_eq]; exact ⟨⟨h1, h2⟩, h3, h4⟩)]
theorem in_range {j : Int} {x : T} (h : x ∈ rangeT 0 j) : ∃ m : Nat, x = .int (m : Int) ∧ (m : Int) < j := by
  simp only [rangeT, List.mem_map, List.mem_range] at h
  obtain ⟨m, hm, rfl⟩ := h
  exact ⟨m, by simp, by omega⟩
theorem len_range (j : Int) : (rangeT 0 j).length = j.toNat := by simp [rangeT]
theorem cat_lst {h : Heap} {xs ys : List T} (hl : xs.length + ys.length ≤ top) : binop .add h (.lst xs) (.lst ys) = some (.lst (xs ++ ys)) := by
  show (if xs.length + ys.length ≤ top then some (T.lst (xs ++ ys)) else none) = _
  rw [if_pos hl]
theorem cat_tup {h : Heap} {xs ys : List T} (hl : xs.length + ys.length ≤ top) : binop .add h (.tup xs) (.tup ys) = some (.tup (xs ++ ys)) := by
  show (if xs.length + ys.length ≤ top then some (T.tup (xs ++ ys)) else none) = _
  rw [if_pos hl]
theorem lt_bits {z : Int} {B : Nat} (h : Builtin.Int.intBits z ≤ B) : z.natAbs < 2 ^ B := by
  unfold Builtin.Int.intBits at h
  split at h
  · rename_i e
    have : z = 0 := by simpa using e
    subst this
    simp
    exact Nat.pow_pos (by omega)
  · rename_i e
    have h0 : z.natAbs ≠ 0 := by simp at e; omega
    exact (Nat.log2_lt h0).mp (by omega)
theorem pow109 {K : Cn} {ρ : Rho} {h : Heap} : evE K (.bin .pow (.int 10) (.int 9)) ρ h = .ok (.int 1000000000) h := ev_bin ev_int (ev_int (j := 9)) (b_pow (n := 9) (by decide +kernel))
theorem len_tup {xs : List T} {h : Heap} : bfun "len" h [.tup xs] = some (.int xs.length) := by simp [bfun, fLen, view]
theorem ix_tup {xs : List T} {h : Heap} {i : Nat} {x : T} (e : xs[i]? = some x) : index h (.tup xs) (.int (i : Int)) = some x := by
  have hi := (List.getElem?_eq_some_iff.mp e).1
  have hp : place xs.length (i : Int) = some i := by
    unfold place
    rw [if_pos (by omega), if_pos (by omega), Int.toNat_natCast]
  show nth xs (i : Int) = _
  unfold nth
  rw [hp]
  exact e
theorem withB_of {α : Type} {o : Option Rho} {ρ : Rho} {f : Rho → Rs α} {r : Rs α} (eo : o = some ρ) (e : f ρ = r) : withB o f = r := by subst eo; exact e
theorem loop_nx {ok : Heap → Bool} {f : T → Rho → Heap → Rs Fl} {x : T} {xs : List T} {ρ ρ2 : Rho} {h h2 : Heap} (ho : ok h = true) (e : f x ρ h = .ok (.nx ρ2) h2) : loop ok f (x :: xs) ρ h = loop ok f xs ρ2 h2 := by
  rw [loop, if_pos ho, e, Rs.bind_ok]
/-- a draw, by a level -/
theorem draw_lv {P : Prog} (hd : P.fn "law._law_draw" = some d_law__law_draw) {K : Cn} {k n : Nat} (hK : K.call = call P (k + 1)) {h : Heap} (s : Int) (hs : StreamAt h n) (h1 : 1 ≤ s) (h2 : s < 100000000000) :
    ∃ r h', 0 ≤ r ∧ r < s ∧ Drawn n h h' ∧ K.call "law._law_draw" [.loc n, .int s] h = .ok (.int r) h' := by
  rw [hK]
  exact draw_at hd hs h1 (Nat.lt_trans (log2_lt (b := 40) (by omega) (by omega)) (by omega)) k
theorem choose_lv {P : Prog} (hd : P.fn "law._law_draw" = some d_law__law_draw) (hc : P.fn "law._law_choose" = some d_law__law_choose) {K : Cn} {k n : Nat} (hK : K.call = call P (k + 2)) {h : Heap} {xs : List T} (hs : StreamAt h n) (h1 : xs ≠ []) (h2 : xs.length < 100000) :
    ∃ x h', x ∈ xs ∧ Drawn n h h' ∧ K.call "law._law_choose" [.loc n, .lst xs] h = .ok x h' := by
  rw [hK]
  exact choose_at hd hc hs h1 h2 k
end Lite

namespace Lite.K02
open PySem L2 PySem.Spec
open PyProof.Rows hiding St

def d_grid_area_at : Fn := ⟨3, 5, [
    .unp (.t [3, 4]) (.var 0),
    .ret (.tup [(.var 3), (.var 4), (.bin .sub (.bin .add (.var 3) (.var 1)) (.int 1)), (.bin .sub (.bin .add (.var 4) (.var 2)) (.int 1))])], 0⟩
def d_grid_contains : Fn := ⟨2, 6, [
    .unp (.t [2, 3, 4, 5]) (.var 0),
    .ret (.and [(.chain .le .le (.var 2) (.idx (.var 1) (.int 0)) (.var 4)), (.chain .le .le (.var 3) (.idx (.var 1) (.int 1)) (.var 5))])], 0⟩
def d_grid_overlaps : Fn := ⟨2, 3, [
    .set 2 (.and [(.cmp .le (.idx (.var 0) (.int 0)) (.idx (.var 1) (.int 2))), (.cmp .le (.idx (.var 1) (.int 0)) (.idx (.var 0) (.int 2)))]),
    .ret (.and [(.var 2), (.cmp .le (.idx (.var 0) (.int 1)) (.idx (.var 1) (.int 3))), (.cmp .le (.idx (.var 1) (.int 1)) (.idx (.var 0) (.int 3)))])], 0⟩
def d_grid_cells_of : Fn := ⟨1, 7, [
    .unp (.t [1, 2, 3, 4]) (.var 0),
    .ret (.comp2 true [5, 6] (.tup [(.var 5), (.var 6)]) (.v 5) "range" [(.var 1), (.bin .add (.var 3) (.int 1))] [] [6] (.v 6) "range" [(.var 2), (.bin .add (.var 4) (.int 1))] [])], 0⟩
def d_law__law_area : Fn := ⟨1, 5, [
    .par [1, 2] [(.call "law._law_draw" [(.var 0), (.int 12)]), (.call "law._law_draw" [(.var 0), (.int 12)])],
    .set 3 (.call "law._law_draw" [(.var 0), (.call "law._law_choose" [(.var 0), (.lst false [(.int 1), (.int 3), (.int 12)])])]),
    .set 4 (.call "law._law_draw" [(.var 0), (.call "law._law_choose" [(.var 0), (.lst false [(.int 1), (.int 3), (.int 12)])])]),
    .ret (.tup [(.var 1), (.var 2), (.bi "min" [(.int 11), (.bin .add (.var 1) (.var 3))]), (.bi "min" [(.int 11), (.bin .add (.var 2) (.var 4))])])], 0⟩
def d_law__law_cells : Fn := ⟨1, 4, [
    .set 1 (.lst true []),
    .for (.v 2) "range" [(.int 12)] [.for (.v 3) "range" [(.int 12)] [.iff (.and [(.chain .le .le (.idx (.var 0) (.int 0)) (.var 2) (.idx (.var 0) (.int 2))), (.chain .le .le (.idx (.var 0) (.int 1)) (.var 3) (.idx (.var 0) (.int 3)))]) [.expr (.bm (.var 1) "append" [(.tup [(.var 2), (.var 3)])])] []]],
    .frz 1,
    .ret (.var 1)], 1⟩
def d_law__law_pair_right : Fn := ⟨2, 5, [
    .set 2 (.comp false [3] (.var 3) (.v 3) "" [(.call "law._law_cells" [(.var 0)])] [(.cmp .isin (.var 3) (.call "law._law_cells" [(.var 1)]))]),
    .set 4 (.call "grid.overlaps" [(.var 0), (.var 1)]),
    .ret (.and [(.isi (.var 4) ["bool"]), (.cmp .eq (.var 4) (.cmp .ne (.var 2) (.lst false []))), (.cmp .eq (.call "grid.overlaps" [(.var 1), (.var 0)]) (.var 4))])], 0⟩
def d_law__law_area_right : Fn := ⟨2, 9, [
    .set 2 (.call "law._law_cells" [(.var 1)]),
    .set 3 (.call "grid.cells_of" [(.var 1)]),
    .iff (.or [(.not (.isi (.var 3) ["list"])), (.cmp .ne (.var 3) (.var 2))]) [.ret (.bl false)] [],
    .expr (.bm (.var 3) "append" [.non]),
    .iff (.cmp .ne (.call "grid.cells_of" [(.var 1)]) (.var 2)) [.ret (.bl false)] [],
    .set 4 (.tup [(.call "law._law_draw" [(.var 0), (.int 12)]), (.call "law._law_draw" [(.var 0), (.int 12)])]),
    .for (.v 5) "" [(.lst false [(.var 4), (.slc (.var 1) [] [(.int 2)]), (.slc (.var 1) [(.int 2)] []), (.tup [(.idx (.var 1) (.int 0)), (.idx (.var 1) (.int 3))]), (.tup [(.idx (.var 1) (.int 2)), (.idx (.var 1) (.int 1))])])] [.set 6 (.call "grid.contains" [(.var 1), (.var 5)]), .iff (.or [(.not (.isi (.var 6) ["bool"])), (.cmp .ne (.var 6) (.cmp .isin (.var 5) (.var 2)))]) [.ret (.bl false)] []],
    .par [7, 8] [(.bin .add (.bin .sub (.idx (.var 1) (.int 2)) (.idx (.var 1) (.int 0))) (.int 1)), (.bin .add (.bin .sub (.idx (.var 1) (.int 3)) (.idx (.var 1) (.int 1))) (.int 1))],
    .iff (.cmp .ne (.call "grid.area_at" [(.slc (.var 1) [] [(.int 2)]), (.var 7), (.var 8)]) (.var 1)) [.ret (.bl false)] [],
    .ret (.cmp .eq (.call "grid.area_at" [(.slc (.var 1) [(.int 2)] []), (.var 7), (.var 8)]) (.bin .add (.slc (.var 1) [(.int 2)] []) (.tup [(.bin .sub (.bin .add (.idx (.var 1) (.int 2)) (.var 7)) (.int 1)), (.bin .sub (.bin .add (.idx (.var 1) (.int 3)) (.var 8)) (.int 1))])))], 2⟩
def d_law_law : Fn := ⟨1, 6, [
    .for (.v 1) "range" [(.bi "max" [(.int 2), (.bi "min" [(.int 6), (.bi "len" [(.var 0)])])])] [.set 2 (.call "law._law_stream" [(.var 0), (.var 1)]), .for (.v 3) "range" [(.int 4)] [.par [4, 5] [(.call "law._law_area" [(.var 2)]), (.call "law._law_area" [(.var 2)])], .iff (.cmp .eq (.call "law._law_draw" [(.var 2), (.int 3)]) (.int 0)) [.set 5 (.tup [(.idx (.var 4) (.int 0)), (.bi "min" [(.int 11), (.bin .add (.idx (.var 4) (.int 3)) (.int 1))]), (.idx (.var 4) (.int 2)), (.int 11)])] [], .iff (.or [(.not (.call "law._law_pair_right" [(.var 4), (.var 5)])), (.not (.call "law._law_pair_right" [(.var 4), (.var 4)]))]) [.ret (.bl false)] [], .iff (.or [(.not (.call "law._law_area_right" [(.var 2), (.var 4)])), (.not (.call "law._law_area_right" [(.var 2), (.var 5)]))]) [.ret (.bl false)] []]],
    .ret (.bl true)], 0⟩
def dfs : List Df := [
  ⟨"grid.area_at", "area_at", 1, d_grid_area_at, ["cell", "rows", "columns", "row", "column"]⟩,
  ⟨"grid.contains", "contains", 2, d_grid_contains, ["area", "cell", "top", "left", "bottom", "right"]⟩,
  ⟨"grid.overlaps", "overlaps", 3, d_grid_overlaps, ["first", "second", "rows"]⟩,
  ⟨"grid.cells_of", "cells_of", 4, d_grid_cells_of, ["area", "top", "left", "bottom", "right", "row", "column"]⟩,
  ⟨"law._law_stream", "_law_stream", 6, d_law__law_stream, ["script", "start", "seed", "number", "digits"]⟩,
  ⟨"law._law_draw", "_law_draw", 7, d_law__law_draw, ["stream", "size", "found"]⟩,
  ⟨"law._law_choose", "_law_choose", 8, d_law__law_choose, ["stream", "items"]⟩,
  ⟨"law._law_area", "_law_area", 9, d_law__law_area, ["stream", "top", "left", "height", "width"]⟩,
  ⟨"law._law_cells", "_law_cells", 10, d_law__law_cells, ["area", "found", "row", "column"]⟩,
  ⟨"law._law_pair_right", "_law_pair_right", 11, d_law__law_pair_right, ["first", "second", "common", "cell", "told"]⟩,
  ⟨"law._law_area_right", "_law_area_right", 12, d_law__law_area_right, ["stream", "area", "cells", "found", "cell", "spot", "told", "rows", "columns"]⟩,
  ⟨"law.law", "law", 13, d_law_law, ["script", "start", "stream", "turn", "first", "second"]⟩]
def cds : List Cd := []
abbrev RL : PySem.W.OpenLaw := PySem.Challenge.rw_spillsheet_k02_areas
abbrev RR : PySem.W.OpenRow := PySem.W.OpenLaw.row RL
abbrev hk : PySem.W.Hook := hookL 4 dfs cds RL.prog
def ob (s : PySem.W.SharedT) : He.AlX := He.obsX 4 (facts dfs) (dfs.map (defD RL.prog)) [] [] (conB cds) (HandSHeadRun.getT s)
theorem ob_eq (s : PySem.W.SharedT) : ob s = hk.obs s.abs := He.obsX_eq (HandSHeadRun.getT_eq s)
theorem row : rowB RL.prog dfs cds = true := by decide +kernel
theorem run (w : World) : HandSHeadRun.RunEq RR (PySem.W.view RL.prog [13]) hk ob 4000 ["area_at", "contains", "overlaps", "cells_of", "_law_stream", "_law_draw", "_law_choose", "_law_area", "_law_cells", "_law_pair_right", "_law_area_right"] w := by
  intro os
  kernel_rfl
abbrev PP : Prog := progOf dfs cds
end Lite.K02

namespace Lite.K02
open PySem
theorem f_at : PP.fn "grid.area_at" = some d_grid_area_at := rfl
theorem f_contains : PP.fn "grid.contains" = some d_grid_contains := rfl
theorem f_overlaps : PP.fn "grid.overlaps" = some d_grid_overlaps := rfl
theorem f_cells : PP.fn "grid.cells_of" = some d_grid_cells_of := rfl
theorem f_stream : PP.fn "law._law_stream" = some d_law__law_stream := rfl
theorem f_draw : PP.fn "law._law_draw" = some d_law__law_draw := rfl
theorem f_choose : PP.fn "law._law_choose" = some d_law__law_choose := rfl
theorem f_area : PP.fn "law._law_area" = some d_law__law_area := rfl
theorem f_lcells : PP.fn "law._law_cells" = some d_law__law_cells := rfl
theorem f_pair : PP.fn "law._law_pair_right" = some d_law__law_pair_right := rfl
theorem f_right : PP.fn "law._law_area_right" = some d_law__law_area_right := rfl
theorem f_law : PP.fn "law.law" = some d_law_law := rfl
/-- a cell, an area -/
abbrev cT (i j : Nat) : T := .tup [.int (i : Int), .int (j : Int)]
abbrev aT (t l b r : Nat) : T := .tup [.int (t : Int), .int (l : Int), .int (b : Int), .int (r : Int)]
def rows (t b : Nat) : List Nat := (List.range 12).filter fun i => decide (t ≤ i ∧ i ≤ b)
def CL (t l b r : Nat) : List T := (rows t b).flatMap fun i => (rows l r).map (cT i)
theorem rows_range {t b : Nat} (ht : t ≤ 11) (hb : b ≤ 11) : rangeT (t : Int) ((b : Int) + 1) = (rows t b).map fun (i : Nat) => T.int (i : Int) := by
  have h : ∀ t : Fin 12, ∀ b : Fin 12, rangeT ((t : Nat) : Int) (((b : Nat) : Int) + 1) = (rows t b).map fun (i : Nat) => T.int (i : Int) := by decide +kernel
  exact h ⟨t, by omega⟩ ⟨b, by omega⟩
theorem rows_mem {t b i : Nat} (hb : b ≤ 11) : i ∈ rows t b ↔ t ≤ i ∧ i ≤ b := by
  simp only [rows, List.mem_filter, List.mem_range, decide_eq_true_eq]
  omega
theorem rows_len (t b : Nat) : (rows t b).length ≤ 12 := Nat.le_trans (List.length_filter_le _ _) (by simp)
theorem CL_len (t l b r : Nat) : (CL t l b r).length ≤ 144 := by
  unfold CL
  have key : ∀ w : List Nat, (w.flatMap fun i => (rows l r).map (cT i)).length ≤ 12 * w.length := fun w => by
    induction w with
    | nil => simp
    | cons x w ih =>
      have := rows_len l r
      simp only [List.flatMap_cons, List.length_append, List.length_map, List.length_cons]
      omega
  have := key (rows t b)
  have := rows_len t b
  omega
theorem chain_le {K : Cn} {ρ : Rho} {h : Heap} {a b c : LE} {x y z : Int} (ha : evE K a ρ h = .ok (.int x) h) (hb : evE K b ρ h = .ok (.int y) h) (hc : evE K c ρ h = .ok (.int z) h) : evE K (.chain .le .le a b c) ρ h = .ok (.bl (decide (x ≤ y ∧ y ≤ z))) h := by
  by_cases q : x ≤ y
  · have e : decide (x ≤ y ∧ y ≤ z) = decide (y ≤ z) := by simp [q]
    rw [e]
    exact ev_chain (r := true) ha hb (by rw [c_le]; simpa using q) (fun _ => ⟨hc, c_le⟩) (fun w => by cases w)
  · have e : decide (x ≤ y ∧ y ≤ z) = false := by simp [q]
    rw [e]
    exact ev_chain (r := false) (z := .non) ha hb (by rw [c_le]; simpa using q) (fun w => by cases w) (fun _ => ⟨rfl, rfl⟩)
theorem and_two {K : Cn} {ρ : Rho} {h : Heap} {a b : LE} {x y : Bool} (ha : evE K a ρ h = .ok (.bl x) h) (hb : evE K b ρ h = .ok (.bl y) h) : evE K (.and [a, b]) ρ h = .ok (.bl (x && y)) h := by
  rw [ev_and, and_cons ha t_bl]
  cases x with
  | true => rw [if_pos rfl, and_one, hb]; rfl
  | false => rfl
theorem and_three {K : Cn} {ρ : Rho} {h : Heap} {a b c : LE} {x y z : Bool} (ha : evE K a ρ h = .ok (.bl x) h) (hb : evE K b ρ h = .ok (.bl y) h) (hc : evE K c ρ h = .ok (.bl z) h) : evE K (.and [a, b, c]) ρ h = .ok (.bl (x && (y && z))) h := by
  rw [ev_and, and_cons ha t_bl]
  cases x with
  | true =>
    rw [if_pos rfl, and_cons hb t_bl]
    cases y with
    | true => rw [if_pos rfl, and_one, hc]; rfl
    | false => rfl
  | false => rfl
/-! the package's defs -/
theorem at_ok (k : Nat) (i j rs cs : Int) (h : Heap) : call PP (k + 1) "grid.area_at" [.tup [.int i, .int j], .int rs, .int cs] h = .ok (.tup [.int i, .int j, .int (i + rs - 1), .int (j + cs - 1)]) h := by
  rw [call_run f_at]
  refine run_ret rfl (ss_step (xs_unp (ev_var rfl) rfl) (ss_ret (xs_ret (ev_tup (es_cons (ev_var rfl) (es_cons (ev_var rfl) (es_two (h1 := h) ?_ ?_))))))) rfl
  · exact ev_bin (ev_bin (ev_var rfl) (ev_var rfl) b_add) ev_int b_sub
  · exact ev_bin (ev_bin (ev_var rfl) (ev_var rfl) b_add) ev_int b_sub
theorem contains_ok (k : Nat) (t l b r i j : Int) (h : Heap) : call PP (k + 1) "grid.contains" [.tup [.int t, .int l, .int b, .int r], .tup [.int i, .int j]] h = .ok (.bl (decide (t ≤ i ∧ i ≤ b) && decide (l ≤ j ∧ j ≤ r))) h := by
  rw [call_run f_contains]
  refine run_ret rfl (ss_step (xs_unp (ev_var rfl) rfl) (ss_ret (xs_ret (and_two ?_ ?_)))) rfl
  · exact chain_le (ev_var rfl) (ev_idx (ev_var rfl) (ev_int (j := 0)) (ix_tup (i := 0) rfl)) (ev_var rfl)
  · exact chain_le (ev_var rfl) (ev_idx (ev_var rfl) (ev_int (j := 1)) (ix_tup (i := 1) rfl)) (ev_var rfl)
theorem overlaps_ok (k : Nat) (t l b r t' l' b' r' : Int) (h : Heap) : call PP (k + 1) "grid.overlaps" [.tup [.int t, .int l, .int b, .int r], .tup [.int t', .int l', .int b', .int r']] h = .ok (.bl ((decide (t ≤ b') && decide (t' ≤ b)) && (decide (l ≤ r') && decide (l' ≤ r)))) h := by
  rw [call_run f_overlaps]
  refine run_ret rfl (ss_step (xs_set (and_two (x := decide (t ≤ b')) (y := decide (t' ≤ b)) ?_ ?_)) (ss_ret (xs_ret (and_three (ev_var rfl) (y := decide (l ≤ r')) (z := decide (l' ≤ r)) ?_ ?_)))) rfl
  · exact ev_cmp (ev_idx (ev_var rfl) (ev_int (j := 0)) (ix_tup (i := 0) rfl)) (ev_idx (ev_var rfl) (ev_int (j := 2)) (ix_tup (i := 2) rfl)) c_le
  · exact ev_cmp (ev_idx (ev_var rfl) (ev_int (j := 0)) (ix_tup (i := 0) rfl)) (ev_idx (ev_var rfl) (ev_int (j := 2)) (ix_tup (i := 2) rfl)) c_le
  · exact ev_cmp (ev_idx (ev_var rfl) (ev_int (j := 1)) (ix_tup (i := 1) rfl)) (ev_idx (ev_var rfl) (ev_int (j := 3)) (ix_tup (i := 3) rfl)) c_le
  · exact ev_cmp (ev_idx (ev_var rfl) (ev_int (j := 1)) (ix_tup (i := 1) rfl)) (ev_idx (ev_var rfl) (ev_int (j := 3)) (ix_tup (i := 3) rfl)) c_le
end Lite.K02
namespace Lite.K02
open PySem
theorem range2s {h : Heap} {t b : Nat} (ht : t ≤ 11) (hb : b ≤ 11) : walked "range" h [.int (t : Int), .int ((b : Int) + 1)] = some ((rows t b).map fun (i : Nat) => T.int (i : Int), []) := by
  rw [range2 (by omega) (by omega) (by omega) (by omega), rows_range ht hb]
theorem fm_map {α : Type} (f : Nat → α) (g : T → Option α) (hg : ∀ i : Nat, g (.int (i : Int)) = some (f i)) : ∀ w : List Nat, (w.map fun (i : Nat) => T.int (i : Int)).filterMap g = w.map f
  | [] => rfl
  | i :: w => by simp [hg, fm_map f g hg w]
def toN (x : T) : Nat := match x with | .int i => i.toNat | _ => 0
/-- cells_of: a new list -/
theorem cells_ok (k : Nat) {t l b r : Nat} (ht : t ≤ 11) (hl : l ≤ 11) (hb : b ≤ 11) (hr : r ≤ 11) (h : Heap) : call PP (k + 1) "grid.cells_of" [aT t l b r] h = .ok (.loc h.length) (h ++ [.lst (CL t l b r)]) := by
  rw [call_run f_cells]
  obtain ⟨K, eK⟩ : ∃ K, K = cnOf PP k := ⟨_, rfl⟩
  rw [← eK]
  refine run_ret rfl (ss_step (xs_unp (ρ' := [some (aT t l b r), some (.int (t : Int)), some (.int (l : Int)), some (.int (b : Int)), some (.int (r : Int)), none, none]) (ev_var rfl) rfl) (ss_ret (xs_ret ?_))) rfl
  have inner : ∀ i : Nat, turns (still []) (turn2 K [some (aT t l b r), some (.int (t : Int)), some (.int (l : Int)), some (.int (b : Int)), some (.int (r : Int)), some (.int (i : Int)), none] [6] (.tup [(.var 5), (.var 6)]) (.v 6) []) ((rows l r).map fun (i : Nat) => T.int (i : Int)) [] h = .ok ((rows l r).map (cT i)) h := fun i => by
    have q := turns_pure (ok := still []) (h := h) (f := turn2 K [some (aT t l b r), some (.int (t : Int)), some (.int (l : Int)), some (.int (b : Int)), some (.int (r : Int)), some (.int (i : Int)), none] [6] (.tup [(.var 5), (.var 6)]) (.v 6) []) (fun x => some (.tup [.int (i : Int), x])) rfl ((rows l r).map fun (i : Nat) => T.int (i : Int)) [] (fun x _ => by
      rw [turn2_some (ρ2 := [some (aT t l b r), some (.int (t : Int)), some (.int (l : Int)), some (.int (b : Int)), some (.int (r : Int)), some (.int (i : Int)), some x]) rfl, ifs_nil', Rs.bind_ok, if_pos rfl]
      have e : evE K (.tup [(.var 5), (.var 6)]) [some (aT t l b r), some (.int (t : Int)), some (.int (l : Int)), some (.int (b : Int)), some (.int (r : Int)), some (.int (i : Int)), some x] h = .ok (.tup [.int (i : Int), x]) h := ev_tup (es_two (ev_var rfl) (ev_var rfl))
      rw [e]
      rfl)
    rw [List.nil_append, fm_map (cT i) _ (fun j => rfl)] at q
    exact q
  have outer := turns_pure (ok := still []) (h := h) (f := turn1 K [some (aT t l b r), some (.int (t : Int)), some (.int (l : Int)), some (.int (b : Int)), some (.int (r : Int)), none, none] [5, 6] (.tup [(.var 5), (.var 6)]) (.v 5) [] [6] (.v 6) "range" [(.var 2), (.bin .add (.var 4) (.int 1))] []) (fun x => some ((rows l r).map (cT (toN x)))) rfl ((rows t b).map fun (i : Nat) => T.int (i : Int)) [] (fun x hx => by
    obtain ⟨i, _, rfl⟩ := List.mem_map.mp hx
    rw [turn1_some (ρ2 := [some (aT t l b r), some (.int (t : Int)), some (.int (l : Int)), some (.int (b : Int)), some (.int (r : Int)), some (.int (i : Int)), none]) rfl, ifs_nil', Rs.bind_ok, if_pos rfl]
    have es : evEs K [(.var 2), (.bin .add (.var 4) (.int 1))] [some (aT t l b r), some (.int (t : Int)), some (.int (l : Int)), some (.int (b : Int)), some (.int (r : Int)), some (.int (i : Int)), none] h = .ok [.int (l : Int), .int ((r : Int) + 1)] h := es_two (ev_var rfl) (ev_bin (ev_var rfl) ev_int b_add)
    rw [es, Rs.bind_ok, range2s hl hr]
    show ((turns (still []) _ _ [] h).bind _).calm = _
    rw [inner i]
    show Rs.ok _ h = _
    simp [toN])
  rw [List.nil_append, fm_map (fun i => (rows l r).map (cT i)) _ (fun i => by simp [toN])] at outer
  rw [ev_comp2]
  have es : evEs K [(.var 1), (.bin .add (.var 3) (.int 1))] [some (aT t l b r), some (.int (t : Int)), some (.int (l : Int)), some (.int (b : Int)), some (.int (r : Int)), none, none] h = .ok [.int (t : Int), .int ((b : Int) + 1)] h := es_two (ev_var rfl) (ev_bin (ev_var rfl) ev_int b_add)
  rw [es, Rs.bind_ok, range2s ht hb]
  show ((turns (still []) _ _ [] h).bind _) = _
  rw [outer, Rs.bind_ok]
  have fl : ((rows t b).map fun i => (rows l r).map (cT i)).flatten = CL t l b r := by
    rw [CL, List.flatMap_def]
  unfold fin2
  rw [fl, if_pos (Nat.le_trans (CL_len t l b r) (by decide)), if_pos rfl]
  rfl
end Lite.K02
namespace Lite.K02
open PySem
theorem ev_append {K : Cn} {ρ : Rho} {h : Heap} {a e : LE} {n : Nat} {ys : List T} {x : T} (ha : evE K a ρ h = .ok (.loc n) h) (hn : h[n]? = some (.lst ys)) (he : evE K e ρ h = .ok x h) (hl : ys.length < top) : evE K (.bm a "append" [e]) ρ h = .ok .non (h.set n (.lst (ys ++ [x]))) := by
  unfold evE
  rw [ha, Rs.bind_ok]
  have r : recv "append" (view h (.loc n)) = true := by simp [recv, view, hn]
  rw [if_pos r, es_one he, Rs.bind_ok]
  simp only [bmeth, if_true, hn, if_pos hl]
theorem xs_frz {K : Cn} {ρ : Rho} {h : Heap} {i n : Nat} {xs : List T} (e : ρ[i]? = some (some (.loc n))) (hn : h[n]? = some (.lst xs)) : exS K (.frz i) ρ h = .ok (.nx (ρ.set i (some (.lst xs)))) (h.set n .dead) := by
  unfold exS
  rw [e]
  simp only [hn]
theorem run_pure {K : Cn} {d : Fn} {xs : List T} {h h1 : Heap} {v : T} (hl : xs.length = d.np) (hb : exSs K d.body (xs.map some ++ List.replicate (d.ns - d.np) none) h = .ok (.ret v) h1) (hm : d.mode = 1) (ht : h1.take h.length = h) (hv : v.within h.length = true) : runFn K d xs h = .ok v h := by
  rw [runFn, if_pos hl, hb, Rs.bind_ok]
  show leave d.mode h h1 v = _
  unfold leave
  rw [hm, if_pos rfl, if_pos ⟨ht, hv⟩]
theorem range12 : rangeT 0 12 = (List.range 12).map fun (i : Nat) => T.int (i : Int) := by decide +kernel
theorem at_end {h : Heap} {o : O} : (h ++ [o])[h.length]? = some o := by simp
theorem set_end {h : Heap} {o p : O} : (h ++ [o]).set h.length p = h ++ [p] := by simp
abbrev bodyJ : List LS := [.iff (.and [(.chain .le .le (.idx (.var 0) (.int 0)) (.var 2) (.idx (.var 0) (.int 2))), (.chain .le .le (.idx (.var 0) (.int 1)) (.var 3) (.idx (.var 0) (.int 3)))]) [.expr (.bm (.var 1) "append" [(.tup [(.var 2), (.var 3)])])] []]
theorem inner_ok (K : Cn) (t l b r i : Nat) (h : Heap) : ∀ (js : List Nat) (acc : List T) (y3 : Option T), acc.length + js.length ≤ 1000 →
    ∃ y, loop (still []) (fun x ρ h => withB (bindTg (.v 3) x h ρ) fun ρ => exSs K bodyJ ρ h) (js.map fun (j : Nat) => T.int (j : Int)) [some (aT t l b r), some (.loc h.length), some (.int (i : Int)), y3] (h ++ [.lst acc]) =
      .ok (.nx [some (aT t l b r), some (.loc h.length), some (.int (i : Int)), y]) (h ++ [.lst (acc ++ if t ≤ i ∧ i ≤ b then (js.filter fun j => decide (l ≤ j ∧ j ≤ r)).map (cT i) else [])])
  | [], acc, y3, _ => ⟨y3, by simp [loop, still_nil]⟩
  | j :: js, acc, y3, hl => by
    have c : evE K (.and [(.chain .le .le (.idx (.var 0) (.int 0)) (.var 2) (.idx (.var 0) (.int 2))), (.chain .le .le (.idx (.var 0) (.int 1)) (.var 3) (.idx (.var 0) (.int 3)))]) [some (aT t l b r), some (.loc h.length), some (.int (i : Int)), some (.int (j : Int))] (h ++ [.lst acc]) = .ok (.bl (decide ((t : Int) ≤ i ∧ (i : Int) ≤ b) && decide ((l : Int) ≤ j ∧ (j : Int) ≤ r))) (h ++ [.lst acc]) :=
      and_two (chain_le (ev_idx (ev_var rfl) (ev_int (j := 0)) (ix_tup (i := 0) rfl)) (ev_var rfl) (ev_idx (ev_var rfl) (ev_int (j := 2)) (ix_tup (i := 2) rfl))) (chain_le (ev_idx (ev_var rfl) (ev_int (j := 1)) (ix_tup (i := 1) rfl)) (ev_var rfl) (ev_idx (ev_var rfl) (ev_int (j := 3)) (ix_tup (i := 3) rfl)))
    have un : ∀ h2, exSs K bodyJ [some (aT t l b r), some (.loc h.length), some (.int (i : Int)), some (.int (j : Int))] (h ++ [.lst acc]) = .ok (.nx [some (aT t l b r), some (.loc h.length), some (.int (i : Int)), some (.int (j : Int))]) h2 →
        loop (still []) (fun x ρ h => withB (bindTg (.v 3) x h ρ) fun ρ => exSs K bodyJ ρ h) ((j :: js).map fun (j : Nat) => T.int (j : Int)) [some (aT t l b r), some (.loc h.length), some (.int (i : Int)), y3] (h ++ [.lst acc]) =
        loop (still []) (fun x ρ h => withB (bindTg (.v 3) x h ρ) fun ρ => exSs K bodyJ ρ h) (js.map fun (j : Nat) => T.int (j : Int)) [some (aT t l b r), some (.loc h.length), some (.int (i : Int)), some (.int (j : Int))] h2 := fun h2 e => by
      rw [List.map_cons, loop, if_pos still_nil]
      show ((exSs K bodyJ [some (aT t l b r), some (.loc h.length), some (.int (i : Int)), some (.int (j : Int))] (h ++ [.lst acc])).bind _) = _
      rw [e, Rs.bind_ok]
    by_cases hc : (t ≤ i ∧ i ≤ b) ∧ (l ≤ j ∧ j ≤ r)
    · have cv : (decide ((t : Int) ≤ i ∧ (i : Int) ≤ b) && decide ((l : Int) ≤ j ∧ (j : Int) ≤ r)) = true := by
        simp only [Bool.and_eq_true, decide_eq_true_eq]; omega
      rw [cv] at c
      have e : exSs K bodyJ [some (aT t l b r), some (.loc h.length), some (.int (i : Int)), some (.int (j : Int))] (h ++ [.lst acc]) = .ok (.nx [some (aT t l b r), some (.loc h.length), some (.int (i : Int)), some (.int (j : Int))]) (h ++ [.lst (acc ++ [cT i j])]) := by
        refine ss_step (xs_iff c t_bl ?_) ss_nil'
        rw [if_pos rfl]
        have ap := ev_append (K := K) (a := .var 1) (e := .tup [(.var 2), (.var 3)]) (ρ := [some (aT t l b r), some (.loc h.length), some (.int (i : Int)), some (.int (j : Int))]) (ev_var rfl) (at_end (h := h) (o := .lst acc)) (ev_tup (es_two (ev_var rfl) (ev_var rfl))) (by show acc.length < 16777216; simp only [List.length_cons] at hl; omega)
        rw [set_end] at ap
        exact ss_step (xs_expr ap) ss_nil'
      rw [un _ e]
      obtain ⟨y, e2⟩ := inner_ok K t l b r i h js (acc ++ [cT i j]) (some (.int (j : Int))) (by simp only [List.length_append, List.length_cons, List.length_nil] at hl ⊢; omega)
      refine ⟨y, e2.trans ?_⟩
      rw [if_pos hc.1, if_pos hc.1, List.filter_cons_of_pos (by simpa using hc.2)]
      simp
    · have cv : (decide ((t : Int) ≤ i ∧ (i : Int) ≤ b) && decide ((l : Int) ≤ j ∧ (j : Int) ≤ r)) = false := by
        rw [Bool.and_eq_false_iff]
        simp only [decide_eq_false_iff_not]
        omega
      rw [cv] at c
      have e : exSs K bodyJ [some (aT t l b r), some (.loc h.length), some (.int (i : Int)), some (.int (j : Int))] (h ++ [.lst acc]) = .ok (.nx [some (aT t l b r), some (.loc h.length), some (.int (i : Int)), some (.int (j : Int))]) (h ++ [.lst acc]) := if_skip c t_bl ss_nil'
      rw [un _ e]
      obtain ⟨y, e2⟩ := inner_ok K t l b r i h js acc (some (.int (j : Int))) (by simp only [List.length_cons] at hl; omega)
      refine ⟨y, e2.trans ?_⟩
      by_cases h1 : t ≤ i ∧ i ≤ b
      · have h2 : ¬ (l ≤ j ∧ j ≤ r) := fun z => hc ⟨h1, z⟩
        rw [if_pos h1, if_pos h1, List.filter_cons_of_neg (by simpa using h2)]
      · rw [if_neg h1, if_neg h1]
theorem outer_ok (K : Cn) (t l b r : Nat) (h : Heap) : ∀ (is : List Nat) (acc : List T) (y2 y3 : Option T), acc.length + 12 * is.length ≤ 900 →
    ∃ y y', loop (still []) (fun x ρ h => withB (bindTg (.v 2) x h ρ) fun ρ => exSs K [.for (.v 3) "range" [(.int 12)] bodyJ] ρ h) (is.map fun (j : Nat) => T.int (j : Int)) [some (aT t l b r), some (.loc h.length), y2, y3] (h ++ [.lst acc]) =
      .ok (.nx [some (aT t l b r), some (.loc h.length), y, y']) (h ++ [.lst (acc ++ (is.filter fun i => decide (t ≤ i ∧ i ≤ b)).flatMap fun i => (rows l r).map (cT i))])
  | [], acc, y2, y3, _ => ⟨y2, y3, by simp [loop, still_nil]⟩
  | i :: is, acc, y2, y3, hl => by
    obtain ⟨y, e1⟩ := inner_ok K t l b r i h (List.range 12) acc y3 (by simp only [List.length_cons, List.length_range] at hl ⊢; omega)
    have fo : exS K (.for (.v 3) "range" [(.int 12)] bodyJ) [some (aT t l b r), some (.loc h.length), some (.int (i : Int)), y3] (h ++ [.lst acc]) = _ := (xs_for (es_one ev_int) (by rw [range1 (by omega) (by omega), range12])).trans e1
    have e2 : exSs K [.for (.v 3) "range" [(.int 12)] bodyJ] [some (aT t l b r), some (.loc h.length), some (.int (i : Int)), y3] (h ++ [.lst acc]) = .ok (.nx [some (aT t l b r), some (.loc h.length), some (.int (i : Int)), y]) (h ++ [.lst (acc ++ if t ≤ i ∧ i ≤ b then ((List.range 12).filter fun j => decide (l ≤ j ∧ j ≤ r)).map (cT i) else [])]) := ss_step fo ss_nil'
    have un : loop (still []) (fun x ρ h => withB (bindTg (.v 2) x h ρ) fun ρ => exSs K [.for (.v 3) "range" [(.int 12)] bodyJ] ρ h) (.int (i : Int) :: is.map fun (j : Nat) => T.int (j : Int)) [some (aT t l b r), some (.loc h.length), y2, y3] (h ++ [.lst acc]) = loop (still []) (fun x ρ h => withB (bindTg (.v 2) x h ρ) fun ρ => exSs K [.for (.v 3) "range" [(.int 12)] bodyJ] ρ h) (is.map fun (j : Nat) => T.int (j : Int)) [some (aT t l b r), some (.loc h.length), some (.int (i : Int)), y] (h ++ [.lst (acc ++ if t ≤ i ∧ i ≤ b then ((List.range 12).filter fun j => decide (l ≤ j ∧ j ≤ r)).map (cT i) else [])]) := by
      apply loop_nx still_nil
      apply withB_of (ρ := [some (aT t l b r), some (.loc h.length), some (.int (i : Int)), y3])
      · rfl
      · exact e2
    rw [List.map_cons, un]
    have hlen : (if t ≤ i ∧ i ≤ b then ((List.range 12).filter fun j => decide (l ≤ j ∧ j ≤ r)).map (cT i) else []).length ≤ 12 := by
      split
      · rw [List.length_map]; exact rows_len l r
      · simp
    obtain ⟨z, z', e3⟩ := outer_ok K t l b r h is (acc ++ if t ≤ i ∧ i ≤ b then ((List.range 12).filter fun j => decide (l ≤ j ∧ j ≤ r)).map (cT i) else []) (some (.int (i : Int))) y (by
      rw [List.length_append]
      simp only [List.length_cons] at hl
      omega)
    refine ⟨z, z', e3.trans ?_⟩
    by_cases h1 : t ≤ i ∧ i ≤ b
    · rw [if_pos h1, List.filter_cons_of_pos (by simpa using h1), List.flatMap_cons, List.append_assoc]
      rfl
    · rw [if_neg h1, List.filter_cons_of_neg (by simpa using h1), List.append_nil]
theorem within_cells : ∀ (w : List Nat) (l r n : Nat), T.withins n (w.flatMap fun i => (rows l r).map (cT i)) = true
  | [], _, _, _ => rfl
  | i :: w, l, r, n => by
    have app : ∀ xs ys : List T, T.withins n xs = true → T.withins n ys = true → T.withins n (xs ++ ys) = true := fun xs ys h1 h2 => by
      induction xs with
      | nil => exact h2
      | cons x xs ih =>
        simp only [T.withins, Bool.and_eq_true, List.cons_append] at h1 ⊢
        exact ⟨h1.1, ih h1.2⟩
    rw [List.flatMap_cons]
    refine app _ _ ?_ (within_cells w l r n)
    generalize rows l r = v
    induction v with
    | nil => rfl
    | cons x v ih => simp [T.withins, T.within] at ih ⊢; exact ih
theorem lcells_ok (k : Nat) (t l b r : Nat) (h : Heap) : call PP (k + 1) "law._law_cells" [aT t l b r] h = .ok (.lst (CL t l b r)) h := by
  rw [call_run f_lcells]
  obtain ⟨K, eK⟩ : ∃ K, K = cnOf PP k := ⟨_, rfl⟩
  rw [← eK]
  obtain ⟨y, y', e⟩ := outer_ok K t l b r h (List.range 12) [] none none (by simp)
  refine run_pure (h1 := h ++ [.dead]) rfl ?_ rfl (by simp) (by show T.withins h.length _ = true; exact within_cells _ _ _ _)
  refine ss_step (xs_set (x := .loc h.length) (h1 := h ++ [.lst []]) (ev_lstM es_nil)) ?_
  refine ss_step (ρ' := [some (aT t l b r), some (.loc h.length), y, y']) ((xs_for (es_one ev_int) (by rw [range1 (by omega) (by omega), range12])).trans e) ?_
  have fz := xs_frz (K := K) (ρ := [some (aT t l b r), some (.loc h.length), y, y']) (i := 1) rfl (at_end (h := h) (o := .lst (CL t l b r)))
  rw [set_end] at fz
  exact ss_step fz (ss_ret (xs_ret (ev_var rfl)))
end Lite.K02
namespace Lite.K02
open PySem
theorem memT_any' (x : T) : ∀ ys : List T, memT x ys = ys.any fun y => T.eqv y x
  | [] => rfl
  | y :: ys => by simp [memT, memT_any' x ys]
theorem eqv_cell (a c i j : Nat) : T.eqv (cT a c) (cT i j) = (decide (a = i) && decide (c = j)) := by
  show (((a : Int) == (i : Int)) && (((c : Int) == (j : Int)) && true)) = _
  rw [Bool.and_true]
  congr 1 <;> (rw [Bool.beq_eq_decide_eq]; exact decide_eq_decide.mpr (by omega))
theorem mem_CL {t l b r i j : Nat} (hb : b ≤ 11) (hr : r ≤ 11) : memT (cT i j) (CL t l b r) = decide ((t ≤ i ∧ i ≤ b) ∧ (l ≤ j ∧ j ≤ r)) := by
  rw [memT_any', Bool.eq_iff_iff, List.any_eq_true, decide_eq_true_eq]
  constructor
  · rintro ⟨y, hy, e⟩
    obtain ⟨a, ha, hy⟩ := List.mem_flatMap.mp hy
    obtain ⟨c, hc, rfl⟩ := List.mem_map.mp hy
    rw [eqv_cell] at e
    simp only [Bool.and_eq_true, decide_eq_true_eq] at e
    obtain ⟨rfl, rfl⟩ := e
    exact ⟨(rows_mem hb).mp ha, (rows_mem hr).mp hc⟩
  · rintro ⟨h1, h2⟩
    refine ⟨cT i j, List.mem_flatMap.mpr ⟨i, (rows_mem hb).mpr h1, List.mem_map.mpr ⟨j, (rows_mem hr).mpr h2, rfl⟩⟩, ?_⟩
    rw [eqv_cell]
    simp
def isC (x : T) : Prop := ∃ i j : Nat, x = cT i j
theorem CL_isC {t l b r : Nat} {x : T} (h : x ∈ CL t l b r) : isC x := by
  obtain ⟨a, ha, hy⟩ := List.mem_flatMap.mp h
  obtain ⟨c, hc, rfl⟩ := List.mem_map.mp hy
  exact ⟨a, c, rfl⟩
theorem fit_cells : ∀ {xs : List T}, (∀ x ∈ xs, isC x) → T.flats xs = true ∧ T.depths xs ≤ 1
  | [], _ => ⟨rfl, by simp [T.depths]⟩
  | x :: xs, h => by
    obtain ⟨a, b⟩ := fit_cells (xs := xs) fun y hy => h y (by simp [hy])
    obtain ⟨i, j, rfl⟩ := h x (by simp)
    exact ⟨by simp [T.flats, T.flat, a], by simp [T.depths, T.depth]; omega⟩
theorem fits_cells {xs : List T} (h : ∀ x ∈ xs, isC x) : T.fits xs = true := by
  obtain ⟨a, b⟩ := fit_cells h
  simp only [T.fits, a, Bool.true_and, decide_eq_true_eq]
  omega
theorem fitL_cells {xs : List T} (h : ∀ x ∈ xs, isC x) : (T.lst xs).fit = true := by
  obtain ⟨a, b⟩ := fit_cells h
  show (T.flats xs && decide (T.depths xs + 1 ≤ 100)) = true
  rw [a, Bool.true_and, decide_eq_true_eq]
  omega
theorem fit_cT (i j : Nat) : (cT i j).fit = true := by simp [T.fit, T.flat, T.flats, T.depth, T.depths]
theorem in_lst {h : Heap} {x : T} {ys : List T} (hx : x.fit = true) (hy : T.fits ys = true) : cmpop .isin h x (.lst ys) = some (memT x ys) := by
  have e : cmpop .isin h x (.lst ys) = if (x.fit && T.fits ys) = true then some (memT x ys) else none := by cases x <;> rfl
  rw [e, hx, hy]
  rfl
theorem overl {t l b r t' l' b' r' : Nat} (h1 : t ≤ b) (h2 : l ≤ r) (h3 : t' ≤ b') (h4 : l' ≤ r') (hb : b ≤ 11) (hr : r ≤ 11) (hb' : b' ≤ 11) (hr' : r' ≤ 11) :
    (!((CL t l b r).filter fun x => memT x (CL t' l' b' r')).isEmpty) = ((decide ((t : Int) ≤ b') && decide ((t' : Int) ≤ b)) && (decide ((l : Int) ≤ r') && decide ((l' : Int) ≤ r))) := by
  rw [Bool.eq_iff_iff]
  simp only [Bool.not_eq_true', Bool.and_eq_true, decide_eq_true_eq]
  constructor
  · intro e
    cases ef : (CL t l b r).filter fun x => memT x (CL t' l' b' r') with
    | nil => rw [ef] at e; cases e
    | cons x xs =>
      have hm : x ∈ (CL t l b r).filter fun x => memT x (CL t' l' b' r') := by rw [ef]; simp
      obtain ⟨m1, m2⟩ := List.mem_filter.mp hm
      obtain ⟨a, ha, hy⟩ := List.mem_flatMap.mp m1
      obtain ⟨c, hc, rfl⟩ := List.mem_map.mp hy
      rw [mem_CL hb' hr', decide_eq_true_eq] at m2
      have := (rows_mem hb).mp ha
      have := (rows_mem hr).mp hc
      omega
  · intro e
    cases ef : (CL t l b r).filter fun x => memT x (CL t' l' b' r') with
    | cons x xs => rfl
    | nil =>
      exfalso
      have hm : cT (max t t') (max l l') ∈ (CL t l b r).filter fun x => memT x (CL t' l' b' r') := by
        refine List.mem_filter.mpr ⟨List.mem_flatMap.mpr ⟨max t t', (rows_mem hb).mpr (by omega), List.mem_map.mpr ⟨max l l', (rows_mem hr).mpr (by omega), rfl⟩⟩, ?_⟩
        rw [mem_CL hb' hr', decide_eq_true_eq]
        omega
      rw [ef] at hm
      simp at hm
theorem pair_ok (k : Nat) {t l b r t' l' b' r' : Nat} (h1 : t ≤ b) (h2 : l ≤ r) (h3 : t' ≤ b') (h4 : l' ≤ r') (hb : b ≤ 11) (hr : r ≤ 11) (hb' : b' ≤ 11) (hr' : r' ≤ 11) (h : Heap) : call PP (k + 2) "law._law_pair_right" [aT t l b r, aT t' l' b' r'] h = .ok (.bl true) h := by
  rw [call_run f_pair]
  obtain ⟨K, eK⟩ : ∃ K, K = cnOf PP (k + 1) := ⟨_, rfl⟩
  have hK : K.call = call PP (k + 1) := by rw [eK]; rfl
  rw [← eK]
  have ov := overl h1 h2 h3 h4 hb hr hb' hr'
  obtain ⟨cm, ecm⟩ : ∃ cm, cm = (CL t l b r).filter fun x => memT x (CL t' l' b' r') := ⟨_, rfl⟩
  rw [← ecm] at ov
  have tp := turns_pure (ok := still [(.lst (CL t l b r), .lst (CL t l b r))]) (h := h) (f := fun x h => withB (bindTg (.v 3) x h (wipe [some (aT t l b r), some (aT t' l' b' r'), none, none, none] [3])) fun ρ => ((evIfs K [(.cmp .isin (.var 3) (.call "law._law_cells" [(.var 1)]))] ρ h).bind fun b h => if b then (evE K (.var 3) ρ h).bind fun y h => .ok (some y) h else .ok none h).calm)
    (fun x => if memT x (CL t' l' b' r') then some x else none) still_lst (CL t l b r) [] (fun x hx => by
      obtain ⟨i, j, rfl⟩ := CL_isC hx
      have ci : evIfs K [(.cmp .isin (.var 3) (.call "law._law_cells" [(.var 1)]))] [some (aT t l b r), some (aT t' l' b' r'), none, some (cT i j), none] h = .ok (memT (cT i j) (CL t' l' b' r')) h :=
        ifs_one' (ev_cmp (ev_var rfl) (ev_call (es_one (ev_var rfl)) (by rw [hK]; exact lcells_ok k t' l' b' r' h)) (in_lst (fit_cT i j) (fits_cells fun y hy => CL_isC hy))) t_bl
      show ((evIfs K _ [some (aT t l b r), some (aT t' l' b' r'), none, some (cT i j), none] h).bind _).calm = _
      rw [ci, Rs.bind_ok]
      cases memT (cT i j) (CL t' l' b' r') with
      | false => rfl
      | true => rfl)
  have ef : (CL t l b r).filterMap (fun x => if memT x (CL t' l' b' r') then some x else none) = cm := by
    rw [ecm]
    generalize CL t l b r = w
    induction w with
    | nil => rfl
    | cons x w ih => by_cases c : memT x (CL t' l' b' r') = true <;> simp [c, ih]
  rw [List.nil_append, ef] at tp
  have lc : cm.length ≤ 144 := by rw [ecm]; exact Nat.le_trans (List.length_filter_le _ _) (CL_len _ _ _ _)
  have fc : (T.lst cm).fit = true := fitL_cells fun x hx => by rw [ecm] at hx; exact CL_isC (List.mem_filter.mp hx).1
  have o1 : ∀ ρ : Rho, ρ[0]? = some (some (aT t l b r)) → ρ[1]? = some (some (aT t' l' b' r')) → evE K (.call "grid.overlaps" [(.var 0), (.var 1)]) ρ h = .ok (.bl (!cm.isEmpty)) h := fun ρ e0 e1 => ev_call (es_two (ev_var e0) (ev_var e1)) (by rw [hK, ov]; exact overlaps_ok k _ _ _ _ _ _ _ _ h)
  have o2 : ∀ ρ : Rho, ρ[0]? = some (some (aT t l b r)) → ρ[1]? = some (some (aT t' l' b' r')) → evE K (.call "grid.overlaps" [(.var 1), (.var 0)]) ρ h = .ok (.bl (!cm.isEmpty)) h := fun ρ e0 e1 => ev_call (es_two (ev_var e1) (ev_var e0)) (by
    rw [hK, overlaps_ok k _ _ _ _ _ _ _ _ h, ov]
    congr 2
    rw [Bool.and_comm (decide ((t' : Int) ≤ b)), Bool.and_comm (decide ((l' : Int) ≤ r))])
  refine run_ret rfl (ss_step (xs_set (ev_comp (m := false) (es_one (ev_call (es_one (ev_var rfl)) (by rw [hK]; exact lcells_ok k t l b r h))) walk_lst tp (Nat.le_trans lc (by decide)))) (ss_step (xs_set (o1 _ rfl rfl)) (ss_ret (xs_ret ?_)))) rfl
  have n0 : cmpop .ne h (.lst cm) (.lst []) = some (!cm.isEmpty) := by
    rw [ne_fit rfl rfl fc (by decide +kernel) (fun s e => by cases e)]
    cases cm <;> rfl
  have a1 : evE K (.isi (.var 4) ["bool"]) [some (aT t l b r), some (aT t' l' b' r'), some (.lst cm), none, some (.bl (!cm.isEmpty))] h = .ok (.bl true) h := ev_isi (ev_var rfl) is_bb
  have a2 : evE K (.cmp .eq (.var 4) (.cmp .ne (.var 2) (.lst false []))) [some (aT t l b r), some (aT t' l' b' r'), some (.lst cm), none, some (.bl (!cm.isEmpty))] h = .ok (.bl ((!cm.isEmpty) == (!cm.isEmpty))) h := ev_cmp (ev_var rfl) (ev_cmp (ev_var rfl) (ev_lst es_nil) n0) eq_bl
  have a3 : evE K (.cmp .eq (.call "grid.overlaps" [(.var 1), (.var 0)]) (.var 4)) [some (aT t l b r), some (aT t' l' b' r'), some (.lst cm), none, some (.bl (!cm.isEmpty))] h = .ok (.bl ((!cm.isEmpty) == (!cm.isEmpty))) h := ev_cmp (o2 _ rfl rfl) (ev_var rfl) eq_bl
  have q := and_three a1 a2 a3
  have z : ((!cm.isEmpty) == (!cm.isEmpty)) = true := by simp
  rw [z] at q
  exact q
end Lite.K02

namespace Lite.K02
open PySem
theorem ev_slcR {K : Cn} {ρ : Rho} {h : Heap} {a e : LE} {x y : T} {j : Int} (ha : evE K a ρ h = .ok x h) (he : evE K e ρ h = .ok (.int j) h) (hs : slice h x none (some j) = some y) : evE K (.slc a [] [e]) ρ h = .ok y h := by
  unfold evE
  rw [ha, Rs.bind_ok, es_nil, Rs.bind_ok]
  show ((evEs K [e] ρ h).bind _) = _
  rw [es_one he, Rs.bind_ok]
  show Rs.of (slice h x none (some j)) h = _
  rw [hs]
  rfl
theorem ev_slcL {K : Cn} {ρ : Rho} {h : Heap} {a e : LE} {x y : T} {j : Int} (ha : evE K a ρ h = .ok x h) (he : evE K e ρ h = .ok (.int j) h) (hs : slice h x (some j) none = some y) : evE K (.slc a [e] []) ρ h = .ok y h := by
  unfold evE
  rw [ha, Rs.bind_ok, es_one he, Rs.bind_ok]
  show ((evEs K [] ρ h).bind _) = _
  rw [es_nil, Rs.bind_ok]
  show Rs.of (slice h x (some j) none) h = _
  rw [hs]
  rfl
theorem eqv_self {xs : List T} (h : ∀ x ∈ xs, isC x) : T.eqvs xs xs = true := by
  induction xs with
  | nil => rfl
  | cons x xs ih =>
    obtain ⟨i, j, rfl⟩ := h x (by simp)
    simp only [T.eqvs, Bool.and_eq_true]
    exact ⟨by rw [eqv_cell]; simp, ih fun y hy => h y (by simp [hy])⟩
theorem ne_view {h : Heap} {a b : T} {xs : List T} (va : view h a = some (.lst xs)) (vb : view h b = some (.lst xs)) (hx : ∀ x ∈ xs, isC x) : cmpop .ne h a b = some false := by
  unfold cmpop
  rw [va, vb]
  have f := fitL_cells hx
  have e : T.eqv (.lst xs) (.lst xs) = true := eqv_self hx
  simp [f, e]
theorem area_fit (t l b r : Int) : (T.tup [.int t, .int l, .int b, .int r]).fit = true := by simp [T.fit, T.flat, T.flats, T.depth, T.depths]
theorem or_two {K : Cn} {ρ : Rho} {h : Heap} {a b : LE} {x y : Bool} (ha : evE K a ρ h = .ok (.bl x) h) (hb : evE K b ρ h = .ok (.bl y) h) : evE K (.or [a, b]) ρ h = .ok (.bl (x || y)) h := by
  rw [ev_or, or_cons ha t_bl]
  cases x with
  | false => rw [if_neg Bool.false_ne_true, or_one, hb]; rfl
  | true => rfl
theorem keeps_set : ∀ (h : Heap) (w : Heap) (n : Nat) (a b : Int), keeps h ((h ++ w).set n (.lst [.int a, .int b])) = true
  | [], _, _, _, _ => rfl
  | o :: h, w, 0, a, b => by
    have key : ∀ h : Heap, keeps h (h ++ w) = true := fun h => by
      induction h with
      | nil => rfl
      | cons o h ih => simp [keeps, ih]
    simp [keeps, key, T.withins, T.within]
  | o :: h, w, n + 1, a, b => by simp [keeps, keeps_set h w n a b]
abbrev bodyS : List LS := [.set 6 (.call "grid.contains" [(.var 1), (.var 5)]), .iff (.or [(.not (.isi (.var 6) ["bool"])), (.cmp .ne (.var 6) (.cmp .isin (.var 5) (.var 2)))]) [.ret (.bl false)] []]
theorem spots_ok {xs0 : List T} (K : Cn) (k : Nat) (hK : K.call = call PP (k + 1)) {t l b r : Nat} (hb : b ≤ 11) (hr : r ≤ 11) (h : Heap) (y0 y3 y4 y7 y8 : Option T) : ∀ (ws : List T), (∀ x ∈ ws, isC x) → ∀ y5 y6, ∃ z5 z6,
    loop (still [(.lst xs0, .lst xs0)]) (fun x ρ h => withB (bindTg (.v 5) x h ρ) fun ρ => exSs K bodyS ρ h) ws [y0, some (aT t l b r), some (.lst (CL t l b r)), y3, y4, y5, y6, y7, y8] h = .ok (.nx [y0, some (aT t l b r), some (.lst (CL t l b r)), y3, y4, z5, z6, y7, y8]) h
  | [], _, y5, y6 => ⟨y5, y6, by simp [loop, still_lst]⟩
  | x :: ws, hw, y5, y6 => by
    obtain ⟨i, j, rfl⟩ := hw x (by simp)
    have co : ∀ y6, evE K (.call "grid.contains" [(.var 1), (.var 5)]) [y0, some (aT t l b r), some (.lst (CL t l b r)), y3, y4, some (cT i j), y6, y7, y8] h = .ok (.bl (memT (cT i j) (CL t l b r))) h := fun y6 => ev_call (es_two (ev_var rfl) (ev_var rfl)) (by
      rw [hK, mem_CL hb hr]
      refine (contains_ok k _ _ _ _ _ _ h).trans ?_
      congr 2
      rw [Bool.eq_iff_iff]
      simp only [Bool.and_eq_true, decide_eq_true_eq]
      omega)
    have e2 : exSs K bodyS [y0, some (aT t l b r), some (.lst (CL t l b r)), y3, y4, some (cT i j), y6, y7, y8] h = .ok (.nx [y0, some (aT t l b r), some (.lst (CL t l b r)), y3, y4, some (cT i j), some (.bl (memT (cT i j) (CL t l b r))), y7, y8]) h := by
      refine ss_step (xs_set (co y6)) (if_skip (x := .bl false) (h1 := h) ?_ t_bl ss_nil')
      have q := or_two (K := K) (ρ := [y0, some (aT t l b r), some (.lst (CL t l b r)), y3, y4, some (cT i j), some (.bl (memT (cT i j) (CL t l b r))), y7, y8]) (h := h) (ev_not (ev_isi (a := .var 6) (ev_var rfl) is_bb) t_bl) (ev_cmp (a := .var 6) (b := .cmp .isin (.var 5) (.var 2)) (ev_var rfl) (ev_cmp (ev_var rfl) (ev_var rfl) (in_lst (fit_cT i j) (fits_cells fun y hy => CL_isC hy))) ne_bl)
      have z : (!true || !(memT (cT i j) (CL t l b r) == memT (cT i j) (CL t l b r))) = false := by simp
      rw [z] at q
      exact q
    obtain ⟨z5, z6, e3⟩ := spots_ok K k hK hb hr h y0 y3 y4 y7 y8 ws (fun y hy => hw y (by simp [hy])) (some (cT i j)) (some (.bl (memT (cT i j) (CL t l b r))))
    refine ⟨z5, z6, ?_⟩
    rw [← e3]
    apply loop_nx still_lst
    apply withB_of (ρ := [y0, some (aT t l b r), some (.lst (CL t l b r)), y3, y4, some (cT i j), y6, y7, y8])
    · rfl
    · exact e2
end Lite.K02
namespace Lite.K02
open PySem
theorem run_two {K : Cn} {d : Fn} {xs : List T} {h h1 : Heap} {v : T} (hl : xs.length = d.np) (hb : exSs K d.body (xs.map some ++ List.replicate (d.ns - d.np) none) h = .ok (.ret v) h1) (hm : d.mode = 2) (hv : v.within h.length = true) (kp : keeps h h1 = true) : runFn K d xs h = .ok v (h1.take h.length) := by
  rw [runFn, if_pos hl, hb, Rs.bind_ok]
  show leave d.mode h h1 v = _
  unfold leave
  rw [hm, if_neg (by decide), if_pos rfl, if_pos ⟨hv, kp⟩]
theorem right_ok (k : Nat) {t l b r : Nat} (h1 : t ≤ b) (h2 : l ≤ r) (hb : b ≤ 11) (hr : r ≤ 11) {h : Heap} {n : Nat} (hs : StreamAt h n) : ∃ h', Drawn n h h' ∧ call PP (k + 2) "law._law_area_right" [.loc n, aT t l b r] h = .ok (.bl true) h' := by
  rw [call_run f_right]
  obtain ⟨K, eK⟩ : ∃ K, K = cnOf PP (k + 1) := ⟨_, rfl⟩
  have hK : K.call = call PP (k + 1) := by rw [eK]; rfl
  rw [← eK]
  have ic : ∀ x ∈ CL t l b r, isC x := fun x hx => CL_isC hx
  obtain ⟨C, eC⟩ : ∃ C, C = CL t l b r := ⟨_, rfl⟩
  have hn : n < h.length := by
    obtain ⟨a, b, _, e⟩ := hs
    exact (List.getElem?_eq_some_iff.mp e).1
  obtain ⟨g2, eg2⟩ : ∃ g, g = h ++ [O.lst (C ++ [.non])] := ⟨_, rfl⟩
  obtain ⟨g3, eg3⟩ : ∃ g, g = g2 ++ [O.lst C] := ⟨_, rfl⟩
  have s3 : StreamAt g3 n := by
    obtain ⟨a, b, ha, e⟩ := hs
    refine ⟨a, b, ha, ?_⟩
    rw [eg3, eg2, List.append_assoc, List.getElem?_append_left hn]
    exact e
  obtain ⟨r4, g4, a4, b4, d4, e4⟩ := draw_lv f_draw hK 12 s3 (by omega) (by omega)
  obtain ⟨r5, g5, a5, b5, d5, e5⟩ := draw_lv f_draw hK 12 d4.at_ (by omega) (by omega)
  have D := d4.trans d5
  -- the drawn cell
  obtain ⟨i, rfl⟩ : ∃ i : Nat, r4 = i := ⟨r4.toNat, by omega⟩
  obtain ⟨j, rfl⟩ : ∃ j : Nat, r5 = j := ⟨r5.toNat, by omega⟩
  have start : [T.loc n, aT t l b r].map some ++ List.replicate (d_law__law_area_right.ns - d_law__law_area_right.np) none = [some (.loc n), some (aT t l b r), none, none, none, none, none, none, none] := rfl
  have main : exSs K d_law__law_area_right.body [some (.loc n), some (aT t l b r), none, none, none, none, none, none, none] h = .ok (.ret (.bl true)) g5 := by
    refine ss_step (ρ' := [some (.loc n), some (aT t l b r), some (.lst C), none, none, none, none, none, none]) (xs_set (ev_call (es_one (ev_var rfl)) (by rw [hK, eC]; exact lcells_ok k t l b r h))) ?_
    refine ss_step (ρ' := [some (.loc n), some (aT t l b r), some (.lst C), some (.loc h.length), none, none, none, none, none]) (h1 := h ++ [.lst C]) (xs_set (ev_call (es_one (ev_var rfl)) (by rw [hK, eC]; exact cells_ok k (by omega) (by omega) hb hr h))) ?_
    have vf : ∀ (g : Heap) (ρ : Rho), ρ[3]? = some (some (.loc h.length)) → evE K (.var 3) ρ g = .ok (.loc h.length) g := fun g ρ e => ev_var e
    have icC : ∀ x ∈ C, isC x := by rw [eC]; exact ic
    have view1 : view (h ++ [.lst C]) (.loc h.length) = some (.lst C) := by simp [view]
    refine if_skip (x := .bl false) (h1 := h ++ [.lst C]) ?_ t_bl ?_
    · exact or_two (x := false) (y := false) (ev_not (r := true) (ev_isi (ev_var rfl) (by simp [isTy, view])) t_bl) (ev_cmp (ev_var rfl) (ev_var rfl) (ne_view view1 rfl icC))
    have ap := ev_append (K := K) (a := .var 3) (e := .non) (ρ := [some (.loc n), some (aT t l b r), some (.lst C), some (.loc h.length), none, none, none, none, none]) (ev_var rfl) (at_end (h := h) (o := .lst C)) ev_non (by
      rw [eC]
      exact Nat.lt_of_le_of_lt (CL_len t l b r) (by decide))
    rw [set_end, ← eg2] at ap
    refine ss_step (xs_expr ap) ?_
    have g2l : g2.length = h.length + 1 := by rw [eg2]; simp
    refine if_skip (x := .bl false) (h1 := g3) ?_ t_bl ?_
    · have c := cells_ok k (t := t) (l := l) (b := b) (r := r) (by omega) (by omega) hb hr g2
      rw [← eC, ← eg3] at c
      exact ev_cmp (ev_call (es_one (ev_var rfl)) (by rw [hK]; exact c)) (ev_var rfl) (ne_view (by rw [eg3]; simp [view]) rfl icC)
    refine ss_step (ρ' := [some (.loc n), some (aT t l b r), some (.lst C), some (.loc h.length), some (cT i j), none, none, none, none]) (h1 := g5) (xs_set (ev_tup (es_two (ev_call (es_two (ev_var rfl) ev_int) e4) (ev_call (es_two (ev_var rfl) ev_int) e5)))) ?_
    have i0 : ∀ ρ : Rho, ρ[1]? = some (some (aT t l b r)) → evE K (.idx (.var 1) (.int 0)) ρ g5 = .ok (.int t) g5 := fun ρ e => ev_idx (ev_var e) (ev_int (j := 0)) (ix_tup (i := 0) rfl)
    have i1 : ∀ ρ : Rho, ρ[1]? = some (some (aT t l b r)) → evE K (.idx (.var 1) (.int 1)) ρ g5 = .ok (.int l) g5 := fun ρ e => ev_idx (ev_var e) (ev_int (j := 1)) (ix_tup (i := 1) rfl)
    have i2 : ∀ ρ : Rho, ρ[1]? = some (some (aT t l b r)) → evE K (.idx (.var 1) (.int 2)) ρ g5 = .ok (.int b) g5 := fun ρ e => ev_idx (ev_var e) (ev_int (j := 2)) (ix_tup (i := 2) rfl)
    have i3 : ∀ ρ : Rho, ρ[1]? = some (some (aT t l b r)) → evE K (.idx (.var 1) (.int 3)) ρ g5 = .ok (.int r) g5 := fun ρ e => ev_idx (ev_var e) (ev_int (j := 3)) (ix_tup (i := 3) rfl)
    have sl : ∀ ρ : Rho, ρ[1]? = some (some (aT t l b r)) → evE K (.slc (.var 1) [] [(.int 2)]) ρ g5 = .ok (cT t l) g5 := fun ρ e => ev_slcR (ev_var e) ev_int rfl
    have sr : ∀ ρ : Rho, ρ[1]? = some (some (aT t l b r)) → evE K (.slc (.var 1) [(.int 2)] []) ρ g5 = .ok (cT b r) g5 := fun ρ e => ev_slcL (ev_var e) ev_int rfl
    obtain ⟨z5, z6, lo⟩ := spots_ok (xs0 := [cT i j, cT t l, cT b r, cT t r, cT b l]) K k hK hb hr (t := t) (l := l) g5 (some (.loc n)) (some (.loc h.length)) (some (cT i j)) none none [cT i j, cT t l, cT b r, cT t r, cT b l] (fun x hx => by
      simp only [List.mem_cons, List.not_mem_nil, or_false] at hx
      rcases hx with rfl | rfl | rfl | rfl | rfl <;> exact ⟨_, _, rfl⟩) none none
    rw [← eC] at lo
    refine ss_step ((xs_for (es_one (ev_lst (es_cons (ev_var rfl) (es_cons (sl _ rfl) (es_cons (sr _ rfl) (es_two (ev_tup (es_two (i0 _ rfl) (i3 _ rfl))) (ev_tup (es_two (i2 _ rfl) (i1 _ rfl))))))))) walk_lst).trans lo) ?_
    refine ss_step (ρ' := [some (.loc n), some (aT t l b r), some (.lst C), some (.loc h.length), some (cT i j), z5, z6, some (.int ((b : Int) - t + 1)), some (.int ((r : Int) - l + 1))]) (xs_par (es_two (ev_bin (ev_bin (i2 _ rfl) (i0 _ rfl) b_sub) ev_int b_add) (ev_bin (ev_bin (i3 _ rfl) (i1 _ rfl) b_sub) ev_int b_add)) rfl) ?_
    refine if_skip (x := .bl false) (h1 := g5) ?_ t_bl ?_
    · refine ev_cmp (ev_call (es_cons (sl _ rfl) (es_two (ev_var rfl) (ev_var rfl))) (by rw [hK]; exact at_ok k _ _ _ _ g5)) (ev_var rfl) ?_
      rw [ne_fit rfl rfl (area_fit _ _ _ _) (area_fit _ _ _ _) (fun s e => by cases e)]
      have e1 : (t : Int) + ((b : Int) - t + 1) - 1 = b := by omega
      have e2 : (l : Int) + ((r : Int) - l + 1) - 1 = r := by omega
      rw [e1, e2]
      simp [T.eqv, T.eqvs]
    · refine ss_ret (xs_ret (ev_cmp (r := true) (ev_call (es_cons (sr _ rfl) (es_two (ev_var rfl) (ev_var rfl))) (by rw [hK]; exact at_ok k _ _ _ _ g5)) (ev_bin (sr _ rfl) (ev_tup (es_two (ev_bin (ev_bin (i2 _ rfl) (ev_var rfl) b_add) ev_int b_sub) (ev_bin (ev_bin (i3 _ rfl) (ev_var rfl) b_add) ev_int b_sub))) (cat_tup (Nat.le_of_ble_eq_true rfl))) ?_))
      show cmpop .eq g5 (.tup [.int (b : Int), .int (r : Int), .int ((b : Int) + ((b : Int) - t + 1) - 1), .int ((r : Int) + ((r : Int) - l + 1) - 1)]) (.tup [.int (b : Int), .int (r : Int), .int ((b : Int) + ((b : Int) - t + 1) - 1), .int ((r : Int) + ((r : Int) - l + 1) - 1)]) = _
      rw [eq_fit rfl rfl (area_fit _ _ _ _) (area_fit _ _ _ _) (fun s e => by cases e)]
      simp [T.eqv, T.eqvs]
  -- what the call leaves
  obtain ⟨a, b', ha, ea⟩ := D.at_
  obtain ⟨o, eo⟩ := D.eq
  have hn3 : n < g3.length := by rw [eg3, eg2]; simp; omega
  have ho : o = .lst [.int a, .int b'] := by
    rw [eo, List.getElem?_set_self hn3] at ea
    exact Option.some.inj ea
  have g5e : g5 = (h ++ [O.lst (C ++ [.non]), O.lst C]).set n (.lst [.int a, .int b']) := by rw [eo, ho, eg3, eg2, List.append_assoc]; rfl
  have tk : g5.take h.length = h.set n (.lst [.int a, .int b']) := by
    rw [g5e, List.set_append_left _ _ hn, List.take_left' (by simp)]
  refine ⟨h.set n (.lst [.int a, .int b']), ⟨⟨a, b', ha, by rw [List.getElem?_set_self hn]⟩, _, rfl⟩, ?_⟩
  have kp : keeps h g5 = true := by rw [g5e]; exact keeps_set h _ n a b'
  have z := run_two (K := K) (d := d_law__law_area_right) (xs := [.loc n, aT t l b r]) (h := h) rfl (by rw [start]; exact main) rfl rfl kp
  rw [tk] at z
  exact z
end Lite.K02
namespace Lite.K02
open PySem
theorem min11 {h : Heap} {j : Int} : bfun "min" h [.int 11, .int j] = some (.int (if j < 11 then j else 11)) := rfl
/-- an area -/
def IsA (x : T) : Prop := ∃ t l b r : Nat, x = aT t l b r ∧ t ≤ b ∧ l ≤ r ∧ b ≤ 11 ∧ r ≤ 11
theorem area_ok (k : Nat) {h : Heap} {n : Nat} (hs : StreamAt h n) : ∃ x h', IsA x ∧ Drawn n h h' ∧ call PP (k + 3) "law._law_area" [.loc n] h = .ok x h' := by
  rw [call_run f_area]
  obtain ⟨K, eK⟩ : ∃ K, K = cnOf PP (k + 2) := ⟨_, rfl⟩
  have hK : K.call = call PP (k + 2) := by rw [eK]; rfl
  rw [← eK]
  obtain ⟨r1, h1, a1, b1, d1, e1⟩ := draw_lv f_draw hK 12 hs (by omega) (by omega)
  obtain ⟨r2, h2, a2, b2, d2, e2⟩ := draw_lv f_draw hK 12 d1.at_ (by omega) (by omega)
  have sz : ∀ {h : Heap}, StreamAt h n → ∃ r h', 0 ≤ r ∧ Drawn n h h' ∧ ∀ ρ : Rho, ρ[0]? = some (some (.loc n)) → evE K (.call "law._law_draw" [(.var 0), (.call "law._law_choose" [(.var 0), (.lst false [(.int 1), (.int 3), (.int 12)])])]) ρ h = .ok (.int r) h' := fun {h} hs => by
    obtain ⟨x, h', m, d, e⟩ := choose_lv f_draw f_choose (k := k) hK (xs := [.int 1, .int 3, .int 12]) hs (by simp) (by simp)
    obtain ⟨s, rfl, s1, s2⟩ : ∃ s : Int, x = .int s ∧ 1 ≤ s ∧ s < 100 := by
      simp only [List.mem_cons, List.not_mem_nil, or_false] at m
      rcases m with rfl | rfl | rfl <;> exact ⟨_, rfl, by omega, by omega⟩
    obtain ⟨r, h2, a, b, d2, e2⟩ := draw_lv f_draw hK s d.at_ s1 (by omega)
    exact ⟨r, h2, a, d.trans d2, fun ρ e0 => ev_call (es_two (ev_var e0) (ev_call (es_two (ev_var e0) (ev_lst (es_cons ev_int (es_two ev_int ev_int)))) e)) e2⟩
  obtain ⟨r3, h3, a3, d3, e3⟩ := sz d2.at_
  obtain ⟨r4, h4, a4, d4, e4⟩ := sz d3.at_
  refine ⟨_, h4, ?_, ((d1.trans d2).trans d3).trans d4, run_ret rfl (ss_step (xs_par (es_two (ev_call (es_two (ev_var rfl) ev_int) e1) (ev_call (es_two (ev_var rfl) ev_int) e2)) rfl) (ss_step (xs_set (e3 _ rfl)) (ss_step (xs_set (e4 _ rfl)) (ss_ret (xs_ret (ev_tup (es_cons (ev_var rfl) (es_cons (ev_var rfl) (es_two (ev_bi (es_two ev_int (ev_bin (ev_var rfl) (ev_var rfl) b_add)) min11) (ev_bi (es_two ev_int (ev_bin (ev_var rfl) (ev_var rfl) b_add)) min11)))))))))) rfl⟩
  refine ⟨r1.toNat, r2.toNat, (if r1 + r3 < 11 then r1 + r3 else 11).toNat, (if r2 + r4 < 11 then r2 + r4 else 11).toNat, ?_, ?_, ?_, ?_, ?_⟩
  · have e1 : (r1.toNat : Int) = r1 := by omega
    have e2 : (r2.toNat : Int) = r2 := by omega
    have e3 : ((if r1 + r3 < 11 then r1 + r3 else 11).toNat : Int) = if r1 + r3 < 11 then r1 + r3 else 11 := by split <;> omega
    have e4 : ((if r2 + r4 < 11 then r2 + r4 else 11).toNat : Int) = if r2 + r4 < 11 then r2 + r4 else 11 := by split <;> omega
    show T.tup [.int r1, .int r2, .int (if r1 + r3 < 11 then r1 + r3 else 11), .int (if r2 + r4 < 11 then r2 + r4 else 11)] = T.tup [.int ((r1.toNat : Nat) : Int), .int ((r2.toNat : Nat) : Int), .int (((if r1 + r3 < 11 then r1 + r3 else 11).toNat : Nat) : Int), .int (((if r2 + r4 < 11 then r2 + r4 else 11).toNat : Nat) : Int)]
    rw [e1, e2, e3, e4]
  all_goals (split <;> omega)
abbrev bodyT : List LS := [.par [4, 5] [(.call "law._law_area" [(.var 2)]), (.call "law._law_area" [(.var 2)])], .iff (.cmp .eq (.call "law._law_draw" [(.var 2), (.int 3)]) (.int 0)) [.set 5 (.tup [(.idx (.var 4) (.int 0)), (.bi "min" [(.int 11), (.bin .add (.idx (.var 4) (.int 3)) (.int 1))]), (.idx (.var 4) (.int 2)), (.int 11)])] [], .iff (.or [(.not (.call "law._law_pair_right" [(.var 4), (.var 5)])), (.not (.call "law._law_pair_right" [(.var 4), (.var 4)]))]) [.ret (.bl false)] [], .iff (.or [(.not (.call "law._law_area_right" [(.var 2), (.var 4)])), (.not (.call "law._law_area_right" [(.var 2), (.var 5)]))]) [.ret (.bl false)] []]
theorem or_two' {K : Cn} {ρ : Rho} {h h1 h2 : Heap} {a b : LE} {y : Bool} (ha : evE K a ρ h = .ok (.bl false) h1) (hb : evE K b ρ h1 = .ok (.bl y) h2) : evE K (.or [a, b]) ρ h = .ok (.bl y) h2 := by
  rw [ev_or, or_cons ha t_bl, if_neg Bool.false_ne_true, or_one, hb]
theorem turn_ok (K : Cn) (k : Nat) (hK : K.call = call PP (k + 3)) {h : Heap} {n : Nat} (hs : StreamAt h n) (y0 y1 y3 y4 y5 : Option T) : ∃ h' z4 z5, Drawn n h h' ∧ exSs K bodyT [y0, y1, some (.loc n), y3, y4, y5] h = .ok (.nx [y0, y1, some (.loc n), y3, z4, z5]) h' := by
  obtain ⟨x, h1, ax, d1, e1⟩ := area_ok k hs
  obtain ⟨y, h2, ay, d2, e2⟩ := area_ok k d1.at_
  obtain ⟨r3, h3, a3, b3, d3, e3⟩ := draw_lv f_draw (K := K) (k := k + 2) hK 3 d2.at_ (by omega) (by omega)
  obtain ⟨y', ay', s2⟩ : ∃ y', IsA y' ∧ exS K (.iff (.cmp .eq (.call "law._law_draw" [(.var 2), (.int 3)]) (.int 0)) [.set 5 (.tup [(.idx (.var 4) (.int 0)), (.bi "min" [(.int 11), (.bin .add (.idx (.var 4) (.int 3)) (.int 1))]), (.idx (.var 4) (.int 2)), (.int 11)])] []) [y0, y1, some (.loc n), y3, some x, some y] h2 = .ok (.nx [y0, y1, some (.loc n), y3, some x, some y']) h3 := by
    have c : evE K (.cmp .eq (.call "law._law_draw" [(.var 2), (.int 3)]) (.int 0)) [y0, y1, some (.loc n), y3, some x, some y] h2 = .ok (.bl (decide (r3 = 0))) h3 := ev_cmp (ev_call (es_two (ev_var rfl) ev_int) e3) ev_int eq_int
    by_cases q : r3 = 0
    · obtain ⟨t, l, b, r, rfl, q1, q2, q3, q4⟩ := ax
      refine ⟨aT t (if (r : Int) + 1 < 11 then (r : Int) + 1 else 11).toNat b 11, ⟨_, _, _, _, rfl, q1, by split <;> omega, q3, by omega⟩, xs_iff c t_bl ?_⟩
      rw [if_pos (by simpa using q)]
      have e : ((if (r : Int) + 1 < 11 then (r : Int) + 1 else 11).toNat : Int) = if (r : Int) + 1 < 11 then (r : Int) + 1 else 11 := by split <;> omega
      refine ss_step (xs_set (x := aT t (if (r : Int) + 1 < 11 then (r : Int) + 1 else 11).toNat b 11) (h1 := h3) ?_) ss_nil'
      show evE K _ _ h3 = .ok (.tup [.int (t : Int), .int (((if (r : Int) + 1 < 11 then (r : Int) + 1 else 11).toNat : Nat) : Int), .int (b : Int), .int 11]) h3
      rw [e]
      exact ev_tup (es_cons (ev_idx (ev_var rfl) (ev_int (j := 0)) (ix_tup (i := 0) rfl)) (es_cons (ev_bi (es_two ev_int (ev_bin (ev_idx (ev_var rfl) (ev_int (j := 3)) (ix_tup (i := 3) rfl)) ev_int b_add)) min11) (es_two (ev_idx (ev_var rfl) (ev_int (j := 2)) (ix_tup (i := 2) rfl)) ev_int)))
    · refine ⟨y, ay, xs_iff c t_bl ?_⟩
      rw [if_neg (by simpa using q)]
      exact ss_nil'
  obtain ⟨t, l, b, r, rfl, p1, p2, p3, p4⟩ := ax
  obtain ⟨t', l', b', r', rfl, q1, q2, q3, q4⟩ := ay'
  obtain ⟨h4, d4, e4⟩ := right_ok (k + 1) p1 p2 p3 p4 d3.at_
  obtain ⟨h5, d5, e5⟩ := right_ok (k + 1) q1 q2 q3 q4 d4.at_
  refine ⟨h5, some (aT t l b r), some (aT t' l' b' r'), (((d1.trans d2).trans d3).trans d4).trans d5, ?_⟩
  refine ss_step (xs_par (es_two (ev_call (es_one (ev_var rfl)) (by rw [hK]; exact e1)) (ev_call (es_one (ev_var rfl)) (by rw [hK]; exact e2))) rfl) (ss_step s2 ?_)
  refine if_skip (x := .bl false) (h1 := h3) ?_ t_bl (if_skip (x := .bl false) (h1 := h5) ?_ t_bl ss_nil')
  · exact or_two' (ev_not (r := true) (ev_call (es_two (ev_var rfl) (ev_var rfl)) (by rw [hK]; exact pair_ok (k + 1) p1 p2 q1 q2 p3 p4 q3 q4 h3)) t_bl) (ev_not (r := true) (ev_call (es_two (ev_var rfl) (ev_var rfl)) (by rw [hK]; exact pair_ok (k + 1) p1 p2 p1 p2 p3 p4 p3 p4 h3)) t_bl)
  · exact or_two' (ev_not (r := true) (ev_call (es_two (ev_var rfl) (ev_var rfl)) (by rw [hK]; exact e4)) t_bl) (ev_not (r := true) (ev_call (es_two (ev_var rfl) (ev_var rfl)) (by rw [hK]; exact e5)) t_bl)
theorem pure (ns : List Int) (hl : ns.length ≤ 63) (hb : ∀ z ∈ ns, Builtin.Int.intBits z ≤ 1048576) : ∃ h, call PP 40 "law.law" [.lst (ns.map T.int)] [] = .ok (.bl true) h := by
  rw [call_run f_law]
  obtain ⟨K, eK⟩ : ∃ K, K = cnOf PP 39 := ⟨_, rfl⟩
  have hK : K.call = call PP 39 := by rw [eK]; rfl
  rw [← eK]
  obtain ⟨S, eS⟩ : ∃ S, S = some (T.lst (ns.map T.int)) := ⟨_, rfl⟩
  have start : [T.lst (ns.map T.int)].map some ++ List.replicate (d_law_law.ns - d_law_law.np) none = [S, none, none, none, none, none] := by rw [eS]; rfl
  have inner : ∀ (n : Nat) (h : Heap) (y1 y3 y4 y5 : Option T), StreamAt h n → ∃ ρ' h', exS K (.for (.v 3) "range" [(.int 4)] bodyT) [S, y1, some (.loc n), y3, y4, y5] h = .ok (.nx ρ') h' ∧ Drawn n h h' ∧ ∃ z3 z4 z5, ρ' = [S, y1, some (.loc n), z3, z4, z5] := by
    intro n h y1 y3 y4 y5 hs
    have fo : exS K (.for (.v 3) "range" [(.int 4)] bodyT) [S, y1, some (.loc n), y3, y4, y5] h = loop (still []) (fun x ρ h => withB (bindTg (.v 3) x h ρ) fun ρ => exSs K bodyT ρ h) (rangeT 0 4) [S, y1, some (.loc n), y3, y4, y5] h := xs_for (es_one ev_int) (range1 (by omega) (by omega))
    rw [fo]
    obtain ⟨ρ', h', e, i2, i3⟩ := loop_inv (ok := still []) (f := fun x ρ h => withB (bindTg (.v 3) x h ρ) fun ρ => exSs K bodyT ρ h)
      (fun w ρ g => Drawn n h g ∧ ∃ z3 z4 z5, ρ = [S, y1, some (.loc n), z3, z4, z5]) (fun x w ρ g ⟨hd, z3, z4, z5, hρ⟩ => by
        subst hρ
        obtain ⟨g', w4, w5, d, e⟩ := turn_ok K 36 hK hd.at_ S y1 (some x) z4 z5
        exact ⟨rfl, _, g', .inl (withB_of rfl e), hd.trans d, _, _, _, rfl⟩) (fun ρ g _ => rfl) (rangeT 0 4) _ h
      ⟨Drawn.refl hs, _, _, _, rfl⟩
    exact ⟨ρ', h', e, i2, i3⟩
  have outer : ∃ ρ' h', exS K (d_law_law.body[0]) [S, none, none, none, none, none] [] = .ok (.nx ρ') h' := by
    have ej : ∃ j : Int, 0 ≤ j ∧ j ≤ 6 ∧ evE K (.bi "max" [(.int 2), (.bi "min" [(.int 6), (.bi "len" [(.var 0)])])]) [S, none, none, none, none, none] [] = .ok (.int j) [] := by
      refine ⟨if (if ((ns.map T.int).length : Int) < 6 then ((ns.map T.int).length : Int) else 6) > 2 then (if ((ns.map T.int).length : Int) < 6 then ((ns.map T.int).length : Int) else 6) else 2, ?_, ?_, ?_⟩
      · split <;> split <;> omega
      · split <;> split <;> omega
      · exact ev_bi (es_two ev_int (ev_bi (es_two ev_int (ev_bi (es_one (ev_var (by rw [eS]; rfl))) bf_len)) rfl)) rfl
    obtain ⟨j, j0, j6, ej⟩ := ej
    have fo : exS K (d_law_law.body[0]) [S, none, none, none, none, none] [] = loop (still []) (fun x ρ h => withB (bindTg (.v 1) x h ρ) fun ρ => exSs K [.set 2 (.call "law._law_stream" [(.var 0), (.var 1)]), .for (.v 3) "range" [(.int 4)] bodyT] ρ h) (rangeT 0 j) [S, none, none, none, none, none] [] := xs_for (es_one ej) (range1 (by omega) (by omega))
    rw [fo]
    obtain ⟨ρ', h', e, _⟩ := loop_inv (ok := still []) (f := fun x ρ h => withB (bindTg (.v 1) x h ρ) fun ρ => exSs K [.set 2 (.call "law._law_stream" [(.var 0), (.var 1)]), .for (.v 3) "range" [(.int 4)] bodyT] ρ h)
      (fun w ρ g => (∀ x ∈ w, ∃ m : Nat, x = .int (m : Int) ∧ (m : Int) < j) ∧ ∃ z1 z2 z3 z4 z5, ρ = [S, z1, z2, z3, z4, z5]) (fun x w ρ g ⟨hm, z1, z2, z3, z4, z5, hρ⟩ => by
        subst hρ
        obtain ⟨m, rfl, hmj⟩ := hm x (by simp)
        obtain ⟨o, so, es⟩ := stream_at f_stream (h := g) (ns := ns) (start := m) (B := 1048577) (by omega) (by omega) (fun z hz => lt_bits (Nat.le_succ_of_le (hb z hz))) (by omega) 38
        obtain ⟨ρ', h', e, _, w3, w4, w5, hρ⟩ := inner g.length (g ++ [o]) (some (.int (m : Int))) z3 z4 z5 so
        subst hρ
        refine ⟨rfl, [S, some (.int (m : Int)), some (.loc g.length), w3, w4, w5], h', .inl (withB_of (ρ := [S, some (.int (m : Int)), z2, z3, z4, z5]) rfl ?_), fun z hz => hm z (by simp [hz]), _, _, _, _, _, rfl⟩
        exact ss_step (xs_set (ev_call (es_two (ev_var (by rw [eS]; rfl)) (ev_var rfl)) (by rw [hK]; exact es))) (ss_step e ss_nil')) (fun ρ g _ => rfl) (rangeT 0 j) _ []
      ⟨fun x hx => in_range hx, _, _, _, _, _, rfl⟩
    exact ⟨ρ', h', e⟩
  obtain ⟨ρ', h', e⟩ := outer
  refine ⟨h', run_ret rfl ?_ rfl⟩
  rw [start]
  exact ss_step e (ss_ret (xs_ret ev_bl))
end Lite.K02
open PySem PySem.W PySem.Calls PyProof.Rows in
theorem PySem.Challenge.cw_spillsheet_k02_areas_holds : PySem.Challenge.rw_spillsheet_k02_areas.Holds := by
  w_on; o_law
  refine HandSHeadRun.head_any (r := Lite.K02.RR) (q := view Lite.K02.RL.prog [13]) (H := Lite.K02.hk) (ob := Lite.K02.ob) (M := 4000) (loose := ["area_at", "contains", "overlaps", "cells_of", "_law_stream", "_law_draw", "_law_choose", "_law_area", "_law_cells", "_law_pair_right", "_law_area_right"]) (d := HandSHeadRun.topDef Lite.K02.RL.prog 13) (kwd := [])
    Lite.K02.ob_eq (by kernel_rfl) (fun s => by kernel_rfl) Lite.K02.run (by kernel_rfl) (by kernel_rfl) (by kernel_rfl) (by rfl)
    (by first | assumption | decide +kernel) (by decide +kernel) ⟨rfl, rfl, rfl, rfl, rfl, by decide +kernel⟩ ?hw ?hc
  case hw => w_witness2
  case hc =>
    exact Lite.walk_lite (l := Lite.K02.RL) (n := 63) (k := 40) (x := "script") (f := "law.law") (e := Lite.K02.dfs[11]) rfl (by decide) (by kernel_rfl) ⟨rfl, by decide, by decide⟩ Lite.K02.row (by kernel_rfl) (by kernel_rfl) (by kernel_rfl) Lite.K02.pure
