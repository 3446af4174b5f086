import PyProof.Rows.All
import Wide.All
import OpenK.AllK
import Wide.FinOn
import PySem.Challenge.RW_spillsheet_k29_status_rule
import HandS.Text
import HandS.ForMost
import HandS.Exc
import HandS.Flow
import HandS.Defaults
import HandS.Wide
import KE.KeyNested
import KE.KDictKeyed
import HandS.IsInst
import HandS.TupAny
import HandS.Dict
import KE.KDictPairs
import HandS.RaiseMore
import PyProof.ReprLen
import PyProof.ReprRoads
import HandS.SortOrd
import HandS.SortRule
import KE.LtSeq
import HandS.ExcField
import HandS.Comp
import KE.KExcIs
import HandS.Replace
import HandS.StrMore
import HandS.Iter
import KE.KDictWalk
import HandS.Zip
import HandS.TryOnly
import HandS.Style
import HandS.ExcInit
import HandS.ExcSuper
import HandS.Ends
import HandS.EndBits
import HandS.HeadHook4
import HandS.Head2
import PyProof.Rows.Walk
set_option Elab.async false
set_option linter.all false
set_option maxRecDepth 100000
set_option maxHeartbeats  20000000
/-! LITE, 1: tree values, the list-heap, the small syntax, the interpreter. No model in sight. -/
namespace Lite

/-- a value: trees, and places of the list-heap -/
inductive T where
  | non
  | bl (b : Bool)
  | int (i : Int)
  | str (s : List Nat)
  | tup (xs : List T)
  | lst (xs : List T)
  | dct (ks vs : List T)
  | loc (n : Nat)
  | fn (f : String)
  | cls (c : String)
  | exn (c : String) (vs : List T)
deriving Inhabited

mutual
def T.same : T → T → Bool
  | .non, .non => true
  | .bl a, .bl b => a == b
  | .int a, .int b => a == b
  | .str a, .str b => a == b
  | .tup a, .tup b => T.sames a b
  | .lst a, .lst b => T.sames a b
  | .dct a c, .dct b d => T.sames a b && T.sames c d
  | .loc a, .loc b => a == b
  | .fn a, .fn b => a == b
  | .cls a, .cls b => a == b
  | .exn a c, .exn b d => a == b && T.sames c d
  | _, _ => false
def T.sames : List T → List T → Bool
  | [], [] => true
  | x :: xs, y :: ys => T.same x y && T.sames xs ys
  | _, _ => false
end
mutual
theorem T.same_refl : ∀ a : T, T.same a a = true
  | .non => rfl
  | .bl _ => by simp [T.same]
  | .int _ => by simp [T.same]
  | .str _ => by simp [T.same]
  | .tup xs => by simp [T.same, T.sames_refl xs]
  | .lst xs => by simp [T.same, T.sames_refl xs]
  | .dct xs ys => by simp [T.same, T.sames_refl xs, T.sames_refl ys]
  | .loc _ => by simp [T.same]
  | .fn _ => by simp [T.same]
  | .cls _ => by simp [T.same]
  | .exn _ vs => by simp [T.same, T.sames_refl vs]
theorem T.sames_refl : ∀ a : List T, T.sames a a = true
  | [] => rfl
  | x :: xs => by simp [T.sames, T.same_refl x, T.sames_refl xs]
end
mutual
theorem T.same_eq : ∀ a b : T, T.same a b = true → a = b
  | .non, b, h => by cases b <;> simp [T.same] at h <;> rfl
  | .bl _, b, h => by cases b <;> simp [T.same] at h; rw [h]
  | .int _, b, h => by cases b <;> simp [T.same] at h; rw [h]
  | .str _, b, h => by cases b <;> simp [T.same] at h; rw [h]
  | .tup xs, b, h => by cases b <;> simp [T.same] at h; rw [T.sames_eq _ _ h]
  | .lst xs, b, h => by cases b <;> simp [T.same] at h; rw [T.sames_eq _ _ h]
  | .dct xs ys, b, h => by cases b <;> simp [T.same] at h; rw [T.sames_eq _ _ h.1, T.sames_eq _ _ h.2]
  | .loc _, b, h => by cases b <;> simp [T.same] at h; rw [h]
  | .fn _, b, h => by cases b <;> simp [T.same] at h; rw [h]
  | .cls _, b, h => by cases b <;> simp [T.same] at h; rw [h]
  | .exn _ vs, b, h => by cases b <;> simp [T.same] at h; rw [h.1, T.sames_eq _ _ h.2]
theorem T.sames_eq : ∀ a b : List T, T.sames a b = true → a = b
  | [], b, h => by cases b <;> simp [T.sames] at h; rfl
  | x :: xs, b, h => by
    cases b with
    | nil => simp [T.sames] at h
    | cons y ys =>
      simp [T.sames] at h
      rw [T.same_eq _ _ h.1, T.sames_eq _ _ h.2]
end
instance : DecidableEq T := fun a b =>
  if h : T.same a b = true then .isTrue (T.same_eq a b h) else .isFalse fun e => h (e ▸ T.same_refl a)

/-- an object at a place -/
inductive O where
  | lst (xs : List T)
  | dct (ks vs : List T)
  | ins (c : String) (fs : List (String × T))
  | dead
deriving DecidableEq, Inhabited

abbrev Heap := List O
abbrev Rho := List (Option T)

/-- how a run ends -/
inductive Rs (α : Type) where
  | ok (a : α) (h : Heap)
  | exc (e : T) (h : Heap)
  | stuck

def Rs.bind {α β : Type} : Rs α → (α → Heap → Rs β) → Rs β
  | .ok a h, f => f a h
  | .exc e h, _ => .exc e h
  | .stuck, _ => .stuck
theorem Rs.bind_ok {α β : Type} (a : α) (h : Heap) (f : α → Heap → Rs β) : (Rs.ok a h).bind f = f a h := rfl
theorem Rs.bind_exc {α β : Type} (e : T) (h : Heap) (f : α → Heap → Rs β) : (Rs.exc e h).bind f = .exc e h := rfl
theorem Rs.bind_stuck {α β : Type} (f : α → Heap → Rs β) : (Rs.stuck).bind f = .stuck := rfl
/-- an answer of a plain function -/
def Rs.of {α : Type} (o : Option α) (h : Heap) : Rs α := match o with
  | some a => .ok a h
  | none => .stuck
theorem Rs.of_some {α : Type} (a : α) (h : Heap) : Rs.of (some a) h = .ok a h := rfl
theorem Rs.of_none {α : Type} (h : Heap) : Rs.of (none : Option α) h = .stuck := rfl

/-! ### the syntax -/
inductive BOp where
  | add | sub | mul | fdiv | mod | pow
deriving DecidableEq
inductive COp where
  | eq | ne | lt | le | gt | ge | is | isn | isin | nin
deriving DecidableEq
/-- where values go: a slot, slots, slots and the rest -/
inductive Tg where
  | v (i : Nat)
  | t (is : List Nat)
  | st (is : List Nat) (star : Nat)
deriving DecidableEq

inductive LE where
  | bad
  | var (i : Nat)
  | int (i : Int)
  | str (s : List Nat)
  | bl (b : Bool)
  | non
  | glob (g : String)
  | bin (o : BOp) (a b : LE)
  | neg (a : LE)
  | not (a : LE)
  | and (es : List LE)
  | or (es : List LE)
  | cmp (o : COp) (a b : LE)
  | chain (o p : COp) (a b c : LE)
  | ife (c a b : LE)
  | tup (es : List LE)
  | lst (m : Bool) (es : List LE)
  | dct (m : Bool) (es : List LE)
  | idx (a i : LE)
  | slc (a : LE) (lo hi : List LE)
  | attr (a : LE) (f : String)
  | call (f : String) (es : List LE)
  | callV (f : LE) (es : List LE)
  | make (c : String) (es : List LE)
  | meth (o : LE) (m : String) (es : List LE)
  | bi (b : String) (es : List LE)
  | biM (b : String) (es : List LE)
  | bm (o : LE) (m : String) (es : List LE)
  | isi (a : LE) (ts : List String)
  | isx (a : LE) (t : String)
  | comp (m : Bool) (own : List Nat) (elt : LE) (tg : Tg) (k : String) (it : List LE) (ifs : List LE)
  | comp2 (m : Bool) (own : List Nat) (elt : LE) (tg : Tg) (k : String) (it : List LE) (ifs : List LE) (own1 : List Nat) (tg1 : Tg) (k1 : String) (it1 : List LE) (ifs1 : List LE)

inductive LS where
  | expr (e : LE)
  | set (i : Nat) (e : LE)
  | unp (g : Tg) (e : LE)
  | par (is : List Nat) (es : List LE)
  | sattr (o : LE) (f : String) (e : LE)
  | sidx (o i e : LE)
  | unpA (os : List LE) (fs : List String) (e : LE)
  | aug (i : Nat) (o : BOp) (e : LE)
  | augA (o : LE) (f : String) (op : BOp) (e : LE)
  | ret (e : LE)
  | retN
  | iff (c : LE) (a b : List LS)
  | whl (fuel : Nat) (c : LE) (b : List LS)
  | for (g : Tg) (k : String) (it : List LE) (b : List LS)
  | pass
  | brk
  | cnt
  | raise (c : String) (es : List LE)
  | try (b : List LS) (hs : List LS)
  | hnd (cs : List String) (i : Option Nat) (s : List LS)
  | frz (i : Nat)

/-- a def: its number of parameters and of slots, its body; keep: what its call leaves of the heap -/
structure Fn where
  np : Nat
  ns : Nat
  body : List LS
  mode : Nat := 0

/-- a program: its defs, its module's constants and classes -/
structure Prog where
  fn : String → Option Fn
  con : String → Option T
  meth : String → String → Option String
  sub : String → String → Bool
  flds : String → List String
  exf : String → Option String
  exk : String → Bool

/-! ### values -/
mutual
/-- no place of the heap at or behind n within -/
def T.within (n : Nat) : T → Bool
  | .loc k => decide (k < n)
  | .tup xs => T.withins n xs
  | .lst xs => T.withins n xs
  | .dct ks vs => T.withins n ks && T.withins n vs
  | .exn _ vs => T.withins n vs
  | _ => true
def T.withins (n : Nat) : List T → Bool
  | [] => true
  | x :: xs => T.within n x && T.withins n xs
end
mutual
/-- plain data -/
def T.data : T → Bool
  | .loc _ => false
  | .fn _ => false
  | .cls _ => false
  | .exn _ _ => false
  | .tup xs => T.datas xs
  | .lst xs => T.datas xs
  | .dct ks vs => T.datas ks && T.datas vs
  | _ => true
def T.datas : List T → Bool
  | [] => true
  | x :: xs => T.data x && T.datas xs
end
mutual
/-- Python's == of data without dicts -/
def T.eqv : T → T → Bool
  | .non, .non => true
  | .bl a, .bl b => a == b
  | .bl a, .int b => (if a then 1 else 0) == b
  | .int a, .bl b => a == (if b then 1 else 0)
  | .int a, .int b => a == b
  | .str a, .str b => a == b
  | .tup a, .tup b => T.eqvs a b
  | .lst a, .lst b => T.eqvs a b
  | _, _ => false
def T.eqvs : List T → List T → Bool
  | [], [] => true
  | x :: xs, y :: ys => T.eqv x y && T.eqvs xs ys
  | _, _ => false
end
mutual
def T.depth : T → Nat
  | .tup xs => T.depths xs + 1
  | .lst xs => T.depths xs + 1
  | .dct ks vs => max (T.depths ks) (T.depths vs) + 1
  | _ => 0
def T.depths : List T → Nat
  | [] => 0
  | x :: xs => max (T.depth x) (T.depths xs)
end
mutual
/-- data without dicts -/
def T.flat : T → Bool
  | .non => true
  | .bl _ => true
  | .int _ => true
  | .str s => s.all fun c => decide (c < 1114112)
  | .tup xs => T.flats xs
  | .lst xs => T.flats xs
  | _ => false
def T.flats : List T → Bool
  | [] => true
  | x :: xs => T.flat x && T.flats xs
end
mutual
/-- data -/
def T.pln : T → Bool
  | .non => true
  | .bl _ => true
  | .int _ => true
  | .str s => s.all fun c => decide (c < 1114112)
  | .tup xs => T.plns xs
  | .lst xs => T.plns xs
  | .dct ks vs => T.plns ks && T.plns vs
  | _ => false
def T.plns : List T → Bool
  | [] => true
  | x :: xs => T.pln x && T.plns xs
end
/-- data without dicts, not too deep: what == is asked of -/
def T.fit (t : T) : Bool := t.flat && decide (t.depth ≤ 100)
def T.fits (xs : List T) : Bool := T.flats xs && decide (T.depths xs ≤ 100)
/-- the longest list, text -/
abbrev top : Nat := 16777216
/-- what stands at a place, as a tree (its items may be places) -/
def view (h : Heap) : T → Option T
  | .loc n => match h[n]? with
    | some (.lst xs) => some (.lst xs)
    | some (.dct ks vs) => some (.dct ks vs)
    | _ => none
  | t => some t
/-- a key: an int or a text -/
def leafT : T → Bool
  | .int _ => true
  | .str _ => true
  | _ => false
mutual
/-- what keys are made of -/
def T.kd : T → Bool
  | .non => true
  | .bl _ => true
  | .int _ => true
  | .str _ => true
  | .tup xs => T.kds xs
  | _ => false
def T.kds : List T → Bool
  | [] => true
  | x :: xs => T.kd x && T.kds xs
end
/-- a key: a tuple -/
def nestT : T → Bool
  | .tup xs => T.kds xs && decide (T.depths xs ≤ 7)
  | _ => false
/-- a dict with these keys may be asked for that one -/
def okKey (ks : List T) (k : T) : Bool := (ks.all leafT && leafT k) || (ks.all nestT && nestT k)
/-- the value at a key -/
def kget : List T → List T → T → Option T
  | k :: ks, v :: vs, x => if T.eqv k x then some v else kget ks vs x
  | _, _, _ => none
def kput : List T → List T → T → T → List T × List T
  | k :: ks, v :: vs, x, y => if T.eqv k x then (k :: ks, y :: vs) else ((k :: (kput ks vs x y).1), (v :: (kput ks vs x y).2))
  | _, _, x, y => ([x], [y])
/-- pairs put one after another -/
def kputs : List (T × T) → List T × List T → List T × List T
  | [], d => d
  | (x, y) :: r, d => kputs r (kput d.1 d.2 x y)
/-- items by pairs -/
def pairUp : List T → Option (List (T × T))
  | [] => some []
  | [_] => none
  | x :: y :: r => (pairUp r).map ((x, y) :: ·)
/-- a display's dict -/
def dictOf (xs : List T) : Option (List T × List T) := match pairUp xs with
  | some ps => if (ps.map (·.1)).all leafT then some (kputs ps ([], [])) else none
  | none => none
def memT (x : T) : List T → Bool
  | [] => false
  | y :: ys => T.eqv y x || memT x ys
def truth (h : Heap) (t : T) : Option Bool := match view h t with
  | some .non => some false
  | some (.bl b) => some b
  | some (.int i) => some (i != 0)
  | some (.str s) => if s.length ≤ top then some (!s.isEmpty) else none
  | some (.tup xs) => some (!xs.isEmpty)
  | some (.lst xs) => some (!xs.isEmpty)
  | _ => none
def small64 (i : Int) : Bool := decide (-(2 ^ 64) < i ∧ i < 2 ^ 64)
/-- the library's text, and back -/
def stx (s : List Nat) : PySem.Str := ⟨s.toArray⟩
def ftx (x : PySem.Str) : T := .str x.cps.toList
def binop (o : BOp) (h : Heap) (x y : T) : Option T := match o, view h x, view h y with
  | .add, some (.int i), some (.int j) => some (.int (i + j))
  | .add, some (.str a), some (.str b) => if a.length + b.length ≤ top then some (.str (a ++ b)) else none
  | .add, some (.lst a), some (.lst b) => if a.length + b.length ≤ top then some (.lst (a ++ b)) else none
  | .add, some (.tup a), some (.tup b) => if a.length + b.length ≤ top then some (.tup (a ++ b)) else none
  | .sub, some (.int i), some (.int j) => some (.int (i - j))
  | .mul, some (.int i), some (.int j) => if small64 i || small64 j then some (.int (i * j)) else none
  | .mul, some (.str s), some (.int j) => if 1 ≤ j ∧ s.length * j.toNat ≤ top ∧ j ≤ 16777216 then some (ftx (PySem.Txt.mul (stx s) j)) else none
  | .fdiv, some (.int i), some (.int j) => if j ≠ 0 ∧ j.natAbs.log2 < 9000 then some (.int (i.fdiv j)) else none
  | .mod, some (.int i), some (.int j) => if j ≠ 0 then some (.int (i.fmod j)) else none
  | .pow, some (.int i), some (.int j) => if 0 ≤ j ∧ ((i.natAbs.log2 + 1 : Nat) : Int) * j ≤ 134217728 then some (.int (i ^ j.toNat)) else none
  | _, _, _ => none
/-- x op= y -/
def augop (o : BOp) (x y : T) : Option T := match o, x, y with
  | .add, .int i, .int j => some (.int (i + j))
  | .sub, .int i, .int j => some (.int (i - j))
  | .add, .str a, .str b => if a.length + b.length ≤ top then some (.str (a ++ b)) else none
  | _, _, _ => none
def lexLt : List Nat → List Nat → Bool
  | [], [] => false
  | [], _ :: _ => true
  | _ :: _, [] => false
  | a :: as, b :: bs => decide (a < b) || (decide (a = b) && lexLt as bs)
/-- one sign in a text -/
def signIn (a b : List Nat) : Option Bool := match a with
  | [c] => some (b.contains c)
  | _ => none
/-- == of sequences that differ in length already -/
def eqLen : T → T → Option Bool
  | .tup (_ :: _), .tup [] => some false
  | .lst a, .lst b => if a.length = b.length then none else some false
  | _, _ => none
def cmpop (o : COp) (h : Heap) (x y : T) : Option Bool := match o, view h x, view h y with
  | .eq, some (.str a), some (.str b) => some (a == b)
  | .ne, some (.str a), some (.str b) => some (!(a == b))
  | .eq, some a, some b => if a.fit && b.fit then some (T.eqv a b) else eqLen a b
  | .ne, some a, some b => if a.fit && b.fit then some (!T.eqv a b) else (eqLen a b).map (!·)
  | .lt, some (.int i), some (.int j) => some (decide (i < j))
  | .le, some (.int i), some (.int j) => some (decide (i ≤ j))
  | .gt, some (.int i), some (.int j) => some (decide (j < i))
  | .ge, some (.int i), some (.int j) => some (decide (j ≤ i))
  | .is, _, some .non => some (decide (x = .non))
  | .isn, _, some .non => some (!decide (x = .non))
  | .isin, _, some (.lst ys) => if x.fit && T.fits ys then some (memT x ys) else none
  | .isin, _, some (.tup ys) => if x.fit && T.fits ys then some (memT x ys) else none
  | .isin, _, some (.dct ks _) => if okKey ks x then some (memT x ks) else none
  | .isin, some (.str a), some (.str b) => signIn a b
  | .nin, _, some (.lst ys) => if x.fit && T.fits ys then some (!memT x ys) else none
  | .nin, _, some (.tup ys) => if x.fit && T.fits ys then some (!memT x ys) else none
  | .nin, _, some (.dct ks _) => if okKey ks x then some (!memT x ks) else none
  | .nin, some (.str a), some (.str b) => (signIn a b).map (!·)
  | _, _, _ => none
/-- the place that an index means -/
def place (n : Nat) (i : Int) : Option Nat := if 0 ≤ i then (if i < n then some i.toNat else none) else if -(n : Int) ≤ i then some (i + n).toNat else none
def nth {α : Type} (xs : List α) (i : Int) : Option α := (place xs.length i).bind fun k => xs[k]?
def index (h : Heap) (x i : T) : Option T := match view h x, i with
  | some (.lst xs), .int k => nth xs k
  | some (.tup xs), .int k => nth xs k
  | some (.str s), .int k => if s.length ≤ top then (nth s k).map fun c => .str [c] else none
  | some (.dct ks vs), k => if okKey ks k then kget ks vs k else none
  | _, _ => none
/-- a slice's end -/
def six (n d : Nat) : Option Int → Nat
  | none => d
  | some v => if v < 0 then (v + (n : Int)).toNat else min v.toNat n
def cut {α : Type} (xs : List α) (lo hi : Option Int) : List α := (xs.drop (six xs.length 0 lo)).take (six xs.length xs.length hi - six xs.length 0 lo)
def slice (h : Heap) (x : T) (lo hi : Option Int) : Option T := match view h x with
  | some (.lst xs) => some (.lst (cut xs lo hi))
  | some (.tup xs) => some (.tup (cut xs lo hi))
  | some (.str s) => if s.length ≤ top then some (.str (cut s lo hi)) else none
  | _ => none
/-- a slice's part -/
def partOf : List T → Option (Option Int)
  | [] => some none
  | [.int i] => some (some i)
  | _ => none
/-- what a loop walks -/
def items (h : Heap) (x : T) : Option (List T) := match view h x with
  | some (.lst xs) => some xs
  | some (.tup xs) => some xs
  | some (.str s) => some (s.map fun c => .str [c])
  | some (.dct ks _) => some ks
  | _ => none
def rangeT (lo hi : Int) : List T := (List.range (hi - lo).toNat).map fun (k : Nat) => .int (lo + (k : Int))
def big62 (i : Int) : Bool := decide (-(2 ^ 62) ≤ i ∧ i < 2 ^ 62)
def enumT (i : Nat) : List T → List T
  | [] => []
  | x :: xs => .tup [.int i, x] :: enumT (i + 1) xs
def zipT : List T → List T → List T
  | x :: xs, y :: ys => .tup [x, y] :: zipT xs ys
  | _, _ => []
/-- what an iterator's call yields, and what must stay as it stands meanwhile -/
def walked (k : String) (h : Heap) (xs : List T) : Option (List T × List (T × T)) :=
  if k = "" then (match xs with
    | [.dct ks _] => some (ks, [])
    | [x] => (match view h x with
      | some (.lst ys) => some (ys, [(x, .lst ys)])
      | some (.tup ys) => some (ys, [(x, .tup ys)])
      | some (.str s) => some (s.map fun c => .str [c], [(x, .str s)])
      | _ => none)
    | _ => none)
  else if k = "range" then (match xs with
    | [.int j] => if big62 j then some (rangeT 0 j, []) else none
    | [.int i, .int j] => if big62 i && big62 j then some (rangeT i j, []) else none
    | _ => none)
  else if k = "enumerate" then (match xs with
    | [x] => (match view h x with | some (.lst ys) => some (enumT 0 ys, [(x, .lst ys)]) | _ => none)
    | _ => none)
  else if k = "items" then (match xs with
    | [.dct ks vs] => some (zipT ks vs, [])
    | _ => none)
  else if k = "zip" then (match xs with
    | [x, y] => (match view h x, view h y with | some (.lst us), some (.lst vs) => some (zipT us vs, [(x, .lst us), (y, .lst vs)]) | _, _ => none)
    | _ => none)
  else none
/-- it still stands so -/
def still (gs : List (T × T)) (h : Heap) : Bool := gs.all fun p => decide (view h p.1 = some p.2)
def intsOf : List T → Option (List Int)
  | [] => some []
  | .int i :: xs => (intsOf xs).map (i :: ·)
  | _ => none
def maxI : List Int → Option Int
  | [] => none
  | x :: xs => match maxI xs with
    | some m => some (if x < m then m else x)
    | none => some x
def minI : List Int → Option Int
  | [] => none
  | x :: xs => match minI xs with
    | some m => some (if m < x then m else x)
    | none => some x
def blsOf : List T → Option (List Bool)
  | [] => some []
  | .bl i :: xs => (blsOf xs).map (i :: ·)
  | _ => none
/-- decimal digits -/
def intText (i : Int) : List Nat := (toString i).toList.map Char.toNat
mutual
/-- its ints are short enough to be written -/
def T.showy : T → Bool
  | .int i => decide (i.natAbs.log2 < 1920)
  | .tup xs => T.showys xs
  | .lst xs => T.showys xs
  | .dct ks vs => T.showys ks && T.showys vs
  | _ => true
def T.showys : List T → Bool
  | [] => true
  | x :: xs => T.showy x && T.showys xs
end
mutual
/-- at least the length of repr -/
def T.rlen : T → Nat
  | .non => 4
  | .bl _ => 5
  | .int i => i.natAbs.log2 + 3
  | .str s => 10 * s.length + 2
  | .tup xs => T.rlens xs + 4
  | .lst xs => T.rlens xs + 4
  | .dct ks vs => T.rlens ks + T.rlens vs + 4
  | _ => 4
def T.rlens : List T → Nat
  | [] => 0
  | x :: xs => T.rlen x + 2 + T.rlens xs
end
mutual
/-- the library's tree -/
def T.pd : T → PySem.PyData
  | .non => .none
  | .bl b => .bool b
  | .int i => .int i
  | .str s => .str ⟨s.toArray⟩
  | .tup xs => .tuple (T.pds xs)
  | .lst xs => .list (T.pds xs)
  | .dct ks vs => .dict ((T.pds ks).zip (T.pds vs))
  | _ => .none
def T.pds : List T → List PySem.PyData
  | [] => []
  | x :: xs => T.pd x :: T.pds xs
end
/-- repr -/
def T.shown (t : T) : List Nat := t.pd.shown.cps.toList
/-! ### order, sorting -/
def lexI : List Int → List Int → Bool
  | [], [] => false
  | [], _ :: _ => true
  | _ :: _, [] => false
  | a :: as, b :: bs => decide (a < b) || (decide (a = b) && lexI as bs)
def upI (c : Nat) : Int := Int.ofNat c + 1
mutual
/-- a datum as a row of ints -/
def T.enc : T → List Int
  | .int i => [i]
  | .str s => s.map upI ++ [0]
  | .tup xs => T.encs xs ++ [0]
  | _ => []
def T.encs : List T → List Int
  | [] => []
  | x :: xs => 1 :: (T.enc x ++ T.encs xs)
end
/-- the order of data -/
def ltO (x y : T) : Bool := lexI x.enc y.enc
mutual
/-- data without truth values, dicts -/
def T.nob : T → Bool
  | .non => true
  | .int _ => true
  | .str s => s.all fun c => decide (c < 1114112)
  | .tup xs => T.nobs xs
  | .lst xs => T.nobs xs
  | _ => false
def T.nobs : List T → Bool
  | [] => true
  | x :: xs => T.nob x && T.nobs xs
end
mutual
/-- two data that Python compares -/
def T.cmpA : T → T → Bool
  | .int _, .int _ => true
  | .str _, .str _ => true
  | .tup xs, .tup ys => T.cmpAs xs ys
  | _, _ => false
def T.cmpAs : List T → List T → Bool
  | x :: xs, y :: ys => (T.eqv x y || T.cmpA x y) && T.cmpAs xs ys
  | _, _ => true
end
/-- the first difference of two rows is one of data that Python compares -/
def cmpTop : List T → List T → Bool
  | x :: xs, y :: ys => if T.eqv x y then cmpTop xs ys else T.cmpA x y
  | _, _ => true
/-! ### sorting -/
def insO (x : T) : List T → List T
  | [] => [x]
  | y :: ys => if ltO y x then y :: insO x ys else x :: y :: ys
def isort : List T → List T
  | [] => []
  | x :: xs => insO x (isort xs)
/-- the kind of a row's first item -/
def headK : T → Nat
  | .tup (.int _ :: _) => 1
  | .tup (.str _ :: _) => 2
  | .tup (.tup _ :: _) => 3
  | _ => 0
/-- what can be sorted -/
def sortable (xs : List T) : Bool :=
  (xs.all fun x => match x with | .int _ => true | _ => false) || (xs.all fun x => match x with | .str s => s.all (fun c => decide (c < 1114112)) | _ => false) ||
  (T.nobs xs && decide (T.depths xs ≤ 40) && ((xs.all fun x => headK x == 1) || (xs.all fun x => headK x == 2) || (xs.all fun x => headK x == 3)) && xs.all fun x => xs.all fun y => match x, y with | .tup us, .tup vs => cmpTop us vs | _, _ => false)

/-- sorted(xs) -/
def fSorted (h : Heap) : List T → Option T
  | [x] => (match view h x with
    | some (.lst ys) => if sortable ys then some (.lst (isort ys)) else none
    | _ => none)
  | _ => none
/-- an answer for each -/
def optAll (f : T → Option T) : List T → Option (List T)
  | [] => some []
  | x :: xs => (f x).bind fun y => (optAll f xs).map (y :: ·)
/-- what stands at a place, with what stands at the places within -/
def deep (h : Heap) : Nat → T → Option T
  | 0, _ => none
  | n + 1, .loc k => (match h[k]? with
    | some (.lst xs) => (optAll (deep h n) xs).map .lst
    | some (.dct ks vs) => (optAll (deep h n) ks).bind fun ks => (optAll (deep h n) vs).map fun vs => .dct ks vs
    | _ => none)
  | n + 1, .tup xs => (optAll (deep h n) xs).map .tup
  | n + 1, .lst xs => (optAll (deep h n) xs).map .lst
  | n + 1, .dct ks vs => (optAll (deep h n) ks).bind fun ks => (optAll (deep h n) vs).map fun vs => .dct ks vs
  | _ + 1, t => some t
/-! built-in functions -/
def fLen (h : Heap) : List T → Option T
  | [x] => (match view h x with
    | some (.lst ys) => some (.int ys.length)
    | some (.tup ys) => some (.int ys.length)
    | some (.str s) => if s.length ≤ top then some (.int s.length) else none
    | some (.dct ks _) => some (.int ks.length)
    | _ => none)
  | _ => none
def fAbs (_ : Heap) : List T → Option T
  | [.int i] => some (.int (if i < 0 then -i else i))
  | _ => none
def fMax (h : Heap) : List T → Option T
  | [.int i, .int j] => some (.int (if j > i then j else i))
  | [x] => (match view h x with | some (.lst ys) => (intsOf ys).bind fun is => (maxI is).map .int | _ => none)
  | _ => none
def fMin (h : Heap) : List T → Option T
  | [.int i, .int j] => some (.int (if j < i then j else i))
  | [x] => (match view h x with | some (.lst ys) => (intsOf ys).bind fun is => (minI is).map .int | _ => none)
  | _ => none
def fSum (h : Heap) : List T → Option T
  | [x] => (match view h x with | some (.lst ys) => (intsOf ys).map fun is => .int is.sum | _ => none)
  | _ => none
def fInt (_ : Heap) : List T → Option T
  | [.int i] => some (.int i)
  | [.bl k] => some (.int (if k then 1 else 0))
  | [.str s] => (match PySem.intText? (stx s) with
    | some n => if s.length ≤ 640 then some (.int n) else none
    | none => none)
  | _ => none
def fRepr (h : Heap) : List T → Option T
  | [x] => (match deep h 200 x with | some y => if y.pln && decide (y.depth ≤ 100) && y.showy && decide (y.rlen ≤ top) then some (.str y.shown) else none | none => none)
  | _ => none
def fAll (h : Heap) : List T → Option T
  | [x] => (match view h x with | some (.lst ys) => (blsOf ys).map fun bs => .bl (bs.all id) | _ => none)
  | _ => none
def fAny (h : Heap) : List T → Option T
  | [x] => (match view h x with | some (.lst ys) => (blsOf ys).map fun bs => .bl (bs.any id) | _ => none)
  | _ => none
def fStr (_ : Heap) : List T → Option T
  | [.int i] => if i.natAbs.log2 < 1920 then some (.str (intText i)) else none
  | _ => none
def fTuple (h : Heap) : List T → Option T
  | [x] => (match view h x with | some (.lst ys) => some (.tup ys) | some (.tup ys) => some (.tup ys) | _ => none)
  | _ => none
def fList (h : Heap) : List T → Option T
  | [x] => (match view h x with | some (.lst ys) => some (.lst ys) | some (.tup ys) => some (.lst ys) | _ => none)
  | _ => none
def bfun (b : String) (h : Heap) (xs : List T) : Option T :=
  if b = "len" then fLen h xs else if b = "abs" then fAbs h xs else if b = "max" then fMax h xs else if b = "min" then fMin h xs else if b = "sum" then fSum h xs else if b = "int" then fInt h xs
  else if b = "repr" then fRepr h xs else if b = "all" then fAll h xs else if b = "any" then fAny h xs else if b = "str" then fStr h xs else if b = "tuple" then fTuple h xs else if b = "list" then fList h xs else if b = "sorted" then fSorted h xs else none
/-- the built-in classes of a value -/
def isTy (h : Heap) (P : Prog) (x : T) (c : String) : Option Bool := match view h x with
  | some .non => some (c = "NoneType")
  | some (.bl _) => some (c = "bool" || c = "int")
  | some (.int _) => some (c = "int")
  | some (.str _) => some (c = "str")
  | some (.tup _) => some (c = "tuple")
  | some (.lst _) => some (c = "list")
  | some (.dct _ _) => some (c = "dict")
  | some _ => none
  | none => (match x with
    | .loc n => (match h[n]? with
      | some (.ins d _) => if (P.flds d).isEmpty then none else some false
      | _ => none)
    | _ => none)
/-- a datum's class -/
def tyName : T → Option String
  | .non => some "NoneType"
  | .bl _ => some "bool"
  | .int _ => some "int"
  | .str _ => some "str"
  | .tup _ => some "tuple"
  | .lst _ => some "list"
  | .dct _ _ => some "dict"
  | _ => none
/-- isinstance with an exception class -/
def isxT (h : Heap) (P : Prog) (x : T) (t : String) : Option Bool := match x with
  | .exn c _ => some (P.sub c t)
  | x => ((view h x).bind tyName).map fun _ => false
/-- methods of built-in types: whose -/
def strMs : List String := ["lower", "upper", "strip", "isdigit", "startswith", "endswith", "find", "count", "index", "split", "join", "partition", "rstrip"]
def btyp (m : String) : String :=
  if m = "append" || m = "extend" || m = "clear" || m = "pop" then "list"
  else if m = "get" then "dict"
  else if strMs.contains m then "str"
  else ""
/-- whose method it is -/
def recv (m : String) (x : Option T) : Bool := match x with
  | some (.lst _) => btyp m = "list"
  | some (.dct _ _) => btyp m = "dict"
  | some (.str _) => btyp m = "str"
  | _ => false
/-- a text in small letters -/
def lowered (s : List Nat) : List Nat := (PySem.Txt.lower ⟨s.toArray⟩).cps.toList
def strsOf : List T → Option (List (List Nat))
  | [] => some []
  | .str s :: r => (strsOf r).map (s :: ·)
  | _ => none
/-- methods of texts -/
def smeth (m : String) (h : Heap) (s : List Nat) (xs : List T) : Option T :=
  if m = "lower" then (match xs with
    | [] => if s.length ≤ 5592405 then some (.str (lowered s)) else none
    | _ => none)
  else if m = "upper" then (match xs with
    | [] => if s.length ≤ 5592405 then some (ftx (PySem.Txt.upper (stx s))) else none
    | _ => none)
  else if m = "strip" then (match xs with
    | [] => if s.length ≤ top then some (ftx (PySem.Txt.strip (stx s))) else none
    | _ => none)
  else if m = "isdigit" then (match xs with
    | [] => some (.bl (PySem.Txt.isdigit (stx s)))
    | _ => none)
  else if m = "startswith" then (match xs with
    | [.str d] => some (.bl (PySem.Txt.startswith (stx s) (stx d)))
    | _ => none)
  else if m = "endswith" then (match xs with
    | [.str d] => some (.bl (PySem.Txt.endswith (stx s) (stx d)))
    | _ => none)
  else if m = "find" then (match xs with
    | [.str d] => some (.int (PySem.Txt.find (stx s) (stx d)))
    | _ => none)
  else if m = "count" then (match xs with
    | [.str d] => some (.int (PySem.Txt.count (stx s) (stx d)))
    | _ => none)
  else if m = "index" then (match xs with
    | [.str d] => (match PySem.Builtin.Str.occurrences (stx s) (stx d) 0 (stx s).length 1 with
      | i :: _ => some (.int i)
      | [] => none)
    | _ => none)
  else if m = "split" then (match xs with
    | [.str d] => if d ≠ [] ∧ s.length + 2 ≤ top then some (.lst ((PySem.Txt.split (stx s) (stx d)).map ftx)) else none
    | _ => none)
  else if m = "partition" then (match xs with
    | [.str d] => if d ≠ [] ∧ s.length ≤ top then some (.tup [ftx (PySem.Txt.partition (stx s) (stx d)).1, ftx (PySem.Txt.partition (stx s) (stx d)).2.1, ftx (PySem.Txt.partition (stx s) (stx d)).2.2]) else none
    | _ => none)
  else if m = "join" then (match xs with
    | [x] => (match view h x with
      | some (.lst ys) => (strsOf ys).bind fun zs => if (zs.map (·.length)).sum + zs.length * s.length ≤ top then some (ftx (PySem.Txt.join (stx s) (zs.map stx))) else none
      | some (.tup ys) => (strsOf ys).bind fun zs => if (zs.map (·.length)).sum + zs.length * s.length ≤ top then some (ftx (PySem.Txt.join (stx s) (zs.map stx))) else none
      | _ => none)
    | _ => none)
  else if m = "rstrip" then (match xs with
    | [.str d] => if s.length ≤ top then some (ftx (PySem.Txt.rstripChars (stx s) (stx d))) else none
    | _ => none)
  else none
/-- methods of built-in types -/
def bmeth (m : String) (o : T) (xs : List T) (h : Heap) : Rs T :=
  if strMs.contains m then (match view h o with
    | some (.str s) => Rs.of (smeth m h s xs) h
    | _ => .stuck)
  else if m = "append" then (match o, xs with
    | .loc n, [x] => (match h[n]? with
      | some (.lst ys) => if ys.length < top then .ok .non (h.set n (.lst (ys ++ [x]))) else .stuck
      | _ => .stuck)
    | _, _ => .stuck)
  else if m = "extend" then (match o, xs with
    | .loc n, [x] => (match h[n]?, view h x with
      | some (.lst ys), some (.lst zs) => if x ≠ .loc n ∧ ys.length + zs.length ≤ top then .ok .non (h.set n (.lst (ys ++ zs))) else .stuck
      | _, _ => .stuck)
    | _, _ => .stuck)
  else if m = "clear" then (match o, xs with
    | .loc n, [] => (match h[n]? with
      | some (.lst _) => .ok .non (h.set n (.lst []))
      | _ => .stuck)
    | _, _ => .stuck)
  else if m = "pop" then (match o, xs with
    | .loc n, [] => (match h[n]? with
      | some (.lst ys) => (match ys.getLast? with
        | some y => .ok y (h.set n (.lst ys.dropLast))
        | none => .stuck)
      | _ => .stuck)
    | _, _ => .stuck)
  else if m = "get" then (match view h o, xs with
    | some (.dct ks vs), [k] => if okKey ks k then .ok ((kget ks vs k).getD .non) h else .stuck
    | some (.dct ks vs), [k, d] => if okKey ks k then .ok ((kget ks vs k).getD d) h else .stuck
    | _, _ => .stuck)
  else .stuck

/-! ### the interpreter -/
/-- the module and what a call gives, a level down -/
structure Cn where
  P : Prog
  call : String → List T → Heap → Rs T
  init : String → List T → Heap → Rs T
  lvl : Nat

def bindTg : Tg → T → Heap → Rho → Option Rho
  | .v i, x, _, ρ => some (ρ.set i (some x))
  | .t is, x, h, ρ => match view h x with
    | some (.tup xs) => if xs.length = is.length then some ((is.zip xs).foldl (fun r p => r.set p.1 (some p.2)) ρ) else none
    | some (.lst xs) => if xs.length = is.length then some ((is.zip xs).foldl (fun r p => r.set p.1 (some p.2)) ρ) else none
    | _ => none
  | .st is k, x, h, ρ => match view h x with
    | some (.tup xs) => if is.length ≤ xs.length then some (((is.zip xs).foldl (fun r p => r.set p.1 (some p.2)) ρ).set k (some (.lst (xs.drop is.length)))) else none
    | some (.lst xs) => if is.length ≤ xs.length then some (((is.zip xs).foldl (fun r p => r.set p.1 (some p.2)) ρ).set k (some (.lst (xs.drop is.length)))) else none
    | _ => none
def wipe (ρ : Rho) (own : List Nat) : Rho := own.foldr (fun i r => r.set i none) ρ
def withB {α : Type} (o : Option Rho) (f : Rho → Rs α) : Rs α := match o with
  | some ρ => f ρ
  | none => .stuck
theorem withB_some {α : Type} (ρ : Rho) (f : Rho → Rs α) : withB (some ρ) f = f ρ := rfl
theorem withB_none {α : Type} (f : Rho → Rs α) : withB none f = .stuck := rfl
/-- no exception gets through -/
def Rs.calm {α : Type} : Rs α → Rs α
  | .ok a h => .ok a h
  | _ => .stuck
theorem Rs.calm_ok {α : Type} (a : α) (h : Heap) : (Rs.ok a h).calm = .ok a h := rfl
/-- one more, if there is one -/
def addO {α : Type} (acc : List α) : Option α → List α
  | some a => acc ++ [a]
  | none => acc
/-- a comprehension's turns -/
def turns {α : Type} (ok : Heap → Bool) (f : T → Heap → Rs (Option α)) : List T → List α → Heap → Rs (List α)
  | [], acc, h => if ok h then .ok acc h else .stuck
  | x :: xs, acc, h => if ok h then (f x h).bind fun o h => turns ok f xs (addO acc o) h else .stuck
theorem turns_nil {α : Type} {ok : Heap → Bool} {f : T → Heap → Rs (Option α)} {acc : List α} {h : Heap} : turns ok f [] acc h = if ok h then .ok acc h else .stuck := rfl
theorem turns_cons {α : Type} {ok : Heap → Bool} {f : T → Heap → Rs (Option α)} {x : T} {xs : List T} {acc : List α} {h : Heap} : turns ok f (x :: xs) acc h = if ok h then (f x h).bind fun o h => turns ok f xs (addO acc o) h else .stuck := rfl
def newO (h : Heap) (o : O) : Rs T := .ok (.loc h.length) (h ++ [o])

/-- a list of lists, as one new list -/
def fin2 (m : Bool) (yss : List (List T)) (h : Heap) : Rs T := if yss.flatten.length ≤ top then (if m then newO h (.lst yss.flatten) else .ok (.lst yss.flatten) h) else .stuck
/-- an attribute: of an instance, of a caught exception -/
def attrOf (P : Prog) (h : Heap) (x : T) (f : String) : Option T := match x with
  | .loc n => (match h[n]? with
    | some (.ins c fs) => if (P.flds c).contains f then fs.lookup f else none
    | _ => none)
  | .exn c [v] => if P.exf c = some f then some v else none
  | _ => none
/-- a method of an instance -/
def methOf (P : Prog) (h : Heap) (x : T) (m : String) : Option String := match x with
  | .loc n => (match h[n]? with
    | some (.ins c fs) => if (fs.lookup m).isNone then P.meth c m else none
    | _ => none)
  | _ => none
def putF (f : String) (v : T) : List (String × T) → List (String × T)
  | [] => [(f, v)]
  | (g, x) :: r => if g = f then (g, v) :: r else (g, x) :: putF f v r
/-- an attribute's store -/
def setA (P : Prog) (h : Heap) (x : T) (f : String) (v : T) : Option Heap := match x with
  | .loc n => (match h[n]? with
    | some (.ins c fs) => if (P.flds c).contains f ∧ fs.length < 1000 then some (h.set n (.ins c (putF f v fs))) else none
    | _ => none)
  | _ => none
mutual
def evE (K : Cn) : LE → Rho → Heap → Rs T
  | .var i, ρ, h => match ρ[i]? with
    | some (some t) => .ok t h
    | _ => .stuck
  | .int i, _, h => .ok (.int i) h
  | .str s, _, h => .ok (.str s) h
  | .bl b, _, h => .ok (.bl b) h
  | .non, _, h => .ok .non h
  | .bad, _, _ => .stuck
  | .glob g, _, h => Rs.of (K.P.con g) h
  | .bin o a b, ρ, h => (evE K a ρ h).bind fun x h => (evE K b ρ h).bind fun y h => Rs.of (binop o h x y) h
  | .neg a, ρ, h => (evE K a ρ h).bind fun x h => match x with
    | .int i => .ok (.int (-i)) h
    | _ => .stuck
  | .not a, ρ, h => (evE K a ρ h).bind fun x h => Rs.of ((truth h x).map fun b => .bl (!b)) h
  | .and es, ρ, h => evAnd K es ρ h
  | .or es, ρ, h => evOr K es ρ h
  | .cmp o a b, ρ, h => (evE K a ρ h).bind fun x h => (evE K b ρ h).bind fun y h => Rs.of ((cmpop o h x y).map .bl) h
  | .chain o p a b c, ρ, h => (evE K a ρ h).bind fun x h => (evE K b ρ h).bind fun y h => match cmpop o h x y with
    | some true => (evE K c ρ h).bind fun z h => Rs.of ((cmpop p h y z).map .bl) h
    | some false => .ok (.bl false) h
    | none => .stuck
  | .ife c a b, ρ, h => (evE K c ρ h).bind fun x h => match truth h x with
    | some true => evE K a ρ h
    | some false => evE K b ρ h
    | none => .stuck
  | .tup es, ρ, h => (evEs K es ρ h).bind fun xs h => .ok (.tup xs) h
  | .lst m es, ρ, h => (evEs K es ρ h).bind fun xs h => if m then newO h (.lst xs) else .ok (.lst xs) h
  | .dct m es, ρ, h => (evEs K es ρ h).bind fun xs h => match dictOf xs with
    | some (ks, vs) => if m then newO h (.dct ks vs) else .ok (.dct ks vs) h
    | none => .stuck
  | .idx a i, ρ, h => (evE K a ρ h).bind fun x h => (evE K i ρ h).bind fun y h => Rs.of (index h x y) h
  | .slc a lo hi, ρ, h => (evE K a ρ h).bind fun x h => (evEs K lo ρ h).bind fun us h => match partOf us with
    | none => .stuck
    | some l => (evEs K hi ρ h).bind fun vs h => match partOf vs with
      | none => .stuck
      | some u => Rs.of (slice h x l u) h
  | .attr a f, ρ, h => (evE K a ρ h).bind fun x h => Rs.of (attrOf K.P h x f) h
  | .call f es, ρ, h => (evEs K es ρ h).bind fun xs h => K.call f xs h
  | .callV f es, ρ, h => (evE K f ρ h).bind fun g h => match g with
    | .fn f => (evEs K es ρ h).bind fun xs h => K.call f xs h
    | _ => .stuck
  | .make c es, ρ, h => (evEs K es ρ h).bind fun xs h => match K.P.meth c "__init__" with
    | some f => (K.init f (.loc h.length :: xs) (h ++ [.ins c []])).bind fun v h2 => if v = .non then .ok (.loc h.length) h2 else .stuck
    | none => .stuck
  | .meth o m es, ρ, h => (evE K o ρ h).bind fun x h => match methOf K.P h x m with
    | some f => (evEs K es ρ h).bind fun xs h => K.call f (x :: xs) h
    | none => .stuck
  | .bi b es, ρ, h => (evEs K es ρ h).bind fun xs h => Rs.of (bfun b h xs) h
  | .biM b es, ρ, h => (evEs K es ρ h).bind fun xs h => match bfun b h xs with
    | some (.lst ys) => newO h (.lst ys)
    | _ => .stuck
  | .bm o m es, ρ, h => (evE K o ρ h).bind fun x h => if recv m (view h x) then (evEs K es ρ h).bind fun xs h => bmeth m x xs h else .stuck
  | .isi a cs, ρ, h => (evE K a ρ h).bind fun x h => Rs.of ((cs.mapM fun c => isTy h K.P x c).map fun bs => .bl (bs.any fun z => z)) h
  | .isx a t, ρ, h => (evE K a ρ h).bind fun x h => Rs.of ((isxT h K.P x t).map .bl) h
  | .comp m own elt tg k it ifs, ρ, h => (evEs K it ρ h).bind fun xs h => match walked k h xs with
    | some (xs, gs) => (turns (still gs) (fun x h => withB (bindTg tg x h (wipe ρ own)) fun ρ => ((evIfs K ifs ρ h).bind fun b h => if b then (evE K elt ρ h).bind fun y h => .ok (some y) h else .ok none h).calm) xs [] h).bind fun ys h => if ys.length ≤ top then (if m then newO h (.lst ys) else .ok (.lst ys) h) else .stuck
    | none => .stuck
  | .comp2 m own elt tg k it ifs own1 tg1 k1 it1 ifs1, ρ, h => (evEs K it ρ h).bind fun xs h => match walked k h xs with
    | some (xs, gs) => (turns (still gs) (fun x h => withB (bindTg tg x h (wipe ρ own)) fun ρ => ((evIfs K ifs ρ h).bind fun b h => if b then (evEs K it1 ρ h).bind fun x1 h => (match walked k1 h x1 with
            | some (xs1, gs1) => (turns (still gs1) (fun x h => withB (bindTg tg1 x h (wipe ρ own1)) fun ρ => (evIfs K ifs1 ρ h).bind fun b h => if b then (evE K elt ρ h).bind fun y h => .ok (some y) h else .ok none h) xs1 [] h).bind fun ys h => .ok (some ys) h
            | none => .stuck) else .ok none h).calm) xs [] h).bind fun yss h => fin2 m yss h
    | none => .stuck
def evEs (K : Cn) : List LE → Rho → Heap → Rs (List T)
  | [], _, h => .ok [] h
  | e :: es, ρ, h => (evE K e ρ h).bind fun x h => (evEs K es ρ h).bind fun xs h => .ok (x :: xs) h
def evAnd (K : Cn) : List LE → Rho → Heap → Rs T
  | [], _, _ => .stuck
  | e :: es, ρ, h => match es with
    | [] => evE K e ρ h
    | _ :: _ => (evE K e ρ h).bind fun x h => match truth h x with
      | some true => evAnd K es ρ h
      | some false => .ok x h
      | none => .stuck
def evOr (K : Cn) : List LE → Rho → Heap → Rs T
  | [], _, _ => .stuck
  | e :: es, ρ, h => match es with
    | [] => evE K e ρ h
    | _ :: _ => (evE K e ρ h).bind fun x h => match truth h x with
      | some false => evOr K es ρ h
      | some true => .ok x h
      | none => .stuck
def evIfs (K : Cn) : List LE → Rho → Heap → Rs Bool
  | [], _, h => .ok true h
  | e :: es, ρ, h => (evE K e ρ h).bind fun x h => match truth h x with
    | some true => evIfs K es ρ h
    | some false => .ok false h
    | none => .stuck
end

/-- how a statement ends -/
inductive Fl where
  | nx (ρ : Rho)
  | ret (v : T)
  | brk (ρ : Rho)
  | cnt (ρ : Rho)
/-- a loop's turns -/
def loop (ok : Heap → Bool) (f : T → Rho → Heap → Rs Fl) : List T → Rho → Heap → Rs Fl
  | [], ρ, h => if ok h then .ok (.nx ρ) h else .stuck
  | x :: xs, ρ, h => if ok h then (f x ρ h).bind fun fl h => (match fl with
    | .nx ρ => loop ok f xs ρ h
    | .cnt ρ => loop ok f xs ρ h
    | .brk ρ => .ok (.nx ρ) h
    | .ret v => .ok (.ret v) h) else .stuck
def wloop (c : Rho → Heap → Rs Bool) (f : Rho → Heap → Rs Fl) : Nat → Rho → Heap → Rs Fl
  | 0, _, _ => .stuck
  | n + 1, ρ, h => (c ρ h).bind fun b h => if b then (f ρ h).bind fun fl h => (match fl with
    | .nx ρ => wloop c f n ρ h
    | .cnt ρ => wloop c f n ρ h
    | .brk ρ => .ok (.nx ρ) h
    | .ret v => .ok (.ret v) h) else .ok (.nx ρ) h
/-- an instance's class -/
def clsOf (h : Heap) (x : T) : Option String := match x with
  | .loc n => (match h[n]? with
    | some (.ins c _) => some c
    | _ => none)
  | _ => none
/-- attributes stored one after another -/
def setAs (K : Cn) (ρ : Rho) : List LE → List String → List T → Heap → Rs Unit
  | o :: os, f :: fs, v :: vs, h => (evE K o ρ h).bind fun x h => (Rs.of (setA K.P h x f v) h).bind fun h2 _ => setAs K ρ os fs vs h2
  | [], [], [], h => .ok () h
  | _, _, _, _ => .stuck
/-- an exception is handled: by which of the clauses -/
def caughtBy (P : Prog) (c : String) : List String → Bool := fun cs => cs.any fun d => P.sub c d
/-- the clause's name, for the suite -/
def bindX (i : Option Nat) (x : T) (ρ : Rho) : Rho := match i with
  | some i => ρ.set i (some x)
  | none => ρ
def unbindX (i : Option Nat) (ρ : Rho) : Rho := match i with
  | some i => ρ.set i none
  | none => ρ
def mapFl (f : Rho → Rho) : Fl → Fl
  | .nx ρ => .nx (f ρ)
  | .brk ρ => .brk (f ρ)
  | .cnt ρ => .cnt (f ρ)
  | .ret v => .ret v
mutual
def exS (K : Cn) : LS → Rho → Heap → Rs Fl
  | .expr e, ρ, h => (evE K e ρ h).bind fun _ h => .ok (.nx ρ) h
  | .set i e, ρ, h => (evE K e ρ h).bind fun x h => .ok (.nx (ρ.set i (some x))) h
  | .unp g e, ρ, h => (evE K e ρ h).bind fun x h => Rs.of ((bindTg g x h ρ).map .nx) h
  | .par is es, ρ, h => (evEs K es ρ h).bind fun xs h => if xs.length = is.length then .ok (.nx ((is.zip xs).foldl (fun r p => r.set p.1 (some p.2)) ρ)) h else .stuck
  | .sattr o f e, ρ, h => (evE K e ρ h).bind fun v h => (evE K o ρ h).bind fun x h => (Rs.of (setA K.P h x f v) h).bind fun h2 _ => .ok (.nx ρ) h2
  | .sidx o i e, ρ, h => (evE K e ρ h).bind fun v h => (evE K o ρ h).bind fun x h => (evE K i ρ h).bind fun k h => match x with
    | .loc n => (match h[n]?, k with
      | some (.lst xs), .int z => (match place xs.length z with
        | some j => .ok (.nx ρ) (h.set n (.lst (xs.set j v)))
        | none => .stuck)
      | some (.dct ks vs), k => if okKey ks k ∧ ks.length < top then .ok (.nx ρ) (h.set n (.dct (kput ks vs k v).1 (kput ks vs k v).2)) else .stuck
      | _, _ => .stuck)
    | _ => .stuck
  | .unpA os fs e, ρ, h => (evE K e ρ h).bind fun x h => match view h x with
    | some (.tup xs) => if xs.length = os.length then (setAs K ρ os fs xs h).bind fun _ h => .ok (.nx ρ) h else .stuck
    | _ => .stuck
  | .aug i o e, ρ, h => match ρ[i]? with
    | some (some x) => (evE K e ρ h).bind fun y h => Rs.of ((augop o x y).map fun z => .nx (ρ.set i (some z))) h
    | _ => .stuck
  | .augA o f op e, ρ, h => (evE K o ρ h).bind fun x h => if clsOf h x = none then .stuck else (Rs.of (attrOf K.P h x f) h).bind fun v h1 => (evE K e ρ h1).bind fun y h2 => (Rs.of (augop op v y) h2).bind fun z h2 => if clsOf h1 x = clsOf h2 x then (Rs.of (setA K.P h2 x f z) h2).bind fun h3 _ => .ok (.nx ρ) h3 else .stuck
  | .ret e, ρ, h => (evE K e ρ h).bind fun x h => .ok (.ret x) h
  | .retN, _, h => .ok (.ret .non) h
  | .iff c a b, ρ, h => (evE K c ρ h).bind fun x h => match truth h x with
    | some true => exSs K a ρ h
    | some false => exSs K b ρ h
    | none => .stuck
  | .whl n c b, ρ, h => wloop (fun ρ h => (evE K c ρ h).bind fun x h => Rs.of (truth h x) h) (fun ρ h => exSs K b ρ h) n ρ h
  | .for g k it b, ρ, h => (evEs K it ρ h).bind fun xs h => match walked k h xs with
    | some (xs, gs) => loop (still gs) (fun x ρ h => withB (bindTg g x h ρ) fun ρ => exSs K b ρ h) xs ρ h
    | none => .stuck
  | .pass, ρ, h => .ok (.nx ρ) h
  | .brk, ρ, h => .ok (.brk ρ) h
  | .cnt, ρ, h => .ok (.cnt ρ) h
  | .raise c es, ρ, h => if 2 ≤ K.lvl then (evEs K es ρ h).bind fun xs h => .exc (.exn c xs) h else .stuck
  | .try b hs, ρ, h => match exSs K b ρ h with
    | .ok fl h => .ok fl h
    | .exc (.exn c vs) h => exH K hs c vs ρ h
    | _ => .stuck
  | .hnd _ _ _, _, _ => .stuck
  | .frz i, ρ, h => match ρ[i]? with
    | some (some (.loc n)) => (match h[n]? with
      | some (.lst xs) => .ok (.nx (ρ.set i (some (.lst xs)))) (h.set n .dead)
      | some (.dct ks vs) => .ok (.nx (ρ.set i (some (.dct ks vs)))) (h.set n .dead)
      | _ => .stuck)
    | _ => .stuck
def exSs (K : Cn) : List LS → Rho → Heap → Rs Fl
  | [], ρ, h => .ok (.nx ρ) h
  | s :: ss, ρ, h => (exS K s ρ h).bind fun fl h => match fl with
    | .nx ρ => exSs K ss ρ h
    | fl => .ok fl h
/-- the clauses of a try -/
def exH (K : Cn) : List LS → String → List T → Rho → Heap → Rs Fl
  | [], c, vs, _, h => .exc (.exn c vs) h
  | .hnd cs i s :: hs, c, vs, ρ, h => if caughtBy K.P c cs then (exSs K s (bindX i (.exn c vs) ρ) h).calm.bind fun fl h => .ok (mapFl (unbindX i) fl) h else exH K hs c vs ρ h
  | _ :: _, _, _, _, _ => .stuck
end

/-- each old place is as it was, or a list without places -/
def keeps : Heap → Heap → Bool
  | [], _ => true
  | _ :: _, [] => false
  | o :: h0, p :: h => (decide (p = o) || (match p with | .lst xs => T.withins 0 xs | _ => false)) && keeps h0 h
/-- a call's end: mode 1 leaves the heap as it was, mode 2 leaves its old places -/
def leave (mode : Nat) (h0 h : Heap) (v : T) : Rs T :=
  if mode = 1 then (if h.take h0.length = h0 ∧ v.within h0.length = true then .ok v h0 else .stuck)
  else if mode = 2 then (if v.within h0.length = true ∧ keeps h0 h = true then .ok v (h.take h0.length) else .stuck)
  else .ok v h
def runFn (K : Cn) (f : Fn) (xs : List T) (h : Heap) : Rs T :=
  if xs.length = f.np then
    (exSs K f.body (xs.map some ++ List.replicate (f.ns - f.np) none) h).bind fun fl h' => match fl with
      | .ret v => leave f.mode h h' v
      | .nx _ => leave f.mode h h' .non
      | _ => .stuck
  else .stuck
def call (P : Prog) : Nat → String → List T → Heap → Rs T
  | 0, _, _, _ => .stuck
  | n + 1, f, xs, h => match P.fn f with
    | some d => runFn { P := P, call := call P n, init := fun f xs h => (match n with | 0 => .stuck | m + 1 => call P m f xs h), lvl := n } d xs h
    | none => .stuck
/-- the calls of a body at a level -/
def cnOf (P : Prog) (n : Nat) : Cn := { P := P, call := call P n, init := fun f xs h => (match n with | 0 => .stuck | m + 1 => call P m f xs h), lvl := n }
theorem call_up {P : Prog} {f : String} {d : Fn} (e : P.fn f = some d) (n : Nat) (xs : List T) (h : Heap) : call P (n + 1) f xs h = runFn (cnOf P n) d xs h := by
  rw [call, e]
  rfl
end Lite

/-! LITE: the order of data, sorting. No model in sight. -/
namespace Lite
/-! ### lists of ints, by their first difference -/
theorem lexI_refl : ∀ a, lexI a a = false
  | [] => rfl
  | a :: as => by simp [lexI, lexI_refl as]
theorem lexI_asym : ∀ a b, lexI a b = true → lexI b a = false
  | [], [], h => by cases h
  | [], _ :: _, _ => rfl
  | _ :: _, [], h => by cases h
  | a :: as, b :: bs, h => by
    simp only [lexI, Bool.or_eq_true, decide_eq_true_eq, Bool.and_eq_true] at h
    simp only [lexI, Bool.or_eq_false_iff, decide_eq_false_iff_not, Bool.and_eq_false_iff]
    rcases h with h | ⟨rfl, h⟩
    · exact ⟨by omega, .inl (by omega)⟩
    · exact ⟨by omega, .inr (lexI_asym as bs h)⟩
theorem lexI_tr : ∀ a b c, lexI b a = false → lexI c b = false → lexI c a = false
  | [], [], [], _, _ => rfl
  | [], [], _ :: _, _, _ => rfl
  | [], _ :: _, [], _, h => by cases h
  | [], _ :: _, _ :: _, _, _ => rfl
  | _ :: _, [], _, h, _ => by cases h
  | a :: as, b :: bs, [], _, h => by cases h
  | a :: as, b :: bs, c :: cs, h, k => by
    simp only [lexI, Bool.or_eq_false_iff, decide_eq_false_iff_not, Bool.and_eq_false_iff] at h k ⊢
    refine ⟨by omega, ?_⟩
    by_cases e : c = a
    · right
      have e1 : b = a := by omega
      have e2 : c = b := by omega
      have h2 := h.2.resolve_left fun z => z e1
      have k2 := k.2.resolve_left fun z => z e2
      exact lexI_tr as bs cs h2 k2
    · exact .inl e
theorem lexI_tot : ∀ a b, lexI a b = false → lexI b a = false → a = b
  | [], [], _, _ => rfl
  | [], _ :: _, h, _ => by cases h
  | _ :: _, [], _, h => by cases h
  | a :: as, b :: bs, h, k => by
    simp only [lexI, Bool.or_eq_false_iff, decide_eq_false_iff_not, Bool.and_eq_false_iff] at h k
    have e : a = b := by omega
    subst e
    have h2 := h.2.resolve_left fun z => z rfl
    have k2 := k.2.resolve_left fun z => z rfl
    rw [lexI_tot as bs h2 k2]
theorem lexI_app : ∀ (p r s : List Int), lexI (p ++ r) (p ++ s) = lexI r s
  | [], _, _ => rfl
  | a :: p, r, s => by simp [lexI, lexI_app p r s]

theorem upI_eq (c : Nat) : upI c = (c : Int) + 1 := rfl
mutual
theorem T.nob_flat : ∀ x : T, x.nob = true → x.flat = true
  | .non, _ => rfl
  | .int _, _ => rfl
  | .str s, h => h
  | .tup xs, h => T.nobs_flat xs h
  | .lst xs, h => T.nobs_flat xs h
  | .bl _, h => by cases h
  | .dct _ _, h => by cases h
  | .loc _, h => by cases h
  | .fn _, h => by cases h
  | .cls _, h => by cases h
  | .exn _ _, h => by cases h
theorem T.nobs_flat : ∀ xs : List T, T.nobs xs = true → T.flats xs = true
  | [], _ => rfl
  | x :: xs, h => by
    simp only [T.nobs, Bool.and_eq_true] at h
    simp only [T.flats, Bool.and_eq_true]
    exact ⟨T.nob_flat x h.1, T.nobs_flat xs h.2⟩
end
mutual
theorem T.nob_eq : ∀ x y : T, x.nob = true → y.nob = true → T.eqv x y = decide (x = y)
  | .non, y, _, h => by cases y <;> first | (cases h; done) | (simp [T.eqv])
  | .int a, y, _, h => by cases y <;> first | (cases h; done) | (simp [T.eqv] <;> done) | (rename_i b; by_cases e : a = b <;> simp [T.eqv, e])
  | .str a, y, _, h => by cases y <;> first | (cases h; done) | (simp [T.eqv] <;> done) | (rename_i b; by_cases e : a = b <;> simp [T.eqv, e])
  | .tup xs, y, g, h => by
    cases y <;> first | (cases h; done) | (simp [T.eqv] <;> done) | skip
    rename_i ys
    simp only [T.eqv, T.nobs_eq xs ys g h]
    by_cases e : xs = ys <;> simp [e]
  | .lst xs, y, g, h => by
    cases y <;> first | (cases h; done) | (simp [T.eqv] <;> done) | skip
    rename_i ys
    simp only [T.eqv, T.nobs_eq xs ys g h]
    by_cases e : xs = ys <;> simp [e]
  | .bl _, _, h, _ => by cases h
  | .dct _ _, _, h, _ => by cases h
  | .loc _, _, h, _ => by cases h
  | .fn _, _, h, _ => by cases h
  | .cls _, _, h, _ => by cases h
  | .exn _ _, _, h, _ => by cases h
theorem T.nobs_eq : ∀ xs ys : List T, T.nobs xs = true → T.nobs ys = true → T.eqvs xs ys = decide (xs = ys)
  | [], [], _, _ => by simp [T.eqvs]
  | [], _ :: _, _, _ => by simp [T.eqvs]
  | _ :: _, [], _, _ => by simp [T.eqvs]
  | x :: xs, y :: ys, g, h => by
    simp only [T.nobs, Bool.and_eq_true] at g h
    simp only [T.eqvs, T.nob_eq x y g.1 h.1, T.nobs_eq xs ys g.2 h.2]
    by_cases e : x = y <;> by_cases f : xs = ys <;> simp [e, f]
end
mutual
def T.lt : T → T → Bool
  | .int a, .int b => decide (a < b)
  | .str a, .str b => lexLt a b
  | .tup xs, .tup ys => T.lts xs ys
  | _, _ => false
def T.lts : List T → List T → Bool
  | [], ys => !ys.isEmpty
  | _ :: _, [] => false
  | x :: xs, y :: ys => if T.eqv x y then T.lts xs ys else T.lt x y
end
theorem lexLt_enc : ∀ (a b : List Nat) (r s : List Int), a ≠ b → lexI (a.map upI ++ 0 :: r) (b.map upI ++ 0 :: s) = lexLt a b
  | [], [], _, _, h => absurd rfl h
  | [], b :: bs, _, _, _ => by
    have e : (0 : Int) < upI b := by rw [upI_eq]; omega
    simp [lexI, lexLt, e]
  | a :: as, [], _, _, _ => by
    have e : ¬ (upI a = 0) := by rw [upI_eq]; omega
    have e2 : ¬ (upI a < 0) := by rw [upI_eq]; omega
    simp [lexI, lexLt, e, e2]
  | a :: as, b :: bs, r, s, h => by
    simp only [List.map_cons, List.cons_append, lexI, lexLt]
    by_cases e : a = b
    · subst e
      have := lexLt_enc as bs r s (fun z => h (by rw [z]))
      simp [this]
    · have e1 : ¬ (upI a = upI b) := by rw [upI_eq, upI_eq]; omega
      have e3 : (upI a < upI b) ↔ a < b := by rw [upI_eq, upI_eq]; omega
      simp [e, e1, e3]
mutual
theorem T.lt_enc : ∀ (x y : T) (r s : List Int), x.nob = true → y.nob = true → T.cmpA x y = true → x ≠ y → lexI (x.enc ++ r) (y.enc ++ s) = T.lt x y
  | .int a, .int b, r, s, _, _, _, h => by
    have e : ¬ a = b := fun z => h (by rw [z])
    simp [T.enc, lexI, T.lt, e]
  | .str a, .str b, r, s, _, _, _, h => by
    have e : a ≠ b := fun z => h (by rw [z])
    simp only [T.enc, T.lt, List.append_assoc, List.singleton_append]
    exact lexLt_enc a b r s e
  | .tup xs, .tup ys, r, s, g, k, c, h => by
    have e : xs ≠ ys := fun z => h (by rw [z])
    simp only [T.enc, T.lt, List.append_assoc, List.singleton_append]
    exact T.lts_enc xs ys r s g k (by simpa [T.cmpA] using c) e
  | .int _, .str _, _, _, _, _, c, _ => by simp [T.cmpA] at c
  | .int _, .tup _, _, _, _, _, c, _ => by simp [T.cmpA] at c
  | .int _, .non, _, _, _, _, c, _ => by simp [T.cmpA] at c
  | .int _, .bl _, _, _, _, _, c, _ => by simp [T.cmpA] at c
  | .int _, .lst _, _, _, _, _, c, _ => by simp [T.cmpA] at c
  | .int _, .dct _ _, _, _, _, _, c, _ => by simp [T.cmpA] at c
  | .int _, .loc _, _, _, _, _, c, _ => by simp [T.cmpA] at c
  | .int _, .fn _, _, _, _, _, c, _ => by simp [T.cmpA] at c
  | .int _, .cls _, _, _, _, _, c, _ => by simp [T.cmpA] at c
  | .int _, .exn _ _, _, _, _, _, c, _ => by simp [T.cmpA] at c
  | .str _, .int _, _, _, _, _, c, _ => by simp [T.cmpA] at c
  | .str _, .tup _, _, _, _, _, c, _ => by simp [T.cmpA] at c
  | .str _, .non, _, _, _, _, c, _ => by simp [T.cmpA] at c
  | .str _, .bl _, _, _, _, _, c, _ => by simp [T.cmpA] at c
  | .str _, .lst _, _, _, _, _, c, _ => by simp [T.cmpA] at c
  | .str _, .dct _ _, _, _, _, _, c, _ => by simp [T.cmpA] at c
  | .str _, .loc _, _, _, _, _, c, _ => by simp [T.cmpA] at c
  | .str _, .fn _, _, _, _, _, c, _ => by simp [T.cmpA] at c
  | .str _, .cls _, _, _, _, _, c, _ => by simp [T.cmpA] at c
  | .str _, .exn _ _, _, _, _, _, c, _ => by simp [T.cmpA] at c
  | .tup _, .int _, _, _, _, _, c, _ => by simp [T.cmpA] at c
  | .tup _, .str _, _, _, _, _, c, _ => by simp [T.cmpA] at c
  | .tup _, .non, _, _, _, _, c, _ => by simp [T.cmpA] at c
  | .tup _, .bl _, _, _, _, _, c, _ => by simp [T.cmpA] at c
  | .tup _, .lst _, _, _, _, _, c, _ => by simp [T.cmpA] at c
  | .tup _, .dct _ _, _, _, _, _, c, _ => by simp [T.cmpA] at c
  | .tup _, .loc _, _, _, _, _, c, _ => by simp [T.cmpA] at c
  | .tup _, .fn _, _, _, _, _, c, _ => by simp [T.cmpA] at c
  | .tup _, .cls _, _, _, _, _, c, _ => by simp [T.cmpA] at c
  | .tup _, .exn _ _, _, _, _, _, c, _ => by simp [T.cmpA] at c
  | .non, _, _, _, _, _, c, _ => by simp [T.cmpA] at c
  | .bl _, _, _, _, _, _, c, _ => by simp [T.cmpA] at c
  | .lst _, _, _, _, _, _, c, _ => by simp [T.cmpA] at c
  | .dct _ _, _, _, _, _, _, c, _ => by simp [T.cmpA] at c
  | .loc _, _, _, _, _, _, c, _ => by simp [T.cmpA] at c
  | .fn _, _, _, _, _, _, c, _ => by simp [T.cmpA] at c
  | .cls _, _, _, _, _, _, c, _ => by simp [T.cmpA] at c
  | .exn _ _, _, _, _, _, _, c, _ => by simp [T.cmpA] at c
theorem T.lts_enc : ∀ (xs ys : List T) (r s : List Int), T.nobs xs = true → T.nobs ys = true → T.cmpAs xs ys = true → xs ≠ ys → lexI (T.encs xs ++ 0 :: r) (T.encs ys ++ 0 :: s) = T.lts xs ys
  | [], [], _, _, _, _, _, h => absurd rfl h
  | [], y :: ys, _, _, _, _, _, _ => by simp [T.encs, T.lts, lexI]
  | x :: xs, [], _, _, _, _, _, _ => by simp [T.encs, T.lts, lexI]
  | x :: xs, y :: ys, r, s, g, k, c, h => by
    simp only [T.nobs, Bool.and_eq_true] at g k
    simp only [T.cmpAs, Bool.and_eq_true, Bool.or_eq_true] at c
    have q := T.nob_eq x y g.1 k.1
    simp only [T.encs, T.lts, List.cons_append, lexI, List.append_assoc]
    by_cases e : x = y
    · subst e
      rw [decide_eq_true rfl] at q
      rw [if_pos q, lexI_app]
      have := T.lts_enc xs ys r s g.2 k.2 c.2 (fun z => h (by rw [z]))
      simp [this]
    · rw [decide_eq_false e] at q
      rw [if_neg (by rw [q]; simp)]
      have := T.lt_enc x y (T.encs xs ++ 0 :: r) (T.encs ys ++ 0 :: s) g.1 k.1 (c.1.resolve_left (by rw [q]; simp)) e
      simp [this]
end
/-- at the top, too, where just the first difference is asked for -/
theorem lts_top : ∀ (xs ys : List T) (r s : List Int), T.nobs xs = true → T.nobs ys = true → cmpTop xs ys = true → xs ≠ ys → lexI (T.encs xs ++ 0 :: r) (T.encs ys ++ 0 :: s) = T.lts xs ys
  | [], [], _, _, _, _, _, h => absurd rfl h
  | [], y :: ys, _, _, _, _, _, _ => by simp [T.encs, T.lts, lexI]
  | x :: xs, [], _, _, _, _, _, _ => by simp [T.encs, T.lts, lexI]
  | x :: xs, y :: ys, r, s, g, k, c, h => by
    simp only [T.nobs, Bool.and_eq_true] at g k
    have q := T.nob_eq x y g.1 k.1
    simp only [T.encs, T.lts, List.cons_append, lexI, List.append_assoc]
    unfold cmpTop at c
    by_cases e : x = y
    · subst e
      rw [decide_eq_true rfl] at q
      rw [if_pos q] at c
      rw [if_pos q, lexI_app]
      have := lts_top xs ys r s g.2 k.2 c (fun z => h (by rw [z]))
      simp [this]
    · rw [decide_eq_false e] at q
      rw [if_neg (by rw [q]; simp)] at c
      rw [if_neg (by rw [q]; simp)]
      have := T.lt_enc x y (T.encs xs ++ 0 :: r) (T.encs ys ++ 0 :: s) g.1 k.1 c e
      simp [this]
theorem lts_refl : ∀ xs : List T, T.nobs xs = true → T.lts xs xs = false
  | [], _ => rfl
  | x :: xs, h => by
    simp only [T.nobs, Bool.and_eq_true] at h
    simp only [T.lts]
    rw [if_pos (by rw [T.nob_eq x x h.1 h.1]; simp)]
    exact lts_refl xs h.2
end Lite

/-! LITE, 2: how trees and the list-heap stand in the hand layer's abstract heap. -/
namespace Lite
open PySem L2

/-- the text of signs -/
def tx (s : List Nat) : Str := ⟨s.toArray⟩
theorem tx_inj {a b : List Nat} (h : tx a = tx b) : a = b := by
  unfold tx at h
  injection h with h1
  have := congrArg Array.toList h1
  simpa using this

/-- what is fixed through a row: the model's side and ours; nm: a canonical name's name in the row -/
structure GD where
  prog : Program
  w : World
  K : PySem.W.Frag
  mg : Str → Option Value
  base : PySem.Heap
  P : Prog
  nm : String → Str
  fa : String → Option Addr
  ca : String → Option Addr

/-- a list of the written part -/
def WrL (K : PySem.W.Frag) (a : Addr) (vs : List V) : Prop :=
  ∃ (its : List Value) (n : Nat), K.lookup a = some { cls := .type "list", data := .seq its.toArray n } ∧ vs.length ≤ sizeLine ∧ Vals vs its
/-- a list that is never written -/
def FzL (K : PySem.W.Frag) (H : Hp) (a : Addr) (vs : List V) : Prop := (∃ o, H a = some (.frz o (.lst vs))) ∨ WrL K a vs
theorem FzL.sq {K : PySem.W.Frag} {H : Hp} {a : Addr} {vs : List V} (h : FzL K H a vs) : SqL K H a vs := by
  rcases h with ⟨o, h⟩ | ⟨its, n, e, z, r⟩
  · exact .inl (.inr ⟨o, h⟩)
  · exact .inr ⟨_, its.toArray, n, e, rfl, rfl, rfl, by rw [List.size_toArray, ← r.length]; exact z, by simpa using r⟩
/-- a list, as one object -/
def ExL (K : PySem.W.Frag) (H : Hp) (a : Addr) (vs : List V) : Prop := H a = some (.lst vs) ∨ FzL K H a vs
theorem ExL.sq {K : PySem.W.Frag} {H : Hp} {a : Addr} {vs : List V} (h : ExL K H a vs) : SqL K H a vs := by
  rcases h with h | h
  · exact .inl (.inl h)
  · exact h.sq

/-- the key that a tree is: an int or a text; a tuple of such -/
def key1 : T → Option Key
  | .int i => some (.inl i)
  | .str s => some (.inr (tx s))
  | _ => none
def keys1 : List T → Option (List Key)
  | [] => some []
  | x :: xs => match key1 x, keys1 xs with
    | some k, some ks => some (k :: ks)
    | _, _ => none
mutual
/-- the library's key -/
def keyD : T → NestedKey
  | .int i => .num i
  | .bl b => .num (if b = true then 1 else 0)
  | .str s => .text (tx s)
  | .tup xs => .tup (keyDs xs)
  | _ => .none
def keyDs : List T → List NestedKey
  | [] => []
  | x :: xs => keyD x :: keyDs xs
end
/-- a dict's entries, its keys tuples -/
inductive Ent : List T → List V → List V → List (NestedKey × Addr × Value) → Prop
  | nil : Ent [] [] [] []
  | cons {t : T} {ad : Addr} {v : V} {u : Value} {ts : List T} {kvs vs : List V} {xs : List (NestedKey × Addr × Value)} (k : nestT t = true) (r : RelV v u) (e : Ent ts kvs vs xs) : Ent (t :: ts) (.ref ad :: kvs) (v :: vs) ((keyD t, ad, u) :: xs)
/-- a dict whose keys are tuples of any depth -/
def nDict (P : Program) (w : World) (a : Addr) (xs : List (NestedKey × Addr × Value)) : HO :=
  .ext fun h => ((a == sysModules) = false ∧ xs.length ≤ sizeLine) ∧ ∃ o es ep, h.get? a = some o ∧ o.ExactDict ∧ o.data = .dict es ep ∧ es.toList = xs.map (entryOfKey (nestedKind P w)) ∧ (xs.map (·.1)).Nodup
/-- a dict's content: by ints and texts, or by tuples of such -/
def DU (P : Program) (w : World) (a : Addr) (ks : List T) (kvs vs : List V) (u : HO) : Prop :=
  (∃ κs, keys1 ks = some κs ∧ κs.length = vs.length ∧ kvs = κs.map kV ∧ u = .dK (κs.zip vs)) ∨ ∃ xs, Ent ks kvs vs xs ∧ u = nDict P w a xs
/-- a dict of the written part -/
def WrD (G : GD) (a : Addr) (ks : List T) (kvs vs : List V) : Prop :=
  ∃ κs us, keys1 ks = some κs ∧ κs.length = vs.length ∧ kvs = κs.map kV ∧ Vals vs us ∧ (a == sysModules) = false ∧ vs.length ≤ sizeLine ∧ (∀ h : PySem.Heap, G.K.In h → h.DictOf (mixKind G.prog G.w) a (κs.zip us)) ∧ ∃ es n, G.K.lookup a = some ⟨.type "dict", none, .dict es n, #[]⟩
/-- a dict that is never written -/
def FzD (G : GD) (H : Hp) (a : Addr) (ks : List T) (kvs vs : List V) : Prop := (∃ o u, H a = some (.frz o u) ∧ DU G.prog G.w a ks kvs vs u) ∨ WrD G a ks kvs vs
/-- an exception that was made, or caught -/
def XV (cls : Value) (d : Option Addr) (a : Addr) : HO := .ext fun h => ∃ oe vs, h.get? a = some oe ∧ Zc cls d oe ∧ oe.data = .fields vs
theorem xv_ok {P : Program} {w : World} {H : Hp} {h : PySem.Heap} {a : Addr} {cls : Value} {d : Option Addr} {oe : Obj} {vs : Array Value} (e : h.get? a = some oe) (z : Zc cls d oe) (hd : oe.data = .fields vs) : ObjOk P w H h a (XV cls d a) :=
  ⟨⟨oe, vs, e, z, hd⟩, ⟨oe, e⟩, fun _ _ ⟨o, v, q, r⟩ k => ⟨o, v, k o q, r⟩⟩
/-! ### the relation -/
mutual
inductive VR (G : GD) (R : List Addr) (H : Hp) : T → V → Prop where
  | non : VR G R H .non .non
  | bl (b : Bool) : VR G R H (.bl b) (.bl b)
  | int (i : Int) : VR G R H (.int i) (.int i)
  | str (s : List Nat) : VR G R H (.str s) (.str (tx s))
  | tup {xs : List T} {a : Addr} {vs : List V} (h : SqT G.K H a vs) (r : VRs G R H xs vs) : VR G R H (.tup xs) (.ref a)
  | lst {xs : List T} {a : Addr} {vs : List V} (h : FzL G.K H a vs) (r : VRs G R H xs vs) : VR G R H (.lst xs) (.ref a)
  | dct {ks ys : List T} {a : Addr} {kvs vs : List V} (h : FzD G H a ks kvs vs) (rk : VRs G R H ks kvs) (r : VRs G R H ys vs) : VR G R H (.dct ks ys) (.ref a)
  | loc {n : Nat} {a : Addr} (h : R[n]? = some a) : VR G R H (.loc n) (.ref a)
  | fn {f : String} {a : Addr} (h : G.fa f = some a) : VR G R H (.fn f) (.ref a)
  | cls {c : String} {a : Addr} (h : G.ca c = some a) : VR G R H (.cls c) (.ref a)
  | exn {c : String} {x : T} {a dd C : Addr} {f : String} {v : V} {oe od : Obj} (hc : G.ca c = some C) (hf : G.P.exf c = some f) (ha : H a = some (.frz oe (XV (.ref C) (some dd) a))) (hd : H dd = some (.frz od (.xd [(Str.ofString f, v)]))) (r : VR G R H x v) : VR G R H (.exn c [x]) (.ref a)
inductive VRs (G : GD) (R : List Addr) (H : Hp) : List T → List V → Prop where
  | nil : VRs G R H [] []
  | cons {x : T} {v : V} {xs : List T} {vs : List V} (h : VR G R H x v) (r : VRs G R H xs vs) : VRs G R H (x :: xs) (v :: vs)
end

/-- what is never written -/
def FT : HO → Prop
  | .tup _ => True
  | .frz _ _ => True
  | _ => False
/-- a later state -/
structure Lq (R : List Addr) (H : Hp) (R' : List Addr) (H' : Hp) : Prop where
  pre : ∀ (n : Nat) (a : Addr), R[n]? = some a → R'[n]? = some a
  new : ∀ a ∈ R', a ∉ R → H a = none
  keep : ∀ b o, H b = some o → (b ∉ R ∨ FT o) → H' b = some o
theorem Lq.refl (R : List Addr) (H : Hp) : Lq R H R H := ⟨fun _ _ h => h, fun _ h n => absurd h n, fun _ _ h _ => h⟩
theorem Lq.trans {R R1 R2 : List Addr} {H H1 H2 : Hp} (a : Lq R H R1 H1) (b : Lq R1 H1 R2 H2) : Lq R H R2 H2 where
  pre n x h := b.pre n x (a.pre n x h)
  new x h n := by
    by_cases q : x ∈ R1
    · exact a.new x q n
    · have z := b.new x h q
      cases e : H x with
      | none => rfl
      | some o =>
        have := a.keep x o e (.inl n)
        rw [this] at z
        cases z
  keep x o h c := by
    have h1 := a.keep x o h c
    refine b.keep x o h1 ?_
    rcases c with c | c
    · left
      intro q
      have z := a.new x q c
      rw [z] at h
      cases h
    · exact .inr c
/-- nothing but new things -/
theorem Lq.all {R : List Addr} {H H' : Hp} (k : ∀ b o, H b = some o → H' b = some o) : Lq R H R H' := ⟨fun _ _ h => h, fun _ h n => absurd h n, fun b o h _ => k b o h⟩

/-- what is never written stays -/
structure Lf (R : List Addr) (H : Hp) (R' : List Addr) (H' : Hp) : Prop where
  pre : ∀ (n : Nat) (a : Addr), R[n]? = some a → R'[n]? = some a
  keep : ∀ b o, H b = some o → FT o → H' b = some o
theorem Lf.refl (R : List Addr) (H : Hp) : Lf R H R H := ⟨fun _ _ h => h, fun _ _ h _ => h⟩
theorem Lf.trans {R R1 R2 : List Addr} {H H1 H2 : Hp} (a : Lf R H R1 H1) (b : Lf R1 H1 R2 H2) : Lf R H R2 H2 := ⟨fun n x h => b.pre n x (a.pre n x h), fun x o h f => b.keep x o (a.keep x o h f) f⟩
theorem Lq.lf {R R' : List Addr} {H H' : Hp} (q : Lq R H R' H') : Lf R H R' H' := ⟨q.pre, fun b o e f => q.keep b o e (.inr f)⟩
section
variable {G : GD} {R R' : List Addr} {H H' : Hp}
theorem Lf.sqT {a : Addr} {vs : List V} (q : Lf R H R' H') (h : SqT G.K H a vs) : SqT G.K H' a vs := by
  rcases h with h | h
  · rcases h with h | ⟨o, h⟩
    · exact .inl (.inl (q.keep _ _ h trivial))
    · exact .inl (.inr ⟨o, q.keep _ _ h trivial⟩)
  · exact .inr h
theorem Lf.fzL {a : Addr} {vs : List V} (q : Lf R H R' H') (h : FzL G.K H a vs) : FzL G.K H' a vs := by
  rcases h with ⟨o, h⟩ | h
  · exact .inl ⟨o, q.keep _ _ h trivial⟩
  · exact .inr h
theorem Lf.fzD {a : Addr} {ks : List T} {kvs vs : List V} (q : Lf R H R' H') (h : FzD G H a ks kvs vs) : FzD G H' a ks kvs vs := by
  rcases h with ⟨o, u, h, d⟩ | h
  · exact .inl ⟨o, u, q.keep _ _ h trivial, d⟩
  · exact .inr h
mutual
theorem VR.monoF (q : Lf R H R' H') : ∀ {t : T} {v : V}, VR G R H t v → VR G R' H' t v
  | _, _, .non => .non
  | _, _, .bl b => .bl b
  | _, _, .int i => .int i
  | _, _, .str s => .str s
  | _, _, .tup h r => .tup (q.sqT h) (VRs.monoF q r)
  | _, _, .lst h r => .lst (q.fzL h) (VRs.monoF q r)
  | _, _, .dct h rk r => .dct (q.fzD h) (VRs.monoF q rk) (VRs.monoF q r)
  | _, _, .loc h => .loc (q.pre _ _ h)
  | _, _, .fn h => .fn h
  | _, _, .cls h => .cls h
  | _, _, .exn hc hf ha hd r => .exn hc hf (q.keep _ _ ha trivial) (q.keep _ _ hd trivial) (VR.monoF q r)
theorem VRs.monoF (q : Lf R H R' H') : ∀ {xs : List T} {vs : List V}, VRs G R H xs vs → VRs G R' H' xs vs
  | _, _, .nil => .nil
  | _, _, .cons h r => .cons (VR.monoF q h) (VRs.monoF q r)
end
theorem VR.mono (q : Lq R H R' H') {t : T} {v : V} (r : VR G R H t v) : VR G R' H' t v := r.monoF q.lf
theorem VRs.mono (q : Lq R H R' H') {xs : List T} {vs : List V} (r : VRs G R H xs vs) : VRs G R' H' xs vs := r.monoF q.lf
theorem VRs.length : ∀ {xs : List T} {vs : List V}, VRs G R H xs vs → xs.length = vs.length
  | _, _, .nil => rfl
  | _, _, .cons _ r => by simp [VRs.length r]
theorem VRs.get : ∀ {xs : List T} {vs : List V} {i : Nat} {x : T}, VRs G R H xs vs → xs[i]? = some x → ∃ v, vs[i]? = some v ∧ VR G R H x v
  | _, _, i, x, .nil, e => by simp at e
  | _, _, 0, x, .cons h r, e => by simp at e; subst e; exact ⟨_, by simp, h⟩
  | _, _, i + 1, x, .cons h r, e => by
    simp at e
    obtain ⟨v, h1, h2⟩ := VRs.get r e
    exact ⟨v, by simpa using h1, h2⟩
theorem VRs.getV : ∀ {xs : List T} {vs : List V} {i : Nat} {v : V}, VRs G R H xs vs → vs[i]? = some v → ∃ x, xs[i]? = some x ∧ VR G R H x v
  | _, _, i, x, .nil, e => by simp at e
  | _, _, 0, x, .cons h r, e => by simp at e; subst e; exact ⟨_, by simp, h⟩
  | _, _, i + 1, x, .cons h r, e => by
    simp at e
    obtain ⟨v, h1, h2⟩ := VRs.getV r e
    exact ⟨v, by simpa using h1, h2⟩
theorem VRs.append : ∀ {xs ys : List T} {vs us : List V}, VRs G R H xs vs → VRs G R H ys us → VRs G R H (xs ++ ys) (vs ++ us)
  | _, _, _, _, .nil, s => s
  | _, _, _, _, .cons h r, s => .cons h (VRs.append r s)
theorem VRs.set {y : T} {u : V} (hy : VR G R H y u) : ∀ {xs : List T} {vs : List V} (i : Nat), VRs G R H xs vs → VRs G R H (xs.set i y) (vs.set i u)
  | _, _, _, .nil => .nil
  | _, _, 0, .cons _ r => .cons hy r
  | _, _, i + 1, .cons h r => .cons h (VRs.set hy i r)
theorem VRs.take : ∀ {xs : List T} {vs : List V} (n : Nat), VRs G R H xs vs → VRs G R H (xs.take n) (vs.take n)
  | _, _, 0, _ => by simp; exact .nil
  | _, _, _ + 1, .nil => .nil
  | _, _, n + 1, .cons h r => .cons h (VRs.take n r)
theorem VRs.drop : ∀ {xs : List T} {vs : List V} (n : Nat), VRs G R H xs vs → VRs G R H (xs.drop n) (vs.drop n)
  | _, _, 0, r => r
  | _, _, _ + 1, .nil => .nil
  | _, _, n + 1, .cons _ r => VRs.drop n r
/-! places below n only: the same under a shorter table -/
mutual
theorem VR.shrink {n : Nat} (p : ∀ k, k < n → ∀ a, R'[k]? = some a → R[k]? = some a) : ∀ {t : T} {v : V}, t.within n = true → VR G R' H t v → VR G R H t v
  | _, _, _, .non => .non
  | _, _, _, .bl b => .bl b
  | _, _, _, .int i => .int i
  | _, _, _, .str s => .str s
  | _, _, w, .tup h r => .tup h (VRs.shrink p (by simpa [T.within] using w) r)
  | _, _, w, .lst h r => .lst h (VRs.shrink p (by simpa [T.within] using w) r)
  | _, _, w, .dct h rk r => .dct h (VRs.shrink p (by simp [T.within] at w; exact w.1) rk) (VRs.shrink p (by simp [T.within] at w; exact w.2) r)
  | _, _, w, .loc h => .loc (p _ (by simpa [T.within] using w) _ h)
  | _, _, _, .fn h => .fn h
  | _, _, _, .cls h => .cls h
  | _, _, w, .exn hc hf ha hd r => .exn hc hf ha hd (VR.shrink p (by simp [T.within, T.withins] at w; exact w) r)
theorem VRs.shrink {n : Nat} (p : ∀ k, k < n → ∀ a, R'[k]? = some a → R[k]? = some a) : ∀ {xs : List T} {vs : List V}, T.withins n xs = true → VRs G R' H xs vs → VRs G R H xs vs
  | _, _, _, .nil => .nil
  | _, _, w, .cons h r => .cons (VR.shrink p (by simp [T.withins] at w; exact w.1) h) (VRs.shrink p (by simp [T.withins] at w; exact w.2) r)
end
/-! what is related lies within the table -/
mutual
theorem within_up {n : Nat} : ∀ {t : T}, t.within 0 = true → t.within n = true
  | .non, _ => rfl
  | .bl _, _ => rfl
  | .int _, _ => rfl
  | .str _, _ => rfl
  | .tup xs, h => by simp only [T.within] at h ⊢; exact withins_up h
  | .lst xs, h => by simp only [T.within] at h ⊢; exact withins_up h
  | .dct ks ys, h => by simp only [T.within, Bool.and_eq_true] at h ⊢; exact ⟨withins_up h.1, withins_up h.2⟩
  | .loc k, h => by simp [T.within] at h
  | .fn _, _ => rfl
  | .cls _, _ => rfl
  | .exn _ vs, h => by simp only [T.within] at h ⊢; exact withins_up h
theorem withins_up {n : Nat} : ∀ {xs : List T}, T.withins 0 xs = true → T.withins n xs = true
  | [], _ => rfl
  | x :: xs, h => by simp only [T.withins, Bool.and_eq_true] at h ⊢; exact ⟨within_up h.1, withins_up h.2⟩
end
mutual
theorem VR.within : ∀ {t : T} {v : V}, VR G R H t v → t.within R.length = true
  | _, _, .non => rfl
  | _, _, .bl b => rfl
  | _, _, .int i => rfl
  | _, _, .str s => rfl
  | _, _, .tup h r => by simpa [T.within] using VRs.within r
  | _, _, .lst h r => by simpa [T.within] using VRs.within r
  | _, _, .dct h rk r => by simp [T.within, VRs.within r, VRs.within rk]
  | _, _, .loc h => by simpa [T.within] using (List.getElem?_eq_some_iff.mp h).1
  | _, _, .fn h => rfl
  | _, _, .cls h => rfl
  | _, _, .exn _ _ _ _ r => by simp [T.within, T.withins, VR.within r]
theorem VRs.within : ∀ {xs : List T} {vs : List V}, VRs G R H xs vs → T.withins R.length xs = true
  | _, _, .nil => rfl
  | _, _, .cons h r => by simp [T.withins, VR.within h, VRs.within r]
end
end

/-- an instance's fields -/
inductive FR (G : GD) (R : List Addr) (H : Hp) : List (String × T) → List (Str × V) → Prop where
  | nil : FR G R H [] []
  | cons {n : String} {x : T} {v : V} {fs : List (String × T)} {gs : List (Str × V)} (h : VR G R H x v) (r : FR G R H fs gs) : FR G R H ((n, x) :: fs) ((Str.ofString n, v) :: gs)
/-- what stands at a place -/
def OR (G : GD) (R : List Addr) (H : Hp) (a : Addr) : O → Prop
  | .lst xs => ∃ vs, H a = some (.lst vs) ∧ VRs G R H xs vs
  | .dct ks ys => ∃ u kvs vs, H a = some u ∧ DU G.prog G.w a ks kvs vs u ∧ VRs G R H ks kvs ∧ VRs G R H ys vs
  | .ins c fs => ∃ C dx gs, G.ca c = some C ∧ H a = some (.ins C dx gs) ∧ FR G R H fs gs
  | .dead => True
structure HRel (G : GD) (h : Heap) (R : List Addr) (H : Hp) : Prop where
  len : R.length = h.length
  nd : R.Nodup
  live : ∀ a ∈ R, H a ≠ none
  obj : ∀ (n : Nat) (o : O) (a : Addr), h[n]? = some o → R[n]? = some a → OR G R H a o
section
variable {G : GD} {R R' : List Addr} {H H' : Hp} {h : Heap}
theorem FR.monoF (q : Lf R H R' H') : ∀ {fs : List (String × T)} {gs : List (Str × V)}, FR G R H fs gs → FR G R' H' fs gs
  | _, _, .nil => .nil
  | _, _, .cons h r => .cons (h.monoF q) (FR.monoF q r)
theorem FR.mono (q : Lq R H R' H') {fs : List (String × T)} {gs : List (Str × V)} (r : FR G R H fs gs) : FR G R' H' fs gs := r.monoF q.lf
theorem OR.monoF (q : Lf R H R' H') {a : Addr} (ha : ∀ o, H a = some o → H' a = some o) : ∀ {o : O}, OR G R H a o → OR G R' H' a o
  | .lst _, ⟨vs, e, r⟩ => ⟨vs, ha _ e, r.monoF q⟩
  | .dct _ _, ⟨u, kvs, vs, e, d, rk, r⟩ => ⟨u, kvs, vs, ha _ e, d, rk.monoF q, r.monoF q⟩
  | .ins _ _, ⟨C, dx, gs, c, e, r⟩ => ⟨C, dx, gs, c, ha _ e, r.monoF q⟩
  | .dead, _ => trivial
theorem OR.mono (q : Lq R H R' H') {a : Addr} (ha : ∀ o, H a = some o → H' a = some o) {o : O} (r : OR G R H a o) : OR G R' H' a o := r.monoF q.lf ha
/-- a thing that is none of ours is written -/
theorem HRel.aside {D : Addr} {u0 u : HO} (hr : HRel G h R H) (hD : D ∉ R) (e : H D = some u0) (nft : ¬ FT u0) : HRel G h R (upd H D u) ∧ Lf R H R (upd H D u) := by
  have lf : Lf R H R (upd H D u) := ⟨fun _ _ z => z, fun b o z f => by
    by_cases w : b = D
    · subst w; rw [e] at z; cases z; exact absurd f nft
    · rw [upd_ne w]; exact z⟩
  have ne : ∀ a ∈ R, a ≠ D := fun a ha z => hD (z ▸ ha)
  refine ⟨⟨hr.len, hr.nd, fun a ha => by rw [upd_ne (ne a ha)]; exact hr.live a ha, fun n o a e1 e2 => ?_⟩, lf⟩
  exact (hr.obj n o a e1 e2).monoF lf fun o z => by rw [upd_ne (ne a (List.mem_of_getElem? e2))]; exact z
/-- the abstract heap only grew -/
theorem HRel.grow (hr : HRel G h R H) (k : ∀ b o, H b = some o → H' b = some o) : HRel G h R H' where
  len := hr.len
  nd := hr.nd
  live a ha e := by
    cases q : H a with
    | none => exact hr.live a ha q
    | some o => rw [k a o q] at e; cases e
  obj n o a e1 e2 := (hr.obj n o a e1 e2).mono (Lq.all k) (k a)
theorem HRel.at (hr : HRel G h R H) {n : Nat} {o : O} (e : h[n]? = some o) : ∃ a, R[n]? = some a ∧ OR G R H a o := by
  have hn := (List.getElem?_eq_some_iff.mp e).1
  rw [← hr.len] at hn
  exact ⟨R[n], by simp [hn], hr.obj n o _ e (by simp [hn])⟩
/-- a new tracked thing -/
theorem HRel.push {p : Addr} {u : HO} {o : O} (hr : HRel G h R H) (hp : H p = none) (hu : H' = upd H p u) (ho : OR G (R ++ [p]) H' p o) : HRel G (h ++ [o]) (R ++ [p]) H' ∧ Lq R H (R ++ [p]) H' := by
  subst hu
  have hpR : p ∉ R := fun q => hr.live p q hp
  have k : ∀ b o, H b = some o → upd H p u b = some o := fun b o e => by rw [upd_ne (ne_of_none e hp)]; exact e
  have lq : Lq R H (R ++ [p]) (upd H p u) := ⟨fun n a e => by rw [List.getElem?_append_left (List.getElem?_eq_some_iff.mp e).1]; exact e, fun a ha n => by
    rcases List.mem_append.mp ha with z | z
    · exact absurd z n
    · rw [List.mem_singleton.mp z]; exact hp, fun b o e _ => k b o e⟩
  refine ⟨⟨by simp [hr.len], ?_, fun a ha => ?_, fun n o' a e1 e2 => ?_⟩, lq⟩
  · rw [List.nodup_append]
    exact ⟨hr.nd, by simp, fun a ha b hb => by simp at hb; subst hb; intro z; exact hpR (z ▸ ha)⟩
  · rcases List.mem_append.mp ha with z | z
    · cases q : H a with
      | none => exact absurd q (hr.live a z)
      | some o => rw [k a o q]; simp
    · rw [List.mem_singleton.mp z, upd_same]; simp
  · by_cases hn : n < h.length
    · rw [List.getElem?_append_left hn] at e1
      rw [List.getElem?_append_left (by rw [hr.len]; exact hn)] at e2
      exact (hr.obj n o' a e1 e2).mono lq (k a)
    · have hn' : n = h.length := by
        have := (List.getElem?_eq_some_iff.mp e1).1
        simp at this
        omega
      subst hn'
      simp at e1
      rw [← hr.len] at e2
      simp at e2
      subst e1 e2
      exact ho
theorem nodup_at {R : List Addr} (nd : R.Nodup) {n m : Nat} {a : Addr} (h1 : R[n]? = some a) (h2 : R[m]? = some a) : n = m := by
  obtain ⟨p, e⟩ := List.getElem?_eq_some_iff.mp h1
  obtain ⟨q, f⟩ := List.getElem?_eq_some_iff.mp h2
  exact (List.getElem_inj nd).mp (e.trans f.symm)
/-- a place is written -/
theorem HRel.put {n : Nat} {a : Addr} {u0 u : HO} {o : O} (hr : HRel G h R H) (hn : R[n]? = some a) (hu0 : H a = some u0) (nft : ¬ FT u0) (hu : H' = upd H a u) (ho : OR G R H' a o) : HRel G (h.set n o) R H' ∧ Lq R H R H' := by
  subst hu
  have k : ∀ b o, b ≠ a → H b = some o → upd H a u b = some o := fun b o z e => by rw [upd_ne z]; exact e
  have haR : a ∈ R := List.mem_of_getElem? hn
  have lq : Lq R H R (upd H a u) := ⟨fun _ _ e => e, fun _ z n => absurd z n, fun b o e c => by
    refine k b o ?_ e
    rintro rfl
    rcases c with c | c
    · exact c haR
    · rw [hu0] at e; cases e; exact nft c⟩
  refine ⟨⟨by simp [hr.len], hr.nd, fun b hb => ?_, fun m o' b e1 e2 => ?_⟩, lq⟩
  · by_cases z : b = a
    · subst z; rw [upd_same]; simp
    · rw [upd_ne z]; exact hr.live b hb
  · by_cases z : m = n
    · subst z
      rw [hn] at e2
      cases e2
      have hm : m < h.length := by rw [← hr.len]; exact (List.getElem?_eq_some_iff.mp hn).1
      rw [List.getElem?_set_self hm] at e1
      cases e1
      exact ho
    · rw [List.getElem?_set_ne (Ne.symm z)] at e1
      have zb : b ≠ a := fun e => z (nodup_at hr.nd e2 (e ▸ hn))
      exact (hr.obj m o' b e1 e2).mono lq fun o e => k b o zb e
end

/-! ### the slots -/
def ERel (G : GD) (R : List Addr) (H : Hp) (ρ : Rho) (σ : St) : Prop := ρ.length = σ.length ∧ ∀ (i : Nat) (t : T), ρ[i]? = some (some t) → ∃ v, σ[i]? = some (some v) ∧ VR G R H t v
structure SR (G : GD) (ρ : Rho) (h : Heap) (R : List Addr) (σ : St) (H : Hp) : Prop where
  hr : HRel G h R H
  er : ERel G R H ρ σ
section
variable {G : GD} {R R' : List Addr} {H H' : Hp} {h h' : Heap} {ρ : Rho} {σ : St}
theorem ERel.mono (q : Lq R H R' H') (e : ERel G R H ρ σ) : ERel G R' H' ρ σ := ⟨e.1, fun i t z => let ⟨v, a, b⟩ := e.2 i t z; ⟨v, a, b.mono q⟩⟩
theorem ERel.set {t : T} {v : V} (e : ERel G R H ρ σ) (i : Nat) (r : VR G R H t v) : ERel G R H (ρ.set i (some t)) (σ.set i (some v)) := by
  refine ⟨by simp [e.1], fun j u z => ?_⟩
  by_cases q : j = i
  · subst q
    have hj := (List.getElem?_eq_some_iff.mp z).1
    simp at hj
    rw [List.getElem?_set_self hj] at z
    cases z
    exact ⟨v, by rw [List.getElem?_set_self (by rw [← e.1]; exact hj)], r⟩
  · rw [List.getElem?_set_ne (Ne.symm q)] at z
    obtain ⟨w, a, b⟩ := e.2 j u z
    exact ⟨w, by rw [List.getElem?_set_ne (Ne.symm q)]; exact a, b⟩
theorem ERel.drop (e : ERel G R H ρ σ) (i : Nat) (x : Option V) : ERel G R H (ρ.set i none) (σ.set i x) := by
  refine ⟨by simp [e.1], fun j u z => ?_⟩
  by_cases q : j = i
  · subst q
    have hj := (List.getElem?_eq_some_iff.mp z).1
    simp at hj
    rw [List.getElem?_set_self hj] at z
    cases z
  · rw [List.getElem?_set_ne (Ne.symm q)] at z
    obtain ⟨w, a, b⟩ := e.2 j u z
    exact ⟨w, by rw [List.getElem?_set_ne (Ne.symm q)]; exact a, b⟩
theorem ERel.wipe (e : ERel G R H ρ σ) : ∀ own : List Nat, ERel G R H (Lite.wipe ρ own) (L2.wipe σ own)
  | [] => e
  | i :: own => (ERel.wipe e own).drop i none
theorem SR.next (s : SR G ρ h R σ H) (q : Lq R H R' H') (hr : HRel G h' R' H') : SR G ρ h' R' σ H' := ⟨hr, s.er.mono q⟩
end

/-! ### ends of a run -/
def Sat {α : Type} (r : Rs α) (Q : α → Heap → Prop) (X : T → Heap → Prop) : Prop := match r with
  | .ok a h => Q a h
  | .exc e h => X e h
  | .stuck => False
theorem Sat.bind {α β : Type} {r : Rs α} {f : α → Heap → Rs β} {Q : β → Heap → Prop} {X : T → Heap → Prop} : Sat (r.bind f) Q X ↔ Sat r (fun a h => Sat (f a h) Q X) X := by
  cases r <;> exact Iff.rfl
theorem Sat.imp {α : Type} {r : Rs α} {Q Q' : α → Heap → Prop} {X X' : T → Heap → Prop} (s : Sat r Q X) (hq : ∀ a h, Q a h → Q' a h) (hx : ∀ e h, X e h → X' e h) : Sat r Q' X' := by
  cases r with
  | ok a h => exact hq a h s
  | exc e h => exact hx e h s
  | stuck => exact s
theorem Sat.of {α : Type} {o : Option α} {h : Heap} {Q : α → Heap → Prop} {X : T → Heap → Prop} (s : Sat (Rs.of o h) Q X) : ∃ a, o = some a ∧ Q a h := by
  cases o with
  | none => exact s.elim
  | some a => exact ⟨a, rfl, s⟩
/-- an exception's object -/
def XR (G : GD) (R : List Addr) (H : Hp) (e : T) (cls : Value) (d : Option Addr) : Prop := ∃ c vs C, e = .exn c vs ∧ G.ca c = some C ∧ cls = .ref C ∧
  ∃ x v da od f, vs = [x] ∧ d = some da ∧ G.P.exf c = some f ∧ VR G R H x v ∧ H da = some (.frz od (.xd [(Str.ofString f, v)]))
section
variable (G : GD) (R : List Addr) (H : Hp)
def PostE (Q : VK) : T → Heap → Prop := fun t h' => ∀ R' H' v, Lq R H R' H' → HRel G h' R' H' → VR G R' H' t v → Q v H'
def PostEs (Q : List V → Hp → Prop) : List T → Heap → Prop := fun ts h' => ∀ R' H' vs, Lq R H R' H' → HRel G h' R' H' → VRs G R' H' ts vs → Q vs H'
def PostB (Q : Bool → Hp → Prop) : Bool → Heap → Prop := fun b h' => ∀ R' H', Lq R H R' H' → HRel G h' R' H' → Q b H'
def PostX (W : Value → Option Addr → Hp → Prop) : T → Heap → Prop := fun e h' => ∀ R' H' cls d, Lq R H R' H' → HRel G h' R' H' → XR G R' H' e cls d → W cls d H'
def PostS (D : Ends) : Fl → Heap → Prop := fun fl h' => match fl with
  | .nx ρ => ∀ R' H' σ, Lq R H R' H' → HRel G h' R' H' → ERel G R' H' ρ σ → D.nx σ H'
  | .brk ρ => ∀ R' H' σ, Lq R H R' H' → HRel G h' R' H' → ERel G R' H' ρ σ → D.bk σ H'
  | .cnt ρ => ∀ R' H' σ, Lq R H R' H' → HRel G h' R' H' → ERel G R' H' ρ σ → D.ct σ H'
  | .ret t => ∀ R' H' v, Lq R H R' H' → HRel G h' R' H' → VR G R' H' t v → D.rt v H'
end
end Lite

/-! LITE, 3: the promise of a def by the interpreter, calls, contexts, readings. -/
namespace Lite
open PySem L2 PySem.Spec
open PyProof.Rows hiding St

/-! ### promises of defs, where no repr is under way -/
structure FnG (G : GD) (k : Nat) (f : Addr) (fd : FuncData) (ps : List Str) (sp : Sp) : Prop where
  len : ∀ xs H Q E, sp xs H Q E → xs.length = ps.length
  run : ∀ (A : Around) (out : List Env) (s : Shared) (H : Hp) (args : Args) (us : List Value) (xs : List V) (Q : VK) (E : XK), Room k A → A.guards = some [] → Env0 G.prog G.w G.K G.mg G.base A out s H →
    BindsTo s fd args (ps.zip us) → Vals xs us → sp xs H Q E → codeAny (model G.prog G.w) A (.call (.ref f) args) (CR (CX G.prog G.w) out G.prog G.w H s Q E) s

/-- a def by its body -/
theorem fnG_of {G : GD} {k : Nat} {f : Addr} {name qual : Str} {params : Arguments} {body : List Stmt} {scope : Scope} {dV kV doc pm cdv ct oc : Value} {an od : Option Addr} {osl : Array (Option Value)} {N ps : List Str} {sp : Sp}
    (lk : G.K.lookup f = some ⟨oc, od, .func (PySem.W.fnOf name qual params body scope dV kV doc pm an cdv ct), osl⟩) (hcd : PySem.W.codeIn G.K cdv qual = true) (S : FnScope N ps scope) (len : ∀ xs H Q E, sp xs H Q E → xs.length = ps.length)
    (hbody : ∀ (A : Around) (out : List Env) (s : Shared) (H : Hp) (xs : List V) (Q : VK) (E : XK), Room k (A.deeper (envOfC qual scope s.heap.objs.size f cdv)) → A.guards = some [] → sp xs H Q E →
      ∃ t, PSs (cxOf (CX G.prog G.w) G.prog G.w G.K G.mg G.base N qual scope f cdv A out s H E) body t ∧ t { nx := fun _ H' => Q .non H', rt := Q } (start N xs) H) :
    FnG G (k + 1) f (PySem.W.fnOf name qual params body scope dV kV doc pm an cdv ct) ps sp := by
  refine ⟨len, fun A out s H args us xs Q E hr hg e0 hb r hsp => ?_⟩
  have hl := len _ _ _ _ hsp
  have KX : G.K.In s.heap := e0.mod.kin.keeps (fun b o e => (e0.bs b o e).1)
  have lim : s.heap.NoLimit := e0.mod.nolimit.keeps (fun b o e => (e0.bs b o e).1)
  have hkind : ∀ y ∈ ps.zip us, scope.names.lookup y.1 = some .local ∨ (scope.names.lookup y.1 = some .cell ∧ ((cellsFrom (s.heap.objs.size + 1) scope.names []).lookup y.1).isSome = true) := by
    rintro ⟨n, v⟩ hy
    cases S.par n (List.of_mem_zip hy).1 with
    | inl q => exact .inl q
    | inr q => exact .inr ⟨q, PySem.W.cellsFrom_some _ _ _ (.inl q)⟩
  refine codeAny_call_function hr.depth (KX _ _ lk) rfl S.co S.gen rfl (PySem.W.codeRec_of KX hcd) (hb _ _ _ _ (wpAny_newFunctionEnv_cells S.kind hkind fun env he s1 x => ?_))
  subst he
  refine ⟨lim.keeps x.toInCall.keep, codeAny_func ?_⟩
  obtain ⟨t, ht, hq⟩ := hbody A out s H xs Q E (hr.deeper _) hg hsp
  have I := inv_start (CX := CX G.prog G.w) (P := G.prog) (w := G.w) (f := f) (cd := cdv) (E := E) (qual := qual) S hr.hd e0 hl r x
  refine wpAny_mono (ht.run [] s1 (start N xs) H _ I hq) (fun fl s' hs => ?_) (fun _ _ z => z)
  have fin : ∀ {σ' : St} {H' : Hp} {v : V} {u : Value}, Inv (cxOf (CX G.prog G.w) G.prog G.w G.K G.mg G.base N qual scope f cdv A out s H E) [] σ' H' s' → RelV v u → Q v H' → CE out G.prog G.w H s Q u s' :=
    fun {σ' H' v u} J rv q => ⟨v, H', J.os, J.bare, J.base, J.hok, rv, q⟩
  cases fl with
  | ret u => obtain ⟨v, σ', H', J, rv, q⟩ := hs; exact fin J rv q
  | next => obtain ⟨σ', H', J, q⟩ := hs; exact fin (v := V.non) (u := Value.none) J rfl q
  | brk => obtain ⟨_, _, _, q⟩ := hs; exact q.elim
  | cont => obtain ⟨_, _, _, q⟩ := hs; exact q.elim

section
variable {X : L2.Cx} {pins : List (Addr × Obj)} {σ : St} {H : Hp} {s : Shared} {Q : VK} {E : XK} {k : Nat} {f C : Addr} {fd : FuncData} {ps : List Str} {sp : Sp} {us ds : List Value} {xs dvs : List V}
/-- the model's side of X is G's -/
structure Same5 (G : GD) (X : L2.Cx) : Prop where
  prog : X.prog = G.prog
  w : X.w = G.w
  K : X.K = G.K
  mg : X.mg = G.mg
  base : X.base = G.base
theorem run_fnG {G : GD} (S : Same5 G X) (F : FnG G k f fd ps sp) (hr : Room k X.A) (hg : X.A.guards = some []) (hb : Binds G.K fd ps ds) (hd : Vals dvs ds) {W : WX} (tk : Takes X W) (hW : ∀ cls d H', E cls d H' → W cls d σ H')
    (I : Inv X pins σ H s) (r : Vals xs us) (h : sp (xs ++ dvs) H Q E) : wpAny (model X.prog X.w) X.A (PySem.call (.ref f) us) (EP X pins σ Q) X.xe s := by
  have r2 := r.append hd
  have hl : (us ++ ds).length = ps.length := by rw [← r2.length]; exact F.len _ _ _ _ h
  have KI : G.K.In s.heap := S.K ▸ I.kIn
  have e0 : Env0 G.prog G.w G.K G.mg G.base X.A X.stack s H := by
    have z := I.env0
    rw [S.prog, S.w, S.K, S.mg, S.base] at z
    exact z
  rw [S.prog, S.w]
  refine wpAny_call (codeAny_mono (F.run X.A X.stack s H ⟨us, []⟩ (us ++ ds) (xs ++ dvs) Q E hr hg e0 (hb s us KI hl) r2 h) fun r s' hq => ?_)
  rcases r with e | fl
  · exact tk e s' (XE.of_call (E := E) I hW (by rw [S.prog, S.w]; exact hq))
  · cases fl with
    | ret u => exact I.after (by rw [S.prog, S.w]; exact hq)
    | _ => exact (show False from hq).elim
theorem guards_make {A : Around} (h : A.guards = some []) (C : Addr) (us : List Value) : (A.under (.builtin "type.__call__" ⟨.ref C :: us, []⟩)).guards = some [] := by
  have e : (Code.builtin "type.__call__" ⟨.ref C :: us, []⟩).guards = [] := by
    have z : (Code.builtin "type.__call__" ⟨.ref C :: us, []⟩).isGuard = false := by show guardIds.contains "type.__call__" = false; decide +kernel
    unfold Code.guards
    rw [z]; rfl
  unfold Around.under
  show pushGuards (Code.builtin "type.__call__" ⟨.ref C :: us, []⟩).guards A.guards = some []
  rw [e]
  exact h
theorem run_makeG {G : GD} (S : Same5 G X) (M : Mk G.K C f) (F : FnG G k f fd ps sp) (hr : Room (k + 1) X.A) (hg : X.A.guards = some []) (hb : Binds G.K fd ps ds) (hd : Vals dvs ds) {W : WX} (tk : Takes X W) (hW : ∀ cls d H', E cls d H' → W cls d σ H')
    (I : Inv X pins σ H s) (r : Vals xs us) (h : ∀ x dx, H x = none → H dx = none → dx ≠ x → sp (.ref x :: (xs ++ dvs)) (upd (upd H dx (.own x)) x (.ins C dx [])) (fun v H2 => v = .non ∧ Q (.ref x) H2) E) :
    wpAny (model X.prog X.w) X.A (PySem.call (.ref C) us) (EP X pins σ Q) X.xe s := by
  have hq := h (s.heap.objs.size + 1) s.heap.objs.size (I.hok.fresh (Nat.le_succ _)) (I.hok.fresh (Nat.le_refl _)) (Nat.ne_of_lt (Nat.lt_succ_self _))
  have I2 := Inv.made (C := C) I
  have r2 : Vals (V.ref (s.heap.objs.size + 1) :: (xs ++ dvs)) (Value.ref (s.heap.objs.size + 1) :: (us ++ ds)) := .cons rfl (r.append hd)
  have hl : ((Value.ref (s.heap.objs.size + 1) :: us) ++ ds).length = ps.length := by
    have e := r2.length
    rw [F.len _ _ _ _ hq] at e
    exact e.symm
  have KI : X.K.In s.heap := I.kIn
  have KI2 : G.K.In _ := S.K ▸ I2.kIn
  have e0 := I2.env0
  rw [S.prog, S.w, S.K, S.mg, S.base] at e0
  rw [S.K] at KI
  have main := F.run _ X.stack _ _ ⟨Value.ref (s.heap.objs.size + 1) :: us, []⟩ (Value.ref (s.heap.objs.size + 1) :: (us ++ ds)) _ _ E (hr.make C us []) (guards_make hg C us) (e0.make C us []) (hb _ (Value.ref (s.heap.objs.size + 1) :: us) KI2 hl) r2 hq
  rw [S.prog, S.w]
  refine wpAny_call (make_map (f := f) KI M.makes M.init (beq_iff_eq.mp M.fn) (codeAny_mono main fun r s' hq' => ?_))
  rcases r with e | fl
  · exact tk e s' (XE.of_call (E := E) I2 hW (by rw [S.prog, S.w]; exact hq'))
  · cases fl with
    | ret u =>
      obtain ⟨v, H', I3, rv, ev, q3⟩ := I2.after (by rw [S.prog, S.w]; exact hq')
      subst ev
      exact ⟨rv, ⟨V.ref (s.heap.objs.size + 1), H', I3, rfl, q3⟩⟩
    | _ => exact (show False from hq').elim
end

/-! ### a new list is locked at once -/
section
variable {X : L2.Cx} {pins : List (Addr × Obj)} {σ : St} {H : Hp} {s : Shared}
theorem Inv.lock (I : Inv X pins σ H s) {p : Addr} {ys : List V} (hp : H p = some (.lst ys)) : ∃ o, Inv X pins σ (upd H p (.frz o (.lst ys))) s := by
  obtain ⟨z, its, n, r, e⟩ := I.hok p _ hp
  refine ⟨_, I.write (t' := s.toks) (h' := s.heap) (x := p) (e := p) (o := .frz _ (.lst ys)) (by rw [hp]; exact trivial) (.inl rfl) (fun _ _ _ q => q) ⟨_, e⟩ ⟨e, z, its, n, r, e⟩⟩
/-- a new list, or what it is when locked -/
def LockQ (Q : VK) : VK := fun v H' => ∃ p H1 ys, v = .ref p ∧ H1 p = none ∧ H' = upd H1 p (.lst ys) ∧ ∀ o, Q (.ref p) (upd H1 p (.frz o (.lst ys)))
theorem EP.lock {Q : VK} {u : Value} {s' : Shared} (h : EP X pins σ (LockQ Q) u s') : EP X pins σ Q u s' := by
  obtain ⟨v, H', I, r, p, H1, ys, rfl, hp, rfl, q⟩ := h
  obtain ⟨o, I2⟩ := Inv.lock I (p := p) upd_same
  rw [upd_upd] at I2
  exact ⟨.ref p, _, I2, r, q o⟩
theorem pe_lock {e : Expr} {t : TE} (h : PE X e t) : PE X e (fun σ H Q => t σ H (LockQ Q)) := ⟨fun pins s σ H Q I q => thn (h.run pins s σ H _ I q) fun _ _ z => EP.lock z⟩
theorem pe_imp {e : Expr} {t t' : TE} (h : PE X e t) (f : ∀ σ H Q, t' σ H Q → t σ H Q) : PE X e t' := ⟨fun pins s σ H Q I q => h.run pins s σ H Q I (f σ H Q q)⟩
theorem pt_imp {e : Expr} {t t' : TT} (h : PT X e t) (f : ∀ σ H Q, t' σ H Q → t σ H Q) : PT X e t' := ⟨fun pins s σ H Q I q => h.run pins s σ H Q I (f σ H Q q)⟩
theorem pa_imp {es : List Expr} {t t' : TA} (h : PA X es t) (f : ∀ σ H Q, t' σ H Q → t σ H Q) : PA X es t' := ⟨fun pos pins s σ H Q I q => h.run pos pins s σ H Q I (f σ H Q q)⟩
theorem ps_imp {st : Stmt} {t t' : TS} (h : PS X st t) (f : ∀ D σ H, t' D σ H → t D σ H) : PS X st t' := ⟨fun pins s σ H D I q => h.run pins s σ H D I (f D σ H q)⟩
theorem pss_imp {st : List Stmt} {t t' : TS} (h : PSs X st t) (f : ∀ D σ H, t' D σ H → t D σ H) : PSs X st t' := ⟨fun pins s σ H D I q => h.run pins s σ H D I (f D σ H q)⟩
end

/-! ### readings -/
section
variable (G : GD) (K : Cn) (W : WX)
def rdE (le : LE) : TE := fun σ H Q => ∃ ρ h R, SR G ρ h R σ H ∧ Sat (evE K le ρ h) (PostE G R H Q) (PostX G R H fun c d H' => W c d σ H')
def rdA (ls : List LE) : TA := fun σ H Q => ∃ ρ h R, SR G ρ h R σ H ∧ Sat (evEs K ls ρ h) (PostEs G R H Q) (PostX G R H fun c d H' => W c d σ H')
/-- an expression's truth -/
def rdT (le : LE) : TT := fun σ H Q => ∃ ρ h R, SR G ρ h R σ H ∧ Sat ((evE K le ρ h).bind fun x h => Rs.of (truth h x) h) (PostB G R H Q) (PostX G R H fun c d H' => W c d σ H')
end
end Lite

/-! LITE, 4: the operations. -/
namespace Lite
open PySem L2 PySem.Spec
open PyProof.Rows hiding St

section
variable {G : GD} {R : List Addr} {H : Hp} {h : Heap} {t : T} {v : V}
theorem view_loc (n : Nat) : view h (.loc n) = match h[n]? with
    | some (.lst xs) => some (.lst xs)
    | some (.dct ks vs) => some (.dct ks vs)
    | _ => none := rfl
theorem view_lst {xs : List T} (hr : HRel G h R H) (r : VR G R H t v) (e : view h t = some (.lst xs)) : ∃ a vs, v = .ref a ∧ ExL G.K H a vs ∧ VRs G R H xs vs := by
  cases r with
  | lst hf r => simp [view] at e; subst e; exact ⟨_, _, rfl, .inr hf, r⟩
  | @loc n a hn =>
    rw [view_loc] at e
    cases q : h[n]? with
    | none => rw [q] at e; cases e
    | some o =>
      rw [q] at e
      cases o with
      | lst ys =>
        simp at e; subst e
        obtain ⟨vs, z, r⟩ := hr.obj n _ a q hn
        exact ⟨a, vs, rfl, .inl z, r⟩
      | dct ks ys => simp at e
      | ins c fs => simp at e
      | dead => simp at e
  | _ => simp [view] at e
theorem view_tup {xs : List T} (hr : HRel G h R H) (r : VR G R H t v) (e : view h t = some (.tup xs)) : ∃ a vs, v = .ref a ∧ SqT G.K H a vs ∧ VRs G R H xs vs := by
  cases r with
  | tup hf r => simp [view] at e; subst e; exact ⟨_, _, rfl, hf, r⟩
  | @loc n a hn =>
    rw [view_loc] at e
    split at e <;> simp at e
  | _ => simp [view] at e
theorem view_int {i : Int} (r : VR G R H t v) (e : view h t = some (.int i)) : v = .int i := by
  cases r with
  | int j => simp [view] at e; rw [e]
  | @loc n a hn =>
    rw [view_loc] at e
    split at e <;> simp at e
  | _ => simp [view] at e
theorem view_str {i : List Nat} (r : VR G R H t v) (e : view h t = some (.str i)) : v = .str (tx i) := by
  cases r with
  | str j => simp [view] at e; rw [e]
  | @loc n a hn =>
    rw [view_loc] at e
    split at e <;> simp at e
  | _ => simp [view] at e
theorem view_bl {b : Bool} (r : VR G R H t v) (e : view h t = some (.bl b)) : v = .bl b := by
  cases r with
  | bl j => simp [view] at e; rw [e]
  | @loc n a hn =>
    rw [view_loc] at e
    split at e <;> simp at e
  | _ => simp [view] at e
theorem view_non (r : VR G R H t v) (e : view h t = some .non) : v = .non := by
  cases r with
  | non => rfl
  | @loc n a hn =>
    rw [view_loc] at e
    split at e <;> simp at e
  | _ => simp [view] at e
end

theorem tx_len (s : List Nat) : (tx s).length = s.length := by simp [tx, Str.length]
theorem tx_app (a b : List Nat) : tx a ++ tx b = tx (a ++ b) := by
  show Str.mk _ = Str.mk _
  simp [tx]
theorem top_eq : sizeLine = top := by decide

/-- an operation of ours on two values -/
def rO2 (G : GD) (f : Heap → T → T → Option T) : R2 := fun x y H Q => ∃ h R a b z, HRel G h R H ∧ VR G R H a x ∧ VR G R H b y ∧ f h a b = some z ∧ PostE G R H Q z h
section
variable {G : GD} {R : List Addr} {H : Hp} {h : Heap} {Q : VK}
/-- an answer that makes nothing -/
theorem PostE.here {t : T} {v : V} (p : PostE G R H Q t h) (hr : HRel G h R H) (r : VR G R H t v) : Q v H := p R H v (Lq.refl _ _) hr r
/-- a new locked list -/
theorem PostE.newF {xs : List T} {vs : List V} (p : PostE G R H Q (.lst xs) h) (hr : HRel G h R H) (r : VRs G R H xs vs) {a : Addr} (ha : H a = none) (o : Obj) : Q (.ref a) (upd H a (.frz o (.lst vs))) := by
  have k : ∀ b u, H b = some u → upd H a (.frz o (.lst vs)) b = some u := fun b u e => by rw [upd_ne (ne_of_none e ha)]; exact e
  exact p R _ _ (Lq.all k) (hr.grow k) (.lst (.inl ⟨o, upd_same⟩) (r.mono (Lq.all k)))
/-- a new tuple -/
theorem PostE.newT {xs : List T} {vs : List V} (p : PostE G R H Q (.tup xs) h) (hr : HRel G h R H) (r : VRs G R H xs vs) {a : Addr} (ha : H a = none) : Q (.ref a) (upd H a (.tup vs)) := by
  have k : ∀ b u, H b = some u → upd H a (.tup vs) b = some u := fun b u e => by rw [upd_ne (ne_of_none e ha)]; exact e
  exact p R _ _ (Lq.all k) (hr.grow k) (.tup (.inl (.inl upd_same)) (r.mono (Lq.all k)))
end

section
variable {G : GD} {X : L2.Cx} {pins : List (Addr × Obj)} {σ : St} {H : Hp} {s : Shared}
theorem Inv.exl (S : Same5 G X) (I : Inv X pins σ H s) {a : Addr} {vs : List V} (h : ExL G.K H a vs) :
    vs.length ≤ sizeLine ∧ ∃ (its : List Value) (n : Nat), Vals vs its ∧ s.heap.get? a = some { cls := .type "list", data := .seq its.toArray n } := by
  rcases h with h | ⟨o, h⟩ | ⟨its, n, e, z, r⟩
  · exact I.hok a _ h
  · obtain ⟨_, q⟩ := I.hok a _ h
    exact q
  · exact ⟨z, its, n, r, I.kIn a _ (by rw [S.K]; exact e)⟩
/-- a new list, locked -/
theorem Inv.newF (I : Inv X pins σ H s) {ys : List V} {its : List Value} {t' : Nat} (r : Vals ys its) (hz : ys.length ≤ sizeLine) :
    ∃ o, Inv X pins σ (upd H s.heap.objs.size (.frz o (.lst ys))) { s with heap := s.heap.push { cls := .type "list", data := .seq its.toArray }, toks := t' } := by
  refine ⟨_, I.laid (t' := t') (o := .frz _ (.lst ys)) (fun b ob q => Heap.get?_push_of_some _ q) (Nat.le_refl _) ⟨Heap.get?_push_size _ rfl, hz, its, 0, r, Heap.get?_push_size _ rfl⟩⟩
/-- two lists of any kind joined: a new locked list -/
def rCatF (G : GD) : R2 := fun x y H Q => ∃ a b xs zs, x = .ref a ∧ y = .ref b ∧ ExL G.K H a xs ∧ ExL G.K H b zs ∧ xs.length + zs.length ≤ sizeLine ∧ ∀ p o, H p = none → Q (.ref p) (upd H p (.frz o (.lst (xs ++ zs))))
theorem op_catF (S : Same5 G X) : OpR X (binaryOp .Add) (rCatF G) := by
  intro pins s σ H x y v u Q I rx ry hh
  obtain ⟨a, b, xs, zs, rfl, rfl, ha, hb, hz, q⟩ := hh
  cases rx
  cases ry
  obtain ⟨_, its, n, r, e⟩ := Inv.exl S I ha
  obtain ⟨_, its2, n2, r2, e2⟩ := Inv.exl S I hb
  have w1 := r.length
  have w2 := r2.length
  have ea : its.toArray ++ its2.toArray = (its ++ its2).toArray := by simp
  obtain ⟨o, I2⟩ := Inv.newF (t' := s.toks) I (r.append r2) (by rw [List.length_append]; exact hz)
  refine PySem.P.add_list e e2 ?_ (by rw [List.size_toArray, List.size_toArray]; omega)
  rw [ea]
  exact ⟨.ref _, _, I2, rfl, q _ o (I.hok.fresh (Nat.le_refl _))⟩
/-- ** of ints of some million bits -/
theorem op_powW : OpR X (binaryOp .Pow) (rI (fun i j => 0 ≤ j ∧ ((i.natAbs.log2 + 1 : Nat) : Int) * j ≤ 134217728) fun i j => .int (i ^ j.toNat)) := by
  refine opI fun i j t u s Q E hc q => ?_
  obtain ⟨h1, h2⟩ := hc
  refine PyProof.Rows.pow_int h1 ?_ q
  have b : (Builtin.Int.intBits i : Int) ≤ ((i.natAbs.log2 + 1 : Nat) : Int) := by
    unfold Builtin.Int.intBits
    split <;> omega
  have b2 := Int.mul_le_mul_of_nonneg_right b h1
  omega
/-- // of ints of any size by one of some thousand bits -/
theorem op_fdivL : OpR X (binaryOp .FloorDiv) (rI (fun _ j => j ≠ 0 ∧ j.natAbs.log2 < 9000) fun i j => .int (i.fdiv j)) := opI fun i j _ _ _ _ _ hc q => floordiv_int hc.1 q (.inl (PyProof.noPylong_of_log2 hc.2))
/-- an operation on two values, by ours -/
theorem op_bin (S : Same5 G X) : ∀ o : BOp, OpR X (binaryOp (match o with | .add => .Add | .sub => .Sub | .mul => .Mult | .fdiv => .FloorDiv | .mod => .Mod | .pow => .Pow)) (rO2 G (binop o)) := by
  intro o pins s σ H x y v u Q I rx ry hh
  obtain ⟨h, R, a, b, z, hr, va, vb, e, p⟩ := hh
  unfold binop at e
  split at e
  · rename_i i j e1 e2
    cases e
    exact op_add pins s σ H x y v u Q I rx ry ⟨_, _, view_int va e1, view_int vb e2, p.here hr (.int _)⟩
  · rename_i i j e1 e2
    split at e
    · rename_i hl
      cases e
      refine op_add_str pins s σ H x y v u Q I rx ry ⟨_, _, view_str va e1, view_str vb e2, by rw [tx_len, tx_len, top_eq]; exact hl, ?_⟩
      rw [tx_app]
      exact p.here hr (.str _)
    · cases e
  · rename_i i j e1 e2
    split at e
    · rename_i hl
      cases e
      obtain ⟨a1, xs, rfl, q1, r1⟩ := view_lst hr va e1
      obtain ⟨a2, ys, rfl, q2, r2⟩ := view_lst hr vb e2
      exact op_catF S pins s σ H _ _ v u Q I rx ry ⟨_, _, _, _, rfl, rfl, q1, q2, by rw [← r1.length, ← r2.length, top_eq]; exact hl, fun q o hq => p.newF hr (r1.append r2) hq o⟩
    · cases e
  · rename_i i j e1 e2
    split at e
    · rename_i hl
      cases e
      obtain ⟨a1, xs, rfl, q1, r1⟩ := view_tup hr va e1
      obtain ⟨a2, ys, rfl, q2, r2⟩ := view_tup hr vb e2
      refine op_catA pins s σ H _ _ v u Q I rx ry ⟨_, _, xs, ys, rfl, rfl, by rw [S.K]; exact q1, by rw [S.K]; exact q2, by rw [← r1.length, ← r2.length, top_eq]; exact hl, ?_, ?_, ?_⟩
      · rintro rfl
        cases r1
        exact p.here hr (.tup q2 r2)
      · rintro - rfl
        cases r2
        rw [List.append_nil] at p
        exact p.here hr (.tup q1 r1)
      · exact fun _ _ q hq => p.newT hr (r1.append r2) hq
    · cases e
  · rename_i i j e1 e2
    cases e
    exact op_sub pins s σ H x y v u Q I rx ry ⟨_, _, view_int va e1, view_int vb e2, p.here hr (.int _)⟩
  · rename_i i j e1 e2
    split at e
    · rename_i hl
      cases e
      refine op_mul pins s σ H x y v u Q I rx ry ⟨_, _, view_int va e1, view_int vb e2, ?_, p.here hr (.int _)⟩
      simp only [Lite.small64, Bool.or_eq_true, decide_eq_true_eq] at hl
      exact hl
    · cases e
  · rename_i t j e1 e2
    split at e
    · rename_i hl
      cases e
      rw [view_str va e1] at rx
      rw [view_int vb e2] at ry
      obtain ⟨k1, rfl⟩ := rx
      obtain ⟨k2, rfl⟩ := ry
      have hlen : (tx t).length = t.length := tx_len t
      have hm : t.length ≤ t.length * j.toNat := Nat.le_mul_of_pos_right _ (by omega)
      refine PySem.SB.mul ⟨?_, fun _ _ => ?_, fun _ _ => ?_⟩ fun t' k => ⟨.str _, H, I.tok k, ⟨t', rfl⟩, p.here hr (VR.str (G := G) _)⟩
      · have h1 : ¬ j < -(2 ^ 63 : Int) := by omega
        have h2 : ¬ j ≥ 2 ^ 63 := by omega
        rw [decide_eq_false h1, decide_eq_false h2]
        rfl
      · rw [hlen]
        refine Int.not_lt.mpr ((Int.le_ediv_iff_mul_le (by omega)).mpr ?_)
        have e : (t.length : Int) * j = ((t.length * j.toNat : Nat) : Int) := by rw [Int.natCast_mul, Int.toNat_of_nonneg (by omega)]
        rw [e]
        have h9 : t.length * j.toNat ≤ 16777216 := hl.2.1
        generalize t.length * j.toNat = w at h9 ⊢
        omega
      · rw [hlen]
        exact PyProof.Rows.short24 hl.2.1
    · cases e
  · rename_i i j e1 e2
    split at e
    · rename_i hl
      cases e
      exact op_fdivL pins s σ H x y v u Q I rx ry ⟨_, _, view_int va e1, view_int vb e2, hl, p.here hr (.int _)⟩
    · cases e
  · rename_i i j e1 e2
    split at e
    · rename_i hl
      cases e
      exact op_modN pins s σ H x y v u Q I rx ry ⟨_, _, view_int va e1, view_int vb e2, hl, p.here hr (.int _)⟩
    · cases e
  · rename_i i j e1 e2
    split at e
    · rename_i hl
      cases e
      exact op_powW pins s σ H x y v u Q I rx ry ⟨_, _, view_int va e1, view_int vb e2, hl, p.here hr (.int _)⟩
    · cases e
  · cases e
end
end Lite

/-! LITE, 4b: dicts. -/
namespace Lite
open PySem L2 PySem.Spec
open PyProof.Rows hiding St

theorem tx_beq (a b : List Nat) : (tx a == tx b) = (a == b) := by
  cases h : a == b with
  | true => rw [eq_of_beq h]; simp
  | false =>
    cases q : tx a == tx b with
    | false => rfl
    | true =>
      have := tx_inj (eq_of_beq q)
      subst this
      simp at h
theorem tx_dec (a b : List Nat) : decide (tx a = tx b) = (a == b) := by
  rw [← tx_beq, Bool.beq_eq_decide_eq]
/-! ### keys -/
theorem eqv_key1 {a b : T} {x y : Key} (ha : key1 a = some x) (hb : key1 b = some y) : T.eqv a b = decide (x = y) := by
  cases a <;> (try (cases ha; done)) <;> cases b <;> (try (cases hb; done))
  · cases ha; cases hb
    show (_ == _) = _
    rw [Bool.beq_eq_decide_eq]
    exact decide_eq_decide.mpr ⟨fun e => by rw [e], fun e => by injection e⟩
  · cases ha; cases hb; rfl
  · cases ha; cases hb; rfl
  · cases ha; cases hb
    show (_ == _) = _
    rw [Bool.beq_eq_decide_eq]
    exact decide_eq_decide.mpr ⟨fun e => by rw [e], fun e => tx_inj (by injection e)⟩
theorem key1_leaf {a : T} (h : leafT a = true) : ∃ x, key1 a = some x := by
  cases a <;> first | exact ⟨_, rfl⟩ | cases h
theorem leaf_key1 {a : T} {x : Key} (h : key1 a = some x) : leafT a = true := by
  cases a <;> first | rfl | cases h
theorem keys1_cons {x : T} {xs : List T} {κs : List Key} (e : keys1 (x :: xs) = some κs) : ∃ k ks, key1 x = some k ∧ keys1 xs = some ks ∧ κs = k :: ks := by
  simp only [keys1] at e
  split at e
  · rename_i k ks h1 h2; cases e; exact ⟨k, ks, h1, h2, rfl⟩
  · cases e
theorem keys1_len : ∀ {xs : List T} {κs : List Key}, keys1 xs = some κs → xs.length = κs.length
  | [], _, e => by cases e; rfl
  | x :: xs, _, e => by obtain ⟨k, ks, _, h, rfl⟩ := keys1_cons e; simp [keys1_len h]
theorem keys1_leaf : ∀ {xs : List T}, xs.all leafT = true → ∃ κs, keys1 xs = some κs
  | [], _ => ⟨_, rfl⟩
  | x :: xs, h => by
    simp only [List.all_cons, Bool.and_eq_true] at h
    obtain ⟨k, e1⟩ := key1_leaf h.1
    obtain ⟨ks, e2⟩ := keys1_leaf h.2
    exact ⟨k :: ks, by simp only [keys1, e1, e2]⟩
theorem leaf_keys1 : ∀ {xs : List T} {κs : List Key}, keys1 xs = some κs → xs.all leafT = true
  | [], _, _ => rfl
  | x :: xs, _, e => by
    obtain ⟨k, ks, h1, h, rfl⟩ := keys1_cons e
    simp [leaf_key1 h1, leaf_keys1 h]
theorem keys_vrs {G : GD} : ∀ {ks : List T} {κs : List Key}, keys1 ks = some κs → ∀ {R : List Addr} {H : Hp}, VRs G R H ks (κs.map kV)
  | [], _, e, _, _ => by cases e; exact .nil
  | k1 :: ks, _, e, R, H => by
    obtain ⟨κ, κt, h1, h2, rfl⟩ := keys1_cons e
    refine .cons ?_ (keys_vrs h2)
    cases k1 <;> first | (cases h1; done) | skip
    · cases h1; exact .int _
    · cases h1; exact .str _
theorem keyDs_map : ∀ xs : List T, keyDs xs = xs.map keyD
  | [] => rfl
  | x :: xs => by simp [keyDs, keyDs_map xs]
mutual
theorem kd_eqv : ∀ a b : T, a.kd = true → b.kd = true → T.eqv a b = NestedKey.beq (keyD a) (keyD b)
  | .non, b, _, h => by cases b <;> first | (simp [T.kd] at h; done) | rfl
  | .bl p, b, _, h => by
    cases b <;> first | (simp [T.kd] at h; done) | rfl | (rename_i q; cases p <;> cases q <;> rfl) | (rename_i q; show (_ == q) = decide _; rw [Bool.beq_eq_decide_eq])
  | .int p, b, _, h => by
    cases b <;> first | (simp [T.kd] at h; done) | rfl | (rename_i q; show (p == _) = decide _; rw [Bool.beq_eq_decide_eq])
  | .str p, b, _, h => by
    cases b <;> first | (simp [T.kd] at h; done) | rfl | skip
    rename_i q
    show (p == q) = decide _
    rw [tx_dec]
  | .tup p, b, g, h => by
    cases b <;> first | (simp [T.kd] at h; done) | rfl | skip
    rename_i q
    exact kds_eqv p q (by simpa [T.kd] using g) (by simpa [T.kd] using h)
  | .lst _, _, g, _ => by simp [T.kd] at g
  | .dct _ _, _, g, _ => by simp [T.kd] at g
  | .loc _, _, g, _ => by simp [T.kd] at g
  | .fn _, _, g, _ => by simp [T.kd] at g
  | .cls _, _, g, _ => by simp [T.kd] at g
  | .exn _ _, _, g, _ => by simp [T.kd] at g
theorem kds_eqv : ∀ a b : List T, T.kds a = true → T.kds b = true → T.eqvs a b = NestedKey.beqAll (keyDs a) (keyDs b)
  | [], b, _, _ => by cases b <;> rfl
  | x :: xs, b, g, h => by
    cases b with
    | nil => rfl
    | cons y ys =>
      simp only [T.kds, Bool.and_eq_true] at g h
      show (T.eqv x y && T.eqvs xs ys) = (NestedKey.beq (keyD x) (keyD y) && NestedKey.beqAll (keyDs xs) (keyDs ys))
      rw [kd_eqv x y g.1 h.1, kds_eqv xs ys g.2 h.2]
end
theorem nest_kd {t : T} (h : nestT t = true) : t.kd = true := by
  cases t <;> first | (cases h; done) | skip
  simp only [nestT, Bool.and_eq_true] at h
  simpa [T.kd] using h.1
theorem eqv_nest {a b : T} (ha : nestT a = true) (hb : nestT b = true) : T.eqv a b = decide (keyD a = keyD b) := by
  rw [kd_eqv a b (nest_kd ha) (nest_kd hb), NestedKey.decide_eq]
mutual
theorem keyD_depth : ∀ t : T, (keyD t).depth ≤ t.depth
  | .non => Nat.le_refl _
  | .bl _ => Nat.le_refl _
  | .int _ => Nat.le_refl _
  | .str _ => Nat.le_refl _
  | .tup xs => by
    simp only [keyD, NestedKey.depth, T.depth]
    exact Nat.succ_le_succ (keyDs_depth xs)
  | .lst _ => Nat.zero_le _
  | .dct _ _ => Nat.zero_le _
  | .loc _ => Nat.le_refl _
  | .fn _ => Nat.le_refl _
  | .cls _ => Nat.le_refl _
  | .exn _ _ => Nat.le_refl _
theorem keyDs_depth : ∀ xs : List T, NestedKey.depthAll (keyDs xs) ≤ T.depths xs
  | [] => Nat.le_refl _
  | x :: xs => by
    simp only [keyDs, NestedKey.depthAll, T.depths]
    have h1 := keyD_depth x
    have h2 := keyDs_depth xs
    omega
end
theorem nest_depth {t : T} (h : nestT t = true) : (keyD t).depth ≤ 8 := by
  have h1 := keyD_depth t
  cases t <;> first | (cases h; done) | skip
  simp only [nestT, Bool.and_eq_true, decide_eq_true_eq] at h
  have h2 := h.2
  simp only [T.depth] at h1
  omega

/-! ### dicts as they stand -/
section
variable {G : GD} {X : L2.Cx} {pins : List (Addr × Obj)} {σ : St} {H : Hp} {s : Shared} {R : List Addr} {h : Heap}
mutual
theorem VR.nested (S : Same5 G X) (I : Inv X pins σ H s) : ∀ {t : T} {v : V} {u : Value}, t.kd = true → VR G R H t v → RelV v u → NestedIs s.heap (keyD t) u
  | _, _, _, _, .non, r => by cases r; exact .none
  | _, _, _, _, .bl b, r => by cases r; exact .bool rfl
  | _, _, _, _, .int i, r => by obtain ⟨t, rfl⟩ := r; exact .int i t
  | _, _, _, _, .str z, r => by obtain ⟨t, rfl⟩ := r; exact .text _ t
  | _, _, _, f, .tup hq rv, r => by
    cases r
    rw [← S.K] at hq
    obtain ⟨its, r, ⟨o, e, c, n, d⟩, _⟩ := I.tuple hq
    exact .tup e c d (by simpa using VRs.nested S I (by simpa [T.kd] using f) rv r)
  | _, _, _, f, .lst _ _, _ => by simp [T.kd] at f
  | _, _, _, f, .dct _ _ _, _ => by simp [T.kd] at f
  | _, _, _, f, .loc _, _ => by simp [T.kd] at f
  | _, _, _, f, .fn _, _ => by simp [T.kd] at f
  | _, _, _, f, .cls _, _ => by simp [T.kd] at f
  | _, _, _, f, .exn _ _ _ _ _, _ => by simp [T.kd] at f
theorem VRs.nested (S : Same5 G X) (I : Inv X pins σ H s) : ∀ {xs : List T} {vs : List V} {us : List Value}, T.kds xs = true → VRs G R H xs vs → Vals vs us → NestedAll s.heap (keyDs xs) us
  | _, _, _, _, .nil, r => by cases r; exact .nil
  | _, _, _, f, .cons hv rv, r => by
    simp only [T.kds, Bool.and_eq_true] at f
    cases r with
    | cons r1 r2 => exact .cons (VR.nested S I f.1 hv r1) (VRs.nested S I f.2 rv r2)
end
theorem KV.unzip : ∀ {κs : List Key} {vs : List V} {ws : List (Key × Value)}, KV (κs.zip vs) ws → κs.length = vs.length → ∃ us, ws = κs.zip us ∧ Vals vs us
  | [], [], _, r, _ => by
    have r' : KV [] _ := r
    unfold KV at r'
    cases r'
    exact ⟨[], rfl, .nil⟩
  | [], _ :: _, _, _, h => by simp at h
  | _ :: _, [], _, _, h => by simp at h
  | κ :: κs, v :: vs, ws, r, h => by
    rw [List.zip_cons_cons] at r
    unfold KV at r
    cases r with
    | @cons _ q _ qs h1 t =>
      obtain ⟨us, rfl, rv⟩ := KV.unzip (ws := qs) t (by simpa using h)
      obtain ⟨k, u⟩ := q
      obtain ⟨e1, e2⟩ := h1
      simp only at e1 e2
      subst e1
      exact ⟨u :: us, rfl, .cons e2 rv⟩
theorem KV.zip : ∀ {κs : List Key} {vs : List V} {us : List Value}, Vals vs us → KV (κs.zip vs) (κs.zip us)
  | [], _, _, _ => by simp; exact .nil
  | _ :: _, _, _, .nil => by simp; exact .nil
  | κ :: κs, _, _, .cons h r => by rw [List.zip_cons_cons, List.zip_cons_cons]; exact .cons ⟨rfl, h⟩ (KV.zip r)

/-- a dict as it stands in a heap -/
structure DLk (G : GD) (h : PySem.Heap) (a : Addr) (ks : List T) (kvs vs : List V) : Prop where
  ne : (a == sysModules) = false
  sz : vs.length ≤ sizeLine
  len : ks.length = vs.length
  form : (∃ κs us, keys1 ks = some κs ∧ κs.length = us.length ∧ Vals vs us ∧ kvs = κs.map kV ∧ h.DictOf (mixKind G.prog G.w) a (κs.zip us)) ∨
    ∃ xs : List (NestedKey × Addr × Value), ks.all nestT = true ∧ xs.map (·.1) = keyDs ks ∧ Vals vs (xs.map (·.2.2)) ∧ kvs = xs.map (fun x => V.ref x.2.1) ∧ h.DictOfH (nestedKind G.prog G.w) a xs
theorem Ent.facts (S : Same5 G X) (I : Inv X pins σ H s) : ∀ {ks : List T} {kvs vs : List V} {xs : List (NestedKey × Addr × Value)}, Ent ks kvs vs xs → VRs G R H ks kvs →
    ks.all nestT = true ∧ xs.map (·.1) = keyDs ks ∧ Vals vs (xs.map (·.2.2)) ∧ kvs = xs.map (fun x => V.ref x.2.1) ∧ ∀ x ∈ xs, (nestedKind G.prog G.w).is s.heap x.1 x.2.1
  | _, _, _, _, .nil, _ => ⟨rfl, rfl, .nil, rfl, fun x hx => by simp at hx⟩
  | _, _, _, _, .cons k r e, .cons hv rv => by
    obtain ⟨h1, h2, h3, h4, h5⟩ := Ent.facts S I e rv
    refine ⟨by simp [k, h1], by simp [keyDs, h2], .cons r h3, by simp [h4], fun x hx => ?_⟩
    rcases List.mem_cons.mp hx with z | z
    · subst z
      exact ⟨VR.nested S I (nest_kd k) hv rfl, nest_depth k⟩
    · exact h5 x z
theorem Ent.len {ks : List T} {kvs vs : List V} {xs : List (NestedKey × Addr × Value)} (e : Ent ks kvs vs xs) : ks.length = vs.length := by
  induction e with
  | nil => rfl
  | cons _ _ _ ih => simp [ih]
theorem DU.len {P : Program} {w : World} {a : Addr} {ks : List T} {kvs vs : List V} {u : HO} (d : DU P w a ks kvs vs u) : ks.length = vs.length := by
  rcases d with ⟨κs, e, l, _, _⟩ | ⟨xs, e, _⟩
  · rw [keys1_len e, l]
  · exact e.len
theorem dlk_of (S : Same5 G X) (I : Inv X pins σ H s) {a : Addr} {ks : List T} {kvs vs : List V} {u : HO} (d : DU G.prog G.w a ks kvs vs u) (rk : VRs G R H ks kvs) (o : ObjOk G.prog G.w H s.heap a u) : DLk G s.heap a ks kvs vs := by
  have hl := d.len
  rcases d with ⟨κs, e, l, ek, rfl⟩ | ⟨xs, e, rfl⟩
  · obtain ⟨z, ne, ws, kv, dd⟩ := (show _ ∧ _ ∧ ∃ vs', KV (κs.zip vs) vs' ∧ s.heap.DictOf (mixKind G.prog G.w) a vs' from o)
    obtain ⟨us, rfl, rv⟩ := KV.unzip kv l
    have zl : (κs.zip vs).length = vs.length := by simp [l]
    exact ⟨ne, by rw [← zl]; exact z, hl, .inl ⟨κs, us, e, by rw [l, rv.length], rv, ek, dd⟩⟩
  · obtain ⟨h1, h2, h3, h4, h5⟩ := Ent.facts S I e rk
    obtain ⟨⟨⟨ne, z⟩, o, es, ep, e1, e2, e3, e4, e5⟩, _⟩ := o
    have zl : xs.length = vs.length := by have := h3.length; simpa using this.symm
    exact ⟨ne, by rw [← zl]; exact z, hl, .inr ⟨xs, h1, h2, h3, h4, o, es, ep, e1, e2, e3, e4, h5, e5⟩⟩
theorem Inv.objG (S : Same5 G X) (I : Inv X pins σ H s) {a : Addr} {u : HO} (e : H a = some u) : ObjOk G.prog G.w H s.heap a u := by
  have := I.hok a u e
  rw [S.prog, S.w] at this
  exact this
theorem dlk_fz (S : Same5 G X) (I : Inv X pins σ H s) {a : Addr} {ks : List T} {kvs vs : List V} (hf : FzD G H a ks kvs vs) (rk : VRs G R H ks kvs) : DLk G s.heap a ks kvs vs := by
  rcases hf with ⟨o, u, h1, d⟩ | ⟨κs, us, e1, l, e2, rv, ne, z, dd, _⟩
  · exact dlk_of S I d rk (Inv.objG S I h1).2
  · exact ⟨ne, z, by rw [keys1_len e1, l], .inl ⟨κs, us, e1, by rw [l, rv.length], rv, e2, dd s.heap (S.K ▸ I.kIn)⟩⟩
/-- a tree that is a dict, or a place of one -/
theorem view_dlk (S : Same5 G X) (I : Inv X pins σ H s) (hr : HRel G h R H) {t : T} {v : V} {ks ys : List T} (r : VR G R H t v) (e : view h t = some (.dct ks ys)) :
    ∃ a kvs vs, v = .ref a ∧ DLk G s.heap a ks kvs vs ∧ VRs G R H ks kvs ∧ VRs G R H ys vs := by
  cases r <;> (try (cases e; done))
  · rename_i a kvs vs hf rk r
    cases e
    exact ⟨a, kvs, vs, rfl, dlk_fz S I hf rk, rk, r⟩
  · rename_i n a h1
    rw [view_loc] at e
    split at e <;> (try (cases e; done))
    rename_i ks' vs' e1
    cases e
    obtain ⟨u, kvs, vs, e2, d, rk, r2⟩ := hr.obj _ _ a e1 h1
    exact ⟨a, kvs, vs, rfl, dlk_of S I d rk (Inv.objG S I e2), rk, r2⟩
theorem pairs_nil {P : Program} {w : World} {l : List DictEntry} (p : Pairs (mixKind P w) l []) : l = [] := by cases p; rfl
theorem empty_H {P : Program} {w : World} {hh : PySem.Heap} {a : Addr} (d : hh.DictOf (mixKind P w) a []) : hh.DictOfH (nestedKind P w) a [] := by
  obtain ⟨o, es, ep, h1, h2, h3, h4, h5, h6⟩ := d
  exact ⟨o, es, ep, h1, h2, h3, pairs_nil h5, fun x hx => by simp at hx, List.nodup_nil⟩
theorem empty_K {P : Program} {w : World} {hh : PySem.Heap} {a : Addr} (d : hh.DictOfH (nestedKind P w) a []) : hh.DictOf (mixKind P w) a [] := by
  obtain ⟨o, es, ep, h1, h2, h3, h4, h5, h6⟩ := d
  have e : es = #[] := by simpa using h4
  subst e
  exact ⟨o, #[], ep, h1, h2, h3, by intro e he; simp at he, .nil, List.nodup_nil⟩
/-- what two look-ups give -/
def OptR (G : GD) (R : List Addr) (H : Hp) : Option T → Option Value → Prop
  | some y, some u => ∃ v, RelV v u ∧ VR G R H y v
  | none, none => True
  | _, _ => False
theorem OptR.some {R : List Addr} {H : Hp} {o : Option Value} {y : T} (r : OptR G R H (some y) o) : ∃ u v, o = some u ∧ RelV v u ∧ VR G R H y v := by
  cases o with
  | none => exact r.elim
  | some u => obtain ⟨v, a, b⟩ := r; exact ⟨u, v, rfl, a, b⟩
theorem OptR.isSome {R : List Addr} {H : Hp} {o : Option T} {p : Option Value} (r : OptR G R H o p) : p.isSome = o.isSome := by
  cases o <;> cases p <;> first | rfl | exact r.elim
theorem look_1 {k : T} {κ : Key} (hk : key1 k = some κ) : ∀ {ks ys : List T} {κs : List Key} {vs : List V} {us : List Value}, keys1 ks = some κs → κs.length = us.length → VRs G R H ys vs → Vals vs us → OptR G R H (kget ks ys k) (valueAt (κs.zip us) κ)
  | [], ys, _, vs, us, e, hl, r, rv => by
    cases e
    cases ys <;> exact trivial
  | k' :: ks, ys, κs, vs, us, e, hl, r, rv => by
    obtain ⟨κ', κt, h1, h2, rfl⟩ := keys1_cons e
    cases rv with
    | nil => simp at hl
    | cons hu rv =>
      rename_i v u vs us
      cases r with
      | cons hv r =>
      rename_i y ys
      have ih := look_1 hk h2 (by simpa using hl) r rv
      rw [List.zip_cons_cons]
      by_cases c : κ' = κ
      · have q : T.eqv k' k = true := by rw [eqv_key1 h1 hk]; simpa using c
        simp only [kget, q, if_true]
        simp only [valueAt, List.find?_cons, c, decide_true, Option.map_some]
        exact ⟨v, hu, hv⟩
      · have q : T.eqv k' k = false := by rw [eqv_key1 h1 hk]; simpa using c
        simp only [kget, q, Bool.false_eq_true, if_false]
        simp only [valueAt, List.find?_cons, decide_eq_false c] at ih ⊢
        exact ih
theorem look_N {k : T} (hk : nestT k = true) : ∀ {ks ys : List T} {vs : List V} {xs : List (NestedKey × Addr × Value)}, ks.all nestT = true → xs.map (·.1) = keyDs ks → VRs G R H ys vs → Vals vs (xs.map (·.2.2)) → OptR G R H (kget ks ys k) ((atKey xs (keyD k)).map (·.2))
  | [], ys, vs, xs, _, e, r, rv => by
    have : xs = [] := by simpa [keyDs] using e
    subst this
    cases ys <;> exact trivial
  | k' :: ks, ys, vs, [], _, e, _, _ => by simp [keyDs] at e
  | k' :: ks, ys, vs, (n, ad, u) :: xs, hn, e, r, rv => by
    simp only [List.all_cons, Bool.and_eq_true] at hn
    simp only [List.map_cons, keyDs, List.cons.injEq] at e
    obtain ⟨rfl, e⟩ := e
    cases rv with
    | cons hu rv =>
      cases r with
      | cons hv r =>
      have ih := look_N hk hn.2 e r rv
      by_cases c : keyD k' = keyD k
      · have q : T.eqv k' k = true := by rw [eqv_nest hn.1 hk]; simpa using c
        simp only [kget, q, if_true]
        simp only [atKey, List.find?_cons, c, decide_true, Option.map_some]
        exact ⟨_, hu, hv⟩
      · have q : T.eqv k' k = false := by rw [eqv_nest hn.1 hk]; simpa using c
        simp only [kget, q, Bool.false_eq_true, if_false]
        simp only [atKey, List.find?_cons, decide_eq_false c] at ih ⊢
        exact ih
theorem ok_leaf {ks : List T} {k : T} (h : okKey ks k = true) : (ks.all leafT = true ∧ leafT k = true) ∨ (ks.all nestT = true ∧ nestT k = true) := by
  simpa [okKey] using h
theorem leaf_not_nest {k : T} (h : leafT k = true) (n : nestT k = true) : False := by
  cases k <;> first | (cases h; done) | (cases n; done)
/-- what a dict is asked for -/
theorem DLk.ask (S : Same5 G X) (I : Inv X pins σ H s) {a : Addr} {ks ys : List T} {kvs vs : List V} {k : T} {kv : V} {ku : Value} (d : DLk G s.heap a ks kvs vs) (rv : VRs G R H ys vs) (ok : okKey ks k = true) (rk : VR G R H k kv) (ru : RelV kv ku) :
    (∃ κ κs us, key1 k = some κ ∧ keys1 ks = some κs ∧ κs.length = us.length ∧ Vals vs us ∧ (mixKind G.prog G.w).is κ ku = true ∧ (keyPart ku).isSome = true ∧ s.heap.DictOf (mixKind G.prog G.w) a (κs.zip us) ∧ OptR G R H (kget ks ys k) (valueAt (κs.zip us) κ)) ∨
    ∃ ad xs, nestT k = true ∧ ks.all nestT = true ∧ kv = .ref ad ∧ ku = .ref ad ∧ (nestedKind G.prog G.w).is s.heap (keyD k) ad ∧ xs.map (·.1) = keyDs ks ∧ Vals vs (xs.map (·.2.2)) ∧ s.heap.DictOfH (nestedKind G.prog G.w) a xs ∧ OptR G R H (kget ks ys k) ((atKey xs (keyD k)).map (·.2)) := by
  have nest : ks.all nestT = true → nestT k = true → ∀ xs : List (NestedKey × Addr × Value), xs.map (·.1) = keyDs ks → Vals vs (xs.map (·.2.2)) → s.heap.DictOfH (nestedKind G.prog G.w) a xs → ∃ ad xs, nestT k = true ∧ ks.all nestT = true ∧ kv = .ref ad ∧ ku = .ref ad ∧ (nestedKind G.prog G.w).is s.heap (keyD k) ad ∧ xs.map (·.1) = keyDs ks ∧ Vals vs (xs.map (·.2.2)) ∧ s.heap.DictOfH (nestedKind G.prog G.w) a xs ∧ OptR G R H (kget ks ys k) ((atKey xs (keyD k)).map (·.2)) := by
    intro h1 h2 xs e1 e2 dd
    have hn := VR.nested S I (nest_kd h2) rk ru
    cases k <;> first | (cases h2; done) | skip
    cases rk
    rename_i ad _ _ _
    cases ru
    exact ⟨ad, xs, h2, h1, rfl, rfl, ⟨hn, nest_depth h2⟩, e1, e2, dd, look_N h2 h1 e1 rv e2⟩
  have leaf : leafT k = true → ∀ κs us, keys1 ks = some κs → κs.length = us.length → Vals vs us → s.heap.DictOf (mixKind G.prog G.w) a (κs.zip us) → ∃ κ κs us, key1 k = some κ ∧ keys1 ks = some κs ∧ κs.length = us.length ∧ Vals vs us ∧ (mixKind G.prog G.w).is κ ku = true ∧ (keyPart ku).isSome = true ∧ s.heap.DictOf (mixKind G.prog G.w) a (κs.zip us) ∧ OptR G R H (kget ks ys k) (valueAt (κs.zip us) κ) := by
    intro h2 κs us e1 e2 e3 dd
    cases k <;> first | (cases h2; done) | skip
    · cases rk
      rename_i i
      obtain ⟨t, rfl⟩ := ru
      exact ⟨.inl i, κs, us, rfl, e1, e2, e3, mixKind_int _ _ i t, rfl, dd, look_1 rfl e1 e2 rv e3⟩
    · cases rk
      obtain ⟨t, rfl⟩ := ru
      exact ⟨.inr _, κs, us, rfl, e1, e2, e3, mixKind_str _ _ _ t, rfl, dd, look_1 rfl e1 e2 rv e3⟩
  rcases ok_leaf ok with ⟨h1, h2⟩ | ⟨h1, h2⟩
  · refine .inl ?_
    rcases d.form with ⟨κs, us, e1, e2, e3, _, dd⟩ | ⟨xs, hn, e1, e2, _, dd⟩
    · exact leaf h2 κs us e1 e2 e3 dd
    · have : ks = [] := by
        cases ks with
        | nil => rfl
        | cons a b =>
          simp only [List.all_cons, Bool.and_eq_true] at hn h1
          exact (leaf_not_nest h1.1 hn.1).elim
      subst this
      have : xs = [] := by simpa [keyDs] using e1
      subst this
      exact leaf h2 [] [] rfl rfl e2 (empty_K dd)
  · refine .inr ?_
    rcases d.form with ⟨κs, us, e1, e2, e3, _, dd⟩ | ⟨xs, hn, e1, e2, _, dd⟩
    · have : ks = [] := by
        cases ks with
        | nil => rfl
        | cons a b =>
          have := leaf_keys1 e1
          simp only [List.all_cons, Bool.and_eq_true] at this h1
          exact (leaf_not_nest this.1 h1.1).elim
      subst this
      cases e1
      have : us = [] := by cases us <;> first | rfl | simp at e2
      subst this
      exact nest rfl h2 [] rfl e3 (empty_H dd)
    · exact nest hn h2 xs e1 e2 dd
theorem DLk.typeIs {a : Addr} {ks : List T} {kvs vs : List V} (d : DLk G s.heap a ks kvs vs) : s.TypeIs (.ref a) "dict" := by
  rcases d.form with ⟨_, _, _, _, _, _, dd⟩ | ⟨_, _, _, _, _, dd⟩
  · exact dd.typeIs
  · exact dd.typeIs
theorem DLk.noDict {a : Addr} {ks : List T} {kvs vs : List V} (d : DLk G s.heap a ks kvs vs) : ∀ b, Value.ref a = .ref b → ∃ ob, s.heap.get? b = some ob ∧ ob.dict = none := fun b q => by
  cases q
  rcases d.form with ⟨_, _, _, _, _, _, o, _, _, h1, h2, _⟩ | ⟨_, _, _, _, _, o, _, _, h1, h2, _⟩
  · exact ⟨o, h1, h2.2.1⟩
  · exact ⟨o, h1, h2.2.1⟩
end

/-! ### the operations -/
section
variable {G : GD} {X : L2.Cx} {pins : List (Addr × Obj)} {σ : St} {H : Hp} {s : Shared} {R : List Addr} {h : Heap} {A : Around} {E : Value → Shared → Prop} {a : Addr} {ks ys : List T} {kvs vs : List V} {k : T} {kv : V} {ku : Value}
theorem room_nested {P : Program} {w : World} (hu : A.units + 20 < cLine) : (nestedKind P w).room A.in1 := by show A.units + 1 + 8 < cLine; omega
theorem mem_kget (k : T) : ∀ {ks ys : List T}, ks.length = ys.length → memT k ks = (kget ks ys k).isSome
  | [], [], _ => rfl
  | [], _ :: _, h => by simp at h
  | _ :: _, [], h => by simp at h
  | x :: xs, y :: ys, h => by
    simp only [memT, kget]
    cases T.eqv x k with
    | true => rfl
    | false => simpa using mem_kget k (by simpa using h)
/-- d[k] -/
theorem dl_getItem {Q : Value → Shared → Prop} {y : T} (S : Same5 G X) (hu : A.units + 20 < cLine) (I : Inv X pins σ H s) (d : DLk G s.heap a ks kvs vs) (rv : VRs G R H ys vs) (ok : okKey ks k = true) (rk : VR G R H k kv) (ru : RelV kv ku) (e : kget ks ys k = some y)
    (hq : ∀ w' v s', Inv X pins σ H s' → RelV v w' → VR G R H y v → Q w' s') : wpAny (model G.prog G.w) A (getItem (.ref a) ku) Q E s := by
  rcases d.ask S I rv ok rk ru with ⟨κ, κs, us, h1, _, _, _, h2, _, dd, o⟩ | ⟨ad, xs, h1, _, _, rfl, h2, _, _, dd, o⟩
  · rw [e] at o
    obtain ⟨w', v, e1, r1, r2⟩ := o.some
    exact wpAny_getItem_of h2 dd.mapOf e1 (hq w' v _ (I.tok _) r1 r2)
  · rw [e] at o
    obtain ⟨w', v, e1, r1, r2⟩ := o.some
    obtain ⟨p, hp, rfl⟩ := Option.map_eq_some_iff.mp e1
    exact wpAny_getItem_heap (room_nested hu) h2 dd hp (hq _ v _ (I.tok _) r1 r2)
/-- k in d -/
theorem dl_in {Q : Value → Shared → Prop} (S : Same5 G X) (hu : A.units + 20 < cLine) (I : Inv X pins σ H s) (d : DLk G s.heap a ks kvs vs) (rv : VRs G R H ys vs) (ok : okKey ks k = true) (rk : VR G R H k kv) (ru : RelV kv ku)
    (hq : ∀ s', Inv X pins σ H s' → Q (.bool (memT k ks)) s') : wpAny (model G.prog G.w) A (compareOp .In ku (.ref a)) Q E s := by
  have em := mem_kget k (show ks.length = ys.length by rw [d.len, rv.length])
  rcases d.ask S I rv ok rk ru with ⟨κ, κs, us, h1, _, _, _, h2, _, dd, o⟩ | ⟨ad, xs, h1, _, _, rfl, h2, _, _, dd, o⟩
  · refine wpAny_in_of h2 d.ne dd.mapOf ?_
    rw [o.isSome, ← em]
    exact hq _ (I.tok _)
  · refine wpAny_in_heap (room_nested hu) h2 d.ne dd ?_
    have := o.isSome
    rw [Option.isSome_map] at this
    rw [this, ← em]
    exact hq _ (I.tok _)
theorem dl_notIn {Q : Value → Shared → Prop} (S : Same5 G X) (hu : A.units + 20 < cLine) (I : Inv X pins σ H s) (d : DLk G s.heap a ks kvs vs) (rv : VRs G R H ys vs) (ok : okKey ks k = true) (rk : VR G R H k kv) (ru : RelV kv ku)
    (hq : ∀ s', Inv X pins σ H s' → Q (.bool (!memT k ks)) s') : wpAny (model G.prog G.w) A (compareOp .NotIn ku (.ref a)) Q E s := by
  have em := mem_kget k (show ks.length = ys.length by rw [d.len, rv.length])
  rcases d.ask S I rv ok rk ru with ⟨κ, κs, us, h1, _, _, _, h2, _, dd, o⟩ | ⟨ad, xs, h1, _, _, rfl, h2, _, _, dd, o⟩
  · refine wpAny_notIn_of h2 d.ne dd.mapOf ?_
    rw [o.isSome, ← em]
    exact hq _ (I.tok _)
  · refine wpAny_notIn_heap (room_nested hu) h2 d.ne dd ?_
    have := o.isSome
    rw [Option.isSome_map] at this
    rw [this, ← em]
    exact hq _ (I.tok _)
/-- d.get(k), d.get(k, x) -/
theorem OptR.getD {o : Option T} {p : Option Value} (r : OptR G R H o p) {x : T} {v : V} {u : Value} (hx : VR G R H x v) (ru : RelV v u) : ∃ v', RelV v' (p.getD u) ∧ VR G R H (o.getD x) v' := by
  cases o <;> cases p <;> first | exact r.elim | skip
  · exact ⟨v, ru, hx⟩
  · obtain ⟨v', a, b⟩ := r; exact ⟨v', a, b⟩
theorem dl_get1 {Q : Value → Shared → Prop} (S : Same5 G X) (hu : A.units + 20 < cLine) (I : Inv X pins σ H s) (d : DLk G s.heap a ks kvs vs) (rv : VRs G R H ys vs) (ok : okKey ks k = true) (rk : VR G R H k kv) (ru : RelV kv ku)
    (hq : ∀ w' v s', Inv X pins σ H s' → RelV v w' → VR G R H ((kget ks ys k).getD .non) v → Q w' s') : wpAny (model G.prog G.w) A (PySem.call (.builtin "dict.get") [.ref a, ku]) Q E s := by
  rcases d.ask S I rv ok rk ru with ⟨κ, κs, us, h1, _, _, _, h2, _, dd, o⟩ | ⟨ad, xs, h1, _, _, rfl, h2, _, _, dd, o⟩
  · obtain ⟨v, r1, r2⟩ := o.getD (.non) (show RelV .non .none from rfl)
    exact call_meetsIn PySem.F.slot_dict_get dd.typeIs PySem.F.entry_dict_get (PySem.F.args_dict_get_2 _ _) (meets_dict_get (mixKind G.prog G.w) a h2 d.ne) ⟨_, dd.mapOf, hq _ v _ (I.tok _) r1 r2⟩
  · obtain ⟨v, r1, r2⟩ := o.getD (.non) (show RelV .non .none from rfl)
    exact call_meetsIn PySem.F.slot_dict_get dd.typeIs PySem.F.entry_dict_get (PySem.F.args_dict_get_2 _ _) (meetsH_dict_get (nestedKind G.prog G.w) a ad d.ne) ⟨room_nested hu, keyD k, xs, h2, dd, hq _ v _ (I.tok _) r1 r2⟩
theorem dl_get2 {Q : Value → Shared → Prop} {x : T} {xv : V} {xu : Value} (S : Same5 G X) (hu : A.units + 20 < cLine) (I : Inv X pins σ H s) (d : DLk G s.heap a ks kvs vs) (rv : VRs G R H ys vs) (ok : okKey ks k = true) (rk : VR G R H k kv) (ru : RelV kv ku) (hx : VR G R H x xv) (rx : RelV xv xu)
    (hq : ∀ w' v s', Inv X pins σ H s' → RelV v w' → VR G R H ((kget ks ys k).getD x) v → Q w' s') : wpAny (model G.prog G.w) A (PySem.call (.builtin "dict.get") [.ref a, ku, xu]) Q E s := by
  rcases d.ask S I rv ok rk ru with ⟨κ, κs, us, h1, _, _, _, h2, _, dd, o⟩ | ⟨ad, xs, h1, _, _, rfl, h2, _, _, dd, o⟩
  · obtain ⟨v, r1, r2⟩ := o.getD hx rx
    exact call_meetsIn PySem.F.slot_dict_get dd.typeIs PySem.F.entry_dict_get (PySem.F.args_dict_get_3 _ _ _) (meets_dict_get_default (mixKind G.prog G.w) a h2 d.ne xu) ⟨_, dd.mapOf, hq _ v _ (I.tok _) r1 r2⟩
  · obtain ⟨v, r1, r2⟩ := o.getD hx rx
    exact call_meetsIn PySem.F.slot_dict_get dd.typeIs PySem.F.entry_dict_get (PySem.F.args_dict_get_3 _ _ _) (meetsH_dict_get_default (nestedKind G.prog G.w) a ad d.ne xu) ⟨room_nested hu, keyD k, xs, h2, dd, hq _ v _ (I.tok _) r1 r2⟩
/-- a dict is locked -/
theorem Inv.lockD (I : Inv X pins σ H s) {p : Addr} {u : HO} (d : DU G.prog G.w p ks kvs vs u) (S : Same5 G X) (hp : H p = some u) : ∃ o, Inv X pins σ (upd H p (.frz o u)) s := by
  have hx := I.hok p _ hp
  rcases d with ⟨κs, _, _, _, rfl⟩ | ⟨xs, _, rfl⟩
  · obtain ⟨z, y, ws, r, dd⟩ := id hx
    obtain ⟨ob, es, ep, e, h2⟩ := id dd
    exact ⟨ob, I.write (t' := s.toks) (h' := s.heap) (x := p) (e := p) (o := .frz ob _) (by rw [hp]; exact trivial) (.inl rfl) (fun _ _ _ q => q) ⟨_, e⟩ ⟨e, z, y, ws, r, dd⟩⟩
  · obtain ⟨⟨q, ob, es, ep, e, h2⟩, h3⟩ := id hx
    exact ⟨ob, I.write (t' := s.toks) (h' := s.heap) (x := p) (e := p) (o := .frz ob _) (by rw [hp]; exact trivial) (.inl rfl) (fun _ _ _ q => q) ⟨_, e⟩ ⟨e, hx⟩⟩
theorem DU.nft {P : Program} {w : World} {u : HO} (d : DU P w a ks kvs vs u) : ¬ FT u := by
  rcases d with ⟨_, _, _, _, rfl⟩ | ⟨_, _, rfl⟩ <;> simp [FT, nDict]
theorem DU.mut {P : Program} {w : World} {u : HO} (d : DU P w a ks kvs vs u) : Mut (some u) := by
  rcases d with ⟨_, _, _, _, rfl⟩ | ⟨_, _, rfl⟩ <;> trivial
/-! a store -/
theorem put_leaf {k : T} {κ : Key} {y : T} {v : V} (hk : key1 k = some κ) : ∀ {ks ys : List T} {κs : List Key} {vs : List V}, keys1 ks = some κs → κs.length = vs.length → ks.length = ys.length → κs.Nodup → VRs G R H ys vs → VR G R H y v →
    ∃ κs' vs', keys1 (kput ks ys k y).1 = some κs' ∧ κs'.length = vs'.length ∧ putK (κs.zip vs) κ v = κs'.zip vs' ∧ VRs G R H (kput ks ys k y).2 vs' ∧ κs'.Nodup ∧ ∀ z ∈ κs', z = κ ∨ z ∈ κs
  | [], ys, κs, vs, e, hl, h2, _, rv, r => by
    cases e
    have : ys = [] := by cases ys <;> first | rfl | simp at h2
    subst this
    cases rv
    exact ⟨[κ], [v], by simp [kput, keys1, hk], rfl, rfl, .cons r .nil, by simp, by simp⟩
  | k' :: ks, ys, κs, vs, e, hl, h2, nd, rv, r => by
    obtain ⟨κ', κt, h3, h4, rfl⟩ := keys1_cons e
    cases rv with
    | nil => simp at hl
    | cons hv rv =>
      rename_i y' v' ys vs
      by_cases c : κ' = κ
      · subst c
        have q : T.eqv k' k = true := by rw [eqv_key1 h3 hk]; simp
        simp only [kput, q, if_true]
        refine ⟨κ' :: κt, v :: vs, by simp only [keys1, h3, h4], by simpa using hl, ?_, .cons r rv, nd, fun z hz => .inr hz⟩
        rw [List.zip_cons_cons, List.zip_cons_cons]
        have nin := (List.nodup_cons.mp nd).1
        unfold putK
        rw [if_pos (by simp)]
        simp only [List.map_cons, if_true]
        congr 1
        refine (List.map_congr_left fun p hp => ?_).trans (List.map_id _)
        rw [if_neg]
        · rfl
        · intro z
          have := (List.of_mem_zip (show (p.1, p.2) ∈ κt.zip vs from hp)).1
          exact nin (z ▸ this)
      · have q : T.eqv k' k = false := by rw [eqv_key1 h3 hk]; simpa using c
        obtain ⟨κs', vs', g1, g2, g3, g4, g5, g6⟩ := put_leaf hk (v := v) h4 (by simpa using hl) (by simpa using h2) (List.nodup_cons.mp nd).2 rv r
        simp only [kput, q, Bool.false_eq_true, if_false]
        refine ⟨κ' :: κs', v' :: vs', by simp only [keys1, h3, g1], by simp [g2], ?_, .cons hv g4, List.nodup_cons.mpr ⟨fun z => ?_, g5⟩, fun z hz => ?_⟩
        rotate_left
        · rcases g6 _ z with e | e
          · exact c e
          · exact (List.nodup_cons.mp nd).1 e
        · rcases List.mem_cons.mp hz with e | e
          · right; rw [e]; exact List.mem_cons_self
          · rcases g6 _ e with e | e
            · exact .inl e
            · exact .inr (List.mem_cons_of_mem _ e)
        rw [List.zip_cons_cons, List.zip_cons_cons, ← g3]
        unfold putK
        simp only [List.any_cons, decide_eq_false c, Bool.false_or]
        split
        · simp [c]
        · simp
theorem zip_fst {α β : Type} : ∀ {a : List α} {b : List β}, a.length = b.length → (a.zip b).map (·.1) = a
  | [], [], _ => rfl
  | [], _ :: _, h => by simp at h
  | _ :: _, [], h => by simp at h
  | x :: xs, y :: ys, h => by simp [zip_fst (a := xs) (b := ys) (by simpa using h)]
theorem put_nest {k : T} {y : T} {v : V} {u : Value} {ad : Addr} (hk : nestT k = true) (ru : RelV v u) (rk : VR G R H k (.ref ad)) : ∀ {ks ys : List T} {kvs vs : List V} {xs : List (NestedKey × Addr × Value)}, ks.all nestT = true → xs.map (·.1) = keyDs ks → (xs.map (·.1)).Nodup → kvs = xs.map (fun x => V.ref x.2.1) → Vals vs (xs.map (·.2.2)) → VRs G R H ks kvs → VRs G R H ys vs → VR G R H y v →
    ∃ kvs' vs', Ent (kput ks ys k y).1 kvs' vs' (storedH xs (keyD k) ad u) ∧ VRs G R H (kput ks ys k y).1 kvs' ∧ VRs G R H (kput ks ys k y).2 vs'
  | [], ys, kvs, vs, xs, _, e, _, _, rv, rks, rvs, r => by
    have : xs = [] := by simpa [keyDs] using e
    subst this
    cases rv
    cases rvs
    exact ⟨[.ref ad], [v], .cons hk ru .nil, .cons rk .nil, .cons r .nil⟩
  | k' :: ks, ys, kvs, vs, [], _, e, _, _, _, _, _, _ => by simp [keyDs] at e
  | k' :: ks, ys, kvs, vs, (n, ad', u') :: xs, hn, e, nd, ek, rv, rks, rvs, r => by
    simp only [List.all_cons, Bool.and_eq_true] at hn
    simp only [List.map_cons, keyDs, List.cons.injEq] at e
    obtain ⟨rfl, e⟩ := e
    cases rv with
    | cons hu rv =>
    cases rvs with
    | cons hv rvs =>
    cases rks with
    | cons hk' rks =>
    simp only [List.map_cons, List.cons.injEq] at ek
    obtain ⟨rfl, ek⟩ := ek
    rename_i v' vs' y' ys' kvs'
    have nd' := List.nodup_cons.mp nd
    by_cases c : keyD k' = keyD k
    · have q : T.eqv k' k = true := by rw [eqv_nest hn.1 hk]; simpa using c
      simp only [kput, q, if_true]
      have es : storedH ((keyD k', ad', u') :: xs) (keyD k) ad u = (keyD k', ad', u) :: xs := by
        have at_ : (atKey ((keyD k', ad', u') :: xs) (keyD k)) = some (ad', u') := by simp [atKey, List.find?_cons, c]
        rw [storedH_old at_]
        simp only [List.map_cons, putAt, c, if_true]
        congr 1
        refine (List.map_congr_left fun p hp => ?_).trans (List.map_id _)
        show putAt (keyD k) u p = p
        unfold putAt
        rw [if_neg]
        intro z
        refine nd'.1 ?_
        show keyD k' ∈ xs.map (·.1)
        rw [c, ← z]
        exact List.mem_map_of_mem hp
      rw [es]
      have ent : ∀ {ks : List T} {kvs vs : List V} {xs : List (NestedKey × Addr × Value)}, ks.all nestT = true → xs.map (·.1) = keyDs ks → kvs = xs.map (fun x => V.ref x.2.1) → Vals vs (xs.map (·.2.2)) → Ent ks kvs vs xs := by
        intro ks
        induction ks with
        | nil =>
          intro kvs vs xs _ e ek rv
          have : xs = [] := by simpa [keyDs] using e
          subst this
          subst ek
          cases rv
          exact .nil
        | cons k1 ks ih =>
          intro kvs vs xs hn e ek rv
          cases xs with
          | nil => simp [keyDs] at e
          | cons x xs =>
            obtain ⟨n, a1, u1⟩ := x
            simp only [List.all_cons, Bool.and_eq_true] at hn
            simp only [List.map_cons, keyDs, List.cons.injEq] at e
            obtain ⟨rfl, e⟩ := e
            subst ek
            cases rv with
            | cons hu rv => exact .cons hn.1 hu (ih hn.2 e rfl rv)
      exact ⟨_, v :: vs', .cons hn.1 ru (ent hn.2 e ek rv), .cons hk' rks, .cons r rvs⟩
    · have q : T.eqv k' k = false := by rw [eqv_nest hn.1 hk]; simpa using c
      obtain ⟨kvs2, vs2, g1, g2, g3⟩ := put_nest hk ru rk hn.2 e nd'.2 ek rv rks rvs r
      simp only [kput, q, Bool.false_eq_true, if_false]
      have es : storedH ((keyD k', ad', u') :: xs) (keyD k) ad u = (keyD k', ad', u') :: storedH xs (keyD k) ad u := by
        unfold storedH
        have : atKey ((keyD k', ad', u') :: xs) (keyD k) = atKey xs (keyD k) := by simp [atKey, List.find?_cons, c]
        rw [this]
        split
        · simp [putAt, c]
        · simp
      rw [es]
      exact ⟨_, v' :: vs2, .cons hn.1 hu g1, .cons hk' g2, .cons hv g3⟩
/-- d[k] = x -/
theorem dl_setItem {Q : Unit → Shared → Prop} {u0 : HO} {x : T} {xv : V} {xu : Value} (S : Same5 G X) (hu : A.units + 20 < cLine) (I : Inv X pins σ H s) (d : DU G.prog G.w a ks kvs vs u0) (h0 : H a = some u0) (rks : VRs G R H ks kvs) (rv : VRs G R H ys vs) (ok : okKey ks k = true) (hz : ks.length < top) (rk : VR G R H k kv) (ru : RelV kv ku) (hx : VR G R H x xv) (rx : RelV xv xu)
    (hq : ∀ s' u' kvs' vs', DU G.prog G.w a (kput ks ys k x).1 kvs' vs' u' → VRs G R H (kput ks ys k x).1 kvs' → VRs G R H (kput ks ys k x).2 vs' → Inv X pins σ (upd H a u') s' → Q () s') : wpAny (model G.prog G.w) A (setItem (.ref a) ku xu) Q E s := by
  have L := dlk_of S I d rks (Inv.objG S I h0)
  have hl := L.len
  have hly : ks.length = ys.length := by rw [hl, rv.length]
  have hz' : ks.length < 16777216 := hz
  have mu : Mut (H a) := by rw [h0]; exact d.mut
  rcases L.ask S I rv ok rk ru with ⟨κ, κs, us, h1, h3, h4, h5, h2, _, dd, o⟩ | ⟨ad, xs, h1, hn, rfl, rfl, h2, h3, h4, dd, o⟩
  · have hsz : (κs.zip us).length ≤ sizeLine := by
      have := keys1_len h3
      rw [sizeLine_eq]
      simp
      omega
    refine wpAny_setItem_pairs (hsz := hsz) h2 dd fun h' dd' hs => ?_
    have nd : κs.Nodup := by
      obtain ⟨_, _, _, _, _, _, _, _, nd⟩ := dd
      rw [zip_fst h4] at nd
      exact nd
    have hvl : κs.length = vs.length := by rw [h4, h5.length]
    obtain ⟨κs', vs', g1, g2, g3, g4, _⟩ := put_leaf (y := x) (v := xv) h1 h3 hvl hly nd rv hx
    have he : ∃ q, h'.get? a = some q := let ⟨q, _, _, hq, _⟩ := dd'; ⟨q, hq⟩
    have kv' := (KV.zip (κs := κs) h5).put κ rx
    rw [g3] at kv'
    have hzl : (κs'.zip vs').length ≤ sizeLine := by
      rw [← g3]
      have := length_putK (κs.zip vs) κ xv
      have := keys1_len h3
      rw [sizeLine_eq]
      simp at *
      omega
    have I2 := d_write (t' := s.toks + 1) (ob := .dK (κs'.zip vs')) I mu hs he (dk_new hzl L.ne kv' (by rw [S.prog, S.w]; exact dd'))
    exact hq _ _ (κs'.map kV) vs' (.inl ⟨κs', g1, g2, rfl, rfl⟩) (keys_vrs g1) g4 I2
  · have hsz : xs.length ≤ sizeLine := by
      have := congrArg List.length h3
      rw [keyDs_map] at this
      simp at this
      rw [sizeLine_eq]
      omega
    refine wpAny_setItem_heap (hsz := hsz) (room_nested hu) h2 dd fun h' dd' hs => ?_
    have dd0 := dd
    obtain ⟨_, _, _, _, _, _, _, _, nd⟩ := dd0
    have ek : kvs = xs.map (fun x => V.ref x.2.1) ∨ ks = [] := by
      rcases d with ⟨κs, e1, _, _, _⟩ | ⟨xs', e1, rfl⟩
      · right
        cases ks with
        | nil => rfl
        | cons a b =>
          have := leaf_keys1 e1
          simp only [List.all_cons, Bool.and_eq_true] at this hn
          exact (leaf_not_nest this.1 hn.1).elim
      · left
        obtain ⟨f1, f2, f3, f4, f5⟩ := Ent.facts S I e1 rks
        obtain ⟨⟨⟨_, _⟩, o1, es1, ep1, q1, q2, q3, q4, q5⟩, _⟩ := Inv.objG S I h0
        obtain ⟨o2, es2, ep2, p1, p2, p3, p4, _, _⟩ := dd
        rw [q1] at p1
        cases p1
        rw [q3] at p3
        cases p3
        rw [q4] at p4
        have : xs' = xs := by
          have inj : ∀ {a b : List (NestedKey × Addr × Value)}, a.map (·.1) = b.map (·.1) → a.map (entryOfKey (knd := nestedKind G.prog G.w)) = b.map (entryOfKey (knd := nestedKind G.prog G.w)) → a = b := by
            intro a
            induction a with
            | nil => intro b h _; cases b <;> first | rfl | simp at h
            | cons x a ih =>
              intro b h g
              cases b with
              | nil => simp at h
              | cons y b =>
                simp only [List.map_cons, List.cons.injEq] at h g
                obtain ⟨n1, a1, u1⟩ := x
                obtain ⟨n2, a2, u2⟩ := y
                obtain ⟨g1, g2⟩ := g
                simp only [entryOfKey, DictEntry.mk.injEq, Value.ref.injEq] at g1
                obtain ⟨_, rfl, rfl⟩ := g1
                obtain ⟨rfl, h2⟩ := h
                rw [ih h2 g2]
          exact inj (by rw [f2, h3]) p4
        subst this
        exact f4
    have he : ∃ q, h'.get? a = some q := let ⟨q, _, _, hq, _⟩ := dd'; ⟨q, hq⟩
    have fin : ∃ kvs' vs', Ent (kput ks ys k x).1 kvs' vs' (storedH xs (keyD k) ad xu) ∧ VRs G R H (kput ks ys k x).1 kvs' ∧ VRs G R H (kput ks ys k x).2 vs' := by
      rcases ek with ek | ek
      · exact put_nest h1 rx rk hn h3 nd ek h4 rks rv hx
      · subst ek
        have : ys = [] := by cases ys <;> first | rfl | simp at hly
        subst this
        have : xs = [] := by simpa [keyDs] using h3
        subst this
        exact ⟨[.ref ad], [xv], .cons h1 rx .nil, .cons rk .nil, .cons hx .nil⟩
    obtain ⟨kvs', vs', g1, g2, g3⟩ := fin
    have I2 := d_write (t' := s.toks + (nestedKind G.prog G.w).draws (keyD k)) (ob := nDict G.prog G.w a (storedH xs (keyD k) ad xu)) I mu hs he (by
      obtain ⟨o, es, ep, e1, e2, e3, e4, _, e5⟩ := dd'
      refine ⟨⟨⟨L.ne, ?_⟩, o, es, ep, e1, e2, e3, e4, e5⟩, ⟨o, e1⟩, fun h1 h2 ⟨q, o, es, ep, w1, w2⟩ st => ⟨q, o, es, ep, st o w1, w2⟩⟩
      have := storedH_length xs (keyD k) ad xu
      have := congrArg List.length h3
      rw [keyDs_map] at this
      simp at this
      rw [sizeLine_eq]
      omega)
    exact hq _ _ kvs' vs' (.inr ⟨_, g1, rfl⟩) g2 g3 I2
/-- len(d) -/
theorem dl_len {Q : Value → Shared → Prop} (I : Inv X pins σ H s) (d : DLk G s.heap a ks kvs vs) (hq : ∀ t s', Inv X pins σ H s' → Q (.int ks.length t) s') : wpAny (model G.prog G.w) A (PySem.call (.builtin "len") [.ref a]) Q E s := by
  have z : vs.length ≤ 16777216 := by
    have := d.sz
    rw [top_eq] at this
    exact this
  have hl := d.len
  rcases d.form with ⟨κs, us, e1, e2, e3, _, dd⟩ | ⟨xs, hn, e1, e2, _, dd⟩
  · have e : (κs.zip us).length = ks.length := by
      have := keys1_len e1
      simp
      omega
    refine call_len_dict d.ne dd (by rw [e]; omega) ?_
    rw [e]
    exact hq _ _ (I.tok _)
  · have e : xs.length = ks.length := by rw [hl, e2.length]; simp
    have dk : s.heap.DictKeyed (nestedKind G.prog G.w) a (pairsH xs) := ⟨xs, dd, rfl⟩
    have e' : (pairsH xs).length = ks.length := by rw [pairsH_length, e]
    refine call_len_slot (n := ks.length) d.typeIs PySem.F.slot_dict_len (fun Q' hq' => len_keyed d.ne dk (by rw [e']; exact hq')) (by omega) (by omega) (hq _ _ ?_)
    exact (I.tok _)
end
end Lite

/-! LITE, 5: comparisons. -/
namespace Lite
open PySem L2 PySem.Spec
open PyProof.Rows hiding St

mutual
theorem T.pd_lay : ∀ t : T, t.flat = true → t.pd.canLay0 = true
  | .non, _ => by simp [T.pd, PyData.canLay0]
  | .bl _, _ => by simp [T.pd, PyData.canLay0]
  | .int _, _ => by simp [T.pd, PyData.canLay0]
  | .str s, h => by
    simp only [T.pd, PyData.canLay0, PyData.strOk]
    simpa [T.flat] using h
  | .tup xs, h => by simp only [T.pd, PyData.canLay0]; exact T.pds_lay xs (by simpa [T.flat] using h)
  | .lst xs, h => by simp only [T.pd, PyData.canLay0]; exact T.pds_lay xs (by simpa [T.flat] using h)
  | .dct _ _, h => by simp [T.flat] at h
  | .loc _, h => by simp [T.flat] at h
  | .fn _, h => by simp [T.flat] at h
  | .cls _, h => by simp [T.flat] at h
  | .exn _ _, h => by simp [T.flat] at h
theorem T.pds_lay : ∀ xs : List T, T.flats xs = true → PyData.canLayAll0 (T.pds xs) = true
  | [], _ => by simp [T.pds, PyData.canLayAll0]
  | x :: xs, h => by
    simp only [T.flats, Bool.and_eq_true] at h
    simp only [T.pds, PyData.canLayAll0, Bool.and_eq_true]
    exact ⟨T.pd_lay x h.1, T.pds_lay xs h.2⟩
end
mutual
theorem T.pd_depth : ∀ t : T, t.flat = true → t.pd.depth = t.depth
  | .non, _ => by simp [T.pd, PyData.depth, T.depth]
  | .bl _, _ => by simp [T.pd, PyData.depth, T.depth]
  | .int _, _ => by simp [T.pd, PyData.depth, T.depth]
  | .str s, _ => by simp [T.pd, PyData.depth, T.depth]
  | .tup xs, h => by simp only [T.pd, PyData.depth, T.depth, T.pds_depth xs (by simpa [T.flat] using h)]
  | .lst xs, h => by simp only [T.pd, PyData.depth, T.depth, T.pds_depth xs (by simpa [T.flat] using h)]
  | .dct _ _, h => by simp [T.flat] at h
  | .loc _, h => by simp [T.flat] at h
  | .fn _, h => by simp [T.flat] at h
  | .cls _, h => by simp [T.flat] at h
  | .exn _ _, h => by simp [T.flat] at h
theorem T.pds_depth : ∀ xs : List T, T.flats xs = true → PyData.depthAll (T.pds xs) = T.depths xs
  | [], _ => by simp [T.pds, PyData.depthAll, T.depths]
  | x :: xs, h => by
    simp only [T.flats, Bool.and_eq_true] at h
    simp only [T.pds, PyData.depthAll, T.depths, T.pd_depth x h.1, T.pds_depth xs h.2]
end
theorem depthKv_zip : ∀ (a b : List PyData), PyData.depthKv (a.zip b) ≤ max (PyData.depthAll a) (PyData.depthAll b)
  | [], b => by simp [PyData.depthKv]
  | _ :: _, [] => by simp [PyData.depthKv]
  | x :: xs, y :: ys => by
    have := depthKv_zip xs ys
    simp only [List.zip_cons_cons, PyData.depthKv, PyData.depthAll]
    omega
mutual
theorem T.pd_depth_le : ∀ t : T, t.pd.depth ≤ t.depth
  | .non => by simp [T.pd, PyData.depth, T.depth]
  | .bl _ => by simp [T.pd, PyData.depth, T.depth]
  | .int _ => by simp [T.pd, PyData.depth, T.depth]
  | .str s => by simp [T.pd, PyData.depth, T.depth]
  | .tup xs => by simp only [T.pd, PyData.depth, T.depth]; have := T.pds_depth_le xs; omega
  | .lst xs => by simp only [T.pd, PyData.depth, T.depth]; have := T.pds_depth_le xs; omega
  | .dct ks vs => by
    simp only [T.pd, PyData.depth, T.depth]
    have h1 := T.pds_depth_le ks
    have h2 := T.pds_depth_le vs
    have := depthKv_zip (T.pds ks) (T.pds vs)
    omega
  | .loc _ => by simp [T.pd, PyData.depth, T.depth]
  | .fn _ => by simp [T.pd, PyData.depth, T.depth]
  | .cls _ => by simp [T.pd, PyData.depth, T.depth]
  | .exn _ _ => by simp [T.pd, PyData.depth, T.depth]
theorem T.pds_depth_le : ∀ xs : List T, PyData.depthAll (T.pds xs) ≤ T.depths xs
  | [] => by simp [T.pds, PyData.depthAll, T.depths]
  | x :: xs => by
    simp only [T.pds, PyData.depthAll, T.depths]
    have h1 := T.pd_depth_le x
    have h2 := T.pds_depth_le xs
    omega
end
mutual
theorem T.pd_eqv : ∀ a b : T, a.flat = true → b.flat = true → PyData.eqv a.pd b.pd = T.eqv a b
  | .non, b, _, h => by cases b <;> first | simp [T.flat] at h; done | simp [T.pd, PyData.eqv, T.eqv]
  | .bl _, b, _, h => by cases b <;> first | simp [T.flat] at h; done | simp [T.pd, PyData.eqv, T.eqv]
  | .int _, b, _, h => by cases b <;> first | simp [T.flat] at h; done | simp [T.pd, PyData.eqv, T.eqv]
  | .str s, b, _, h => by
    cases b with
    | str r => simp only [T.pd, PyData.eqv, T.eqv]; exact tx_beq _ _
    | _ => first | simp [T.flat] at h; done | simp [T.pd, PyData.eqv, T.eqv]
  | .tup xs, b, g, h => by
    cases b with
    | tup ys => simp only [T.pd, PyData.eqv, T.eqv]; exact T.pds_eqv xs ys (by simpa [T.flat] using g) (by simpa [T.flat] using h)
    | _ => first | simp [T.flat] at h; done | simp [T.pd, PyData.eqv, T.eqv]
  | .lst xs, b, g, h => by
    cases b with
    | lst ys => simp only [T.pd, PyData.eqv, T.eqv]; exact T.pds_eqv xs ys (by simpa [T.flat] using g) (by simpa [T.flat] using h)
    | _ => first | simp [T.flat] at h; done | simp [T.pd, PyData.eqv, T.eqv]
  | .dct _ _, _, h, _ => by simp [T.flat] at h
  | .loc _, _, h, _ => by simp [T.flat] at h
  | .fn _, _, h, _ => by simp [T.flat] at h
  | .cls _, _, h, _ => by simp [T.flat] at h
  | .exn _ _, _, h, _ => by simp [T.flat] at h
theorem T.pds_eqv : ∀ a b : List T, T.flats a = true → T.flats b = true → PyData.eqvAll (T.pds a) (T.pds b) = T.eqvs a b
  | [], b, _, _ => by cases b <;> simp [T.pds, PyData.eqvAll, T.eqvs]
  | x :: xs, b, g, h => by
    cases b with
    | nil => simp [T.pds, PyData.eqvAll, T.eqvs]
    | cons y ys =>
      simp only [T.flats, Bool.and_eq_true] at g h
      simp only [T.pds, PyData.eqvAll, T.eqvs, T.pd_eqv x y g.1 h.1, T.pds_eqv xs ys g.2 h.2]
end

section
variable {G : GD} {X : L2.Cx} {pins : List (Addr × Obj)} {σ : St} {H : Hp} {s : Shared} {R : List Addr} {h : Heap}
mutual
theorem VR.reads (S : Same5 G X) (I : Inv X pins σ H s) : ∀ {t : T} {v : V} {u : Value}, t.flat = true → VR G R H t v → RelV v u → ∃ as, Reads s.heap u t.pd as
  | _, _, _, _, .non, r => by cases r; exact ⟨_, .none⟩
  | _, _, _, _, .bl b, r => by cases r; exact ⟨_, .bool b⟩
  | _, _, _, _, .int i, r => by obtain ⟨t, rfl⟩ := r; exact ⟨_, .int i t⟩
  | _, _, _, _, .str z, r => by obtain ⟨t, rfl⟩ := r; exact ⟨_, .str _ t⟩
  | _, _, _, f, .tup hq rv, r => by
    cases r
    rw [← S.K] at hq
    obtain ⟨its, r, ⟨o, e, c, n, d⟩, _⟩ := I.tuple hq
    obtain ⟨as, ra⟩ := VRs.reads S I (by simpa [T.flat] using f) rv r
    exact ⟨_, .tuple e c d (by simpa using ra)⟩
  | _, _, _, f, .lst hq rv, r => by
    cases r
    obtain ⟨_, its, n, r, e⟩ := Inv.exl S I (.inr hq)
    obtain ⟨as, ra⟩ := VRs.reads S I (by simpa [T.flat] using f) rv r
    exact ⟨_, .list e rfl rfl (by simpa using ra)⟩
  | _, _, _, f, .dct _ _ _, _ => by simp [T.flat] at f
  | _, _, _, f, .loc _, _ => by simp [T.flat] at f
  | _, _, _, f, .fn _, _ => by simp [T.flat] at f
  | _, _, _, f, .cls _, _ => by simp [T.flat] at f
  | _, _, _, f, .exn _ _ _ _ _, _ => by simp [T.flat] at f
theorem VRs.reads (S : Same5 G X) (I : Inv X pins σ H s) : ∀ {xs : List T} {vs : List V} {us : List Value}, T.flats xs = true → VRs G R H xs vs → Vals vs us → ∃ as, ReadsAll s.heap us (T.pds xs) as
  | _, _, _, _, .nil, r => by cases r; exact ⟨_, .nil⟩
  | _, _, _, f, .cons hv rv, r => by
    simp only [T.flats, Bool.and_eq_true] at f
    cases r with
    | cons r1 r2 =>
      obtain ⟨as, q1⟩ := VR.reads S I f.1 hv r1
      obtain ⟨bs, q2⟩ := VRs.reads S I f.2 rv r2
      exact ⟨_, .cons q1 q2⟩
end
/-- .. of what stands at a place, too -/
theorem view_reads (S : Same5 G X) (I : Inv X pins σ H s) (hr : HRel G h R H) {t t' : T} {v : V} {u : Value} (e : view h t = some t') (f : t'.flat = true) (r : VR G R H t v) (ru : RelV v u) : ∃ as, Reads s.heap u t'.pd as := by
  cases t with
  | loc n =>
    rw [view_loc] at e
    split at e
    · rename_i xs q
      cases e
      obtain ⟨a, vs, rfl, q1, r1⟩ := view_lst hr r (by rw [view_loc, q])
      cases ru
      obtain ⟨_, its, n, r, e⟩ := Inv.exl S I q1
      obtain ⟨as, ra⟩ := VRs.reads S I (by simpa [T.flat] using f) r1 r
      exact ⟨_, .list e rfl rfl (by simpa using ra)⟩
    · cases e; simp [T.flat] at f
    · cases e
  | _ => cases e; exact VR.reads S I f r ru
/-- the library's module table is where it was -/
def SM (h : PySem.Heap) : Prop := ∃ o es n, h.get? sysModules = some o ∧ o.data = .dict es n
theorem SM.list {h : PySem.Heap} (m : SM h) {a : Addr} {o : Obj} {vs : Array Value} {n : Nat} (e : h.get? a = some o) (d : o.data = .seq vs n) : a ≠ sysModules := by
  rintro rfl
  obtain ⟨o', es, n', e', d'⟩ := m
  rw [e] at e'
  cases e'
  rw [d] at d'
  cases d'
theorem reads_leaf {P : Program} {w : World} {hh : PySem.Heap} : ∀ {ks : List T} {κs : List Key} {us : List Value} {l : List DictEntry}, keys1 ks = some κs → κs.length = us.length → Pairs (mixKind P w) l (κs.zip us) → ReadsAll hh (l.map (·.key)) (T.pds ks) [] ∧ l.map (·.val) = us
  | [], κs, us, l, e, hl, p => by
    cases e
    cases us with
    | nil => simp at p; rw [pairs_nil p]; exact ⟨.nil, rfl⟩
    | cons _ _ => simp at hl
  | k :: ks, κs, us, l, e, hl, p => by
    obtain ⟨κ, κt, h1, h2, rfl⟩ := keys1_cons e
    cases us with
    | nil => simp at hl
    | cons u us =>
      rw [List.zip_cons_cons] at p
      cases p with
      | @cons e' _ es _ q1 q2 p =>
        obtain ⟨r1, r2⟩ := reads_leaf (hh := hh) h2 (by simpa using hl) p
        refine ⟨?_, by simp [r2, q2]⟩
        have : Reads hh e'.key k.pd [] := by
          cases k <;> first | (cases h1; done) | skip
          · rename_i j
            cases h1
            have q : keyIs (.inl j) e'.key = true := q1
            rcases keyIs_shape q with ⟨i, t, e1, e2⟩ | ⟨x, t, e1, e2⟩
            · cases e1; rw [e2]; exact .int _ _
            · cases e1
          · rename_i j
            cases h1
            have q : keyIs (.inr (tx j)) e'.key = true := q1
            rcases keyIs_shape q with ⟨i, t, e1, e2⟩ | ⟨x, t, e1, e2⟩
            · cases e1
            · injection e1 with e1; rw [e2, ← e1]; exact .str _ _
        exact .cons this r1
theorem pds_len : ∀ xs : List T, (T.pds xs).length = xs.length
  | [] => rfl
  | x :: xs => by simp [T.pds, pds_len xs]
theorem refs_vals : ∀ xs : List (NestedKey × Addr × Value), Vals (xs.map fun x => V.ref x.2.1) (xs.map fun x => Value.ref x.2.1)
  | [] => .nil
  | _ :: xs => .cons rfl (refs_vals xs)
mutual
theorem VR.readsD (S : Same5 G X) (I : Inv X pins σ H s) (m : SM s.heap) (hr : HRel G h R H) : ∀ {t : T} {v : V} {u : Value}, t.pln = true → VR G R H t v → RelV v u → ∃ as, Reads s.heap u t.pd as ∧ sysModules ∉ as
  | _, _, _, _, .non, r => by cases r; exact ⟨_, .none, by simp⟩
  | _, _, _, _, .bl b, r => by cases r; exact ⟨_, .bool b, by simp⟩
  | _, _, _, _, .int i, r => by obtain ⟨t, rfl⟩ := r; exact ⟨_, .int i t, by simp⟩
  | _, _, _, _, .str z, r => by obtain ⟨t, rfl⟩ := r; exact ⟨_, .str _ t, by simp⟩
  | _, _, _, f, .tup hq rv, r => by
    cases r
    rw [← S.K] at hq
    obtain ⟨its, r, ⟨o, e, c, n, d⟩, _⟩ := I.tuple hq
    obtain ⟨as, ra, na⟩ := VRs.readsD S I m hr (by simpa [T.pln] using f) rv r
    exact ⟨_, .tuple e c d (by simpa using ra), na⟩
  | _, _, _, f, .lst hq rv, r => by
    cases r
    obtain ⟨_, its, n, r, e⟩ := Inv.exl S I (.inr hq)
    obtain ⟨as, ra, na⟩ := VRs.readsD S I m hr (by simpa [T.pln] using f) rv r
    refine ⟨_, .list e rfl rfl (by simpa using ra), ?_⟩
    simp only [List.mem_cons, not_or]
    exact ⟨(m.list e rfl).symm, na⟩
  | .dct ks ys, _, _, f, .dct (a := a) (kvs := kvs) (vs := vs) hf rk rv, r => by
    cases r
    simp only [T.pln, Bool.and_eq_true] at f
    have d := dlk_fz S I hf rk
    have hlk : ks.length = ys.length := by rw [d.len, rv.length]
    have e1 : ((T.pds ks).zip (T.pds ys)).map (·.1) = T.pds ks := by rw [List.map_fst_zip]; rw [pds_len, pds_len]; omega
    have e2 : ((T.pds ks).zip (T.pds ys)).map (·.2) = T.pds ys := by rw [List.map_snd_zip]; rw [pds_len, pds_len]; omega
    have ne : sysModules ≠ a := by
      have := d.ne
      simp at this
      exact fun z => this z.symm
    rcases d.form with ⟨κs, us, e3, e4, e5, e6, o, es, ep, h1, h2, h3, h4, h5, h6⟩ | ⟨xs, hn, e3, e4, e5, o, es, ep, h1, h2, h3, h4, h5, h6⟩
    · obtain ⟨r1, r2⟩ := reads_leaf (hh := s.heap) e3 e4 h5
      obtain ⟨bs, r3, n3⟩ := VRs.readsD S I m hr f.2 rv e5
      refine ⟨_, .dict h1 h2.1 h3 (by rw [e1]; exact r1) (by rw [e2, r2]; exact r3), ?_⟩
      simp [ne, n3]
    · obtain ⟨bs, r3, n3⟩ := VRs.readsD S I m hr f.2 rv e4
      obtain ⟨as, r4, n4⟩ := VRs.readsD S I m hr f.1 rk (us := xs.map fun x => Value.ref x.2.1) (by
        rw [e5]
        exact refs_vals xs)
      refine ⟨_, .dict h1 h2.1 h3 (by rw [e1, h4, List.map_map]; exact r4) (by rw [e2, h4, List.map_map]; exact r3), ?_⟩
      simp [ne, n3, n4]
  | _, _, _, f, .loc _, _ => by simp [T.pln] at f
  | _, _, _, f, .fn _, _ => by simp [T.pln] at f
  | _, _, _, f, .cls _, _ => by simp [T.pln] at f
  | _, _, _, f, .exn _ _ _ _ _, _ => by simp [T.pln] at f
theorem VRs.readsD (S : Same5 G X) (I : Inv X pins σ H s) (m : SM s.heap) (hr : HRel G h R H) : ∀ {xs : List T} {vs : List V} {us : List Value}, T.plns xs = true → VRs G R H xs vs → Vals vs us → ∃ as, ReadsAll s.heap us (T.pds xs) as ∧ sysModules ∉ as
  | _, _, _, _, .nil, r => by cases r; exact ⟨_, .nil, by simp⟩
  | _, _, _, f, .cons hv rv, r => by
    simp only [T.plns, Bool.and_eq_true] at f
    cases r with
    | cons r1 r2 =>
      obtain ⟨as, q1, n1⟩ := VR.readsD S I m hr f.1 hv r1
      obtain ⟨bs, q2, n2⟩ := VRs.readsD S I m hr f.2 rv r2
      exact ⟨_, .cons q1 q2, by simp [n1, n2]⟩
end
theorem view_readsD (S : Same5 G X) (I : Inv X pins σ H s) (m : SM s.heap) (hr : HRel G h R H) {t t' : T} {v : V} {u : Value} (e : view h t = some t') (f : t'.pln = true) (r : VR G R H t v) (ru : RelV v u) : ∃ as, Reads s.heap u t'.pd as ∧ sysModules ∉ as := by
  cases t with
  | loc n =>
    rw [view_loc] at e
    split at e
    · rename_i xs q
      cases e
      obtain ⟨a, vs, rfl, q1, r1⟩ := view_lst hr r (by rw [view_loc, q])
      cases ru
      obtain ⟨_, its, n, r, e⟩ := Inv.exl S I q1
      obtain ⟨as, ra, na⟩ := VRs.readsD S I m hr (by simpa [T.pln] using f) r1 r
      refine ⟨_, .list e rfl rfl (by simpa using ra), ?_⟩
      simp only [List.mem_cons, not_or]
      exact ⟨(m.list e rfl).symm, na⟩
    · rename_i ks ys q
      cases e
      obtain ⟨a, kvs, vs, rfl, d, rk, rv⟩ := view_dlk S I hr r (by rw [view_loc, q])
      cases ru
      simp only [T.pln, Bool.and_eq_true] at f
      have hlk : ks.length = ys.length := by rw [d.len, rv.length]
      have e1 : ((T.pds ks).zip (T.pds ys)).map (·.1) = T.pds ks := by rw [List.map_fst_zip]; rw [pds_len, pds_len]; omega
      have e2 : ((T.pds ks).zip (T.pds ys)).map (·.2) = T.pds ys := by rw [List.map_snd_zip]; rw [pds_len, pds_len]; omega
      have ne : sysModules ≠ a := by
        have := d.ne
        simp at this
        exact fun z => this z.symm
      rcases d.form with ⟨κs, us, e3, e4, e5, e6, o, es, ep, h1, h2, h3, h4, h5, h6⟩ | ⟨xs, hn, e3, e4, e5, o, es, ep, h1, h2, h3, h4, h5, h6⟩
      · obtain ⟨r1, r2⟩ := reads_leaf (hh := s.heap) e3 e4 h5
        obtain ⟨bs, r3, n3⟩ := VRs.readsD S I m hr f.2 rv e5
        refine ⟨_, .dict h1 h2.1 h3 (by rw [e1]; exact r1) (by rw [e2, r2]; exact r3), ?_⟩
        simp [ne, n3]
      · obtain ⟨bs, r3, n3⟩ := VRs.readsD S I m hr f.2 rv e4
        obtain ⟨as, r4, n4⟩ := VRs.readsD S I m hr f.1 rk (us := xs.map fun x => Value.ref x.2.1) (by
          rw [e5]
          exact refs_vals xs)
        refine ⟨_, .dict h1 h2.1 h3 (by rw [e1, h4, List.map_map]; exact r4) (by rw [e2, h4, List.map_map]; exact r3), ?_⟩
        simp [ne, n3, n4]
    · cases e
  | _ => cases e; exact VR.readsD S I m hr f r ru
/-- the reads of a dict, by those of its values -/
theorem dict_readsD (S : Same5 G X) (I : Inv X pins σ H s) (m : SM s.heap) (hr : HRel G h R H) {a : Addr} {ks ys : List T} {kvs vs : List V} (d : DLk G s.heap a ks kvs vs) (fk : T.plns ks = true) (rk : VRs G R H ks kvs) (hl : ys.length = ks.length)
    (hv : ∀ us, Vals vs us → ∃ bs, ReadsAll s.heap us (T.pds ys) bs ∧ sysModules ∉ bs) : ∃ as, Reads s.heap (.ref a) (T.dct ks ys).pd as ∧ sysModules ∉ as := by
  have e1 : ((T.pds ks).zip (T.pds ys)).map (·.1) = T.pds ks := by rw [List.map_fst_zip]; rw [pds_len, pds_len]; omega
  have e2 : ((T.pds ks).zip (T.pds ys)).map (·.2) = T.pds ys := by rw [List.map_snd_zip]; rw [pds_len, pds_len]; omega
  have ne : sysModules ≠ a := by
    have := d.ne
    simp at this
    exact fun z => this z.symm
  rcases d.form with ⟨κs, us, e3, e4, e5, e6, o, es, ep, h1, h2, h3, h4, h5, h6⟩ | ⟨xs, hn, e3, e4, e5, o, es, ep, h1, h2, h3, h4, h5, h6⟩
  · obtain ⟨r1, r2⟩ := reads_leaf (hh := s.heap) e3 e4 h5
    obtain ⟨bs, r3, n3⟩ := hv us e5
    refine ⟨_, .dict h1 h2.1 h3 (by rw [e1]; exact r1) (by rw [e2, r2]; exact r3), ?_⟩
    simp [ne, n3]
  · obtain ⟨bs, r3, n3⟩ := hv _ e4
    obtain ⟨as, r4, n4⟩ := VRs.readsD S I m hr fk rk (us := xs.map fun x => Value.ref x.2.1) (by
      rw [e5]
      exact refs_vals xs)
    refine ⟨_, .dict h1 h2.1 h3 (by rw [e1, h4, List.map_map]; exact r4) (by rw [e2, h4, List.map_map]; exact r3), ?_⟩
    simp [ne, n3, n4]
theorem optAll_len {f : T → Option T} : ∀ {xs ys : List T}, optAll f xs = some ys → ys.length = xs.length
  | [], _, e => by cases e; rfl
  | x :: xs, _, e => by
    obtain ⟨y, h1, h2⟩ := Option.bind_eq_some_iff.mp (show (f x).bind (fun y => (optAll f xs).map (y :: ·)) = some _ from e)
    obtain ⟨zs, h3, rfl⟩ := Option.map_eq_some_iff.mp h2
    simp [optAll_len h3]
mutual
/-- keys hold no places -/
theorem deep_kd : ∀ (n : Nat) {t t' : T}, t.kd = true → deep h n t = some t' → t' = t
  | 0, _, _, _, e => by cases e
  | n + 1, t, t', k, e => by
    cases t <;> first | (cases k; done) | (cases e; rfl) | skip
    rename_i xs
    obtain ⟨ys, h1, rfl⟩ := Option.map_eq_some_iff.mp (show (optAll (deep h n) xs).map T.tup = some _ from e)
    rw [deeps_kd n k h1]
theorem deeps_kd : ∀ (n : Nat) {xs ys : List T}, T.kds xs = true → optAll (deep h n) xs = some ys → ys = xs
  | n, [], _, _, e => by cases e; rfl
  | n, x :: xs, _, k, e => by
    obtain ⟨y, h1, h2⟩ := Option.bind_eq_some_iff.mp (show (deep h n x).bind (fun y => (optAll (deep h n) xs).map (y :: ·)) = some _ from e)
    obtain ⟨zs, h3, rfl⟩ := Option.map_eq_some_iff.mp h2
    simp only [T.kds, Bool.and_eq_true] at k
    rw [deep_kd n k.1 h1, deeps_kd n k.2 h3]
end
theorem all_kd {ks : List T} : ks.all nestT = true ∨ ks.all leafT = true → T.kds ks = true := by
  intro h
  induction ks with
  | nil => rfl
  | cons k ks ih =>
    simp only [List.all_cons, Bool.and_eq_true] at h
    simp only [T.kds, Bool.and_eq_true]
    rcases h with h | h
    · exact ⟨nest_kd h.1, ih (.inl h.2)⟩
    · refine ⟨?_, ih (.inr h.2)⟩
      have := h.1
      cases k <;> first | rfl | cases this
theorem DLk.kd {a : Addr} {hh : PySem.Heap} {ks : List T} {kvs vs : List V} (d : DLk G hh a ks kvs vs) : T.kds ks = true := by
  rcases d.form with ⟨κs, us, e3, _⟩ | ⟨xs, hn, _⟩
  · exact all_kd (.inr (leaf_keys1 e3))
  · exact all_kd (.inl hn)
theorem deep_readsD (S : Same5 G X) (I : Inv X pins σ H s) (m : SM s.heap) (hr : HRel G h R H) : ∀ (n : Nat) {t t' : T} {v : V} {u : Value}, deep h n t = some t' → t'.pln = true → VR G R H t v → RelV v u → ∃ as, Reads s.heap u t'.pd as ∧ sysModules ∉ as
  | 0, _, _, _, _, e, _, _, _ => by cases e
  | n + 1, t, t', v, u, e, f, r, ru => by
    have all : ∀ {xs ys : List T} {vs : List V} {us : List Value}, optAll (deep h n) xs = some ys → T.plns ys = true → VRs G R H xs vs → Vals vs us → ∃ as, ReadsAll s.heap us (T.pds ys) as ∧ sysModules ∉ as := by
      intro xs
      induction xs with
      | nil =>
        intro ys vs us e _ r1 r2
        cases e
        cases r1
        cases r2
        exact ⟨_, .nil, by simp⟩
      | cons x xs ih =>
        intro ys vs us e f r1 r2
        obtain ⟨y, h1, h2⟩ := Option.bind_eq_some_iff.mp (show (deep h n x).bind (fun y => (optAll (deep h n) xs).map (y :: ·)) = some _ from e)
        obtain ⟨zs, h3, rfl⟩ := Option.map_eq_some_iff.mp h2
        simp only [T.plns, Bool.and_eq_true] at f
        cases r1 with
        | cons q1 r1 =>
          cases r2 with
          | cons q2 r2 =>
            obtain ⟨as, a1, n1⟩ := deep_readsD S I m hr n h1 f.1 q1 q2
            obtain ⟨bs, a2, n2⟩ := ih h3 f.2 r1 r2
            exact ⟨_, .cons a1 a2, by simp [n1, n2]⟩
    have dic : ∀ {ks ks' ys ys' : List T} {a : Addr} {kvs vs : List V}, optAll (deep h n) ks = some ks' → optAll (deep h n) ys = some ys' → T.plns ks' = true → T.plns ys' = true → DLk G s.heap a ks kvs vs → VRs G R H ks kvs → VRs G R H ys vs → ∃ as, Reads s.heap (.ref a) (T.dct ks' ys').pd as ∧ sysModules ∉ as := by
      intro ks ks' ys ys' a kvs vs e1 e2 f1 f2 d rk rv
      have ek := deeps_kd n d.kd e1
      subst ek
      refine dict_readsD S I m hr d f1 rk ?_ fun us rr => all e2 f2 rv rr
      rw [optAll_len e2, d.len, rv.length]
    cases t with
    | loc k =>
      cases eo : h[k]? with
      | none => simp only [deep, eo] at e; cases e
      | some o =>
        cases o with
        | lst xs =>
          simp only [deep, eo] at e
          obtain ⟨ys, h1, rfl⟩ := Option.map_eq_some_iff.mp e
          obtain ⟨a, vs, rfl, q1, r1⟩ := view_lst hr r (by rw [view_loc, eo])
          cases ru
          obtain ⟨_, its, n0, r3, e3⟩ := Inv.exl S I q1
          obtain ⟨as, ra, na⟩ := all h1 (by simpa [T.pln] using f) r1 r3
          refine ⟨_, .list e3 rfl rfl (by simpa using ra), ?_⟩
          simp only [List.mem_cons, not_or]
          exact ⟨(m.list e3 rfl).symm, na⟩
        | dct ks vs =>
          simp only [deep, eo] at e
          obtain ⟨ks', h1, h2⟩ := Option.bind_eq_some_iff.mp e
          obtain ⟨ys', h3, rfl⟩ := Option.map_eq_some_iff.mp h2
          obtain ⟨a, kvs, vs', rfl, d, rk, rv⟩ := view_dlk S I hr r (by rw [view_loc, eo])
          cases ru
          simp only [T.pln, Bool.and_eq_true] at f
          exact dic h1 h3 f.1 f.2 d rk rv
        | ins c fs => simp only [deep, eo] at e; cases e
        | dead => simp only [deep, eo] at e; cases e
    | tup xs =>
      obtain ⟨ys, h1, rfl⟩ := Option.map_eq_some_iff.mp (show (optAll (deep h n) xs).map T.tup = some _ from e)
      cases r with
      | tup hq rv =>
        cases ru
        rw [← S.K] at hq
        obtain ⟨its, r3, ⟨o, e4, c, n4, d⟩, _⟩ := I.tuple hq
        obtain ⟨as, ra, na⟩ := all h1 (by simpa [T.pln] using f) rv r3
        exact ⟨_, .tuple e4 c d (by simpa using ra), na⟩
    | lst xs =>
      obtain ⟨ys, h1, rfl⟩ := Option.map_eq_some_iff.mp (show (optAll (deep h n) xs).map T.lst = some _ from e)
      cases r with
      | lst hq rv =>
        cases ru
        obtain ⟨_, its, n4, r3, e4⟩ := Inv.exl S I (.inr hq)
        obtain ⟨as, ra, na⟩ := all h1 (by simpa [T.pln] using f) rv r3
        refine ⟨_, .list e4 rfl rfl (by simpa using ra), ?_⟩
        simp only [List.mem_cons, not_or]
        exact ⟨(m.list e4 rfl).symm, na⟩
    | dct ks ys =>
      obtain ⟨ks', h1, h2⟩ := Option.bind_eq_some_iff.mp (show (optAll (deep h n) ks).bind (fun ks => (optAll (deep h n) ys).map fun vs => T.dct ks vs) = some _ from e)
      obtain ⟨ys', h3, rfl⟩ := Option.map_eq_some_iff.mp h2
      cases r with
      | dct hf rk rv =>
        cases ru
        simp only [T.pln, Bool.and_eq_true] at f
        exact dic h1 h3 f.1 f.2 (dlk_fz S I hf rk) rk rv
    | non => cases e; exact VR.readsD S I m hr f r ru
    | bl _ => cases e; exact VR.readsD S I m hr f r ru
    | int _ => cases e; exact VR.readsD S I m hr f r ru
    | str _ => cases e; exact VR.readsD S I m hr f r ru
    | fn _ => cases e; cases f
    | cls _ => cases e; cases f
    | exn _ _ => cases e; cases f
mutual
/-- what an address means is one thing -/
theorem VR.fun (S : Same5 G X) (I : Inv X pins σ H s) : ∀ {t t' : T} {v : V}, t.flat = true → t'.flat = true → VR G R H t v → VR G R H t' v → t = t'
  | _, _, _, _, _, .non, r => by cases r; rfl
  | _, _, _, _, _, .bl b, r => by cases r; rfl
  | _, _, _, _, _, .int i, r => by cases r; rfl
  | _, _, _, _, _, .str z, r => by
    generalize hv : V.str (tx z) = v at r
    cases r with
    | str z' => injection hv with e; rw [tx_inj e]
    | _ => cases hv
  | _, _, _, f, g, .tup hq rv, r => by
    cases r with
    | tup hq' rv' =>
      rw [← S.K] at hq hq'
      have e := I.tuple_inj hq hq'
      subst e
      rw [VRs.fun S I (by simpa [T.flat] using f) (by simpa [T.flat] using g) rv rv']
    | lst hq' rv' =>
      rw [← S.K] at hq
      obtain ⟨its, _, ⟨o, e, c, n, d⟩, _⟩ := I.tuple hq
      obtain ⟨_, its2, n2, _, e2⟩ := Inv.exl S I (.inr hq')
      rw [e] at e2; cases e2; simp at c
    | dct _ _ _ => simp [T.flat] at g
    | loc _ => simp [T.flat] at g
    | fn _ => simp [T.flat] at g
    | cls _ => simp [T.flat] at g
    | exn _ _ _ _ _ => simp [T.flat] at g
  | _, _, _, f, g, .lst hq rv, r => by
    cases r with
    | tup hq' rv' =>
      rw [← S.K] at hq'
      obtain ⟨its, _, ⟨o, e, c, n, d⟩, _⟩ := I.tuple hq'
      obtain ⟨_, its2, n2, _, e2⟩ := Inv.exl S I (.inr hq)
      rw [e] at e2; cases e2; simp at c
    | lst hq' rv' =>
      have e := I.list_inj (S.K.symm ▸ hq.sq) (S.K.symm ▸ hq'.sq)
      subst e
      rw [VRs.fun S I (by simpa [T.flat] using f) (by simpa [T.flat] using g) rv rv']
    | dct _ _ _ => simp [T.flat] at g
    | loc _ => simp [T.flat] at g
    | fn _ => simp [T.flat] at g
    | cls _ => simp [T.flat] at g
    | exn _ _ _ _ _ => simp [T.flat] at g
  | _, _, _, f, _, .dct _ _ _, _ => by simp [T.flat] at f
  | _, _, _, f, _, .loc _, _ => by simp [T.flat] at f
  | _, _, _, f, _, .fn _, _ => by simp [T.flat] at f
  | _, _, _, f, _, .cls _, _ => by simp [T.flat] at f
  | _, _, _, f, _, .exn _ _ _ _ _, _ => by simp [T.flat] at f
theorem VRs.fun (S : Same5 G X) (I : Inv X pins σ H s) : ∀ {xs ys : List T} {vs : List V}, T.flats xs = true → T.flats ys = true → VRs G R H xs vs → VRs G R H ys vs → xs = ys
  | _, _, _, _, _, .nil, r => by cases r; rfl
  | _, _, _, f, g, .cons h1 r1, r => by
    cases r with
    | cons h2 r2 =>
      simp only [T.flats, Bool.and_eq_true] at f g
      rw [VR.fun S I f.1 g.1 h1 h2, VRs.fun S I f.2 g.2 r1 r2]
end
/-- x in its, as the model looks -/
theorem memT_any (S : Same5 G X) (I : Inv X pins σ H s) {x : T} {vx : V} {ux : Value} (fx : x.fit = true) (hx : VR G R H x vx) (rx : RelV vx ux) {A : Around} (hu : A.units + 101 < cLine) :
    ∃ e : Value → Bool, ∀ {ys : List T} {vs : List V} {us : List Value}, T.flats ys = true → T.depths ys ≤ 100 → VRs G R H ys vs → Vals vs us → (∀ u ∈ us, SeqAt.EqAt A s u ux (e u)) ∧ us.any e = memT x ys := by
  classical
  simp only [T.fit, Bool.and_eq_true, decide_eq_true_eq] at fx
  refine ⟨fun u => decide (∃ (y : T) (v : V), RelV v u ∧ VR G R H y v ∧ y.flat = true ∧ T.eqv y x = true), ?_⟩
  have one : ∀ {y : T} {v : V} {u : Value}, y.flat = true → VR G R H y v → RelV v u → decide (∃ (y : T) (v : V), RelV v u ∧ VR G R H y v ∧ y.flat = true ∧ T.eqv y x = true) = T.eqv y x := by
    intro y v u fy hy ry
    cases q : T.eqv y x with
    | true => exact decide_eq_true ⟨y, v, ry, hy, fy, q⟩
    | false =>
      refine decide_eq_false ?_
      rintro ⟨y', v', r', h', f', e'⟩
      obtain rfl := r'.inj ry
      rw [VR.fun S I f' fy h' hy, q] at e'
      cases e'
  intro ys
  induction ys with
  | nil =>
    intro vs us _ _ r1 r2
    cases r1; cases r2
    exact ⟨fun u hu => by simp at hu, rfl⟩
  | cons y ys ih =>
    intro vs us f d r1 r2
    cases r1 with
    | cons hy r1 =>
      cases r2 with
      | cons ry r2 =>
        simp only [T.flats, Bool.and_eq_true] at f
        simp only [T.depths] at d
        obtain ⟨a, b⟩ := ih f.2 (by omega) r1 r2
        refine ⟨fun u hm => ?_, ?_⟩
        · rcases List.mem_cons.mp hm with rfl | hm
          · obtain ⟨as, ra⟩ := VR.reads S I f.1 hy ry
            obtain ⟨bs, rb⟩ := VR.reads S I fx.1 hx rx
            show SeqAt.EqAt A s u ux (decide _)
            rw [one f.1 hy ry, ← T.pd_eqv y x f.1 fx.1]
            intro prog w E Q hq
            exact SeqAt.eqBoolOverData prog w A E s _ _ _ _ as bs Q ra rb (T.pd_lay y f.1) (T.pd_lay x fx.1) (by rw [T.pd_depth _ f.1, T.pd_depth _ fx.1]; omega) hq
          · exact a u hm
        · rw [List.any_cons, b, one f.1 hy ry]
          rfl
theorem signIn_some {a b : List Nat} {k : Bool} (h : signIn a b = some k) : ∃ c, a = [c] ∧ k = b.contains c := by
  unfold signIn at h
  split at h
  · rename_i c; exact ⟨c, rfl, (Option.some.inj h).symm⟩
  · cases h
theorem tx_has (c : Nat) (j : List Nat) : decide (c ∈ (tx j).cps.toList) = j.contains c := by
  by_cases h : c ∈ j
  · rw [decide_eq_true (show c ∈ (tx j).cps.toList by simpa [tx] using h)]
    simp [h]
  · rw [decide_eq_false (show ¬ c ∈ (tx j).cps.toList by simpa [tx] using h)]
    simp [h]
/-- the model's operator of ours -/
abbrev cOp : COp → CmpOp
  | .eq => .Eq | .ne => .NotEq | .lt => .Lt | .le => .LtE | .gt => .Gt | .ge => .GtE | .is => .Is | .isn => .IsNot | .isin => .In | .nin => .NotIn
def rCmp (G : GD) (o : COp) : R2 := fun x y H Q => ∃ h R a b k, HRel G h R H ∧ VR G R H a x ∧ VR G R H b y ∧ cmpop o h a b = some k ∧ Q (.bl k) H
theorem isNon {t : T} {v : V} (r : VR G R H t v) : decide (v = .non) = decide (t = .non) := by
  cases r <;> simp
end
section
variable {G : GD} {X : L2.Cx}
theorem op_cmp (S : Same5 G X) (hu : X.A.units + 200 < cLine) (o : COp) : OpR X (compareOp (cOp o)) (rCmp G o) := by
  intro pins s σ H x y v u Q I rx ry hh
  obtain ⟨h, R, a, b, z, hr, va, vb, e, p⟩ := hh
  have eqs : ∀ {a' b' : T}, view h a = some a' → view h b = some b' → (a'.fit && b'.fit) = true → ∃ as bs, Reads s.heap v a'.pd as ∧ Reads s.heap u b'.pd bs ∧ a'.pd.canLay0 = true ∧ b'.pd.canLay0 = true ∧
      X.A.units + min a'.pd.depth b'.pd.depth < cLine ∧ PyData.eqv a'.pd b'.pd = T.eqv a' b' := by
    intro a' b' e1 e2 f
    simp only [T.fit, Bool.and_eq_true, decide_eq_true_eq] at f
    obtain ⟨as, ra⟩ := view_reads S I hr e1 f.1.1 va rx
    obtain ⟨bs, rb⟩ := view_reads S I hr e2 f.2.1 vb ry
    exact ⟨as, bs, ra, rb, T.pd_lay _ f.1.1, T.pd_lay _ f.2.1, by rw [T.pd_depth _ f.1.1, T.pd_depth _ f.2.1]; omega, T.pd_eqv _ _ f.1.1 f.2.1⟩
  have inl : ∀ {ys : List T}, (x1 : view h b = some (.lst ys)) → (a.fit && T.fits ys) = true → ∃ e l its n, u = .ref l ∧ s.heap.get? l = some { cls := .type "list", data := .seq its n } ∧ (∀ y ∈ its, SeqAt.EqAt X.A.in1 s y v (e y)) ∧ its.any e = memT a ys := by
    intro ys x1 f
    simp only [T.fits, Bool.and_eq_true, decide_eq_true_eq] at f
    obtain ⟨e, he⟩ := memT_any S I f.1 va rx (A := X.A.in1) (by show X.A.units + 1 + 101 < cLine; omega)
    obtain ⟨l, vs, rfl, q1, r1⟩ := view_lst hr vb x1
    cases ry
    obtain ⟨_, its, n, r, e1⟩ := Inv.exl S I q1
    obtain ⟨h1, h2⟩ := he f.2.1 f.2.2 r1 r
    exact ⟨e, l, _, n, rfl, e1, fun y hy => h1 y (by simpa using hy), by simpa using h2⟩
  have int : ∀ {ys : List T}, (x1 : view h b = some (.tup ys)) → (a.fit && T.fits ys) = true → ∃ e l its, u = .ref l ∧ s.heap.IsTuple l its ∧ (∀ y ∈ its, SeqAt.EqAt X.A.in1 s y v (e y)) ∧ its.any e = memT a ys := by
    intro ys x1 f
    simp only [T.fits, Bool.and_eq_true, decide_eq_true_eq] at f
    obtain ⟨e, he⟩ := memT_any S I f.1 va rx (A := X.A.in1) (by show X.A.units + 1 + 101 < cLine; omega)
    obtain ⟨l, vs, rfl, q1, r1⟩ := view_tup hr vb x1
    cases ry
    rw [← S.K] at q1
    obtain ⟨its, r, tt, _⟩ := I.tuple q1
    obtain ⟨h1, h2⟩ := he f.2.1 f.2.2 r1 r
    exact ⟨e, l, _, rfl, tt, fun y hy => h1 y (by simpa using hy), by simpa using h2⟩
  have len : ∀ {a' b' : T} {k : Bool}, view h a = some a' → view h b = some b' → eqLen a' b' = some k → k = false ∧ ∃ l1 l2, v = .ref l1 ∧ u = .ref l2 ∧
      ((∃ (i1 : Array Value) (i2 : Unit), s.heap.IsTuple l1 i1 ∧ s.heap.IsTuple l2 #[] ∧ i1.size ≠ 0) ∨ (∃ i1 i2 : Array Value, s.heap.IsList l1 i1 ∧ s.heap.IsList l2 i2 ∧ (i1.size != i2.size) = true)) := by
    intro a' b' k x1 x2 el
    unfold eqLen at el
    split at el
    · rename_i y ys
      cases el
      obtain ⟨l, vs, rfl, q1, r1⟩ := view_tup hr va x1
      obtain ⟨l2, ws, rfl, q2, r2⟩ := view_tup hr vb x2
      cases rx
      cases ry
      rw [← S.K] at q1 q2
      obtain ⟨its, r, tt, _⟩ := I.tuple q1
      obtain ⟨its2, r', tt2, _⟩ := I.tuple q2
      cases r2
      cases r'
      cases r1
      cases r
      exact ⟨rfl, l, l2, rfl, rfl, .inl ⟨_, (), tt, tt2, by simp⟩⟩
    · rename_i ys zs
      split at el
      · cases el
      · rename_i hn
        cases el
        obtain ⟨l, vs, rfl, q1, r1⟩ := view_lst hr va x1
        obtain ⟨l2, ws, rfl, q2, r2⟩ := view_lst hr vb x2
        cases rx
        cases ry
        obtain ⟨_, its, n, r, e1⟩ := Inv.exl S I q1
        obtain ⟨_, its2, n2, r', e2⟩ := Inv.exl S I q2
        exact ⟨rfl, l, l2, rfl, rfl, .inr ⟨_, _, ⟨_, e1, rfl, n, rfl⟩, ⟨_, e2, rfl, n2, rfl⟩, by
          have q1 := r1.length
          have q2 := r2.length
          have q3 := r.length
          have q4 := r'.length
          simp only [List.size_toArray, bne_iff_ne]
          omega⟩⟩
    · cases el
  unfold cmpop at e
  split at e
  · rename_i a' b' e1 e2
    cases e
    have q1 := view_str va e1
    have q2 := view_str vb e2
    subst q1 q2
    exact L2.op_eq pins s σ H _ _ v u Q I rx ry ⟨rfl, by rw [dec_str, tx_beq]; exact p⟩
  · rename_i a' b' e1 e2
    cases e
    have q1 := view_str va e1
    have q2 := view_str vb e2
    subst q1 q2
    exact L2.op_ne pins s σ H _ _ v u Q I rx ry ⟨rfl, by rw [dec_str, tx_beq]; exact p⟩
  · rename_i a' b' e1 e2
    split at e
    · rename_i f
      cases e
      obtain ⟨as, bs, ra, rb, la, lb, d, q⟩ := eqs e1 e2 f
      exact SeqAt.compareEq_reads ra rb la lb d ⟨.bl _, H, I, rfl, by rw [q]; exact p⟩
    · obtain ⟨rfl, l1, l2, rfl, rfl, hh⟩ := len e1 e2 e
      rcases hh with ⟨i1, i2, t1, t2, hn⟩ | ⟨i1, i2, t1, t2, hn⟩
      · refine SeqAt.eq_tupleAt (e := fun _ => true) t1 t2 (by omega) (fun j _ h2 => absurd h2 (by simp)) ⟨.bl _, H, I, ?_, p⟩
        rw [show (i1.size == (#[] : Array Value).size) = false by simpa using hn, Bool.and_false]
        rfl
      · exact SeqAt.eq_list_lengthsAt t1 t2 hn (by omega) ⟨.bl _, H, I, rfl, p⟩
  · rename_i a' b' hq e1 e2
    split at e
    · rename_i f
      cases e
      obtain ⟨as, bs, ra, rb, la, lb, d, q⟩ := eqs e1 e2 f
      exact SeqAt.compareNe_reads ra rb la lb d ⟨.bl _, H, I, rfl, by rw [q]; exact p⟩
    · cases el : eqLen a' b' with
      | none => rw [el] at e; cases e
      | some k =>
        rw [el] at e
        cases e
        obtain ⟨rfl, l1, l2, rfl, rfl, hh⟩ := len e1 e2 el
        rcases hh with ⟨i1, i2, t1, t2, hn⟩ | ⟨i1, i2, t1, t2, hn⟩
        · refine SeqAt.RcNeAt.tuples (e := fun _ => true) t1 t2 (by omega) (fun j _ h2 => absurd h2 (by simp)) _ _ _ _ ⟨.bl _, H, I, ?_, p⟩
          rw [show (i1.size == (#[] : Array Value).size) = false by simpa using hn, Bool.and_false]
          rfl
        · exact SeqAt.RcNeAt.lists_lengths t1 t2 hn (by omega) _ _ _ _ ⟨.bl _, H, I, rfl, p⟩
  · rename_i i j e1 e2
    cases e
    exact op_lt pins s σ H x y v u Q I rx ry ⟨_, _, view_int va e1, view_int vb e2, p⟩
  · rename_i i j e1 e2
    cases e
    exact op_le pins s σ H x y v u Q I rx ry ⟨_, _, view_int va e1, view_int vb e2, p⟩
  · rename_i i j e1 e2
    cases e
    exact op_gt pins s σ H x y v u Q I rx ry ⟨_, _, view_int va e1, view_int vb e2, p⟩
  · rename_i i j e1 e2
    cases e
    exact op_ge pins s σ H x y v u Q I rx ry ⟨_, _, view_int va e1, view_int vb e2, p⟩
  · rename_i e2
    cases e
    exact op_isN pins s σ H x y v u Q I rx ry ⟨view_non vb e2, by rw [isNon va]; exact p⟩
  · rename_i e2
    cases e
    exact op_notN pins s σ H x y v u Q I rx ry ⟨view_non vb e2, by rw [isNon va]; exact p⟩
  · rename_i ys e2
    split at e
    · rename_i f
      cases e
      obtain ⟨e, l, its, n, rfl, g1, g2, g3⟩ := inl e2 f
      exact SeqAt.in_listAt e (PlainL.isList ⟨_, n, g1, rfl, rfl, rfl⟩) g2 ⟨.bl _, H, I, rfl, by rw [g3]; exact p⟩
    · cases e
  · rename_i ys e2
    split at e
    · rename_i f
      cases e
      obtain ⟨e, l, its, rfl, g1, g2, g3⟩ := int e2 f
      exact SeqAt.in_tupleAt e g1 g2 ⟨.bl _, H, I, rfl, by rw [g3]; exact p⟩
    · cases e
  · rename_i ks vs e2
    split at e
    · rename_i f
      cases e
      obtain ⟨l, kvs, vs, rfl, d, rk, rv⟩ := view_dlk S I hr vb e2
      cases ry
      have hq := dl_in (A := X.A) (E := X.xe) (Q := EP X pins σ Q) S (by omega) I d rv f va rx fun s' I' => ⟨.bl _, H, I', rfl, p⟩
      rw [← S.prog, ← S.w] at hq
      exact hq
    · cases e
  · rename_i i j e1 e2
    obtain ⟨c, rfl, rfl⟩ := signIn_some e
    exact op_in_sign pins s σ H x y v u Q I rx ry ⟨c, _, view_str va e1, view_str vb e2, by rw [tx_has]; exact p⟩
  · rename_i ys e2
    split at e
    · rename_i f
      cases e
      obtain ⟨e, l, its, n, rfl, g1, g2, g3⟩ := inl e2 f
      exact SeqAt.notIn_listAt e (PlainL.isList ⟨_, n, g1, rfl, rfl, rfl⟩) g2 ⟨.bl _, H, I, rfl, by rw [g3]; exact p⟩
    · cases e
  · rename_i ys e2
    split at e
    · rename_i f
      cases e
      obtain ⟨e, l, its, rfl, g1, g2, g3⟩ := int e2 f
      exact SeqAt.notIn_tupleAt e g1 g2 ⟨.bl _, H, I, rfl, by rw [g3]; exact p⟩
    · cases e
  · rename_i ks vs e2
    split at e
    · rename_i f
      cases e
      obtain ⟨l, kvs, vs, rfl, d, rk, rv⟩ := view_dlk S I hr vb e2
      cases ry
      have hq := dl_notIn (A := X.A) (E := X.xe) (Q := EP X pins σ Q) S (by omega) I d rv f va rx fun s' I' => ⟨.bl _, H, I', rfl, p⟩
      rw [← S.prog, ← S.w] at hq
      exact hq
    · cases e
  · rename_i i j e1 e2
    obtain ⟨k, e3, rfl⟩ := Option.map_eq_some_iff.mp e
    obtain ⟨c, rfl, rfl⟩ := signIn_some e3
    exact op_notIn_sign pins s σ H x y v u Q I rx ry ⟨c, _, view_str va e1, view_str vb e2, by rw [tx_has]; exact p⟩
  · cases e
end
end Lite

/-! LITE, 6: truth, subscripts, slices, built-in functions. -/
namespace Lite
open PySem L2 PySem.Spec
open PyProof.Rows hiding St

theorem place_ix (n : Nat) (i : Int) : place n i = ixN n i := rfl
theorem six_ix (n d : Nat) (o : Option Int) : six n d o = HT.sIx n d o := by cases o <;> rfl
theorem cut_cutV (xs : List V) (lo hi : Option Int) : cut xs lo hi = cutV xs lo hi := by
  unfold cut cutV
  rw [six_ix, six_ix]
theorem VRs.cut {G : GD} {R : List Addr} {H : Hp} {xs : List T} {vs : List V} (r : VRs G R H xs vs) (lo hi : Option Int) : VRs G R H (Lite.cut xs lo hi) (cutV vs lo hi) := by
  rw [← cut_cutV]
  unfold Lite.cut
  rw [r.length]
  exact (r.drop _).take _
theorem VRs.nth {G : GD} {R : List Addr} {H : Hp} {xs : List T} {vs : List V} (r : VRs G R H xs vs) {i : Int} {x : T} (e : nth xs i = some x) : ∃ v, atI vs i = some v ∧ VR G R H x v := by
  unfold Lite.nth at e
  obtain ⟨k, h1, h2⟩ := Option.bind_eq_some_iff.mp e
  obtain ⟨v, h3, h4⟩ := r.get h2
  refine ⟨v, ?_, h4⟩
  unfold atI
  rw [← place_ix, ← r.length, h1]
  exact h3
theorem cut_tx (s : List Nat) (lo hi : Option Int) : cutS (tx s) lo hi = tx (cut s lo hi) := by
  unfold cutS cut tx
  simp only [six_ix, Str.length]
  simp

section
variable {G : GD} {R : List Addr} {H : Hp} {h : Heap}
/-- a value's truth by ours -/
theorem truth_ok (hr : HRel G h R H) {x : T} {v : V} {k : Bool} (r : VR G R H x v) (e : truth h x = some k) : TruV G.K v H k := by
  unfold truth at e
  split at e
  · rename_i q; cases e; rw [view_non r q]; rfl
  · rename_i q; cases e; rw [view_bl r q]; rfl
  · rename_i i q; cases e; rw [view_int r q]; rfl
  · rename_i s q
    split at e
    · rename_i hl
      cases e
      rw [view_str r q]
      refine ⟨by rw [tx_len, top_eq]; exact hl, ?_⟩
      rw [tx_len]
      cases s with
      | nil => rfl
      | cons a b =>
        symm
        show (((b.length + 1 : Nat) : Int) != 0) = true
        rw [bne_iff_ne]; omega
    · cases e
  · rename_i xs q
    cases e
    obtain ⟨a, vs, rfl, h1, h2⟩ := view_tup hr r q
    refine .inr (.inl ⟨vs, h1, ?_⟩)
    cases h2 <;> rfl
  · rename_i xs q
    cases e
    obtain ⟨a, vs, rfl, h1, h2⟩ := view_lst hr r q
    refine .inl ⟨vs, h1.sq, ?_⟩
    cases h2 <;> rfl
  · cases e
end

section
variable {G : GD} {X : L2.Cx}
/-- a subscript, by ours -/
theorem ix_ours (S : Same5 G X) (hu : X.A.units + 200 < cLine) : IxR X (rO2 G index) := by
  intro value slice pins s σ H x y v u Q I rx ry hh hs
  obtain ⟨h, R, a, b, z, hr, va, vb, e, p⟩ := hh
  unfold index at e
  split at e
  · rename_i xs k q
    obtain ⟨a', vs, rfl, h1, h2⟩ := view_lst hr va q
    obtain ⟨w, h3, h4⟩ := h2.nth e
    cases vb
    exact ix_list value slice pins s σ H _ _ v u Q I rx ry ⟨_, _, _, _, rfl, rfl, by rw [S.K]; exact h1.sq, h3, p.here hr h4⟩ hs
  · rename_i xs k q
    obtain ⟨a', vs, rfl, h1, h2⟩ := view_tup hr va q
    obtain ⟨w, h3, h4⟩ := h2.nth e
    cases vb
    exact ix_tup value slice pins s σ H _ _ v u Q I rx ry ⟨_, _, _, _, rfl, rfl, by rw [S.K]; exact h1, h3, p.here hr h4⟩ hs
  · rename_i t k q
    split at e
    · rename_i hl
      obtain ⟨c, h1, rfl⟩ := Option.map_eq_some_iff.mp e
      cases vb
      rw [view_str va q] at rx
      refine ix_str value slice pins s σ H _ _ v u Q I rx ry ⟨_, _, c, rfl, rfl, by rw [tx_len, top_eq]; exact hl, ?_, ?_⟩ hs
      · simp only [tx]
        exact h1
      · exact p.here hr (.str [c])
    · cases e
  · rename_i ks ys k q
    split at e <;> (try (cases e; done))
    rename_i f
    obtain ⟨l, kvs, vs, rfl, d, rk, rv⟩ := view_dlk S I hr va q
    cases rx
    refine tail_any (d.typeIs (s := s)) PySem.F.slot_dict_getitem.lookup ?_ hs
    have hq := dl_getItem (A := X.A) (E := X.xe) (Q := EP X pins σ Q) S (by omega) I d rv f vb ry e fun w' v s' I' r1 r2 => ⟨v, H, I', r1, p.here hr r2⟩
    rw [← S.prog, ← S.w] at hq
    exact hq
  · cases e
/-- a slice, by ours -/
def rSlO (G : GD) : V → Option Int → Option Int → Hp → VK → Prop := fun x lo hi H Q => ∃ h R a z, HRel G h R H ∧ VR G R H a x ∧ slice h a lo hi = some z ∧ PostE G R H Q z h
theorem sl_ours (S : Same5 G X) : SlR X (rSlO G) := by
  intro pins s σ H x v vl vu lo hi sl Q I rx hs pl pu hh
  obtain ⟨h, R, a, z, hr, va, e, p⟩ := hh
  unfold slice at e
  split at e
  · rename_i xs q
    cases e
    obtain ⟨a', vs, rfl, h1, h2⟩ := view_lst hr va q
    obtain ⟨T, id, g1, g2, g3⟩ := sl_list pins s σ H _ v vl vu lo hi sl (LockQ Q) I rx hs pl pu ⟨a', vs, rfl, by rw [S.K]; exact h1.sq, fun q hq => ⟨q, H, _, rfl, hq, rfl, fun o => p.newF hr (h2.cut lo hi) hq o⟩⟩
    exact ⟨T, id, g1, g2, thn g3 fun _ _ z => EP.lock z⟩
  · rename_i xs q
    cases e
    obtain ⟨a', vs, rfl, h1, h2⟩ := view_tup hr va q
    refine sl_tupA pins s σ H _ v vl vu lo hi sl Q I rx hs pl pu ⟨a', vs, rfl, by rw [S.K]; exact h1, fun w => ?_, fun w q hq => p.newT hr (h2.cut lo hi) hq⟩
    have e : cut xs lo hi = xs := by
      unfold cut
      rw [h2.length, six_ix, six_ix, w.1, w.2]
      rw [← h2.length]; simp
    rw [e] at p
    exact p.here hr (.tup h1 h2)
  · rename_i t q
    split at e
    · rename_i hl
      cases e
      rw [view_str va q] at rx
      refine sl_str pins s σ H _ v vl vu lo hi sl Q I rx hs pl pu ⟨_, rfl, by rw [tx_len, top_eq]; exact hl, ?_⟩
      rw [cut_tx]
      exact p.here hr (.str _)
    · cases e
  · cases e
end

/-! ### repr -/
theorem showKv_zip : ∀ (a b : List PyData), PyData.showableAll a = true → PyData.showableAll b = true → PyData.showableKv (a.zip b) = true
  | [], b, _, _ => by simp [PyData.showableKv]
  | _ :: _, [], _, _ => by simp [PyData.showableKv]
  | x :: xs, y :: ys, h1, h2 => by
    simp only [PyData.showableAll, Bool.and_eq_true] at h1 h2
    simp only [List.zip_cons_cons, PyData.showableKv, Bool.and_eq_true]
    exact ⟨⟨h1.1, h2.1⟩, showKv_zip xs ys h1.2 h2.2⟩
mutual
theorem T.pd_show : ∀ t : T, t.showy = true → t.pd.showable = true
  | .non, _ => by simp [T.pd, PyData.showable]
  | .bl _, _ => by simp [T.pd, PyData.showable]
  | .int _, h => by simpa [T.pd, PyData.showable, T.showy] using h
  | .str s, h => by simp [T.pd, PyData.showable]
  | .tup xs, h => by simp only [T.pd, PyData.showable]; exact T.pds_show xs (by simpa [T.showy] using h)
  | .lst xs, h => by simp only [T.pd, PyData.showable]; exact T.pds_show xs (by simpa [T.showy] using h)
  | .dct ks vs, h => by
    simp only [T.showy, Bool.and_eq_true] at h
    simp only [T.pd, PyData.showable]
    exact showKv_zip _ _ (T.pds_show ks h.1) (T.pds_show vs h.2)
  | .loc _, h => by simp [T.pd, PyData.showable]
  | .fn _, h => by simp [T.pd, PyData.showable]
  | .cls _, h => by simp [T.pd, PyData.showable]
  | .exn _ _, h => by simp [T.pd, PyData.showable]
theorem T.pds_show : ∀ xs : List T, T.showys xs = true → PyData.showableAll (T.pds xs) = true
  | [], _ => by simp [T.pds, PyData.showableAll]
  | x :: xs, h => by
    simp only [T.showys, Bool.and_eq_true] at h
    simp only [T.pds, PyData.showableAll, Bool.and_eq_true]
    exact ⟨T.pd_show x h.1, T.pds_show xs h.2⟩
end
theorem text_len (s : String) : (s : Str).length = s.toList.length := by
  show (Str.ofString s).cps.size = _
  rw [Str.ofString_eq_toList]
  simp
theorem int_len (i : Int) : ((toString i : String) : Str).length ≤ i.natAbs.log2 + 3 := by
  have nat : ∀ n : Nat, (toString n).toList.length ≤ n.log2 + 1 := fun n => by
    have h := nat_repr_length_le (n := n) (k := n.log2 + 1) (Nat.succ_pos _) Nat.lt_log2_self
    exact h
  rw [text_len]
  cases i with
  | ofNat n => exact Nat.le_trans (nat n) (by show n.log2 + 1 ≤ n.log2 + 3; omega)
  | negSucc n =>
    show ("-" ++ toString (n + 1)).toList.length ≤ (n + 1).log2 + 3
    have := nat (n + 1)
    rw [String.toList_append, List.length_append]
    show 1 + _ ≤ _
    omega
theorem pair_len (a b : Str) : (a ++ (": " : Str) ++ b).length = a.length + 2 + b.length := by
  rw [strLen_append, strLen_append]
  rfl
theorem shownKv_sum : ∀ (a b : List PyData), ((PyData.shownKv (a.zip b)).map (·.length)).sum + 2 * (PyData.shownKv (a.zip b)).length ≤ (((PyData.shownAll a).map (·.length)).sum + 2 * (PyData.shownAll a).length) + (((PyData.shownAll b).map (·.length)).sum + 2 * (PyData.shownAll b).length)
  | [], b => by simp [PyData.shownKv]
  | _ :: _, [] => by simp [PyData.shownKv]
  | x :: xs, y :: ys => by
    have := shownKv_sum xs ys
    simp only [List.zip_cons_cons, PyData.shownKv, PyData.shownAll, List.map_cons, List.sum_cons, List.length_cons, pair_len]
    have e := pair_len x.shown y.shown
    omega
mutual
theorem T.shown_len : ∀ t : T, t.pln = true → t.pd.shown.length ≤ t.rlen
  | .non, _ => by simp only [T.pd, PyData.shown, T.rlen]; decide +kernel
  | .bl b, _ => by cases b <;> simp only [T.pd, PyData.shown, T.rlen] <;> decide +kernel
  | .int i, _ => by simp only [T.pd, PyData.shown, T.rlen]; exact int_len i
  | .str s, h => by
    simp only [T.pd, PyData.shown, T.rlen]
    have h1 := StrLaws.reprText_len (tx s) (fun c hc => by
      have := List.all_eq_true.mp (show s.all (fun c => decide (c < 1114112)) = true from by simpa [T.pln] using h) c (by simpa [tx] using hc)
      have := of_decide_eq_true this
      omega)
    rw [tx_len] at h1
    exact h1
  | .tup xs, h => by
    simp only [T.pd, PyData.shown, T.rlen]
    have h1 := tupleText_len_le (PyData.shownAll (T.pds xs))
    have h2 := T.showns_len xs (by simpa [T.pln] using h)
    omega
  | .lst xs, h => by
    simp only [T.pd, PyData.shown, T.rlen]
    have h1 := listText_len_le (PyData.shownAll (T.pds xs))
    have h2 := T.showns_len xs (by simpa [T.pln] using h)
    omega
  | .dct ks vs, h => by
    simp only [T.pln, Bool.and_eq_true] at h
    simp only [T.pd, PyData.shown, T.rlen]
    have h1 := dictText_len_le (PyData.shownKv ((T.pds ks).zip (T.pds vs)))
    have h2 := shownKv_sum (T.pds ks) (T.pds vs)
    have h3 := T.showns_len ks h.1
    have h4 := T.showns_len vs h.2
    omega
  | .loc _, h => by simp [T.pln] at h
  | .fn _, h => by simp [T.pln] at h
  | .cls _, h => by simp [T.pln] at h
  | .exn _ _, h => by simp [T.pln] at h
theorem T.showns_len : ∀ xs : List T, T.plns xs = true → ((PyData.shownAll (T.pds xs)).map (·.length)).sum + 2 * (PyData.shownAll (T.pds xs)).length ≤ T.rlens xs
  | [], _ => by simp [T.pds, PyData.shownAll, T.rlens]
  | x :: xs, h => by
    simp only [T.plns, Bool.and_eq_true] at h
    have h1 := T.shown_len x h.1
    have h2 := T.showns_len xs h.2
    simp only [T.pds, PyData.shownAll, T.rlens, List.map_cons, List.sum_cons, List.length_cons]
    omega
end
section
variable {G : GD} {X : L2.Cx}
/-- a built-in function, by ours -/
def rFn (G : GD) (f : Heap → List T → Option T) : List V → Hp → VK → Prop := fun vs H Q => ∃ h R ts z, HRel G h R H ∧ VRs G R H ts vs ∧ f h ts = some z ∧ PostE G R H Q z h
theorem VRs.one {R : List Addr} {H : Hp} {x : T} {vs : List V} (r : VRs G R H [x] vs) : ∃ v, vs = [v] ∧ VR G R H x v := by
  cases r with
  | cons h r => cases r; exact ⟨_, rfl, h⟩
theorem VRs.two {R : List Addr} {H : Hp} {x y : T} {vs : List V} (r : VRs G R H [x, y] vs) : ∃ v u, vs = [v, u] ∧ VR G R H x v ∧ VR G R H y u := by
  cases r with
  | cons h r => obtain ⟨u, rfl, h2⟩ := VRs.one r; exact ⟨_, _, rfl, h, h2⟩
theorem fn_repr (S : Same5 G X) (hu : X.A.units + 200 < cLine) (hg : X.A.guards = some []) (hm : SM G.base) : CallR X (.builtin "repr") (rFn G fRepr) := by
  intro pins s σ H xs us Q I r hh
  obtain ⟨h, R, ts, z, hr, rv, e, p⟩ := hh
  unfold fRepr at e
  split at e
  · rename_i x
    split at e
    · rename_i y ey
      split at e
      · rename_i f
        cases e
        simp only [Bool.and_eq_true, decide_eq_true_eq] at f
        obtain ⟨v, rfl, hx⟩ := rv.one
        obtain ⟨u, rfl, ru⟩ := vals1 r
        have hm' : SM s.heap := by
          obtain ⟨o, es, n, e1, e2⟩ := hm
          rw [← S.base] at e1
          exact ⟨o, es, n, I.bk _ _ e1, e2⟩
        obtain ⟨as, ra, na⟩ := deep_readsD S I hm' hr 200 ey f.1.1.1 hx ru
        have hz : y.pd.shown.length ≤ sizeLine := by rw [top_eq]; exact Nat.le_trans (T.shown_len y f.1.1.1) f.2
        have fin : ∀ h' u tk, (∀ b o, s.heap.get? b = some o → h'.get? b = some o) → EP X pins σ Q (.str y.pd.shown u) { s with heap := h', toks := tk } := fun h' u tk hk =>
          ⟨.str y.pd.shown, H, I.kept hk, ⟨u, rfl⟩, by
            have q := p.here hr (.str _)
            have e : tx y.shown = y.pd.shown := by simp [tx, T.shown]
            rw [e] at q
            exact q⟩
        have big : ∀ a, u = .ref a → wpAny (model X.prog X.w) X.A (PySem.call (Value.builtin "repr") [u]) (EP X pins σ Q) X.xe s := by
          rintro a rfl
          exact repr_of_reads' ra (T.pd_show y f.1.2) (fun _ => na) hg (by have := T.pd_depth_le y; omega) (fun _ _ e => e) fin hz
        have f0 := f.1.1.1
        have f1 := f.1.2
        generalize hd : y.pd = d at *
        cases ra with
        | none => exact PySem.P.repr_of_none (fin s.heap _ _ fun _ _ e => e)
        | bool b =>
          have q := fin s.heap s.toks (s.toks + 1) fun _ _ e => e
          simp only [PyData.shown] at q
          exact PySem.P.repr_of_bool (b := b) (by cases b <;> exact q)
        | int i t =>
          have q := fin s.heap s.toks (s.toks + 1) fun _ _ e => e
          simp only [PyData.shown] at q
          refine PySem.P.repr_of_int ?_ q
          cases y <;> simp [T.pd] at hd
          subst hd
          simpa [T.showy] using f1
        | str x t =>
          have q := fin s.heap s.toks (s.toks + 1) fun _ _ e => e
          simp only [PyData.shown] at q hz
          exact PySem.P.repr_of_str q hz
        | list _ _ _ _ => exact big _ rfl
        | tuple _ _ _ _ => exact big _ rfl
        | dict _ _ _ _ _ => exact big _ rfl
      · cases e
    · cases e
  · cases e
/-- a call by a finer rule -/
theorem CallR.imp {X : L2.Cx} {f : Value} {r r' : List V → Hp → VK → Prop} (h : CallR X f r) (k : ∀ vs H Q, r' vs H Q → r vs H Q) : CallR X f r' := fun pins s σ H xs us Q I rv q => h pins s σ H xs us Q I rv (k _ _ _ q)
theorem CallR.lock {X : L2.Cx} {f : Value} {r r' : List V → Hp → VK → Prop} (h : CallR X f r) (k : ∀ vs H Q, r' vs H Q → r vs H (LockQ Q)) : CallR X f r' := fun pins s σ H xs us Q I rv q => thn (h pins s σ H xs us (LockQ Q) I rv (k _ _ _ q)) fun _ _ z => EP.lock z
theorem intsOf_vals {R : List Addr} {H : Hp} : ∀ {ys : List T} {vs : List V} {is : List Int}, intsOf ys = some is → VRs G R H ys vs → vs = is.map V.int
  | [], _, _, e, r => by cases r; cases e; rfl
  | y :: ys, _, _, e, r => by
    cases y <;> first | (cases e; done) | skip
    rename_i i
    obtain ⟨js, h1, rfl⟩ := Option.map_eq_some_iff.mp (show (intsOf ys).map (i :: ·) = some _ from e)
    cases r with
    | cons h r => cases h; rw [intsOf_vals h1 r]; rfl
theorem blsOf_vals {R : List Addr} {H : Hp} : ∀ {ys : List T} {vs : List V} {is : List Bool}, blsOf ys = some is → VRs G R H ys vs → vs = is.map V.bl
  | [], _, _, e, r => by cases r; cases e; rfl
  | y :: ys, _, _, e, r => by
    cases y <;> first | (cases e; done) | skip
    rename_i i
    obtain ⟨js, h1, rfl⟩ := Option.map_eq_some_iff.mp (show (blsOf ys).map (i :: ·) = some _ from e)
    cases r with
    | cons h r => cases h; rw [blsOf_vals h1 r]; rfl
theorem maxI_spec : ∀ {xs : List Int} {m : Int}, maxI xs = some m → 0 < xs.length ∧ m ∈ xs ∧ ∀ y ∈ xs, y ≤ m
  | x :: xs, m, e => by
    unfold maxI at e
    cases q : maxI xs with
    | none =>
      rw [q] at e; cases e
      have : xs = [] := by
        cases xs with
        | nil => rfl
        | cons a b => unfold maxI at q; cases z : maxI b <;> rw [z] at q <;> cases q
      subst this
      simp
    | some k =>
      rw [q] at e; cases e
      obtain ⟨_, h2, h3⟩ := maxI_spec q
      refine ⟨by simp, ?_, fun y hy => ?_⟩
      · split
        · exact List.mem_cons_of_mem _ h2
        · exact List.mem_cons_self
      · rcases List.mem_cons.mp hy with rfl | hy
        · split <;> omega
        · have := h3 y hy
          split <;> omega
theorem minI_spec : ∀ {xs : List Int} {m : Int}, minI xs = some m → 0 < xs.length ∧ m ∈ xs ∧ ∀ y ∈ xs, m ≤ y
  | x :: xs, m, e => by
    unfold minI at e
    cases q : minI xs with
    | none =>
      rw [q] at e; cases e
      have : xs = [] := by
        cases xs with
        | nil => rfl
        | cons a b => unfold minI at q; cases z : minI b <;> rw [z] at q <;> cases q
      subst this
      simp
    | some k =>
      rw [q] at e; cases e
      obtain ⟨_, h2, h3⟩ := minI_spec q
      refine ⟨by simp, ?_, fun y hy => ?_⟩
      · split
        · exact List.mem_cons_of_mem _ h2
        · exact List.mem_cons_self
      · rcases List.mem_cons.mp hy with rfl | hy
        · split <;> omega
        · have := h3 y hy
          split <;> omega
theorem fn_len (S : Same5 G X) : CallR X (.builtin "len") (rFn G fLen) := by
  intro pins s σ H vs us Q I ru hh
  obtain ⟨h, R, ts, z, hr, rv, e, p⟩ := hh
  by_cases hd : ∃ t ks ys, ts = [t] ∧ view h t = some (.dct ks ys)
  · obtain ⟨t, ks, ys, rfl, ev⟩ := hd
    obtain ⟨v, rfl, hx⟩ := rv.one
    obtain ⟨u, rfl, rw1⟩ := vals1 ru
    obtain ⟨a, kvs, vs, rfl, d, rk, rv⟩ := view_dlk S I hr hx ev
    cases rw1
    simp only [fLen, ev] at e
    cases e
    have hq := dl_len (A := X.A) (E := X.xe) (Q := EP X pins σ Q) I d fun t s' I' => ⟨.int ks.length, H, I', ⟨t, rfl⟩, p.here hr (.int _)⟩
    rw [← S.prog, ← S.w] at hq
    exact hq
  refine call_len pins s σ H vs us Q I ru ?_
  unfold fLen at e
  split at e
  · obtain ⟨v, rfl, hx⟩ := rv.one
    split at e
    · rename_i q
      cases e
      obtain ⟨a, us, rfl, h1, h2⟩ := view_lst hr hx q
      exact ⟨_, us.length, rfl, .inl ⟨us, by rw [S.K]; exact h1.sq, rfl⟩, by rw [← h2.length]; exact p.here hr (.int _)⟩
    · rename_i q
      cases e
      obtain ⟨a, us, rfl, h1, h2⟩ := view_tup hr hx q
      exact ⟨_, us.length, rfl, .inr ⟨us, by rw [S.K]; exact h1, rfl⟩, by rw [← h2.length]; exact p.here hr (.int _)⟩
    · rename_i q
      split at e
      · rename_i hl
        cases e
        rw [view_str hx q]
        exact ⟨_, _, rfl, ⟨by rw [tx_len, top_eq]; exact hl, rfl⟩, by rw [tx_len]; exact p.here hr (.int _)⟩
      · cases e
    · rename_i ev
      exact (hd ⟨_, _, _, rfl, ev⟩).elim
    · cases e
  · cases e
theorem fn_abs : CallR X (.builtin "abs") (rFn G fAbs) := by
  refine CallR.imp call_abs fun vs H Q hh => ?_
  obtain ⟨h, R, ts, z, hr, rv, e, p⟩ := hh
  unfold fAbs at e
  split at e
  · cases e
    obtain ⟨v, rfl, hx⟩ := rv.one
    cases hx
    exact ⟨_, rfl, p.here hr (.int _)⟩
  · cases e
theorem fn_max (S : Same5 G X) (hc : X.calm = true) : CallR X (.builtin "max") (rFn G fMax) := by
  refine CallR.imp (CallR.or (call_max2 hc) (cr_max hc)) fun vs H Q hh => ?_
  obtain ⟨h, R, ts, z, hr, rv, e, p⟩ := hh
  unfold fMax at e
  split at e
  · cases e
    obtain ⟨v, u, rfl, hx, hy⟩ := rv.two
    cases hx; cases hy
    exact .inl ⟨_, _, rfl, p.here hr (.int _)⟩
  · obtain ⟨v, rfl, hx⟩ := rv.one
    split at e
    · rename_i q
      obtain ⟨is, h1, h2⟩ := Option.bind_eq_some_iff.mp e
      obtain ⟨m, h3, rfl⟩ := Option.map_eq_some_iff.mp h2
      obtain ⟨a, us, rfl, h4, h5⟩ := view_lst hr hx q
      obtain rfl := intsOf_vals h1 h5
      obtain ⟨k1, k2, k3⟩ := maxI_spec h3
      refine .inr ⟨a, is, rfl, by rw [S.K]; exact h4.sq, k1, fun m' a1 a2 => ?_⟩
      have e1 := k3 _ a1
      have e2 := a2 _ k2
      obtain rfl : m' = m := by omega
      exact p.here hr (.int _)
    · cases e
  · cases e
theorem fn_min (S : Same5 G X) (hc : X.calm = true) : CallR X (.builtin "min") (rFn G fMin) := by
  refine CallR.imp (CallR.or (call_min2 hc) (cr_min hc)) fun vs H Q hh => ?_
  obtain ⟨h, R, ts, z, hr, rv, e, p⟩ := hh
  unfold fMin at e
  split at e
  · cases e
    obtain ⟨v, u, rfl, hx, hy⟩ := rv.two
    cases hx; cases hy
    exact .inl ⟨_, _, rfl, p.here hr (.int _)⟩
  · obtain ⟨v, rfl, hx⟩ := rv.one
    split at e
    · rename_i q
      obtain ⟨is, h1, h2⟩ := Option.bind_eq_some_iff.mp e
      obtain ⟨m, h3, rfl⟩ := Option.map_eq_some_iff.mp h2
      obtain ⟨a, us, rfl, h4, h5⟩ := view_lst hr hx q
      obtain rfl := intsOf_vals h1 h5
      obtain ⟨k1, k2, k3⟩ := minI_spec h3
      refine .inr ⟨a, is, rfl, by rw [S.K]; exact h4.sq, k1, fun m' a1 a2 => ?_⟩
      have e1 := k3 _ a1
      have e2 := a2 _ k2
      obtain rfl : m' = m := by omega
      exact p.here hr (.int _)
    · cases e
  · cases e
theorem fn_sum (S : Same5 G X) (hc : X.calm = true) : CallR X (.builtin "sum") (rFn G fSum) := by
  refine CallR.imp (cr_sum hc) fun vs H Q hh => ?_
  obtain ⟨h, R, ts, z, hr, rv, e, p⟩ := hh
  unfold fSum at e
  split at e
  · obtain ⟨v, rfl, hx⟩ := rv.one
    split at e
    · rename_i q
      obtain ⟨is, h1, rfl⟩ := Option.map_eq_some_iff.mp e
      obtain ⟨a, us, rfl, h4, h5⟩ := view_lst hr hx q
      obtain rfl := intsOf_vals h1 h5
      exact ⟨a, is, rfl, by rw [S.K]; exact h4.sq, p.here hr (.int _)⟩
    · cases e
  · cases e
theorem fn_all (S : Same5 G X) (hc : X.calm = true) : CallR X (.builtin "all") (rFn G fAll) := by
  refine CallR.imp (cr_all hc) fun vs H Q hh => ?_
  obtain ⟨h, R, ts, z, hr, rv, e, p⟩ := hh
  unfold fAll at e
  split at e
  · obtain ⟨v, rfl, hx⟩ := rv.one
    split at e
    · rename_i q
      obtain ⟨is, h1, rfl⟩ := Option.map_eq_some_iff.mp e
      obtain ⟨a, us, rfl, h4, h5⟩ := view_lst hr hx q
      obtain rfl := blsOf_vals h1 h5
      exact ⟨a, is, rfl, by rw [S.K]; exact h4.sq, p.here hr (.bl _)⟩
    · cases e
  · cases e
theorem fn_any (S : Same5 G X) (hc : X.calm = true) : CallR X (.builtin "any") (rFn G fAny) := by
  refine CallR.imp (cr_any hc) fun vs H Q hh => ?_
  obtain ⟨h, R, ts, z, hr, rv, e, p⟩ := hh
  unfold fAny at e
  split at e
  · obtain ⟨v, rfl, hx⟩ := rv.one
    split at e
    · rename_i q
      obtain ⟨is, h1, rfl⟩ := Option.map_eq_some_iff.mp e
      obtain ⟨a, us, rfl, h4, h5⟩ := view_lst hr hx q
      obtain rfl := blsOf_vals h1 h5
      exact ⟨a, is, rfl, by rw [S.K]; exact h4.sq, p.here hr (.bl _)⟩
    · cases e
  · cases e
theorem fn_int : CallR X (.type "int") (rFn G fInt) := by
  refine CallR.imp (CallR.or call_int1 call_int_str) fun vs H Q hh => ?_
  obtain ⟨h, R, ts, z, hr, rv, e, p⟩ := hh
  unfold fInt at e
  split at e
  · cases e
    obtain ⟨v, rfl, hx⟩ := rv.one
    cases hx
    exact .inl (.inl ⟨_, rfl, p.here hr (.int _)⟩)
  · cases e
    obtain ⟨v, rfl, hx⟩ := rv.one
    cases hx
    exact .inl (.inr ⟨_, rfl, p.here hr (.int _)⟩)
  · split at e <;> (try (cases e; done))
    rename_i n en
    split at e <;> (try (cases e; done))
    rename_i hz
    cases e
    obtain ⟨v, rfl, hx⟩ := rv.one
    cases hx
    exact .inr ⟨_, n, rfl, en, by rw [tx_len]; exact hz, p.here hr (.int _)⟩
  · cases e
theorem fn_str : CallR X (.type "str") (rFn G fStr) := by
  refine CallR.imp call_str_int fun vs H Q hh => ?_
  obtain ⟨h, R, ts, z, hr, rv, e, p⟩ := hh
  unfold fStr at e
  split at e
  · rename_i i
    split at e
    · rename_i hl
      cases e
      obtain ⟨v, rfl, hx⟩ := rv.one
      cases hx
      refine ⟨_, rfl, hl, ?_⟩
      have q := p.here hr (.str _)
      have e : tx (intText i) = ((toString i : String) : Str) := by
        show _ = Str.ofString _
        rw [Str.ofString_eq_toList]
        rfl
      rw [e] at q
      exact q
    · cases e
  · cases e
theorem fn_tuple (S : Same5 G X) : CallR X (.type "tuple") (rFn G fTuple) := by
  refine CallR.imp call_tuple_of fun vs H Q hh => ?_
  obtain ⟨h, R, ts, z, hr, rv, e, p⟩ := hh
  unfold fTuple at e
  split at e
  · obtain ⟨v, rfl, hx⟩ := rv.one
    split at e
    · rename_i q
      cases e
      obtain ⟨a, us, rfl, h1, h2⟩ := view_lst hr hx q
      exact ⟨a, us, rfl, .inl ⟨by rw [S.K]; exact h1.sq, fun l hl => p.newT hr h2 hl⟩⟩
    · rename_i q
      cases e
      obtain ⟨a, us, rfl, h1, h2⟩ := view_tup hr hx q
      exact ⟨a, us, rfl, .inr ⟨by rw [S.K]; exact h1, p.here hr (.tup h1 h2)⟩⟩
    · cases e
  · cases e
theorem fn_list (S : Same5 G X) : CallR X (.type "list") (rFn G fList) := by
  refine CallR.lock call_list_of fun vs H Q hh => ?_
  obtain ⟨h, R, ts, z, hr, rv, e, p⟩ := hh
  unfold fList at e
  split at e
  · obtain ⟨v, rfl, hx⟩ := rv.one
    split at e
    · rename_i q
      cases e
      obtain ⟨a, us, rfl, h1, h2⟩ := view_lst hr hx q
      exact ⟨a, us, rfl, .inl (by rw [S.K]; exact h1.sq), fun l hl => ⟨l, H, us, rfl, hl, rfl, fun o => p.newF hr h2 hl o⟩⟩
    · rename_i q
      cases e
      obtain ⟨a, us, rfl, h1, h2⟩ := view_tup hr hx q
      exact ⟨a, us, rfl, .inr (by rw [S.K]; exact h1), fun l hl => ⟨l, H, us, rfl, hl, rfl, fun o => p.newF hr h2 hl o⟩⟩
    · cases e
  · cases e
theorem Lq.push {R : List Addr} {H : Hp} {p : Addr} {u : HO} (hp : H p = none) : Lq R H (R ++ [p]) (upd H p u) :=
  ⟨fun n a e => by rw [List.getElem?_append_left (List.getElem?_eq_some_iff.mp e).1]; exact e, fun a ha n => by
    rcases List.mem_append.mp ha with z | z
    · exact absurd z n
    · rw [List.mem_singleton.mp z]; exact hp, fun b o e _ => by rw [upd_ne (ne_of_none e hp)]; exact e⟩
/-- a built-in function whose answer is a new list of ours -/
def rFnM (G : GD) (f : Heap → List T → Option T) : List V → Hp → VK → Prop := fun vs H Q => ∃ h R ts zs, HRel G h R H ∧ VRs G R H ts vs ∧ f h ts = some (.lst zs) ∧ PostE G R H Q (.loc h.length) (h ++ [.lst zs])
theorem PostE.newM {R : List Addr} {H : Hp} {h : Heap} {Q : VK} {xs : List T} {vs : List V} (p : PostE G R H Q (.loc h.length) (h ++ [.lst xs])) (hr : HRel G h R H) (r : VRs G R H xs vs) {a : Addr} (ha : H a = none) : Q (.ref a) (upd H a (.lst vs)) := by
  obtain ⟨hr2, lq2⟩ := hr.push (o := .lst xs) ha rfl ⟨vs, upd_same, r.mono (Lq.push ha)⟩
  exact p _ _ _ lq2 hr2 (.loc (by rw [← hr.len]; simp))
theorem fn_listM (S : Same5 G X) : CallR X (.type "list") (rFnM G fList) := by
  refine CallR.imp call_list_of fun vs H Q hh => ?_
  obtain ⟨h, R, ts, zs, hr, rv, e, p⟩ := hh
  unfold fList at e
  split at e
  · obtain ⟨v, rfl, hx⟩ := rv.one
    split at e
    · rename_i q
      cases e
      obtain ⟨a, us, rfl, h1, h2⟩ := view_lst hr hx q
      exact ⟨a, us, rfl, .inl (by rw [S.K]; exact h1.sq), fun l hl => p.newM hr h2 hl⟩
    · rename_i q
      cases e
      obtain ⟨a, us, rfl, h1, h2⟩ := view_tup hr hx q
      exact ⟨a, us, rfl, .inr (by rw [S.K]; exact h1), fun l hl => p.newM hr h2 hl⟩
    · cases e
  · cases e
end
end Lite

/-! LITE: sorted(..), soundness. -/
namespace Lite
open PySem L2 PySem.Spec
open PyProof.Rows hiding St

/-! ### the order is one -/
theorem ltO_swo : SrtO.Swo ltO := ⟨fun x y h => lexI_asym _ _ h, fun x y z h k => lexI_tr _ _ _ h k⟩
theorem insO_split (x : T) : ∀ l : List T, ∃ M N, l = M ++ N ∧ insO x l = M ++ x :: N ∧ (∀ y ∈ M, ltO y x = true) ∧ ∀ y r, N = y :: r → ltO y x = false
  | [] => ⟨[], [], rfl, rfl, fun y h => absurd h (by simp), fun y r h => by cases h⟩
  | y :: ys => by
    unfold insO
    cases e : ltO y x with
    | true =>
      obtain ⟨M, N, h1, h2, h3, h4⟩ := insO_split x ys
      refine ⟨y :: M, N, by rw [h1]; rfl, by rw [if_pos rfl, h2]; rfl, fun z hz => ?_, h4⟩
      rcases List.mem_cons.mp hz with rfl | hz
      · exact e
      · exact h3 z hz
    | false => exact ⟨[], y :: ys, rfl, by rw [if_neg (by simp)]; rfl, fun y h => absurd h (by simp), fun z r h => by cases h; exact e⟩
theorem isort_ok : ∀ l : List T, SrtO.Srtd ltO (isort l) ∧ SrtO.Stb ltO (isort l) l
  | [] => ⟨List.Pairwise.nil, SrtO.Stb.refl _⟩
  | x :: l => by
    obtain ⟨s, b⟩ := isort_ok l
    obtain ⟨M, N, h1, h2, h3, h4⟩ := insO_split x (isort l)
    rw [h1] at s b
    refine ⟨?_, ?_⟩
    · show SrtO.Srtd ltO (insO x (isort l))
      rw [h2]
      obtain ⟨s1, s2, s3⟩ := SrtO.srtd_app.mp s
      have hN : ∀ y ∈ N, ltO y x = false := fun y hy => by
        match N, hy, s2, h4 with
        | z :: r, hy, s2, h4 =>
          have hz := h4 z r rfl
          rcases List.mem_cons.mp hy with rfl | hy
          · exact hz
          · exact ltO_swo.tr x z y hz (SrtO.srtd_head s2 y hy)
      refine SrtO.srtd_app.mpr ⟨s1, List.pairwise_cons.mpr ⟨hN, s2⟩, fun a ha c hc => ?_⟩
      rcases List.mem_cons.mp hc with rfl | hc
      · exact ltO_swo.asym _ _ (h3 a ha)
      · exact s3 a ha c hc
    · show SrtO.Stb ltO (insO x (isort l)) (x :: l)
      rw [h2]
      have q : SrtO.Stb ltO (M ++ [x] ++ N) ([x] ++ M ++ N) := (SrtO.Stb.swap ltO_swo fun a ha c hc => by rw [List.mem_singleton.mp hc]; exact h3 a ha).app (SrtO.Stb.refl N)
      have q2 : SrtO.Stb ltO ([x] ++ (M ++ N)) ([x] ++ l) := (SrtO.Stb.refl [x]).app b
      have e1 : M ++ x :: N = M ++ [x] ++ N := by simp
      have e2 : [x] ++ (M ++ N) = [x] ++ M ++ N := by simp
      rw [e1]
      rw [e2] at q2
      exact q.trans q2
/-! ### < of data, in the model -/
theorem firstLt_lts : ∀ (xs ys : List T) (e r : Nat → Bool) (k : Nat), (∀ j x y, xs[j]? = some x → ys[j]? = some y → e (k + j) = T.eqv x y ∧ r (k + j) = T.lt x y) →
    SeqAt.firstLt e r (decide (xs.length < ys.length)) (List.range' k (min xs.length ys.length)) = T.lts xs ys
  | [], [], e, r, k, _ => by simp [SeqAt.firstLt, T.lts]
  | [], y :: ys, e, r, k, _ => by simp [SeqAt.firstLt, T.lts]
  | x :: xs, [], e, r, k, _ => by simp [SeqAt.firstLt, T.lts]
  | x :: xs, y :: ys, e, r, k, h => by
    have hm : min (x :: xs).length (y :: ys).length = min xs.length ys.length + 1 := by simp only [List.length_cons]; omega
    have hd : decide ((x :: xs).length < (y :: ys).length) = decide (xs.length < ys.length) := by simp
    rw [hm, hd, List.range'_succ]
    obtain ⟨h1, h2⟩ := h 0 x y rfl rfl
    rw [Nat.add_zero] at h1 h2
    simp only [T.lts]
    cases q : T.eqv x y with
    | true =>
      rw [SeqAt.firstLt_yes (h1.trans q)]
      simp only [if_true]
      exact firstLt_lts xs ys e r (k + 1) fun j a b ha hb => by
        have := h (j + 1) a b (by simpa using ha) (by simpa using hb)
        rw [show k + 1 + j = k + (j + 1) by omega]
        exact this
    | false =>
      rw [SeqAt.firstLt_no (h1.trans q)]
      simp only [Bool.false_eq_true, if_false]
      exact h2
theorem reads_at {h : PySem.Heap} : ∀ {us : List Value} {xs : List T} {as : List Addr} {j : Nat} {u : Value} {x : T}, ReadsAll h us (T.pds xs) as → us[j]? = some u → xs[j]? = some x → ∃ bs, Reads h u x.pd bs
  | us, [], as, j, u, x, _, _, e => by simp at e
  | us, y :: ys, as, j, u, x, r, e1, e2 => by
    simp only [T.pds] at r
    cases r with
    | cons r1 r2 =>
      cases j with
      | zero => simp at e1 e2; subst e1; subst e2; exact ⟨_, r1⟩
      | succ j => exact reads_at r2 (by simpa using e1) (by simpa using e2)
theorem reads_len {h : PySem.Heap} : ∀ {us : List Value} {xs : List T} {as : List Addr}, ReadsAll h us (T.pds xs) as → us.length = xs.length
  | _, [], _, r => by cases r; rfl
  | _, y :: ys, _, r => by
    simp only [T.pds] at r
    cases r with
    | cons r1 r2 => simp [reads_len r2]
theorem cmpAs_at : ∀ {xs ys : List T} {j : Nat} {x y : T}, T.cmpAs xs ys = true → xs[j]? = some x → ys[j]? = some y → T.eqv x y = true ∨ T.cmpA x y = true
  | [], _, _, _, _, _, e, _ => by simp at e
  | _ :: _, [], _, _, _, _, _, e => by simp at e
  | a :: xs, b :: ys, 0, x, y, c, e1, e2 => by
    simp only [T.cmpAs, Bool.and_eq_true, Bool.or_eq_true] at c
    simp at e1 e2; subst e1; subst e2
    exact c.1
  | a :: xs, b :: ys, j + 1, x, y, c, e1, e2 => by
    simp only [T.cmpAs, Bool.and_eq_true] at c
    exact cmpAs_at c.2 (by simpa using e1) (by simpa using e2)
theorem depths_at : ∀ {xs : List T} {j : Nat} {x : T}, xs[j]? = some x → x.depth ≤ T.depths xs
  | [], _, _, e => by simp at e
  | a :: xs, 0, x, e => by simp at e; subst e; simp only [T.depths]; omega
  | a :: xs, j + 1, x, e => by
    have := depths_at (xs := xs) (j := j) (x := x) (by simpa using e)
    simp only [T.depths]; omega
theorem nobs_at : ∀ {xs : List T} {j : Nat} {x : T}, T.nobs xs = true → xs[j]? = some x → x.nob = true
  | [], _, _, _, e => by simp at e
  | a :: xs, 0, x, h, e => by simp only [T.nobs, Bool.and_eq_true] at h; simp at e; subst e; exact h.1
  | a :: xs, j + 1, x, h, e => by
    simp only [T.nobs, Bool.and_eq_true] at h
    exact nobs_at (xs := xs) (j := j) h.2 (by simpa using e)
theorem eq_at {A : Around} {s : Shared} {x y : T} {u v : Value} {as bs : List Addr} (nx : x.nob = true) (ny : y.nob = true) (rx : Reads s.heap u x.pd as) (ry : Reads s.heap v y.pd bs) (hu : A.units + x.depth + y.depth + 2 < cLine) : SeqAt.EqAt A s u v (T.eqv x y) := by
  rw [← T.pd_eqv x y (T.nob_flat x nx) (T.nob_flat y ny)]
  intro prog w E Q hq
  exact SeqAt.eqBoolOverData prog w A E s _ _ _ _ as bs Q rx ry (T.pd_lay x (T.nob_flat x nx)) (T.pd_lay y (T.nob_flat y ny)) (by rw [T.pd_depth _ (T.nob_flat x nx), T.pd_depth _ (T.nob_flat y ny)]; omega) hq
theorem in1_units (A : Around) : A.in1.units = A.units + 1 := rfl
theorem rclt_int {A : Around} {s : Shared} {a b : Int} {t u : Tok} : SeqAt.RcLt A s (.int a t) (.int b u) (decide (a < b)) := fun prog w E Q h => PyProof.Rows.lt_int h
theorem lexLt_iff : ∀ a b : List Nat, lexLt a b = true ↔ a < b
  | [], [] => by simp [lexLt]
  | [], b :: bs => by simp [lexLt]
  | a :: as, [] => by simp [lexLt]
  | a :: as, b :: bs => by
    rw [List.cons_lt_cons_iff, ← lexLt_iff as bs]
    simp [lexLt]
theorem lexLt_dec (a b : List Nat) : decide (a < b) = lexLt a b := by
  by_cases h : a < b
  · rw [decide_eq_true h, (lexLt_iff a b).mpr h]
  · rw [decide_eq_false h]
    cases e : lexLt a b with
    | false => rfl
    | true => exact absurd ((lexLt_iff a b).mp e) h
theorem rclt_str {A : Around} {s : Shared} {a b : List Nat} {t u : Tok} : SeqAt.RcLt A s (.str (tx a) t) (.str (tx b) u) (lexLt a b) := fun prog w E Q h => by
  have q := PyProof.Rows.lt_str (prog := prog) (w := w) (A := A) (E := E) (s := s) (x := tx a) (y := tx b) (t := t) (u := u) (Q := Q)
  have e : decide ((tx a).cps.toList < (tx b).cps.toList) = lexLt a b := lexLt_dec a b
  rw [e] at q
  exact q h
theorem in1_of {A : Around} {n : Nat} (h : A.units + n + 1 < cLine) : A.in1.units + n < cLine := by
  have : A.in1.units = A.units + 1 := rfl
  omega
mutual
theorem rcLt : ∀ (x y : T) (u v : Value) (as bs : List Addr) (A : Around) (s : Shared), x.nob = true → y.nob = true → T.cmpA x y = true → Reads s.heap u x.pd as → Reads s.heap v y.pd bs → A.units + x.depth + y.depth + 2 < cLine → SeqAt.RcLt A s u v (T.lt x y)
  | .int a, y, u, v, as, bs, A, s, nx, ny, c, rx, ry, hu => by
    cases y <;> simp [T.cmpA] at c
    cases rx
    cases ry
    exact rclt_int
  | .str a, y, u, v, as, bs, A, s, nx, ny, c, rx, ry, hu => by
    cases y <;> simp [T.cmpA] at c
    cases rx
    cases ry
    exact rclt_str
  | .tup xs, y, u, v, as, bs, A, s, nx, ny, c, rx, ry, hu => by
    cases y <;> simp [T.cmpA] at c
    rename_i ys
    cases rx with
    | tuple e1 c1 d1 r1 =>
    cases ry with
    | tuple e2 c2 d2 r2 =>
    rename_i a1 o1 vs1 n1 a2 o2 vs2 n2
    have l1 : vs1.size = xs.length := by rw [← Array.length_toList]; exact reads_len r1
    have l2 : vs2.size = ys.length := by rw [← Array.length_toList]; exact reads_len r2
    simp only [T.depth] at hu
    have at1 : ∀ j (h1 : j < vs1.size), ∃ x, xs[j]? = some x ∧ ∃ cs, Reads s.heap vs1[j] x.pd cs := fun j h1 => by
      have hx : j < xs.length := l1 ▸ h1
      refine ⟨xs[j], List.getElem?_eq_getElem hx, reads_at r1 ?_ (List.getElem?_eq_getElem hx)⟩
      rw [Array.getElem?_toList]; exact getElem?_pos vs1 j h1
    have at2 : ∀ j (h2 : j < vs2.size), ∃ y, ys[j]? = some y ∧ ∃ cs, Reads s.heap vs2[j] y.pd cs := fun j h2 => by
      have hx : j < ys.length := l2 ▸ h2
      refine ⟨ys[j], List.getElem?_eq_getElem hx, reads_at r2 ?_ (List.getElem?_eq_getElem hx)⟩
      rw [Array.getElem?_toList]; exact getElem?_pos vs2 j h2
    have q := SeqAt.RcLt.tuples (A := A) (s := s) (items := vs1) (items2 := vs2) (e := fun j => T.eqv ((xs[j]?).getD .non) ((ys[j]?).getD .non)) (r := fun j => T.lt ((xs[j]?).getD .non) ((ys[j]?).getD .non)) ⟨o1, e1, c1, n1, d1⟩ ⟨o2, e2, c2, n2, d2⟩ (by omega)
      (fun j h1 h2 => by
        obtain ⟨x, hx, cs, rx⟩ := at1 j h1
        obtain ⟨y, hy, ds, ry⟩ := at2 j h2
        have dx := depths_at hx
        have dy := depths_at hy
        rw [hx, hy]
        exact eq_at (nobs_at (by simpa [T.nob] using nx) hx) (nobs_at (by simpa [T.nob] using ny) hy) rx ry (by have : A.in1.units = A.units + 1 := rfl; simp only [Option.getD_some] at *; omega))
      (fun j h1 h2 he => by
        obtain ⟨x, hx, cs, rx⟩ := at1 j h1
        obtain ⟨y, hy, ds, ry⟩ := at2 j h2
        have dx := depths_at hx
        have dy := depths_at hy
        rw [hx, hy] at he
        rw [hx, hy]
        have nx' := nobs_at (by simpa [T.nob] using nx) hx
        have ny' := nobs_at (by simpa [T.nob] using ny) hy
        have cc := (cmpAs_at c hx hy).resolve_left (by simp only [Option.getD_some] at he; rw [he]; simp)
        exact rcLts xs hx ys y _ _ _ _ A.in1 s nx' ny' cc rx ry (by have : A.in1.units = A.units + 1 := rfl; omega))
    have e := firstLt_lts xs ys (fun j => T.eqv ((xs[j]?).getD .non) ((ys[j]?).getD .non)) (fun j => T.lt ((xs[j]?).getD .non) ((ys[j]?).getD .non)) 0 (fun j x y hx hy => by rw [Nat.zero_add]; simp only [hx, hy, Option.getD_some]; exact ⟨trivial, trivial⟩)
    rw [l1, l2, List.range_eq_range', e] at q
    exact q
  | .non, y, _, _, _, _, _, _, _, _, c, _, _, _ => by simp [T.cmpA] at c
  | .bl _, y, _, _, _, _, _, _, _, _, c, _, _, _ => by simp [T.cmpA] at c
  | .lst _, y, _, _, _, _, _, _, _, _, c, _, _, _ => by simp [T.cmpA] at c
  | .dct _ _, y, _, _, _, _, _, _, _, _, c, _, _, _ => by simp [T.cmpA] at c
  | .loc _, y, _, _, _, _, _, _, _, _, c, _, _, _ => by simp [T.cmpA] at c
  | .fn _, y, _, _, _, _, _, _, _, _, c, _, _, _ => by simp [T.cmpA] at c
  | .cls _, y, _, _, _, _, _, _, _, _, c, _, _, _ => by simp [T.cmpA] at c
  | .exn _ _, y, _, _, _, _, _, _, _, _, c, _, _, _ => by simp [T.cmpA] at c
theorem rcLts : ∀ (xs : List T) {j : Nat} {x : T}, xs[j]? = some x → ∀ (ys : List T) (y : T) (u v : Value) (as bs : List Addr) (A : Around) (s : Shared), x.nob = true → y.nob = true → T.cmpA x y = true → Reads s.heap u x.pd as → Reads s.heap v y.pd bs → A.units + x.depth + y.depth + 2 < cLine → SeqAt.RcLt A s u v (T.lt x y)
  | [], _, _, e => by simp at e
  | a :: xs, 0, x, e => by
    have e : a = x := by simpa using e
    subst e
    exact fun _ y u v as bs A s => rcLt a y u v as bs A s
  | a :: xs, j + 1, x, e => rcLts xs (j := j) (x := x) (by simpa using e)
end

/-! ### two items, as the sort compares them -/
section
variable {prog : Program} {w : World} {A : Around} {E : Value → Shared → Prop} {s : Shared} {b fin : Bool} {Q : Bool → Shared → Prop}
/-- ints, or texts -/
def flatK : T → T → Bool
  | .int _, .int _ => true
  | .str _, .str _ => true
  | _, _ => false
theorem katlex : ∀ (xs ys : List T) (us vs : List Value) (as bs : List Addr) (i : Nat), ReadsAll s.heap us (T.pds xs) as → ReadsAll s.heap vs (T.pds ys) bs → T.nobs xs = true → T.nobs ys = true → cmpTop xs ys = true →
    A.units + T.depths xs + T.depths ys + 2 < cLine → (i = 0 → b = true → ∀ x y, xs[0]? = some x → ys[0]? = some y → flatK x y = true) → fin = decide (xs.length < ys.length) → Q (T.lts xs ys) s → PySem.W.KatLex prog w A b fin Q (us.zip vs) i s
  | [], ys, us, vs, as, bs, i, r1, r2, n1, n2, c, hu, h0, hf, hq => by
    cases r1
    rw [List.zip_nil_left]
    refine PySem.W.kat_nil ?_
    have e : T.lts [] ys = fin := by rw [hf]; cases ys <;> rfl
    rw [← e]; exact hq
  | x :: xs, [], us, vs, as, bs, i, r1, r2, n1, n2, c, hu, h0, hf, hq => by
    cases r2
    rw [List.zip_nil_right]
    refine PySem.W.kat_nil ?_
    have e : T.lts (x :: xs) [] = fin := by rw [hf]; rfl
    rw [← e]; exact hq
  | x :: xs, y :: ys, us, vs, as, bs, i, r1, r2, n1, n2, c, hu, h0, hf, hq => by
    simp only [T.pds] at r1 r2
    cases r1 with
    | cons a1 r1 =>
    cases r2 with
    | cons a2 r2 =>
    simp only [T.nobs, Bool.and_eq_true] at n1 n2
    simp only [T.depths] at hu
    rw [List.zip_cons_cons]
    refine PySem.W.kat_cons (eq_at n1.1 n2.1 a1 a2 (by omega) prog w _ _ ?_)
    unfold cmpTop at c
    simp only [T.lts] at hq
    refine PySem.W.kat_go (fun e => ?_) (fun e => ?_)
    · rw [if_pos e] at c hq
      exact PySem.W.kat_yes (katlex xs ys _ _ _ _ (i + 1) r1 r2 n1.2 n2.2 c (by omega) (fun z => absurd z (by omega)) (by rw [hf]; simp) hq)
    · rw [if_neg (by rw [e]; simp)] at c hq
      refine PySem.W.kat_no ?_
      cases eb : (b && i == 0) with
      | true =>
        simp only [Bool.and_eq_true, beq_iff_eq] at eb
        have k := h0 eb.2 eb.1 x y rfl rfl
        cases x <;> cases y <;> simp [flatK] at k
        · cases a1; cases a2
          exact oneLt_int hq
        · cases a1; cases a2
          refine oneLt_str ?_
          rename_i p q _ _
          have e : decide ((tx p).cps.toList < (tx q).cps.toList) = lexLt p q := lexLt_dec p q
          show Q (decide ((tx p).cps.toList < (tx q).cps.toList)) s
          rw [e]
          exact hq
      | false => exact PySem.W.kat_one _ _ (rcLt x y _ _ _ _ A s n1.1 n2.1 c a1 a2 (by omega) prog w _ (PySem.W.BoolBack Q) hq)
theorem ltO_tup {xs ys : List T} (n1 : T.nobs xs = true) (n2 : T.nobs ys = true) (c : cmpTop xs ys = true) : ltO (.tup xs) (.tup ys) = T.lts xs ys := by
  by_cases e : xs = ys
  · subst e
    rw [lts_refl xs n1]
    exact lexI_refl _
  · have := lts_top xs ys [] [] n1 n2 c e
    simpa [ltO, T.enc] using this
theorem ltO_int {a b : Int} : ltO (.int a) (.int b) = decide (a < b) := by
  simp [ltO, T.enc, lexI]
theorem ltO_str {a b : List Nat} : ltO (.str a) (.str b) = lexLt a b := by
  by_cases e : a = b
  · subst e
    have : ∀ c : List Nat, lexLt c c = false := fun c => by
      induction c with
      | nil => rfl
      | cons x c ih => simp [lexLt, ih]
    rw [this]
    exact lexI_refl _
  · have := lexLt_enc a b [] [] e
    simpa [ltO, T.enc] using this
/-- how values are read -/
def Rds (h : PySem.Heap) (k : Value → T) (us : List Value) : Prop := ∀ u ∈ us, (k u).nob = true ∧ (k u).depth ≤ 41 ∧ ∃ as, Reads h u (k u).pd as
theorem Rds.keeps {h h' : PySem.Heap} {k : Value → T} {us : List Value} (r : Rds h k us) (kp : ∀ b o, h.get? b = some o → h'.get? b = some o) : Rds h' k us := fun u hu => by
  obtain ⟨a, d, as, q⟩ := r u hu
  exact ⟨a, d, as, Reads.keeps kp q⟩
theorem reads_intV {h : PySem.Heap} {u : Value} {i : Int} {as : List Addr} (r : Reads h u (T.int i).pd as) : ∃ t, u = .int i t := by
  simp only [T.pd] at r
  cases r; exact ⟨_, rfl⟩
theorem reads_strV {h : PySem.Heap} {u : Value} {i : List Nat} {as : List Addr} (r : Reads h u (T.str i).pd as) : ∃ t, u = .str (tx i) t := by
  simp only [T.pd] at r
  cases r; exact ⟨_, rfl⟩
theorem reads_tupV {h : PySem.Heap} {u : Value} {xs : List T} {as : List Addr} (r : Reads h u (T.tup xs).pd as) : ∃ a o vs n, u = .ref a ∧ h.get? a = some o ∧ o.cls = .type "tuple" ∧ o.data = .seq vs n ∧ ReadsAll h vs.toList (T.pds xs) as := by
  simp only [T.pd] at r
  cases r with
  | tuple e c d q => exact ⟨_, _, _, _, rfl, e, c, d, q⟩
theorem int_cmpT {k : Value → T} {us : List Value} (r : Rds s.heap k us) (hk : ∀ u ∈ us, ∃ i, k u = .int i) : SrtO.Cmp prog w A s oneType' (fun p => p.1 ∈ us) (SrtO.lt2 fun u v => ltO (k u) (k v)) := by
  intro p q hp hq
  obtain ⟨i, e1⟩ := hk _ hp
  obtain ⟨j, e2⟩ := hk _ hq
  obtain ⟨_, _, as, r1⟩ := r _ hp
  obtain ⟨_, _, bs, r2⟩ := r _ hq
  show wpAny (model prog w) A (keyLt' oneType' p.1 q.1) (fun r s' => s' = s ∧ r = ltO (k p.1) (k q.1)) (fun _ _ => False) s
  rw [e1, e2, ltO_int]
  rw [e1] at r1
  rw [e2] at r2
  obtain ⟨t, h1⟩ := reads_intV r1
  obtain ⟨t2, h2⟩ := reads_intV r2
  rw [h1, h2, keyLt'_oneType]
  exact oneLt_int ⟨rfl, rfl⟩
theorem str_cmpT {k : Value → T} {us : List Value} (r : Rds s.heap k us) (hk : ∀ u ∈ us, ∃ i, k u = .str i) : SrtO.Cmp prog w A s oneType' (fun p => p.1 ∈ us) (SrtO.lt2 fun u v => ltO (k u) (k v)) := by
  intro p q hp hq
  obtain ⟨i, e1⟩ := hk _ hp
  obtain ⟨j, e2⟩ := hk _ hq
  obtain ⟨_, _, as, r1⟩ := r _ hp
  obtain ⟨_, _, bs, r2⟩ := r _ hq
  show wpAny (model prog w) A (keyLt' oneType' p.1 q.1) (fun r s' => s' = s ∧ r = ltO (k p.1) (k q.1)) (fun _ _ => False) s
  rw [e1, e2, ltO_str]
  rw [e1] at r1
  rw [e2] at r2
  obtain ⟨t, h1⟩ := reads_strV r1
  obtain ⟨t2, h2⟩ := reads_strV r2
  rw [h1, h2, keyLt'_oneType]
  exact oneLt_str ⟨rfl, lexLt_dec i j⟩
theorem headK_flat {x y : List T} {a b : T} (hx : headK (.tup x) = 1 ∧ headK (.tup y) = 1 ∨ headK (.tup x) = 2 ∧ headK (.tup y) = 2) (e1 : x[0]? = some a) (e2 : y[0]? = some b) : flatK a b = true := by
  cases x with
  | nil => cases e1
  | cons x r =>
    cases y with
    | nil => cases e2
    | cons y r2 =>
      simp at e1 e2
      subst e1; subst e2
      rcases hx with ⟨h1, h2⟩ | ⟨h1, h2⟩ <;> cases x <;> simp [headK] at h1 <;> cases y <;> simp [headK] at h2 <;> rfl
theorem tup_cmpT {k : Value → T} {us : List Value} {c : Nat} (r : Rds s.heap k us) (hu : A.units + 100 < cLine) (hk : ∀ u ∈ us, headK (k u) = c) (hb : b = true → c = 1 ∨ c = 2)
    (ht : ∀ u ∈ us, ∀ v ∈ us, ∃ xs ys, k u = .tup xs ∧ k v = .tup ys ∧ cmpTop xs ys = true) : SrtO.Cmp prog w A s (tuples' b) (fun p => p.1 ∈ us) (SrtO.lt2 fun u v => ltO (k u) (k v)) := by
  intro p q hp hq
  obtain ⟨xs, ys, e1, e2, hc⟩ := ht _ hp _ hq
  obtain ⟨n1, d1, as, r1⟩ := r _ hp
  obtain ⟨n2, d2, bs, r2⟩ := r _ hq
  have k1 := hk _ hp
  have k2 := hk _ hq
  show wpAny (model prog w) A (keyLt' (tuples' b) p.1 q.1) (fun r s' => s' = s ∧ r = ltO (k p.1) (k q.1)) (fun _ _ => False) s
  rw [e1] at r1 n1 d1 k1
  rw [e2] at r2 n2 d2 k2
  rw [e1, e2]
  simp only [T.nob] at n1 n2
  simp only [T.depth] at d1 d2
  rw [ltO_tup n1 n2 hc]
  obtain ⟨a, o, vs, n, h1, g1, c1, d1', q1⟩ := reads_tupV r1
  obtain ⟨a2, o2, vs2, n', h2, g2, c2, d2', q2⟩ := reads_tupV r2
  rw [h1, h2]
  refine PySem.W.kat_lt g1 d1' g2 d2' ?_
  refine katlex xs ys _ _ _ _ 0 q1 q2 n1 n2 hc (by omega) (fun _ hb' x y ex ey => ?_) ?_ ⟨rfl, rfl⟩
  · refine headK_flat ?_ ex ey
    rcases hb hb' with rfl | rfl
    · exact .inl ⟨k1, k2⟩
    · exact .inr ⟨k1, k2⟩
  · have l1 := reads_len q1
    have l2 := reads_len q2
    rw [Array.length_toList] at l1 l2
    rw [l1, l2]
/-- the first items -/
theorem firstsT {M : Model} {k : Value → T} {c : Nat} : ∀ {us : List Value}, Rds s.heap k us → (∀ u ∈ us, headK (k u) = c) → c = 1 ∨ c = 2 ∨ c = 3 →
    ∃ fs, PySem.W.KatTups s.heap us fs ∧ fs.length = us.length ∧ ∀ v ∈ fs, PySem.W.Looks M s.heap (typeOf v) (if c = 1 then .type "int" else if c = 2 then .type "str" else .type "tuple")
  | [], _, _, _ => ⟨[], trivial, rfl, fun v h => absurd h (by simp)⟩
  | u :: us, r, hk, hc => by
    obtain ⟨fs, h1, h2, h3⟩ := firstsT (M := M) (us := us) (fun v hv => r v (List.mem_cons_of_mem _ hv)) (fun v hv => hk v (List.mem_cons_of_mem _ hv)) hc
    obtain ⟨n1, d1, as, r1⟩ := r u List.mem_cons_self
    have k1 := hk u List.mem_cons_self
    have hh : ∃ x rr, k u = .tup (x :: rr) ∧ ((c = 1 ∧ ∃ i, x = .int i) ∨ (c = 2 ∧ ∃ i, x = .str i) ∨ (c = 3 ∧ ∃ i, x = .tup i)) := by
      generalize k u = t at k1
      cases t with
      | tup zs =>
        cases zs with
        | nil => simp [headK] at k1; omega
        | cons z zs =>
          refine ⟨z, zs, rfl, ?_⟩
          cases z <;> simp [headK] at k1 <;> first | omega | (subst k1; simp)
      | _ => simp [headK] at k1; omega
    obtain ⟨x, rr, e, hx⟩ := hh
    rw [e] at r1
    obtain ⟨a, o, vs, n, e1, g1, c1, d1', q1⟩ := reads_tupV r1
    simp only [T.pds] at q1
    generalize hl : vs.toList = l at q1
    cases q1 with
    | cons p1 p2 =>
      rename_i v0 vr _ _
      refine ⟨v0 :: fs, ⟨⟨a, o, vs, n, e1, g1, c1, d1', ?_⟩, h1⟩, by simp [h2], fun v hv => ?_⟩
      · rw [← Array.getElem?_toList, hl]; rfl
      · rcases List.mem_cons.mp hv with rfl | hv
        · rcases hx with ⟨rfl, i, rfl⟩ | ⟨rfl, i, rfl⟩ | ⟨rfl, i, rfl⟩
          · obtain ⟨t, rfl⟩ := reads_intV p1
            exact PySem.W.Looks.now
          · obtain ⟨t, rfl⟩ := reads_strV p1
            exact PySem.W.Looks.now
          · obtain ⟨a', o', vs', n', rfl, g', c', _, _⟩ := reads_tupV p1
            have z : PySem.W.Looks M s.heap (typeOf (.ref a')) o'.cls := (PySem.W.Looks.ld g').andThen .now
            rw [c'] at z
            exact z
        · exact h3 v hv
end

/-! ### sorted(..) -/
section
variable {prog : Program} {w : World} {A : Around} {E : Value → Shared → Prop} {s : Shared}
theorem all_at {p : T → Bool} {k : Value → T} {us : List Value} (h : (us.map k).all p = true) : ∀ u ∈ us, p (k u) = true := fun u hu => List.all_eq_true.mp h _ (List.mem_map.mpr ⟨u, hu, rfl⟩)
/-- what is sortable can be sorted -/
theorem sortableO {k : Value → T} {us : List Value} {a : Addr} (h2 : 2 ≤ us.length) (r : Rds s.heap k us) (hu : A.units + 100 < cLine) (ha : s.heap.get? a = some (seqObj "list" us.toArray 0)) (hl : ∀ h' : PySem.Heap, (∀ b o, b ≠ a → s.heap.get? b = some o → h'.get? b = some o) → Rds h' k us)
    (hs : sortable (us.map k) = true) : SrtO.SortableO prog w A s a us fun u v => ltO (k u) (k v) := by
  intro h' kp
  have r' := hl h' kp
  simp only [sortable, Bool.or_eq_true, Bool.and_eq_true, decide_eq_true_eq] at hs
  rcases hs with (hs | hs) | ⟨⟨⟨hn, hd⟩, hk⟩, hc⟩
  · have hi : ∀ u ∈ us, ∃ i, k u = .int i := fun u hu => by
      have := all_at hs u hu
      generalize k u = t at this
      cases t <;> simp at this
      exact ⟨_, rfl⟩
    refine ⟨oneType', fun Q E hq => ?_, int_cmpT (s := { s with heap := h' }) r' hi⟩
    refine PySem.W.kas_kind (T := .type "int") h2 (fun v hv => ?_) (by decide +kernel) rfl hq
    obtain ⟨i, e⟩ := hi v hv
    obtain ⟨_, _, as, q⟩ := r' v hv
    rw [e] at q
    obtain ⟨t, rfl⟩ := reads_intV q
    exact PySem.W.Looks.now
  · have hi : ∀ u ∈ us, ∃ i, k u = .str i := fun u hu => by
      have := all_at hs u hu
      generalize k u = t at this
      cases t <;> simp at this
      exact ⟨_, rfl⟩
    refine ⟨oneType', fun Q E hq => ?_, str_cmpT (s := { s with heap := h' }) r' hi⟩
    refine PySem.W.kas_kind (T := .type "str") h2 (fun v hv => ?_) (by decide +kernel) rfl hq
    obtain ⟨i, e⟩ := hi v hv
    obtain ⟨_, _, as, q⟩ := r' v hv
    rw [e] at q
    obtain ⟨t, rfl⟩ := reads_strV q
    exact PySem.W.Looks.now
  · obtain ⟨c, hc3, hk⟩ : ∃ c, (c = 1 ∨ c = 2 ∨ c = 3) ∧ ∀ u ∈ us, headK (k u) = c := by
      rcases hk with (hk | hk) | hk
      · exact ⟨1, by omega, fun u hu => by simpa using all_at hk u hu⟩
      · exact ⟨2, by omega, fun u hu => by simpa using all_at hk u hu⟩
      · exact ⟨3, by omega, fun u hu => by simpa using all_at hk u hu⟩
    have ht : ∀ u ∈ us, ∀ v ∈ us, ∃ xs ys, k u = .tup xs ∧ k v = .tup ys ∧ cmpTop xs ys = true := fun u hu v hv => by
      have := all_at (all_at hc u hu) v hv
      generalize k u = t at this
      generalize k v = t2 at this
      cases t <;> first | (cases this; done) | skip
      cases t2 <;> first | (cases this; done) | skip
      exact ⟨_, _, rfl, rfl, this⟩
    obtain ⟨fs, f1, f2, f3⟩ := firstsT (M := model prog w) (s := { s with heap := h' }) r' hk hc3
    refine ⟨tuples' ((if c = 1 then .type "int" else if c = 2 then .type "str" else .type "tuple" : Value) != Value.type "tuple"), fun Q E hq => ?_, tup_cmpT (s := { s with heap := h' }) r' hu hk ?_ ht⟩
    · refine PySem.W.kat_kind (s := { s with heap := h' }) f1 (by omega) f3 ?_ hq
      rcases hc3 with rfl | rfl | rfl <;> decide +kernel
    · rcases hc3 with rfl | rfl | rfl
      · exact fun _ => .inl rfl
      · exact fun _ => .inr rfl
      · intro z
        have : ((if (3 : Nat) = 1 then .type "int" else if (3 : Nat) = 2 then .type "str" else .type "tuple" : Value) != Value.type "tuple") = false := by decide +kernel
        rw [this] at z
        cases z
theorem swoK (k : Value → T) : SrtO.Swo fun u v => ltO (k u) (k v) := ⟨fun x y => ltO_swo.asym _ _, fun x y z => ltO_swo.tr _ _ _⟩
theorem out_isort {k : Value → T} {us out : List Value} (h1 : SrtO.Srtd (fun u v => ltO (k u) (k v)) out) (h2 : SrtO.Stb (fun u v => ltO (k u) (k v)) out us) : out.map k = isort (us.map k) := by
  obtain ⟨s1, s2⟩ := isort_ok (us.map k)
  have q : SrtO.Stb ltO (out.map k) (us.map k) := SrtO.Stb.map ltO_swo k h2
  have inv : SrtO.Stb ltO (us.map k) (isort (us.map k)) := ⟨s2.perm.symm, fun x => (s2.cls x).symm⟩
  exact SrtO.stb_uniq ltO_swo (SrtO.srtd_map (lt := ltO) (f := k) h1) s1 (q.trans inv)
end
section
variable {G : GD} {X : L2.Cx} {pins : List (Addr × Obj)} {σ : St} {H : Hp} {s : Shared} {R : List Addr} {h : Heap}
open Classical in
/-- what a value means -/
noncomputable def kOfV (G : GD) (R : List Addr) (H : Hp) (u : Value) : T := if z : ∃ (t : T) (v : V), RelV v u ∧ VR G R H t v ∧ t.flat = true then Classical.choose z else .non
theorem kOfV_eq (S : Same5 G X) (I : Inv X pins σ H s) {t : T} {v : V} {u : Value} (f : t.flat = true) (r : VR G R H t v) (ru : RelV v u) : kOfV G R H u = t := by
  have z : ∃ (t : T) (v : V), RelV v u ∧ VR G R H t v ∧ t.flat = true := ⟨t, v, ru, r, f⟩
  unfold kOfV
  rw [dif_pos z]
  obtain ⟨v', r1, r2, r3⟩ := Classical.choose_spec z
  obtain rfl := r1.inj ru
  exact VR.fun S I r3 f r2 r
theorem kOfV_all (S : Same5 G X) (I : Inv X pins σ H s) : ∀ {xs : List T} {vs : List V} {us : List Value}, T.flats xs = true → VRs G R H xs vs → Vals vs us → us.map (kOfV G R H) = xs
  | [], _, _, _, .nil, r => by cases r; rfl
  | x :: xs, _, _, f, .cons h1 r1, r => by
    cases r with
    | cons h2 r2 =>
      simp only [T.flats, Bool.and_eq_true] at f
      rw [List.map_cons, kOfV_eq S I f.1 h1 h2, kOfV_all S I f.2 r1 r2]
theorem rdsV (S : Same5 G X) (I : Inv X pins σ H s) : ∀ {xs : List T} {vs : List V} {us : List Value}, T.nobs xs = true → T.depths xs ≤ 41 → VRs G R H xs vs → Vals vs us → Rds s.heap (kOfV G R H) us
  | [], _, _, _, _, .nil, r => by cases r; exact fun u hu => absurd hu (by simp)
  | x :: xs, _, _, f, d, .cons h1 r1, r => by
    cases r with
    | cons h2 r2 =>
      simp only [T.nobs, Bool.and_eq_true] at f
      simp only [T.depths] at d
      intro u hu
      rcases List.mem_cons.mp hu with rfl | hu
      · rw [kOfV_eq S I (T.nob_flat _ f.1) h1 h2]
        obtain ⟨as, q⟩ := VR.reads S I (T.nob_flat _ f.1) h1 h2
        exact ⟨f.1, by omega, as, q⟩
      · exact rdsV S I f.2 (by omega) r1 r2 u hu
/-- values in another order -/
theorem back_vals {k : Value → T} : ∀ {out : List Value}, (∀ u ∈ out, ∃ v, RelV v u ∧ VR G R H (k u) v) → ∃ vs, Vals vs out ∧ VRs G R H (out.map k) vs
  | [], _ => ⟨[], .nil, .nil⟩
  | u :: out, h => by
    obtain ⟨v, r1, r2⟩ := h u List.mem_cons_self
    obtain ⟨vs, r3, r4⟩ := back_vals (out := out) fun x hx => h x (List.mem_cons_of_mem _ hx)
    exact ⟨v :: vs, .cons r1 r3, .cons r2 r4⟩
theorem each_val (S : Same5 G X) (I : Inv X pins σ H s) : ∀ {xs : List T} {vs : List V} {us : List Value}, T.flats xs = true → VRs G R H xs vs → Vals vs us → ∀ u ∈ us, ∃ v, RelV v u ∧ VR G R H (kOfV G R H u) v
  | [], _, _, _, .nil, r => by cases r; exact fun u hu => absurd hu (by simp)
  | x :: xs, _, _, f, .cons h1 r1, r => by
    cases r with
    | cons h2 r2 =>
      simp only [T.flats, Bool.and_eq_true] at f
      intro u hu
      rcases List.mem_cons.mp hu with rfl | hu
      · exact ⟨_, h2, by rw [kOfV_eq S I f.1 h1 h2]; exact h1⟩
      · exact each_val S I f.2 r1 r2 u hu
theorem sortable_facts {xs : List T} (h : sortable xs = true) : T.nobs xs = true ∧ T.depths xs ≤ 41 := by
  simp only [sortable, Bool.or_eq_true, Bool.and_eq_true, decide_eq_true_eq] at h
  rcases h with (h | h) | h
  · induction xs with
    | nil => exact ⟨rfl, by simp [T.depths]⟩
    | cons x xs ih =>
      simp only [List.all_cons, Bool.and_eq_true] at h
      obtain ⟨a, b⟩ := ih h.2
      cases x <;> simp at h
      simp only [T.nobs, T.nob, T.depths, T.depth]
      exact ⟨by simp [a], by omega⟩
  · induction xs with
    | nil => exact ⟨rfl, by simp [T.depths]⟩
    | cons x xs ih =>
      rw [List.all_cons, Bool.and_eq_true] at h
      obtain ⟨a, b⟩ := ih h.2
      have h1 := h.1
      cases x <;> first | (cases h1; done) | skip
      simp only [T.nobs, T.nob, T.depths, T.depth]
      exact ⟨by rw [a, Bool.and_true]; exact h1, by omega⟩
  · exact ⟨h.1.1.1, by omega⟩
/-- sorted(xs), by what is done with the new list -/
theorem sorted_raw (S : Same5 G X) (hu : X.A.units + 200 < cLine) : CallR X (.builtin "sorted") (fun vs H Q => ∃ h R ts zs, HRel G h R H ∧ VRs G R H ts vs ∧ fSorted h ts = some (.lst zs) ∧ ∀ p ws, H p = none → VRs G R H zs ws → Q (.ref p) (upd H p (.lst ws))) := by
  intro pins s σ H vs us Q I ru hh
  obtain ⟨h, R, ts, z, hr, rv, e, p⟩ := hh
  unfold fSorted at e
  split at e <;> (try (cases e; done))
  rename_i x
  split at e <;> (try (cases e; done))
  rename_i ys ev
  split at e <;> (try (cases e; done))
  rename_i hs
  cases e
  obtain ⟨v, rfl, hx⟩ := rv.one
  obtain ⟨u, rfl, rw1⟩ := vals1 ru
  obtain ⟨a, vs, rfl, h1, h2⟩ := view_lst hr hx ev
  cases rw1
  obtain ⟨nn, dd⟩ := sortable_facts hs
  have ff := T.nobs_flat _ nn
  obtain ⟨its, rv2, hl, hz⟩ := I.list (by rw [S.K]; exact h1.sq)
  have km := kOfV_all S I ff h2 rv2
  have rd := rdsV S I nn dd h2 rv2
  refine SrtO.sorted_ord (swoK (kOfV G R H)) hl.isList (by rw [← rv2.length]; exact hz) (fun h2' h₁ a' ha' kp => ?_) fun out hs1 hs2 => ?_
  · refine sortableO (s := { s with heap := h₁ }) h2' (rd.keeps fun b o e => (kp b o e).2) (by have : X.A.in1.in1.units = X.A.units + 2 := rfl; omega) ha' (fun h' kp' => rd.keeps fun b o e => kp' b o (kp b o e).1 (kp b o e).2) (by rw [km]; exact hs)
  · have eo := out_isort hs1 hs2
    rw [km] at eo
    obtain ⟨ws, r5, r6⟩ := back_vals (G := G) (R := R) (H := H) (k := kOfV G R H) (out := out) fun u hu => each_val S I ff h2 rv2 u (hs2.perm.mem_iff.mp hu)
    rw [eo] at r6
    obtain ⟨ep, he'⟩ := PyProof.Rows.sortedAll_at s.heap its out.toArray
    have hlen : ws.length ≤ sizeLine := by
      rw [r5.length, hs2.perm.length_eq, ← rv2.length]
      exact hz
    have hn : H (s.heap.objs.size + 1) = none := I.hok.fresh (Nat.le_succ _)
    exact ⟨.ref _, upd H (s.heap.objs.size + 1) (.lst ws), I.laid (t' := s.toks) (fun _ _ => PyProof.Rows.sortedAll_old) (Nat.le_succ _) ⟨hlen, out, ep, r5, he'⟩, rfl, p _ _ hn r6⟩
theorem fn_sorted (S : Same5 G X) (hu : X.A.units + 200 < cLine) : CallR X (.builtin "sorted") (rFn G fSorted) := by
  refine CallR.lock (sorted_raw S hu) fun vs H Q hh => ?_
  obtain ⟨h, R, ts, z, hr, rv, e, p⟩ := hh
  obtain ⟨zs, rfl⟩ : ∃ zs, z = .lst zs := by
    unfold fSorted at e
    split at e <;> (try (cases e; done))
    split at e <;> (try (cases e; done))
    split at e <;> (try (cases e; done))
    cases e
    exact ⟨_, rfl⟩
  exact ⟨h, R, ts, zs, hr, rv, e, fun l ws hl r => ⟨l, H, ws, rfl, hl, rfl, fun o => p.newF hr r hl o⟩⟩
theorem fn_sortedM (S : Same5 G X) (hu : X.A.units + 200 < cLine) : CallR X (.builtin "sorted") (rFnM G fSorted) := by
  refine CallR.imp (sorted_raw S hu) fun vs H Q hh => ?_
  obtain ⟨h, R, ts, zs, hr, rv, e, p⟩ := hh
  exact ⟨h, R, ts, zs, hr, rv, e, fun l ws hl r => p.newM hr r hl⟩
end
end Lite

/-! LITE, 7: soundness: expressions. -/
namespace Lite
open PySem L2 PySem.Spec
open PyProof.Rows hiding St

/-! ### the check: the small syntax says what the text says -/
/-- a def's names by slot, its scope as written, the canonical names' names -/
structure Sc where
  nm : String → Str
  known : String → Bool
  N : List Str
  sc : Scope
  kcl : String → Bool
  kex : String → Bool
  kxr : String → Bool
  hot : Bool
def isGlob (c : Sc) (x : Str) : Bool := decide (c.sc.names.lookup x = some .globalImplicit) && !(x == ("__debug__" : Str))
def isVis (c : Sc) (x : Str) : Bool := (decide (c.sc.names.lookup x = some .local) || decide (c.sc.names.lookup x = some .cell) || decide (c.sc.names.lookup x = some .free)) && !(x == ("__debug__" : Str)) && !(x == ("__classdict__" : Str))
def plainE : Expr → Bool
  | .Starred .. => false
  | _ => true
/-- its test is its value's truth -/
def valueE : Expr → Bool
  | .UnaryOp .Not _ _ => false
  | .BoolOp .. => false
  | .IfExp .. => false
  | .Compare .. => false
  | _ => true
/-- what may stand in brackets -/
def ixE : Expr → Bool
  | .Slice .. => false
  | _ => true
abbrev bOp : BOp → Operator
  | .add => .Add | .sub => .Sub | .mul => .Mult | .fdiv => .FloorDiv | .mod => .Mod | .pow => .Pow
/-- built-in functions that are classes -/
def isTyFn (b : String) : Bool := ["int", "str", "tuple", "list"].contains b
def fnNames : List String := ["len", "abs", "max", "min", "sum", "int", "repr", "all", "any", "str", "tuple", "list", "sorted"]
/-- those whose answer may be a new list of ours -/
def mkNames : List String := ["list", "sorted"]
def tyNames : List String := ["int", "bool", "str", "tuple", "list", "dict"]
def isLoc (c : Sc) (x : Str) : Bool := decide (c.sc.names.lookup x = some .local) || decide (c.sc.names.lookup x = some .cell)
/-- the names of a target -/
def chkNs (c : Sc) (A : List Nat) : List Nat → List Expr → Bool
  | [], [] => true
  | i :: is, .Name x _ :: es => decide (c.N[i]? = some x) && isLoc c x && A.contains i && chkNs c A is es
  | _, _ => false
/-- the targets, the last one without its star -/
def starOff : List Expr → Option (List Expr)
  | [] => none
  | e :: es => match es, e with
    | [], .Starred t _ => some [t]
    | [], _ => none
    | _ :: _, e => (starOff es).map (e :: ·)
def chkG (c : Sc) (A : List Nat) : Tg → Expr → Bool
  | .v i, .Name x _ => decide (c.N[i]? = some x) && isLoc c x && A.contains i
  | .t is, .Tuple es _ _ => chkNs c A is es
  | .st is k, .Tuple es _ _ => (match starOff es with
    | some es => chkNs c A (is ++ [k]) es
    | none => false)
  | _, _ => false
/-- a list, a tuple, a text walked -/
def chkOne (e : Expr) : Bool := match e with | .Set .. => false | _ => true
def isTup : Expr → Bool
  | .Tuple .. => true
  | _ => false
/-- the block's own names -/
def ownN (c : Sc) (own : List Nat) : List (Str × Nat) := own.map fun i => (c.N.getD i Str.empty, i)
/-- a display's keys and values, one after another -/
def pairsE : List (Option Expr) → List Expr → Option (List Expr)
  | [], [] => some []
  | some k :: ks, v :: vs => (pairsE ks vs).map fun r => k :: v :: r
  | _, _ => none
/-- the methods of built-in types that are served -/
def bmNames : List String := ["append", "extend", "clear", "pop", "get"] ++ strMs
/-- what an attribute is looked up on -/
def plainB : Expr → Bool
  | .Call (.Name x _) [] [] _ => !(x == ("super" : Str))
  | _ => true
mutual
def chkE (c : Sc) : LE → Expr → Bool
  | .var i, .Name x _ => decide (c.N[i]? = some x) && isVis c x
  | .int i, .Constant (.int j) _ _ => decide (i = j)
  | .str s, .Constant (.str x) _ _ => decide (tx s = x)
  | .bl b, .Constant (.bool k) _ _ => b == k
  | .non, .Constant .none _ _ => true
  | .bad, e => valueE e
  | .glob g, .Name x _ => decide (c.nm g = x) && isGlob c x
  | .bin o a b, .BinOp l op r _ => decide (bOp o = op) && chkE c a l && chkE c b r
  | .neg a, .UnaryOp .USub x _ => chkE c a x
  | .not a, .UnaryOp .Not x _ => chkE c a x
  | .and es, .BoolOp .And xs _ => chkB c es xs
  | .or es, .BoolOp .Or xs _ => chkB c es xs
  | .cmp o a b, .Compare l [op] [r] _ => decide (cOp o = op) && !behindInMarks op r && chkE c a l && chkE c b r
  | .chain o p a b d, .Compare l [op, op'] [r, r'] _ => decide (cOp o = op) && decide (cOp p = op') && !lastMarks [op, op'] [r, r'] && chkE c a l && chkE c b r && chkE c d r'
  | .ife t a b, .IfExp u l r _ => chkE c t u && chkE c a l && chkE c b r
  | .tup es, .Tuple xs _ _ => chkEs c es xs && decide (es.length ≤ 1000)
  | .lst _ es, .List xs _ => chkEs c es xs && decide (es.length ≤ 1000)
  | .dct _ es, .Dict ks vs _ => (match pairsE ks vs with
    | some xs => chkEs c es xs && decide (ks.length ≤ 15)
    | none => false)
  | .callV (.var i) es, .Call (.Name x _) xs [] _ => !c.hot && (decide (c.N[i]? = some x) && isVis c x && !xs.isEmpty && chkEs c es xs)
  | .slc a lo hi, .Subscript x (.Slice l u none _) _ => chkE c a x && chkO c lo l && chkO c hi u
  | .idx a i, .Subscript x y _ => ixE y && chkE c a x && chkE c i y
  | .call f es, .Call (.Name x _) xs [] _ => !c.hot && (c.known f && decide (c.nm f = x) && isGlob c x && chkEs c es xs)
  | .bi b es, .Call (.Name x _) xs [] _ => !c.hot && (decide (Str.ofString b = x) && fnNames.contains b && isGlob c x && !xs.isEmpty && chkEs c es xs)
  | .biM b es, .Call (.Name x _) xs [] _ => !c.hot && (decide (Str.ofString b = x) && mkNames.contains b && isGlob c x && !xs.isEmpty && chkEs c es xs)
  | .isi a [t], .Call (.Name x _) [e, .Name y _] [] _ => decide (x = ("isinstance" : Str)) && isGlob c x && plainE e && chkE c a e && tyNames.contains t && decide (Str.ofString t = y) && isGlob c y
  | .isx a t, .Call (.Name x _) [e, .Name y _] [] _ => decide (x = ("isinstance" : Str)) && isGlob c x && plainE e && chkE c a e && isGlob c y && ((c.kex t && decide (c.nm t = y)) || (decide (t = "ValueError") && decide (y = ("ValueError" : Str))))
  | .attr o f, .Attribute x y _ => decide (Str.ofString f = y) && plainB x && chkE c o x
  | .make n es, .Call (.Name x _) xs [] _ => !c.hot && (c.kcl n && decide (c.nm n = x) && isGlob c x && chkEs c es xs)
  | .meth o m es, .Call (.Attribute x y ap) xs [] p => !c.hot && (decide (Str.ofString m = y) && plainB x && (ap.endLine == p.line) && decide (xs.length < 20) && chkE c o x && chkEs c es xs)
  | .bm o m es, .Call (.Attribute x y ap) xs [] p => bmNames.contains m && decide (Str.ofString m = y) && plainB x && (ap.endLine == p.line) && decide (xs.length < 20) && chkE c o x && chkEs c es xs
  | .comp _ own elt tg kd it ifs, .ListComp e [⟨t, i, is, 0⟩] scope _ => !c.hot && (blkC c.N c.sc scope (ownN c own) && chkOne i && chkI c t kd it i && chkG { c with sc := scope } own tg t && chkF { c with sc := scope } ifs is && chkE { c with sc := scope } elt e)
  | .comp2 _ own elt tg kd it ifs own1 tg1 k1 it1 ifs1, .ListComp e [⟨t, i, is, 0⟩, ⟨t1, i1, is1, 0⟩] scope _ => !c.hot && (blkC c.N c.sc scope (ownN c own) && chkOne i && chkOne i1 && (own1.all fun j => own.contains j) && chkI c t kd it i && chkG { c with sc := scope } own tg t && chkF { c with sc := scope } ifs is &&
      chkI { c with sc := scope } t1 k1 it1 i1 && chkG { c with sc := scope } own1 tg1 t1 && chkF { c with sc := scope } ifs1 is1 && chkE { c with sc := scope } elt e)
  | _, _ => false
def chkI (c : Sc) (tg : Expr) (kd : String) : List LE → Expr → Bool
  | [l], it => if kd = "" then chkOne it && chkE c l it
    else if kd = "range" then (match it with
      | .Call (.Name x _) [e] [] _ => decide (x = ("range" : Str)) && isGlob c x && plainE e && chkE c l e
      | _ => false)
    else if kd = "enumerate" then (match it with
      | .Call (.Name x _) [e] [] _ => decide (x = ("enumerate" : Str)) && isGlob c x && isTup tg && plainE e && chkE c l e
      | _ => false)
    else if kd = "items" then (match it with
      | .Call (.Attribute e y ap) [] [] p => decide (y = ("items" : Str)) && isTup tg && plainB e && (ap.endLine == p.line) && chkE c l e
      | _ => false)
    else false
  | [l, l2], it => if kd = "range" then (match it with
      | .Call (.Name x _) [e, e2] [] _ => decide (x = ("range" : Str)) && isGlob c x && plainE e && plainE e2 && chkE c l e && chkE c l2 e2
      | _ => false)
    else if kd = "zip" then (match it with
      | .Call (.Name x _) [e, e2] [] _ => decide (x = ("zip" : Str)) && isGlob c x && isTup tg && plainE e && plainE e2 && chkE c l e && chkE c l2 e2
      | _ => false)
    else false
  | _, _ => false
def chkF (c : Sc) : List LE → List Expr → Bool
  | [], [] => true
  | [l], [e] => chkE c l e
  | _, _ => false
def chkO (c : Sc) : List LE → Option Expr → Bool
  | [], none => true
  | [e], some y => chkE c e y
  | _, _ => false
def chkB (c : Sc) : List LE → List Expr → Bool
  | [l], [e] => chkE c l e
  | l :: l2 :: ls, e :: e2 :: es => chkE c l e && chkB c (l2 :: ls) (e2 :: es)
  | _, _ => false
def chkEs (c : Sc) : List LE → List Expr → Bool
  | [], [] => true
  | l :: ls, e :: es => plainE e && chkE c l e && chkEs c ls es
  | _, _ => false
end

/-! ### contexts -/
structure GX (G : GD) (k : Nat) (X : L2.Cx) (c : Sc) (W : WX) : Prop where
  s5 : Same5 G X
  room : c.hot = false → Room k X.A
  un : X.A.units + 200 < cLine
  gd : X.A.guards = some []
  calm : c.hot = false → X.calm = true
  nm : c.nm = G.nm
  N : X.N = c.N
  nd : c.N.Nodup
  sc1 : ∀ x kd, kd ≠ .free → c.sc.names.lookup x = some kd → X.env.scope.names.lookup x = some kd
  sc2 : ∀ x, c.sc.names.lookup x = some .free → X.env.scope.names.lookup x = some .free ∨ X.env.scope.names.lookup x = some .cell
  fnc : ∀ x, c.sc.names.lookup x = some .cell → X.fn x = true
  tk : Takes X W
  po : c.hot = false → PassesOwn (model X.prog X.w) X.A X.env X.xe
section
variable {G : GD} {k : Nat} {X : L2.Cx} {c : Sc} {W : WX}
theorem GX.units (g : GX G k X c W) : X.A.units + 200 < cLine := g.un
theorem GX.gl (g : GX G k X c W) {x : Str} (h : isGlob c x = true) : Gl X x ∧ (x == ("__debug__" : Str)) = false := by
  simp only [isGlob, Bool.and_eq_true, decide_eq_true_eq, Bool.not_eq_true'] at h
  exact ⟨g.sc1 x _ (by decide) h.1, h.2⟩
theorem GX.vis (g : GX G k X c W) {x : Str} (h : isVis c x = true) : Vis X.env.scope x ∧ (x == ("__debug__" : Str)) = false ∧ (x == ("__classdict__" : Str)) = false := by
  simp only [isVis, Bool.and_eq_true, Bool.or_eq_true, decide_eq_true_eq, Bool.not_eq_true'] at h
  refine ⟨?_, h.1.2, h.2⟩
  rcases h.1.1 with (q | q) | q
  · exact .inl (g.sc1 x _ (by decide) q)
  · exact .inr (.inl (g.sc1 x _ (by decide) q))
  · rcases g.sc2 x q with z | z
    · exact .inr (.inr z)
    · exact .inr (.inl z)
end
/-- a class whose instances may be asked for their class -/
structure IsK (K : PySem.W.Frag) (C : Addr) : Prop where
  cl : L2.Cls K C
  ha : PySem.W.findIn K (.ref C) "__class__" = some (some (.builtin "object.__class__"))
  hn : PySem.W.specialIn K (.builtin "object.__class__") "__get__" = some (some (.builtin "getset_descriptor.__get__"))
  htk : PySem.W.takesIn K (.builtin "object.__class__") = some true
  hm : PySem.W.mroIn K C (.type "object") = some true
  no : ∀ b ∈ tyNames, PySem.W.kitOne K (.ref C) (.type b) = some false
def isKB (K : PySem.W.Frag) (C : Addr) : Bool := decide (PySem.W.findIn K (.ref C) "__class__" = some (some (.builtin "object.__class__"))) && decide (PySem.W.specialIn K (.builtin "object.__class__") "__get__" = some (some (.builtin "getset_descriptor.__get__"))) &&
  decide (PySem.W.takesIn K (.builtin "object.__class__") = some true) && decide (PySem.W.mroIn K C (.type "object") = some true) && tyNames.all fun b => decide (PySem.W.kitOne K (.ref C) (.type b) = some false)
theorem isKB_ok {K : PySem.W.Frag} {C : Addr} (cl : L2.Cls K C) (h : isKB K C = true) : IsK K C := by
  simp only [isKB, Bool.and_eq_true, decide_eq_true_eq] at h
  obtain ⟨⟨⟨⟨h1, h2⟩, h3⟩, h4⟩, h5⟩ := h
  exact ⟨cl, h1, h2, h3, h4, fun b hb => of_decide_eq_true (List.all_eq_true.mp h5 b hb)⟩
/-- an exception class whose instances may be asked for their class -/
structure XisK (K : PySem.W.Frag) (C : Addr) : Prop where
  cl : (PySem.W.clsIn K C).isSome = true
  ha : PySem.W.findIn K (.ref C) "__class__" = some (some (.builtin "object.__class__"))
  hn : PySem.W.specialIn K (.builtin "object.__class__") "__get__" = some (some (.builtin "getset_descriptor.__get__"))
  htk : PySem.W.takesIn K (.builtin "object.__class__") = some true
  hm : PySem.W.mroIn K C (.type "object") = some true
def xisB (K : PySem.W.Frag) (C : Addr) : Bool := (PySem.W.clsIn K C).isSome && decide (PySem.W.findIn K (.ref C) "__class__" = some (some (.builtin "object.__class__"))) && decide (PySem.W.specialIn K (.builtin "object.__class__") "__get__" = some (some (.builtin "getset_descriptor.__get__"))) &&
  decide (PySem.W.takesIn K (.builtin "object.__class__") = some true) && decide (PySem.W.mroIn K C (.type "object") = some true)
theorem xisB_ok {K : PySem.W.Frag} {C : Addr} (h : xisB K C = true) : XisK K C := by
  simp only [xisB, Bool.and_eq_true, decide_eq_true_eq] at h
  obtain ⟨⟨⟨⟨h1, h2⟩, h3⟩, h4⟩, h5⟩ := h
  exact ⟨h1, h2, h3, h4, h5⟩
def names7 : List String := ["NoneType", "bool", "int", "str", "tuple", "list", "dict"]
/-- what the row's top has left -/
structure GD.Ok (G : GD) : Prop where
  con : ∀ g t, G.P.con g = some t → ∃ u v, G.mg (G.nm g) = some u ∧ RelV v u ∧ ∀ R H, VR G R H t v
  sm : SM G.base
  fa : ∀ f a, G.fa f = some a → (G.P.fn f).isSome = true
  free : ∀ b, (fnNames ++ tyNames ++ ["isinstance", "range", "enumerate", "zip", "ValueError"]).contains b = true → G.mg (Str.ofString b) = none
  fld : ∀ c C f, G.ca c = some C → (G.P.flds c).contains f = true → L2.Cls G.K C ∧ L2.NoAttr G.K C (Str.ofString f)
  mth : ∀ c C m f, G.ca c = some C → G.P.meth c m = some f → L2.Cls G.K C ∧ ∃ a, G.fa f = some a ∧ L2.Meth G.K C (Str.ofString m) a
  xf : ∀ c C f, G.ca c = some C → G.P.exf c = some f → L2.XfC G.K C ∧ PySem.W.findIn G.K (.ref C) (Str.ofString f) = some none
  isk : ∀ c C, G.ca c = some C → (G.P.flds c).isEmpty = false → IsK G.K C
  known : ∀ t, G.P.exk t = true → ∃ D, G.ca t = some D ∧ G.mg (G.nm t) = some (.ref D)
  xis : ∀ c C f, G.ca c = some C → G.P.exf c = some f → XisK G.K C
  xq : ∀ c C f t D, G.ca c = some C → G.P.exf c = some f → G.P.exk t = true → G.ca t = some D → PySem.W.kitOne G.K (.ref C) (.ref D) = some (G.P.sub c t)
  xv : ∀ c C f, G.ca c = some C → G.P.exf c = some f → PySem.W.kitOne G.K (.ref C) (.type "ValueError") = some (G.P.sub c "ValueError")
  xd : ∀ t D, G.P.exk t = true → G.ca t = some D → ∀ a ∈ names7, PySem.W.kitOne G.K (.type a) (.ref D) = some false
  mak : ∀ c f, G.P.meth c "__init__" = some f → ∃ C a, G.ca c = some C ∧ G.fa f = some a ∧ L2.Mk G.K C a ∧ G.mg (G.nm c) = some (.ref C)
/-- a def's promise by the interpreter's call -/
def spI (G : GD) (call : List T → Heap → Rs T) : Sp := fun vs H Q E => ∃ ts h R, HRel G h R H ∧ VRs G R H ts vs ∧ Sat (call ts h) (PostE G R H Q) (PostX G R H E)
/-- the calls of a level -/
structure Calls (G : GD) (k : Nat) (call : String → List T → Heap → Rs T) : Prop where
  fn : ∀ f d, G.P.fn f = some d → ∃ a fd ps, G.fa f = some a ∧ PySem.W.keepIn G.K (.ref a) = true ∧ L2.Binds G.K fd ps [] ∧ FnG G k a fd ps (spI G (call f)) ∧ (∃ oc od osl, G.K.lookup a = some ⟨oc, od, .func fd, osl⟩) ∧ ps = fd.params.args.map (·.arg)
  none : ∀ f ts h, G.P.fn f = none → call f ts h = .stuck

/-! ### readings, composed -/
section
variable {G : GD} {K : Cn} {W : WX} {ρ : Rho} {h : Heap} {R : List Addr} {σ : St} {H : Hp}
def LaterP {α : Type} (P : List Addr → Hp → α → Heap → Prop) : Prop := ∀ R H R' H' a h, Lq R H R' H' → P R H a h → P R' H' a h
theorem later_E (Q : VK) : LaterP (fun R H => PostE G R H Q) := fun _ _ _ _ _ _ q p R2 H2 v l hr vr => p R2 H2 v (q.trans l) hr vr
theorem later_Es (Q : List V → Hp → Prop) : LaterP (fun R H => PostEs G R H Q) := fun _ _ _ _ _ _ q p R2 H2 v l hr vr => p R2 H2 v (q.trans l) hr vr
theorem later_B (Q : Bool → Hp → Prop) : LaterP (fun R H => PostB G R H Q) := fun _ _ _ _ _ _ q p R2 H2 l hr => p R2 H2 (q.trans l) hr
theorem later_X (w : Value → Option Addr → Hp → Prop) : LaterP (fun R H => PostX G R H w) := fun _ _ _ _ _ _ q p R2 H2 c d l hr x => p R2 H2 c d (q.trans l) hr x
theorem later_S (D : Ends) : LaterP (fun R H => PostS G R H D) := fun R H R' H' a h q p => by
  cases a with
  | nx ρ => exact fun R2 H2 s l hr e => p R2 H2 s (q.trans l) hr e
  | brk ρ => exact fun R2 H2 s l hr e => p R2 H2 s (q.trans l) hr e
  | cnt ρ => exact fun R2 H2 s l hr e => p R2 H2 s (q.trans l) hr e
  | ret v => exact fun R2 H2 s l hr e => p R2 H2 s (q.trans l) hr e
theorem Sat.later {α : Type} {P : List Addr → Hp → α → Heap → Prop} (lp : LaterP P) {w : Value → Option Addr → Hp → Prop} {r : Rs α} {R R' : List Addr} {H H' : Hp} (q : Lq R H R' H') (s : Sat r (P R H) (PostX G R H w)) : Sat r (P R' H') (PostX G R' H' w) :=
  s.imp (fun _ _ p => lp _ _ _ _ _ _ q p) fun _ _ p => later_X w _ _ _ _ _ _ q p
abbrev At (W : WX) (σ : St) : Value → Option Addr → Hp → Prop := fun c d H' => W c d σ H'
theorem rdE.bind {α : Type} {f : T → Heap → Rs α} {P : List Addr → Hp → α → Heap → Prop} (lp : LaterP P) {le : LE} (sr : SR G ρ h R σ H) (o : Sat ((evE K le ρ h).bind f) (P R H) (PostX G R H (At W σ))) {Q : VK}
    (k : ∀ t h' R' H' v, SR G ρ h' R' σ H' → Lq R H R' H' → VR G R' H' t v → Sat (f t h') (P R' H') (PostX G R' H' (At W σ)) → Q v H') : rdE G K W le σ H Q :=
  ⟨ρ, h, R, sr, (Sat.bind.mp o).imp (fun t h' s R' H' v lq hr vr => k t h' R' H' v (sr.next lq hr) lq vr (Sat.later lp lq s)) fun _ _ x => x⟩
theorem rdA.bind {α : Type} {f : List T → Heap → Rs α} {P : List Addr → Hp → α → Heap → Prop} (lp : LaterP P) {les : List LE} (sr : SR G ρ h R σ H) (o : Sat ((evEs K les ρ h).bind f) (P R H) (PostX G R H (At W σ))) {Q : List V → Hp → Prop}
    (k : ∀ ts h' R' H' vs, SR G ρ h' R' σ H' → Lq R H R' H' → VRs G R' H' ts vs → Sat (f ts h') (P R' H') (PostX G R' H' (At W σ)) → Q vs H') : rdA G K W les σ H Q :=
  ⟨ρ, h, R, sr, (Sat.bind.mp o).imp (fun t h' s R' H' v lq hr vr => k t h' R' H' v (sr.next lq hr) lq vr (Sat.later lp lq s)) fun _ _ x => x⟩
theorem bind_assoc {α β γ : Type} (r : Rs α) (f : α → Heap → Rs β) (g : β → Heap → Rs γ) : (r.bind f).bind g = r.bind fun a h => (f a h).bind g := by cases r <;> rfl
theorem rdT.bind {α : Type} {f : T → Heap → Rs α} {P : List Addr → Hp → α → Heap → Prop} (lp : LaterP P) {le : LE} (sr : SR G ρ h R σ H) {g : Bool → Heap → Rs α} (hf : ∀ t h b, truth h t = some b → f t h = g b h) (hn : ∀ t h, truth h t = none → f t h = .stuck)
    (o : Sat ((evE K le ρ h).bind f) (P R H) (PostX G R H (At W σ))) {Q : Bool → Hp → Prop}
    (k : ∀ b h' R' H', SR G ρ h' R' σ H' → Lq R H R' H' → Sat (g b h') (P R' H') (PostX G R' H' (At W σ)) → Q b H') : rdT G K W le σ H Q := by
  refine ⟨ρ, h, R, sr, ?_⟩
  rw [Sat.bind] at o ⊢
  refine o.imp (fun t h' s => ?_) fun _ _ x => x
  cases e : truth h' t with
  | none => rw [hn _ _ e] at s; exact s.elim
  | some b =>
    rw [hf _ _ _ e] at s
    exact fun R' H' lq hr => k b h' R' H' (sr.next lq hr) lq (Sat.later lp lq s)
end

section
variable {G : GD} {k : Nat} {X : L2.Cx} {c : Sc} {W : WX} {K : Cn}
theorem star_cons {e : Expr} {es : List Expr} {env : PySem.Env} (h : plainE e = true) : starEach (e :: es) env = (false, eval e env) :: starEach es env := by
  cases e <;> first | rfl | cases h
theorem noStar {c : Sc} : ∀ {ls : List LE} {es : List Expr} {env : PySem.Env} {pos : Pos}, chkEs c ls es = true → (backTo pos (starEach es env)).any (·.1) = false
  | [], [], _, _, _ => rfl
  | [], _ :: _, _, _, h => by simp [chkEs] at h
  | _ :: _, [], _, _, h => by simp [chkEs] at h
  | l :: ls, e :: es, env, pos, h => by
    simp only [chkEs, Bool.and_eq_true] at h
    rw [star_cons h.1.1]
    have := noStar (env := env) (pos := pos) h.2
    simpa [backTo] using this
theorem test_value {e : Expr} (h : valueE e = true) (env : PySem.Env) (whole : Sem Value) : isTrue e env whole = (do let v ← whole; standAt e.pos; holding [v] (truthy v)) := by
  cases e <;> first | rfl | (simp [valueE] at h; done) | skip
  rename_i op x p
  cases op <;> first | rfl | (simp [valueE] at h)
theorem ix_plain {e : Expr} (h : ixE e = true) : PlainIx e := by
  intro o i
  cases e <;> first | rfl | (simp [ixE] at h)
/-- a value's truth, of any expression -/
theorem pt_of (g : GX G k X c W) {e : Expr} {le : LE} (hv : valueE e = true) (he : PE X e (rdE G K W le)) : PT X e (rdT G K W le) := by
  refine pt_imp (pt_truth he (test_value hv X.env)) fun σ H Q ⟨ρ, h, R, sr, o⟩ => ?_
  refine rdE.bind (later_B Q) sr o fun t h' R' H' v sr' lq vr o' => ?_
  obtain ⟨b, e, p⟩ := o'.of
  exact ⟨b, by rw [g.s5.K]; exact truth_ok sr'.hr vr e, p R' H' (Lq.refl _ _) sr'.hr⟩
end
end Lite

/-! LITE, 8: soundness: expressions, the induction. -/
namespace Lite
open PySem L2 PySem.Spec
open PyProof.Rows hiding St

section
variable (G : GD) (K : Cn) (W : WX)
def rdAnd (ls : List LE) : TE := fun σ H Q => ∃ ρ h R, SR G ρ h R σ H ∧ Sat (evAnd K ls ρ h) (PostE G R H Q) (PostX G R H (At W σ))
def rdOr (ls : List LE) : TE := fun σ H Q => ∃ ρ h R, SR G ρ h R σ H ∧ Sat (evOr K ls ρ h) (PostE G R H Q) (PostX G R H (At W σ))
def rdTAnd (ls : List LE) : TT := fun σ H Q => ∃ ρ h R, SR G ρ h R σ H ∧ Sat ((evAnd K ls ρ h).bind fun x h => Rs.of (truth h x) h) (PostB G R H Q) (PostX G R H (At W σ))
def rdTOr (ls : List LE) : TT := fun σ H Q => ∃ ρ h R, SR G ρ h R σ H ∧ Sat ((evOr K ls ρ h).bind fun x h => Rs.of (truth h x) h) (PostB G R H Q) (PostX G R H (At W σ))
def rdPart (lo : List LE) : TO := fun σ H Q => ∃ ρ h R, SR G ρ h R σ H ∧ Sat (evEs K lo ρ h) (fun ts h' => ∀ R' H', Lq R H R' H' → HRel G h' R' H' → ∃ o, partOf ts = some o ∧ Q o H') (PostX G R H (At W σ))
end

section
variable {G : GD} {k : Nat} {X : L2.Cx} {c : Sc} {W : WX} {K : Cn}
theorem isTrue_ife {t a b : Expr} {p : Pos} {env : PySem.Env} {wh : Sem Value} {M : Model} {A : Around} {E : Value → Shared → Prop} {s : Shared} {Q : Bool → Shared → Prop}
    (h : wpAny M A (isTrue t env (eval t env)) (fun d s1 => if d = true then wpAny M A (isTrue a env (eval a env)) Q E s1 else wpAny M A (isTrue b env (eval b env)) Q E s1) E s) : wpAny M A (isTrue (.IfExp t a b p) env wh) Q E s := by
  show wpAny M A (do if ← isTrue t env (eval t env) then isTrue a env (eval a env) else isTrue b env (eval b env)) Q E s
  refine wpAny_bind (thn h fun d s1 q => ?_)
  cases d with
  | true => exact q
  | false => exact q
theorem pt_ife {t a b : Expr} {p : Pos} {tc ta tb : TT} (hc : PT X t tc) (ha : PT X a ta) (hb : PT X b tb) : PT X (.IfExp t a b p) (fun σ H Q => tc σ H fun d H1 => if d = true then ta σ H1 Q else tb σ H1 Q) := by
  refine ⟨fun pins s σ H Q I h => isTrue_ife (thn (hc.run pins s σ H _ I h) fun d s1 ⟨H1, I1, q1⟩ => ?_)⟩
  cases d with
  | true => rw [if_pos rfl]; exact ha.run pins s1 σ H1 Q I1 q1
  | false => rw [if_neg Bool.false_ne_true]; exact hb.run pins s1 σ H1 Q I1 q1
theorem po_imp {e : Option Expr} {t t' : TO} (h : PO X e t) (f : ∀ σ H Q, t' σ H Q → t σ H Q) : PO X e t' := ⟨fun pins s σ H Q I q => h.run pins s σ H Q I (f σ H Q q)⟩
theorem kit_table {a b : String} (ha : a ∈ ["NoneType", "bool", "int", "str", "tuple", "list", "dict"]) (hb : b ∈ tyNames) : kitB a b = some (decide (a = b) || (decide (a = "bool") && decide (b = "int"))) := by
  have h : (["NoneType", "bool", "int", "str", "tuple", "list", "dict"].all fun a => tyNames.all fun b => decide (kitB a b = some (decide (a = b) || (decide (a = "bool") && decide (b = "int"))))) = true := by decide +kernel
  have h1 := List.all_eq_true.mp h a ha
  exact of_decide_eq_true (List.all_eq_true.mp h1 b hb)
theorem boot_ty {b : String} (hb : b ∈ tyNames) : bootBuiltins (Str.ofString b) = some (.type b) := by
  have h : (tyNames.all fun b => decide (bootBuiltins (Str.ofString b) = some (.type b))) = true := by decide +kernel
  exact of_decide_eq_true (List.all_eq_true.mp h b hb)
theorem ty_plain {b : String} (hb : b ∈ tyNames) : Str.ofString b ≠ "__name__" := by
  have h : (tyNames.all fun b => decide (Str.ofString b ≠ "__name__")) = true := by decide +kernel
  exact of_decide_eq_true (List.all_eq_true.mp h b hb)
/-- a value's built-in class -/
theorem ty_of (ok : G.Ok) (S : Same5 G X) {pins : List (Addr × Obj)} {σ : St} {s : Shared} {H : Hp} {h : Heap} {R : List Addr} (I : Inv X pins σ H s) (hr : HRel G h R H) {x : T} {v : V} {w : Value} {b : String} {r : Bool} (hb : b ∈ tyNames) (vr : VR G R H x v) (rw0 : RelV v w) (e : isTy h G.P x b = some r) :
    ∃ t, PySem.W.kitOne X.K t (.type b) = some r ∧ ∃ P : PySem.Heap → Prop, PySem.W.KitX X.K w t P ∧ P s.heap ∧ w ≠ .builtin "__main__.__loader__#opaque" := by
  have go : ∀ a : String, a ∈ ["NoneType", "bool", "int", "str", "tuple", "list", "dict"] → (decide (a = b) || (decide (a = "bool") && decide (b = "int"))) = r → PySem.W.kitOne X.K (.type a) (.type b) = some r := fun a ha q => by
    rw [← q]; exact kit_ty (kit_table ha hb)
  unfold isTy at e
  split at e
  · rename_i q; cases e; rw [view_non vr q] at rw0; cases rw0
    refine ⟨_, go "NoneType" (by simp) ?_, _, PySem.W.kitx_none, True.intro, fun z => nomatch z⟩
    cases hd : decide ("NoneType" = b) <;> simp_all [eq_comm]
  · rename_i q; cases e; rw [view_bl vr q] at rw0; cases rw0
    refine ⟨_, go "bool" (by simp) ?_, _, PySem.W.kitx_bool, True.intro, fun z => nomatch z⟩
    simp [eq_comm]
  · rename_i q; cases e; rw [view_int vr q] at rw0; obtain ⟨t, rfl⟩ := rw0
    refine ⟨_, go "int" (by simp) ?_, _, PySem.W.kitx_int, True.intro, fun z => nomatch z⟩
    simp [eq_comm]
  · rename_i q; cases e; rw [view_str vr q] at rw0; obtain ⟨t, rfl⟩ := rw0
    refine ⟨_, go "str" (by simp) ?_, _, PySem.W.kitx_str, True.intro, fun z => nomatch z⟩
    simp [eq_comm]
  · rename_i q; cases e
    obtain ⟨a, vs, rfl, h1, h2⟩ := view_tup hr vr q
    rw [← S.K] at h1
    cases rw0
    obtain ⟨its, _, ⟨o, e, c, n, d⟩, _⟩ := I.tuple h1
    exact ⟨_, go "tuple" (by simp) (by simp [eq_comm]), _, PySem.W.kitx_tuple, ⟨o, e, c⟩, fun z => nomatch z⟩
  · rename_i q; cases e
    obtain ⟨a, vs, rfl, h1, h2⟩ := view_lst hr vr q
    cases rw0
    obtain ⟨_, its, n, _, e⟩ := Inv.exl S I h1
    exact ⟨_, go "list" (by simp) (by simp [eq_comm]), _, PySem.W.kitx_list, ⟨_, e, rfl⟩, fun z => nomatch z⟩
  · rename_i q; cases e
    obtain ⟨a, kvs, vs, rfl, d, _, _⟩ := view_dlk S I hr vr q
    cases rw0
    obtain ⟨o, e, c⟩ := d.typeIs (s := s)
    exact ⟨_, go "dict" (by simp) (by simp [eq_comm]), _, PySem.W.kitx_dict, ⟨o, e, c⟩, fun z => nomatch z⟩
  · cases e
  · split at e <;> (try (cases e; done))
    rename_i n _
    split at e <;> (try (cases e; done))
    rename_i d fs ed
    split at e <;> (try (cases e; done))
    rename_i hf
    cases e
    cases vr
    rename_i a ea
    obtain ⟨C, dx, gs, hc, ha, _⟩ := hr.obj n _ a ed ea
    have Z := ok.isk d C hc (by simpa using hf)
    rw [← S.K] at Z
    cases (show w = Value.ref a from rw0)
    obtain ⟨mA, O, _⟩ := ins_get I.hok ha
    obtain ⟨od, J, _⟩ := O.look
    exact ⟨_, Z.no b hb, _, PySem.W.kitx_own (Z.cl.get _) Z.cl.hd Z.ha Z.hn Z.htk Z.hm, J, fun z => nomatch z⟩
theorem call_isO (ok : G.Ok) (S : Same5 G X) : CallR X (.builtin "isinstance") (fun xs H Q => ∃ (h : Heap) (R : List Addr) (x : T) (v : V) (b : String) (r : Bool), xs = [v, .ty b] ∧ HRel G h R H ∧ VR G R H x v ∧ b ∈ tyNames ∧ isTy h G.P x b = some r ∧ Q (.bl r) H) := by
  intro pins s σ H xs us Q I ru hh
  obtain ⟨h, R, x, v, b, r, rfl, hr, vr, hb, e, q⟩ := hh
  obtain ⟨u1, u2, rfl, r1, r2⟩ := vals2 ru
  cases r2
  obtain ⟨t, ek, P, Z, p, hx⟩ := ty_of ok S I hr hb vr r1 e
  exact PySem.W.kia_one Z I.kIn p ek hx fun tk => ⟨.bl r, H, I.tok tk, rfl, q⟩

/-- a datum, for isinstance -/
theorem kit_data (S : Same5 G X) {pins : List (Addr × Obj)} {σ : St} {s : Shared} {H : Hp} {h : Heap} {R : List Addr} (I : Inv X pins σ H s) (hr : HRel G h R H) {x y : T} {v : V} {w : Value} {a : String} (vr : VR G R H x v) (rw0 : RelV v w) (q : view h x = some y) (e : tyName y = some a) :
    a ∈ names7 ∧ ∃ P : PySem.Heap → Prop, PySem.W.KitX X.K w (.type a) P ∧ P s.heap ∧ w ≠ .builtin "__main__.__loader__#opaque" := by
  cases y <;> (try (cases e; done)) <;> cases e
  · rw [view_non vr q] at rw0; cases rw0
    exact ⟨by decide, _, PySem.W.kitx_none, True.intro, fun z => nomatch z⟩
  · rw [view_bl vr q] at rw0; cases rw0
    exact ⟨by decide, _, PySem.W.kitx_bool, True.intro, fun z => nomatch z⟩
  · rw [view_int vr q] at rw0; obtain ⟨t, rfl⟩ := rw0
    exact ⟨by decide, _, PySem.W.kitx_int, True.intro, fun z => nomatch z⟩
  · rw [view_str vr q] at rw0; obtain ⟨t, rfl⟩ := rw0
    exact ⟨by decide, _, PySem.W.kitx_str, True.intro, fun z => nomatch z⟩
  · obtain ⟨a, vs, rfl, h1, h2⟩ := view_tup hr vr q
    rw [← S.K] at h1
    cases rw0
    obtain ⟨its, _, ⟨o, e, c, n, d⟩, _⟩ := I.tuple h1
    exact ⟨by decide, _, PySem.W.kitx_tuple, ⟨o, e, c⟩, fun z => nomatch z⟩
  · obtain ⟨a, vs, rfl, h1, h2⟩ := view_lst hr vr q
    cases rw0
    obtain ⟨_, its, n, _, e⟩ := Inv.exl S I h1
    exact ⟨by decide, _, PySem.W.kitx_list, ⟨_, e, rfl⟩, fun z => nomatch z⟩
  · obtain ⟨a, kvs, vs, rfl, d, _, _⟩ := view_dlk S I hr vr q
    cases rw0
    obtain ⟨o, e, c⟩ := d.typeIs (s := s)
    exact ⟨by decide, _, PySem.W.kitx_dict, ⟨o, e, c⟩, fun z => nomatch z⟩
theorem kit_ve {a : String} (ha : a ∈ names7) : kitB a "ValueError" = some false := by
  have h : (names7.all fun a => decide (kitB a "ValueError" = some false)) = true := by decide +kernel
  exact of_decide_eq_true (List.all_eq_true.mp h a ha)
/-- isinstance with an exception class: the class's value -/
def XCls (G : GD) (t : String) (w : V) : Prop := (∃ D, G.P.exk t = true ∧ G.ca t = some D ∧ w = .ref D) ∨ (t = "ValueError" ∧ w = .ty "ValueError")
theorem call_isX (ok : G.Ok) (S : Same5 G X) : CallR X (.builtin "isinstance") (fun xs H Q => ∃ (h : Heap) (R : List Addr) (x : T) (v w : V) (t : String) (r : Bool), xs = [v, w] ∧ XCls G t w ∧ HRel G h R H ∧ VR G R H x v ∧ isxT h G.P x t = some r ∧ Q (.bl r) H) := by
  intro pins s σ H xs us Q I ru hh
  obtain ⟨h, R, x, v, w, t, r, rfl, hw, hr, vr, e, q⟩ := hh
  obtain ⟨u1, u2, rfl, r1, r2⟩ := vals2 ru
  unfold isxT at e
  split at e
  · rename_i c vs0
    cases e
    obtain ⟨x0, a, dd, C, f, v0, oe, od, rfl, hc, hf, ha, hd, _⟩ : ∃ x0 a dd C f v0 oe od, v = .ref a ∧ G.ca c = some C ∧ G.P.exf c = some f ∧ H a = some (.frz oe (XV (.ref C) (some dd) a)) ∧ H dd = some (.frz od (.xd [(Str.ofString f, v0)])) ∧ vs0 = [x0] := by
      cases vr with
      | exn hc hf ha hd r => exact ⟨_, _, _, _, _, _, _, _, rfl, hc, hf, ha, hd, rfl⟩
    cases (show u1 = Value.ref a from r1)
    have Z := ok.xis c C f hc hf
    have F := (ok.xf c C f hc hf).1
    rw [← S.K] at Z F
    obtain ⟨_, ⟨oe', ws, g1, g2, g3⟩, _⟩ := (I.hok a _ ha : ObjOk X.prog X.w H s.heap a (.frz oe (XV (.ref C) (some dd) a)))
    obtain ⟨od1, mA, ⟨od2, es, ep, ho, _⟩, _⟩ := (I.hok dd _ hd : ObjOk X.prog X.w H s.heap dd (.frz od (.xd _)))
    have J : PySem.W.InstAt s.heap a oe' C (some od2) := ⟨g1, g2.1, by unfold PySem.W.notCls; rw [g3] <;> rfl, by rw [g2.2]; exact ho⟩
    have kx := PySem.W.kitx_exc (x := a) (ox := oe') (od := some od2) Z.cl F.ga F.gg F.exC Z.ha Z.hn Z.htk Z.hm
    rcases hw with ⟨D, h1, h2, rfl⟩ | ⟨rfl, rfl⟩
    · cases (show u2 = Value.ref D from r2)
      have ek := ok.xq c C f t D hc hf h1 h2
      rw [← S.K] at ek
      exact PySem.W.kia_one kx I.kIn J ek (fun z => nomatch z) fun tk => ⟨.bl _, H, I.tok tk, rfl, q⟩
    · cases r2
      have ek := ok.xv c C f hc hf
      rw [← S.K] at ek
      exact PySem.W.kia_one kx I.kIn J ek (fun z => nomatch z) fun tk => ⟨.bl _, H, I.tok tk, rfl, q⟩
  · obtain ⟨a, ea, er⟩ := Option.map_eq_some_iff.mp e
    subst er
    obtain ⟨y, ev, et⟩ := Option.bind_eq_some_iff.mp ea
    obtain ⟨hm, P, Z, p, hx⟩ := kit_data S I hr vr r1 ev et
    rcases hw with ⟨D, h1, h2, rfl⟩ | ⟨rfl, rfl⟩
    · cases (show u2 = Value.ref D from r2)
      have ek := ok.xd t D h1 h2 a hm
      rw [← S.K] at ek
      exact PySem.W.kia_one Z I.kIn p ek hx fun tk => ⟨.bl _, H, I.tok tk, rfl, q⟩
    · cases r2
      exact PySem.W.kia_one Z I.kIn p (kit_ty (kit_ve hm)) hx fun tk => ⟨.bl _, H, I.tok tk, rfl, q⟩
/-- the built-in functions by name -/
theorem fn_of_name (ok : G.Ok) (g : GX G k X c W) (hh : c.hot = false) {b : String} (hb : fnNames.contains b = true) :
    (isTyFn b = false → CallR X (.builtin b) (rFn G (bfun b)) ∧ bootBuiltins (Str.ofString b) = some (.builtin b)) ∧ (isTyFn b = true → CallR X (.type b) (rFn G (bfun b)) ∧ bootBuiltins (Str.ofString b) = some (.type b)) ∧ Str.ofString b ≠ "__name__" := by
  have hm : b ∈ fnNames := by simpa using hb
  simp only [fnNames, List.mem_cons, List.not_mem_nil, or_false] at hm
  have S := g.s5
  rcases hm with rfl | rfl | rfl | rfl | rfl | rfl | rfl | rfl | rfl | rfl | rfl | rfl | rfl
  · exact ⟨fun _ => ⟨fn_len S, by decide +kernel⟩, fun z => by simp [isTyFn] at z, by decide +kernel⟩
  · exact ⟨fun _ => ⟨fn_abs, by decide +kernel⟩, fun z => by simp [isTyFn] at z, by decide +kernel⟩
  · exact ⟨fun _ => ⟨fn_max S (g.calm hh), by decide +kernel⟩, fun z => by simp [isTyFn] at z, by decide +kernel⟩
  · exact ⟨fun _ => ⟨fn_min S (g.calm hh), by decide +kernel⟩, fun z => by simp [isTyFn] at z, by decide +kernel⟩
  · exact ⟨fun _ => ⟨fn_sum S (g.calm hh), by decide +kernel⟩, fun z => by simp [isTyFn] at z, by decide +kernel⟩
  · exact ⟨fun z => by simp [isTyFn] at z, fun _ => ⟨fn_int, by decide +kernel⟩, by decide +kernel⟩
  · exact ⟨fun _ => ⟨fn_repr S g.units g.gd ok.sm, by decide +kernel⟩, fun z => by simp [isTyFn] at z, by decide +kernel⟩
  · exact ⟨fun _ => ⟨fn_all S (g.calm hh), by decide +kernel⟩, fun z => by simp [isTyFn] at z, by decide +kernel⟩
  · exact ⟨fun _ => ⟨fn_any S (g.calm hh), by decide +kernel⟩, fun z => by simp [isTyFn] at z, by decide +kernel⟩
  · exact ⟨fun z => by simp [isTyFn] at z, fun _ => ⟨fn_str, by decide +kernel⟩, by decide +kernel⟩
  · exact ⟨fun z => by simp [isTyFn] at z, fun _ => ⟨fn_tuple S, by decide +kernel⟩, by decide +kernel⟩
  · exact ⟨fun z => by simp [isTyFn] at z, fun _ => ⟨fn_list S, by decide +kernel⟩, by decide +kernel⟩
  · exact ⟨fun _ => ⟨fn_sorted S g.units, by decide +kernel⟩, fun z => by simp [isTyFn] at z, by decide +kernel⟩
/-- those that make a list of ours -/
theorem mk_of_name (g : GX G k X c W) {b : String} (hb : mkNames.contains b = true) :
    (isTyFn b = false → CallR X (.builtin b) (rFnM G (bfun b)) ∧ bootBuiltins (Str.ofString b) = some (.builtin b)) ∧ (isTyFn b = true → CallR X (.type b) (rFnM G (bfun b)) ∧ bootBuiltins (Str.ofString b) = some (.type b)) ∧ Str.ofString b ≠ "__name__" ∧ fnNames.contains b = true := by
  have hm : b ∈ mkNames := by simpa using hb
  simp only [mkNames, List.mem_cons, List.not_mem_nil, or_false] at hm
  have S := g.s5
  rcases hm with rfl | rfl
  · exact ⟨fun z => by simp [isTyFn] at z, fun _ => ⟨fn_listM S, by decide +kernel⟩, by decide +kernel, by decide⟩
  · exact ⟨fun _ => ⟨fn_sortedM S g.units, by decide +kernel⟩, fun z => by simp [isTyFn] at z, by decide +kernel, by decide⟩
end
end Lite

/-! LITE, 9: soundness: expressions, the induction. -/
namespace Lite
open PySem L2 PySem.Spec
open PyProof.Rows hiding St

section
variable {G : GD} {k : Nat} {X : L2.Cx} {c : Sc} {W : WX} {K : Cn}
/-- what the soundness of a body stands on -/
structure SX (G : GD) (k : Nat) (X : L2.Cx) (c : Sc) (W : WX) (K : Cn) : Prop where
  g : GX G k X c W
  ok : G.Ok
  P : K.P = G.P
  kn : ∀ f, c.known f = true → (G.P.fn f).isSome = true ∧ ∀ a, G.fa f = some a → G.mg (G.nm f) = some (.ref a)
  lv : K.lvl = k
  kc : ∀ n, c.kcl n = true → ∃ f, G.P.meth n "__init__" = some f
  kx : ∀ n, c.kex n = true → G.P.exk n = true
  kr : ∀ n, c.kxr n = true → (G.P.exf n).isSome = true
  calls : Calls G k K.call
  init : ∀ f d, G.P.fn f = some d → (∀ ts h, K.init f ts h = .stuck) ∨ ∃ k0 a fd ps, k = k0 + 1 ∧ G.fa f = some a ∧ L2.Binds G.K fd ps [] ∧ FnG G k0 a fd ps (spI G (K.init f))

theorem SR.same (sr : SR G ρ h R σ H) : Lq R H R H := Lq.refl R H
/-- a value and what a test of it says -/
def EV (G : GD) (X : L2.Cx) (K : Cn) (W : WX) (le : LE) (e : Expr) : Prop := PE X e (rdE G K W le) ∧ PT X e (rdT G K W le)
theorem ev_of (g : GX G k X c W) {e : Expr} {le : LE} (hv : valueE e = true) (he : PE X e (rdE G K W le)) : EV G X K W le e := ⟨he, pt_of g hv he⟩

/-- a truth of a value that is a bool -/
theorem rdT.bl {ρ : Rho} {h : Heap} {R : List Addr} {σ : St} {H : Hp} {le : LE} {Q : Bool → Hp → Prop} (o : Sat ((evE K le ρ h).bind fun x h => Rs.of (truth h x) h) (PostB G R H Q) (PostX G R H (At W σ))) :
    Sat (evE K le ρ h) (PostE G R H fun x H' => ∀ k, x = .bl k → Q k H') (PostX G R H (At W σ)) := by
  refine (Sat.bind.mp o).imp (fun t h' s R' H' v lq hr vr k e => ?_) fun _ _ x => x
  obtain ⟨b, e1, p⟩ := s.of
  subst e
  cases vr
  cases e1
  exact p R' H' lq hr

theorem sound_call0 (s : SX G k X c W K) (hh : c.hot = false) {f : String} {x : Str} {xs : List Expr} {es : List LE} {p pos : Pos} (hk : c.known f = true) (hn : c.nm f = x) (hg : isGlob c x = true) (hc : chkEs c es xs = true) (ha : PA X xs (rdA G K W es)) : PE X (.Call (.Name x p) xs [] pos) (rdE G K W (.call f es)) := by
  refine ⟨fun pins s0 σ H Q I ⟨ρ, h, R, sr, o⟩ => ?_⟩
  obtain ⟨hg1, hg2⟩ := s.g.gl hg
  unfold evE at o
  have key := rdA.bind (later_E Q) sr o (Q := fun vs H' => spI G (K.call f) vs H' Q (At W σ)) fun ts h' R' H' vs sr' lq vr o' => ⟨ts, h', R', sr'.hr, vr, o'⟩
  obtain ⟨d, hf⟩ := Option.isSome_iff_exists.mp (s.kn f hk).1
  obtain ⟨a, fd, ps, e2, e3, e4, F, _⟩ := s.calls.fn f d hf
  refine wpAny_Call_Name_kw (ld_glob I hg1 (by rw [s.g.s5.mg, ← hn, s.g.nm]; exact (s.kn f hk).2 a e2) ?_ hg2)
  have hk : PySem.W.keepIn X.K (.ref a) = true := by rw [s.g.s5.K]; exact e3
  have fin : ∀ (us : List Value) (s1 : Shared) (vs : List V) (H1 : Hp), Inv X pins σ H1 s1 → Vals vs us → spI G (K.call f) vs H1 Q (At W σ) → wpAny (model X.prog X.w) X.A (PySem.call (.ref a) us) (EP X pins σ Q) X.xe s1 := fun us s1 vs H1 I1 r q =>
    run_fnG s.g.s5 F (s.g.room hh) s.g.gd e4 .nil s.g.tk (fun _ _ _ z => z) I1 r (by rw [List.append_nil]; exact q)
  cases xs with
  | nil =>
    cases es with
    | cons _ _ => simp [chkEs] at hc
    | nil =>
      refine PySem.W.callWith_K0 I.kIn hk ?_
      obtain ⟨ρ', h', R', sr', o'⟩ := key
      exact fin [] s0 [] H I .nil (o' R' H [] (Lq.refl _ _) sr'.hr .nil)
  | cons e es' =>
    cases es with
    | nil => simp [chkEs] at hc
    | cons l ls =>
      simp only [chkEs, Bool.and_eq_true] at hc
      refine PySem.W.callWith_K (h₀ := X.base) I.ok.mod.kin hk (thn (ha.run pos pins s0 σ H _ I key) fun us s1 ⟨vs, H1, I1, r, q⟩ => ⟨I1.kIn, ?_⟩) (star_cons hc.1.1) (noStar hc.2)
      exact fin us s1 vs H1 I1 r q

/-- a call of what a slot holds -/
theorem sound_callV (s : SX G k X c W K) (hh : c.hot = false) {i : Nat} {x : Str} {xs : List Expr} {es : List LE} {p pos : Pos} (h1 : c.N[i]? = some x) (h2 : isVis c x = true) (hx : xs.isEmpty = false) (hc : chkEs c es xs = true) (hv : PE X (.Name x p) (rdE G K W (.var i))) (ha : PA X xs (rdA G K W es)) :
    PE X (.Call (.Name x p) xs [] pos) (rdE G K W (.callV (.var i) es)) := by
  refine ⟨fun pins s0 σ H Q I ⟨ρ, h, R, sr, o⟩ => ?_⟩
  unfold evE at o
  have key := rdE.bind (later_E Q) sr o (Q := fun v H' => ∃ n f, v = V.ref f ∧ G.fa n = some f ∧ rdA G K W es σ H' (fun vs H' => spI G (K.call n) vs H' Q (At W σ))) fun g h' R' H' v sr' lq vr o' => by
    cases g <;> (try (exact o'.elim))
    rename_i n
    cases vr
    rename_i f hf
    exact ⟨n, f, rfl, hf, rdA.bind (later_E Q) sr' o' fun ts h2 R2 H2 vs sr2 lq2 vr2 o2 => ⟨ts, h2, R2, sr2.hr, vr2, o2⟩⟩
  refine wpAny_Call_Name_kw (thn (hv.run pins s0 σ H _ I key) fun u s1 ⟨v, H1, I1, r1, n, f, ev, hf, key2⟩ => ?_)
  subst ev
  cases r1
  obtain ⟨d, hd⟩ := Option.isSome_iff_exists.mp (s.ok.fa n f hf)
  obtain ⟨a, fd, ps, e2, e3, e4, F, _⟩ := s.calls.fn n d hd
  rw [hf] at e2
  cases e2
  have hk : PySem.W.keepIn X.K (.ref f) = true := by rw [s.g.s5.K]; exact e3
  cases xs with
  | nil => cases hx
  | cons e es' =>
    cases es with
    | nil => simp [chkEs] at hc
    | cons l ls =>
      simp only [chkEs, Bool.and_eq_true] at hc
      refine PySem.W.callWith_K (h₀ := X.base) I1.ok.mod.kin hk (thn (ha.run pos pins s1 σ H1 _ I1 key2) fun us s2 ⟨vs, H2, I2, r, q⟩ => ⟨I2.kIn, ?_⟩) (star_cons hc.1.1) (noStar hc.2)
      exact run_fnG s.g.s5 F (s.g.room hh) s.g.gd e4 .nil s.g.tk (fun _ _ _ z => z) I2 r (by rw [List.append_nil]; exact q)
theorem sound_bi (s : SX G k X c W K) (hh : c.hot = false) {b : String} {x : Str} {xs : List Expr} {es : List LE} {p pos : Pos} (hn : Str.ofString b = x) (hb : fnNames.contains b = true) (hg : isGlob c x = true) (hx : xs.isEmpty = false) (hc : chkEs c es xs = true)
    (ha : PA X xs (rdA G K W es)) : PE X (.Call (.Name x p) xs [] pos) (rdE G K W (.bi b es)) := by
  cases xs with
  | nil => cases hx
  | cons e es' =>
  cases es with
  | nil => simp [chkEs] at hc
  | cons l ls =>
  simp only [chkEs, Bool.and_eq_true] at hc
  obtain ⟨hg1, hg2⟩ := s.g.gl hg
  subst hn
  obtain ⟨h1, h2, h3⟩ := fn_of_name s.ok s.g hh hb
  have hm : X.mg (Str.ofString b) = none := by
    rw [s.g.s5.mg]
    refine s.ok.free b ?_
    simp only [List.contains_eq_mem, List.mem_append, decide_eq_true_eq] at hb ⊢
    exact .inl (.inl hb)
  have key : ∀ σ H Q, rdE G K W (.bi b (l :: ls)) σ H Q → tCB (rFn G (bfun b)) (rdA G K W (l :: ls)) σ H Q := fun σ H Q ⟨ρ, h, R, sr, o⟩ => by
    unfold evE at o
    refine rdA.bind (later_E Q) sr o fun ts h' R' H' vs sr' lq vr o' => ?_
    obtain ⟨z, e, q⟩ := o'.of
    exact ⟨h', R', ts, z, sr'.hr, vr, e, q⟩
  cases ht : isTyFn b with
  | false => exact pe_imp (pe_callB (h1 ht).1 hg1 hm (h1 ht).2 ha h3 hg2 (star_cons hc.1.1) (noStar hc.2)) key
  | true => exact pe_imp (pe_callTy (h2 ht).1 hg1 hm (h2 ht).2 ha h3 hg2 (star_cons hc.1.1) (noStar hc.2)) key

theorem sound_biM (s : SX G k X c W K) (hh : c.hot = false) {b : String} {x : Str} {xs : List Expr} {es : List LE} {p pos : Pos} (hn : Str.ofString b = x) (hb : mkNames.contains b = true) (hg : isGlob c x = true) (hx : xs.isEmpty = false) (hc : chkEs c es xs = true)
    (ha : PA X xs (rdA G K W es)) : PE X (.Call (.Name x p) xs [] pos) (rdE G K W (.biM b es)) := by
  cases xs with
  | nil => cases hx
  | cons e es' =>
  cases es with
  | nil => simp [chkEs] at hc
  | cons l ls =>
  simp only [chkEs, Bool.and_eq_true] at hc
  obtain ⟨hg1, hg2⟩ := s.g.gl hg
  subst hn
  obtain ⟨h1, h2, h3, hb2⟩ := mk_of_name s.g hb
  have hm : X.mg (Str.ofString b) = none := by
    rw [s.g.s5.mg]
    refine s.ok.free b ?_
    simp only [List.contains_eq_mem, List.mem_append, decide_eq_true_eq] at hb2 ⊢
    exact .inl (.inl hb2)
  have key : ∀ σ H Q, rdE G K W (.biM b (l :: ls)) σ H Q → tCB (rFnM G (bfun b)) (rdA G K W (l :: ls)) σ H Q := fun σ H Q ⟨ρ, h, R, sr, o⟩ => by
    unfold evE at o
    refine rdA.bind (later_E Q) sr o fun ts h' R' H' vs sr' lq vr o' => ?_
    cases e : bfun b h' ts with
    | none => rw [e] at o'; exact o'.elim
    | some z =>
      rw [e] at o'
      cases z <;> first | exact o'.elim | skip
      exact ⟨h', R', ts, _, sr'.hr, vr, e, o'⟩
  cases ht : isTyFn b with
  | false => exact pe_imp (pe_callB (h1 ht).1 hg1 hm (h1 ht).2 ha h3 hg2 (star_cons hc.1.1) (noStar hc.2)) key
  | true => exact pe_imp (pe_callTy (h2 ht).1 hg1 hm (h2 ht).2 ha h3 hg2 (star_cons hc.1.1) (noStar hc.2)) key

theorem sound_isi (s : SX G k X c W K) {t : String} {x y : Str} {e : Expr} {a : LE} {p p2 pos : Pos} (hx : x = ("isinstance" : Str)) (hgx : isGlob c x = true) (hpl : plainE e = true) (ht : tyNames.contains t = true) (hn : Str.ofString t = y) (hgy : isGlob c y = true)
    (ha : PE X e (rdE G K W a)) : PE X (.Call (.Name x p) [e, .Name y p2] [] pos) (rdE G K W (.isi a [t])) := by
  subst hn hx
  obtain ⟨hg1, hg2⟩ := s.g.gl hgx
  obtain ⟨hg3, hg4⟩ := s.g.gl hgy
  have htm : t ∈ tyNames := by simpa using ht
  have hm : X.mg (Str.ofString t) = none := by
    rw [s.g.s5.mg]
    refine s.ok.free t ?_
    simp only [List.contains_eq_mem, List.mem_append, decide_eq_true_eq]
    exact .inl (.inr htm)
  have hm2 : X.mg ("isinstance" : Str) = none := by
    rw [s.g.s5.mg]
    exact s.ok.free "isinstance" (by decide)
  have pb : PE X (.Name (Str.ofString t) p2) (tC (.ty t)) := pe_bltn hg3 hm (boot_ty htm) rfl (ty_plain htm) hg4
  refine pe_imp (pe_callB (call_isO s.ok s.g.s5) hg1 hm2 (by decide +kernel) (pa_cons ha (pa_cons pb pa_nil) (star_cons hpl)) (by decide +kernel) hg2 (star_cons hpl) rfl) fun σ H Q ⟨ρ, h, R, sr, o⟩ => ?_
  unfold evE at o
  refine rdE.bind (later_E Q) sr o fun t' h' R' H' v sr' lq vr o' => ?_
  obtain ⟨z, e, q⟩ := o'.of
  cases e1 : isTy h' K.P t' t with
  | none => simp [e1] at e
  | some r =>
    simp [e1] at e
    subst e
    rw [s.P] at e1
    exact ⟨h', R', t', v, t, r, rfl, sr'.hr, vr, htm, e1, PostE.here q sr'.hr (.bl r)⟩
theorem sound_isx (s : SX G k X c W K) {t : String} {x y : Str} {e : Expr} {a : LE} {p p2 pos : Pos} (hx : x = ("isinstance" : Str)) (hgx : isGlob c x = true) (hpl : plainE e = true) (hgy : isGlob c y = true) (ht : (c.kex t = true ∧ c.nm t = y) ∨ (t = "ValueError" ∧ y = ("ValueError" : Str)))
    (ha : PE X e (rdE G K W a)) : PE X (.Call (.Name x p) [e, .Name y p2] [] pos) (rdE G K W (.isx a t)) := by
  subst hx
  obtain ⟨hg1, hg2⟩ := s.g.gl hgx
  obtain ⟨hg3, hg4⟩ := s.g.gl hgy
  have hm2 : X.mg ("isinstance" : Str) = none := by
    rw [s.g.s5.mg]
    exact s.ok.free "isinstance" (by decide)
  have pb : ∃ w, XCls G t w ∧ PE X (.Name y p2) (tC w) := by
    rcases ht with ⟨h1, h2⟩ | ⟨h1, h2⟩
    · obtain ⟨D, e1, e2⟩ := s.ok.known t (s.kx t h1)
      exact ⟨.ref D, .inl ⟨D, s.kx t h1, e1, rfl⟩, pe_glob hg3 (by rw [s.g.s5.mg, ← h2, s.g.nm]; exact e2) rfl hg4⟩
    · subst h1 h2
      have hm : X.mg ("ValueError" : Str) = none := by
        rw [s.g.s5.mg]
        exact s.ok.free "ValueError" (by decide)
      exact ⟨.ty "ValueError", .inr ⟨rfl, rfl⟩, pe_bltn hg3 hm PyProof.Rows.Boot.«ValueError» rfl (by decide) hg4⟩
  obtain ⟨w, hw, pb⟩ := pb
  refine pe_imp (pe_callB (call_isX s.ok s.g.s5) hg1 hm2 (by decide +kernel) (pa_cons ha (pa_cons pb pa_nil) (star_cons hpl)) (by decide +kernel) hg2 (star_cons hpl) rfl) fun σ H Q ⟨ρ, h, R, sr, o⟩ => ?_
  unfold evE at o
  refine rdE.bind (later_E Q) sr o fun t' h' R' H' v sr' lq vr o' => ?_
  obtain ⟨z, e, q⟩ := o'.of
  obtain ⟨r, e1, e2⟩ := Option.map_eq_some_iff.mp e
  subst e2
  rw [s.P] at e1
  exact ⟨h', R', t', v, w, t, r, rfl, hw, sr'.hr, vr, e1, PostE.here q sr'.hr (.bl r)⟩
end
end Lite

/-! LITE, 10: soundness: expressions, the cases and the induction. -/
namespace Lite
open PySem L2 PySem.Spec
open PyProof.Rows hiding St

section
variable {G : GD} {k : Nat} {X : L2.Cx} {c : Sc} {W : WX} {K : Cn}

theorem sd_var (s : SX G k X c W K) {i : Nat} {x : Str} {p : Pos} (h1 : c.N[i]? = some x) (h2 : isVis c x = true) : PE X (.Name x p) (rdE G K W (.var i)) := by
  obtain ⟨v1, v2, v3⟩ := s.g.vis h2
  refine pe_imp (pe_var (by rw [s.g.N]; exact h1) v1 v2 v3) fun σ H Q ⟨ρ, h, R, sr, o⟩ => ?_
  unfold evE at o
  split at o
  · rename_i t e
    obtain ⟨v, e2, r⟩ := sr.er.2 i t e
    exact ⟨v, e2, o R H v (Lq.refl _ _) sr.hr r⟩
  · exact o.elim
theorem sd_here {e : Expr} {le : LE} {t : T} {v : V} (he : PE X e (tC v)) (ev : ∀ ρ h, evE K le ρ h = .ok t h) (r : ∀ R H, VR G R H t v) : PE X e (rdE G K W le) :=
  pe_imp he fun σ H Q ⟨ρ, h, R, sr, o⟩ => by
    rw [ev] at o
    exact o R H v (Lq.refl _ _) sr.hr (r R H)
theorem sd_glob (s : SX G k X c W K) {g : String} {x : Str} {p : Pos} (h1 : c.nm g = x) (h2 : isGlob c x = true) : PE X (.Name x p) (rdE G K W (.glob g)) := by
  obtain ⟨hg1, hg2⟩ := s.g.gl h2
  cases hc : G.P.con g with
  | none =>
    refine ⟨fun pins s0 σ H Q I ⟨ρ, h, R, sr, o⟩ => ?_⟩
    unfold evE at o
    rw [s.P, hc] at o
    exact o.elim
  | some t =>
    obtain ⟨u, v, e1, e2, e3⟩ := s.ok.con g t hc
    refine sd_here (pe_glob hg1 (by rw [s.g.s5.mg, ← h1, s.g.nm]; exact e1) e2 hg2) (fun ρ h => ?_) e3
    unfold evE
    rw [s.P, hc]
    rfl
theorem sd_bin (s : SX G k X c W K) {o : BOp} {op : Operator} {a b : LE} {l r : Expr} {p : Pos} (h : bOp o = op) (ha : PE X l (rdE G K W a)) (hb : PE X r (rdE G K W b)) : PE X (.BinOp l op r p) (rdE G K W (.bin o a b)) := by
  subst h
  refine pe_imp (pe_op (op_bin s.g.s5 o) ha hb) fun σ H Q ⟨ρ, h, R, sr, o⟩ => ?_
  unfold evE at o
  refine rdE.bind (later_E Q) sr o fun x h1 R1 H1 vx sr1 lq1 rx o1 => ?_
  refine rdE.bind (later_E Q) sr1 o1 fun y h2 R2 H2 vy sr2 lq2 ry o2 => ?_
  obtain ⟨z, e, q⟩ := o2.of
  exact ⟨h2, R2, x, y, z, sr2.hr, rx.mono lq2, ry, e, q⟩
theorem un_neg : UnR X (unaryOp .USub) (fun x H Q => ∃ i, x = .int i ∧ Q (.int (-i)) H) := by
  intro pins s σ H x v Q I rx h
  obtain ⟨i, rfl, q⟩ := h
  obtain ⟨t, rfl⟩ := rx
  exact neg_int ⟨.int (-i), H, I.tok _, ⟨_, rfl⟩, q⟩
theorem sd_neg {a : LE} {x : Expr} {p : Pos} (ha : PE X x (rdE G K W a)) : PE X (.UnaryOp .USub x p) (rdE G K W (.neg a)) := by
  refine pe_imp (pe_un un_neg ha) fun σ H Q ⟨ρ, h, R, sr, o⟩ => ?_
  unfold evE at o
  refine rdE.bind (later_E Q) sr o fun x h1 R1 H1 vx sr1 lq1 rx o1 => ?_
  split at o1
  · cases rx
    exact ⟨_, rfl, o1 R1 H1 _ (Lq.refl _ _) sr1.hr (.int _)⟩
  · exact o1.elim
theorem un_not (X : L2.Cx) : UnR X (unaryOp .Not) (fun x H Q => ∃ k, TruV X.K x H k ∧ Q (.bl (!k)) H) := by
  intro pins s σ H x v Q I rx h
  obtain ⟨k, e, q⟩ := h
  refine not_of (thn (tru_ok pins s σ H x v (fun c H' => c = k ∧ H' = H) I rx ⟨k, e, rfl, rfl⟩) fun c s1 ⟨H1, I1, e1, e2⟩ => ?_)
  subst e1 e2
  exact ⟨.bl (!c), H1, I1, rfl, q⟩
theorem sd_not (s : SX G k X c W K) {a : LE} {x : Expr} {p : Pos} (ha : PE X x (rdE G K W a)) : PE X (.UnaryOp .Not x p) (rdE G K W (.not a)) := by
  refine pe_imp (pe_un (un_not X) ha) fun σ H Q ⟨ρ, h, R, sr, o⟩ => ?_
  unfold evE at o
  refine rdE.bind (later_E Q) sr o fun x h1 R1 H1 vx sr1 lq1 rx o1 => ?_
  obtain ⟨z, e, q⟩ := o1.of
  cases e1 : truth h1 x with
  | none => simp [e1] at e
  | some b =>
    simp [e1] at e
    subst e
    exact ⟨b, by rw [s.g.s5.K]; exact truth_ok sr1.hr rx e1, q R1 H1 _ (Lq.refl _ _) sr1.hr (.bl _)⟩
theorem sd_notT {a : LE} {x : Expr} {p : Pos} (ha : PT X x (rdT G K W a)) : PT X (.UnaryOp .Not x p) (rdT G K W (.not a)) := by
  refine pt_imp (pt_not ha) fun σ H Q ⟨ρ, h, R, sr, o⟩ => ?_
  unfold evE at o
  rw [bind_assoc] at o
  refine rdT.bind (later_B Q) sr (g := fun b h => Rs.of (some (!b)) h) (fun t h b e => ?_) (fun t h e => ?_) o fun b h1 R1 H1 sr1 lq o1 => ?_
  · rw [e]; rfl
  · rw [e]; rfl
  · obtain ⟨z, e, q⟩ := o1.of
    cases e
    exact q R1 H1 (Lq.refl _ _) sr1.hr

theorem sd_cmp (s : SX G k X c W K) {co : COp} {op : CmpOp} {a b : LE} {l r : Expr} {p : Pos} (h : cOp co = op) (hm : behindInMarks op r = false) (ha : PE X l (rdE G K W a)) (hb : PE X r (rdE G K W b)) : EV G X K W (.cmp co a b) (.Compare l [op] [r] p) := by
  subst h
  have key : ∀ σ H Q, rdE G K W (.cmp co a b) σ H Q → tOp (rCmp G co) (rdE G K W a) (rdE G K W b) σ H Q := fun σ H Q ⟨ρ, h, R, sr, o⟩ => by
    unfold evE at o
    refine rdE.bind (later_E Q) sr o fun x h1 R1 H1 vx sr1 lq1 rx o1 => ?_
    refine rdE.bind (later_E Q) sr1 o1 fun y h2 R2 H2 vy sr2 lq2 ry o2 => ?_
    obtain ⟨z, e, q⟩ := o2.of
    cases e1 : cmpop co h2 x y with
    | none => simp [e1] at e
    | some b =>
      simp [e1] at e
      subst e
      exact ⟨h2, R2, x, y, b, sr2.hr, rx.mono lq2, ry, e1, q R2 H2 _ (Lq.refl _ _) sr2.hr (.bl _)⟩
  refine ⟨pe_imp (pe_cmpR (op_cmp s.g.s5 s.g.units co) ha hb hm) key, pt_imp (pt_cmpR (op_cmp s.g.s5 s.g.units co) ha hb hm) fun σ H Q ⟨ρ, h, R, sr, o⟩ => ?_⟩
  unfold evE at o
  rw [bind_assoc] at o
  refine rdE.bind (later_B Q) sr o fun x h1 R1 H1 vx sr1 lq1 rx o1 => ?_
  rw [bind_assoc] at o1
  refine rdE.bind (later_B Q) sr1 o1 fun y h2 R2 H2 vy sr2 lq2 ry o2 => ?_
  cases e1 : cmpop co h2 x y with
  | none => rw [e1] at o2; exact o2.elim
  | some b =>
    rw [e1] at o2
    exact ⟨h2, R2, x, y, b, sr2.hr, rx.mono lq2, ry, e1, b, rfl, o2 R2 H2 (Lq.refl _ _) sr2.hr⟩
theorem sd_chain (s : SX G k X c W K) {o o' : COp} {op op' : CmpOp} {a b d : LE} {l r r' : Expr} {p : Pos} (h : cOp o = op) (h' : cOp o' = op') (hm : lastMarks [op, op'] [r, r'] = false) (ha : PE X l (rdE G K W a)) (hb : PE X r (rdE G K W b)) (hd : PE X r' (rdE G K W d)) :
    EV G X K W (.chain o o' a b d) (.Compare l [op, op'] [r, r'] p) := by
  subst h h'
  refine ⟨pe_imp (pe_chain (op_cmp s.g.s5 s.g.units o) (op_cmp s.g.s5 s.g.units o') ha hb hd hm) fun σ H Q ⟨ρ, h, R, sr, oo⟩ => ?_, pt_imp (pt_chain (op_cmp s.g.s5 s.g.units o) (op_cmp s.g.s5 s.g.units o') ha hb hd hm) fun σ H Q ⟨ρ, h, R, sr, oo⟩ => ?_⟩
  · unfold evE at oo
    refine rdE.bind (later_E Q) sr oo fun x h1 R1 H1 vx sr1 lq1 rx o1 => ?_
    refine rdE.bind (later_E Q) sr1 o1 fun y h2 R2 H2 vy sr2 lq2 ry o2 => ?_
    split at o2
    · rename_i e
      refine ⟨h2, R2, x, y, true, sr2.hr, rx.mono lq2, ry, e, true, rfl, ?_⟩
      rw [if_pos rfl]
      refine rdE.bind (later_E Q) sr2 o2 fun z h3 R3 H3 vz sr3 lq3 rz o3 => ?_
      obtain ⟨w, e3, q⟩ := o3.of
      cases e1 : cmpop o' h3 y z with
      | none => simp [e1] at e3
      | some b =>
        simp [e1] at e3
        subst e3
        exact ⟨h3, R3, y, z, b, sr3.hr, ry.mono lq3, rz, e1, q R3 H3 _ (Lq.refl _ _) sr3.hr (.bl _)⟩
    · rename_i e
      refine ⟨h2, R2, x, y, false, sr2.hr, rx.mono lq2, ry, e, false, rfl, ?_⟩
      rw [if_neg Bool.false_ne_true]
      exact o2 R2 H2 _ (Lq.refl _ _) sr2.hr (.bl _)
    · exact o2.elim
  · unfold evE at oo
    rw [bind_assoc] at oo
    refine rdE.bind (later_B Q) sr oo fun x h1 R1 H1 vx sr1 lq1 rx o1 => ?_
    rw [bind_assoc] at o1
    refine rdE.bind (later_B Q) sr1 o1 fun y h2 R2 H2 vy sr2 lq2 ry o2 => ?_
    cases e : cmpop o h2 x y with
    | none => rw [e] at o2; exact o2.elim
    | some b =>
      rw [e] at o2
      cases b with
      | true =>
        refine ⟨h2, R2, x, y, true, sr2.hr, rx.mono lq2, ry, e, true, rfl, ?_⟩
        rw [if_pos rfl]
        rw [bind_assoc] at o2
        refine rdE.bind (later_B Q) sr2 o2 fun z h3 R3 H3 vz sr3 lq3 rz o3 => ?_
        cases e1 : cmpop o' h3 y z with
        | none => rw [e1] at o3; exact o3.elim
        | some b =>
          rw [e1] at o3
          exact ⟨h3, R3, y, z, b, sr3.hr, ry.mono lq3, rz, e1, b, rfl, o3 R3 H3 (Lq.refl _ _) sr3.hr⟩
      | false =>
        refine ⟨h2, R2, x, y, false, sr2.hr, rx.mono lq2, ry, e, false, rfl, ?_⟩
        rw [if_neg Bool.false_ne_true]
        exact ⟨false, rfl, o2 R2 H2 (Lq.refl _ _) sr2.hr⟩
theorem sd_ife {t a b : LE} {u l r : Expr} {p : Pos} (ht : PT X u (rdT G K W t)) (ha : EV G X K W a l) (hb : EV G X K W b r) : EV G X K W (.ife t a b) (.IfExp u l r p) := by
  refine ⟨pe_imp (pe_ifExp ht ha.1 hb.1) fun σ H Q ⟨ρ, h, R, sr, o⟩ => ?_, pt_imp (pt_ife ht ha.2 hb.2) fun σ H Q ⟨ρ, h, R, sr, o⟩ => ?_⟩
  · unfold evE at o
    refine rdT.bind (later_E Q) sr (g := fun q h => if q = true then evE K a ρ h else evE K b ρ h) (fun t h b e => ?_) (fun t h e => ?_) o fun q h1 R1 H1 sr1 lq o1 => ?_
    · rw [e]; cases b <;> rfl
    · rw [e]
    · cases q with
      | true => exact ⟨ρ, h1, R1, sr1, o1⟩
      | false => exact ⟨ρ, h1, R1, sr1, o1⟩
  · unfold evE at o
    rw [bind_assoc] at o
    refine rdT.bind (later_B Q) sr (g := fun q h => (if q = true then evE K a ρ h else evE K b ρ h).bind fun x h => Rs.of (truth h x) h) (fun t h b e => ?_) (fun t h e => ?_) o fun q h1 R1 H1 sr1 lq o1 => ?_
    · rw [e]; cases b <;> rfl
    · rw [e]; rfl
    · cases q with
      | true => exact ⟨ρ, h1, R1, sr1, o1⟩
      | false => exact ⟨ρ, h1, R1, sr1, o1⟩
theorem evEs_len {ρ : Rho} : ∀ {ls : List LE} {h : Heap} {Q : List T → Heap → Prop} {E : T → Heap → Prop}, Sat (evEs K ls ρ h) Q E → Sat (evEs K ls ρ h) (fun ts h => ts.length = ls.length ∧ Q ts h) E
  | [], h, Q, E, s => by unfold evEs at s ⊢; exact ⟨rfl, s⟩
  | l :: ls, h, Q, E, s => by
    unfold evEs at s ⊢
    rw [Sat.bind] at s ⊢
    refine s.imp (fun x h1 s1 => ?_) fun _ _ z => z
    rw [Sat.bind] at s1 ⊢
    exact (evEs_len s1).imp (fun xs h2 z => ⟨by simp [z.1], z.2⟩) fun _ _ z => z
theorem rdA.bindL {α : Type} {ρ : Rho} {h : Heap} {R : List Addr} {σ : St} {H : Hp} {f : List T → Heap → Rs α} {P : List Addr → Hp → α → Heap → Prop} (lp : LaterP P) {les : List LE} (sr : SR G ρ h R σ H) (o : Sat ((evEs K les ρ h).bind f) (P R H) (PostX G R H (At W σ))) {Q : List V → Hp → Prop}
    (k : ∀ ts h' R' H' vs, ts.length = les.length → SR G ρ h' R' σ H' → Lq R H R' H' → VRs G R' H' ts vs → Sat (f ts h') (P R' H') (PostX G R' H' (At W σ)) → Q vs H') : rdA G K W les σ H Q :=
  ⟨ρ, h, R, sr, (evEs_len (Sat.bind.mp o)).imp (fun t h' s R' H' v lq hr vr => k t h' R' H' v s.1 (sr.next lq hr) lq vr (Sat.later lp lq s.2)) fun _ _ x => x⟩
theorem sd_tup {es : List LE} {xs : List Expr} {q : Nat} {p : Pos} (ha : PA X xs (rdA G K W es)) (hz : es.length ≤ 1000) : PE X (.Tuple xs q p) (rdE G K W (.tup es)) := by
  refine pe_imp (pe_tup ha) fun σ H Q ⟨ρ, h, R, sr, o⟩ => ?_
  unfold evE at o
  refine rdA.bindL (later_E Q) sr o fun ts h1 R1 H1 vs hl sr1 lq r o1 => ⟨?_, fun p hp => PostE.newT o1 sr1.hr r hp⟩
  have := r.length
  rw [top_eq]
  show vs.length ≤ 16777216
  omega
theorem sd_lst {m : Bool} {es : List LE} {xs : List Expr} {p : Pos} (ha : PA X xs (rdA G K W es)) (hz : es.length ≤ 1000) : PE X (.List xs p) (rdE G K W (.lst m es)) := by
  cases m with
  | true =>
    refine pe_imp (pe_lst ha) fun σ H Q ⟨ρ, h, R, sr, o⟩ => ?_
    unfold evE at o
    refine rdA.bindL (later_E Q) sr o fun ts h1 R1 H1 vs hl sr1 lq r o1 => ⟨?_, fun p hp => ?_⟩
    · have := r.length
      rw [top_eq]
      show vs.length ≤ 16777216
      omega
    · obtain ⟨hr2, lq2⟩ := sr1.hr.push (o := .lst ts) hp rfl ⟨vs, upd_same, r.mono (Lq.push hp)⟩
      exact o1 _ _ _ lq2 hr2 (.loc (by rw [← sr1.hr.len]; simp))
  | false =>
    refine pe_imp (pe_lock (pe_lst ha)) fun σ H Q ⟨ρ, h, R, sr, o⟩ => ?_
    unfold evE at o
    refine rdA.bindL (later_E Q) sr o fun ts h1 R1 H1 vs hl sr1 lq r o1 => ⟨?_, fun p hp => ⟨p, H1, vs, rfl, hp, rfl, fun o => PostE.newF o1 sr1.hr r hp o⟩⟩
    have := r.length
    rw [top_eq]
    show vs.length ≤ 16777216
    omega
theorem rdPart.bind {α : Type} {ρ : Rho} {h : Heap} {R : List Addr} {σ : St} {H : Hp} {f : List T → Heap → Rs α} {P : List Addr → Hp → α → Heap → Prop} (lp : LaterP P) {les : List LE} (sr : SR G ρ h R σ H) (o : Sat ((evEs K les ρ h).bind f) (P R H) (PostX G R H (At W σ)))
    (hn : ∀ ts h, partOf ts = none → f ts h = .stuck) {Q : Option Int → Hp → Prop} (k : ∀ ts l, partOf ts = some l → ∀ h' R' H', SR G ρ h' R' σ H' → Lq R H R' H' → Sat (f ts h') (P R' H') (PostX G R' H' (At W σ)) → Q l H') : rdPart G K W les σ H Q :=
  ⟨ρ, h, R, sr, (Sat.bind.mp o).imp (fun t h' s R' H' lq hr => by
    cases e : partOf t with
    | none => rw [hn t h' e] at s; exact s.elim
    | some l => exact ⟨l, rfl, k t l e h' R' H' (sr.next lq hr) lq (Sat.later lp lq s)⟩) fun _ _ x => x⟩
theorem sd_slc (s : SX G k X c W K) {a : LE} {lo hi : List LE} {x : Expr} {l u : Option Expr} {p p2 : Pos} (ha : PE X x (rdE G K W a)) (hl : PO X l (rdPart G K W lo)) (hu : PO X u (rdPart G K W hi)) : PE X (.Subscript x (.Slice l u none p2) p) (rdE G K W (.slc a lo hi)) := by
  refine pe_imp (pe_slice (sl_ours s.g.s5) ha hl hu) fun σ H Q ⟨ρ, h, R, sr, o⟩ => ?_
  unfold evE at o
  refine rdE.bind (later_E Q) sr o fun x h1 R1 H1 vx sr1 lq1 rx o1 => ?_
  refine rdPart.bind (later_E Q) sr1 o1 (fun ts h e => by show (match partOf ts with | none => _ | some l => _) = _; rw [e]) fun us l e1 h2 R2 H2 sr2 lq2 o2 => ?_
  rw [e1] at o2
  refine rdPart.bind (later_E Q) sr2 o2 (fun ts h e => by show (match partOf ts with | none => _ | some l => _) = _; rw [e]) fun vs u e2 h3 R3 H3 sr3 lq3 o3 => ?_
  rw [e2] at o3
  obtain ⟨z, e, q⟩ := o3.of
  exact ⟨h3, R3, x, z, sr3.hr, (rx.mono lq2).mono lq3, e, q⟩
theorem sd_part0 : PO X none (rdPart G K W []) := po_imp po_none fun σ H Q ⟨ρ, h, R, sr, o⟩ => by
  unfold evEs at o
  obtain ⟨z, e, q⟩ := o R H (Lq.refl _ _) sr.hr
  cases e
  exact q
theorem sd_part1 {l : LE} {e : Expr} (h : PE X e (rdE G K W l)) : PO X (some e) (rdPart G K W [l]) := po_imp (po_some h) fun σ H Q ⟨ρ, h, R, sr, o⟩ => by
  unfold evEs evEs at o
  refine ⟨ρ, h, R, sr, (Sat.bind.mp o).imp (fun t h' s R' H' v lq hr vr => ?_) fun _ _ z => z⟩
  obtain ⟨z, e, q⟩ := s R' H' lq hr
  cases t <;> (try (cases e; done))
  cases vr
  cases e
  exact ⟨_, rfl, q⟩
theorem sd_idx (s : SX G k X c W K) {a b : LE} {l r : Expr} {p : Pos} (hs : ixE r = true) (ha : PE X l (rdE G K W a)) (hb : PE X r (rdE G K W b)) : PE X (.Subscript l r p) (rdE G K W (.idx a b)) := by
  refine pe_imp (pe_ix (ix_ours s.g.s5 s.g.units) ha hb (ix_plain hs)) fun σ H Q ⟨ρ, h, R, sr, o⟩ => ?_
  unfold evE at o
  refine rdE.bind (later_E Q) sr o fun x h1 R1 H1 vx sr1 lq1 rx o1 => ?_
  refine rdE.bind (later_E Q) sr1 o1 fun y h2 R2 H2 vy sr2 lq2 ry o2 => ?_
  obtain ⟨z, e, q⟩ := o2.of
  exact ⟨h2, R2, x, y, z, sr2.hr, rx.mono lq2, ry, e, q⟩
theorem sd_nil : PA X [] (rdA G K W []) := pa_imp pa_nil fun σ H Q ⟨ρ, h, R, sr, o⟩ => by
  unfold evEs at o
  exact o R H [] (Lq.refl _ _) sr.hr .nil
theorem sd_cons {l : LE} {ls : List LE} {e : Expr} {es : List Expr} (hp : plainE e = true) (ha : PE X e (rdE G K W l)) (hr : PA X es (rdA G K W ls)) : PA X (e :: es) (rdA G K W (l :: ls)) := by
  refine pa_imp (pa_cons ha hr (star_cons hp)) fun σ H Q ⟨ρ, h, R, sr, o⟩ => ?_
  unfold evEs at o
  refine rdE.bind (later_Es Q) sr o fun x h1 R1 H1 vx sr1 lq1 rx o1 => ?_
  refine rdA.bind (later_Es Q) sr1 o1 fun xs h2 R2 H2 vs sr2 lq2 rs o2 => ?_
  exact o2 R2 H2 _ (Lq.refl _ _) sr2.hr (.cons (rx.mono lq2) rs)
theorem sd_and1 {l : LE} {e : Expr} {p : Pos} (h : EV G X K W l e) : PE X (.BoolOp .And [e] p) (rdAnd G K W [l]) ∧ PW X (.BoolOp .And [e] p) (rdTAnd G K W [l]) := by
  refine ⟨pe_imp (pe_one h.1) fun σ H Q ⟨ρ, h, R, sr, o⟩ => ⟨ρ, h, R, sr, by unfold evAnd at o; exact o⟩, ⟨fun wh pins s σ H Q I ⟨ρ, h0, R, sr, o⟩ => (pw_and1 h.2).run wh pins s σ H Q I ⟨ρ, h0, R, sr, by unfold evAnd at o; exact o⟩⟩⟩
theorem sd_or1 {l : LE} {e : Expr} {p : Pos} (h : EV G X K W l e) : PE X (.BoolOp .Or [e] p) (rdOr G K W [l]) ∧ PW X (.BoolOp .Or [e] p) (rdTOr G K W [l]) := by
  refine ⟨pe_imp (pe_one h.1) fun σ H Q ⟨ρ, h, R, sr, o⟩ => ⟨ρ, h, R, sr, by unfold evOr at o; exact o⟩, ⟨fun wh pins s σ H Q I ⟨ρ, h0, R, sr, o⟩ => (pw_or1 h.2).run wh pins s σ H Q I ⟨ρ, h0, R, sr, by unfold evOr at o; exact o⟩⟩⟩
theorem sd_and2 (s : SX G k X c W K) {l l2 : LE} {ls : List LE} {e e2 : Expr} {es : List Expr} {p : Pos} (h : EV G X K W l e) (hr : PE X (.BoolOp .And (e2 :: es) p) (rdAnd G K W (l2 :: ls)) ∧ PW X (.BoolOp .And (e2 :: es) p) (rdTAnd G K W (l2 :: ls))) :
    PE X (.BoolOp .And (e :: e2 :: es) p) (rdAnd G K W (l :: l2 :: ls)) ∧ PW X (.BoolOp .And (e :: e2 :: es) p) (rdTAnd G K W (l :: l2 :: ls)) := by
  refine ⟨pe_imp (pe_andT h.1 hr.1) fun σ H Q ⟨ρ, h, R, sr, o⟩ => ?_, ⟨fun wh pins s0 σ H Q I ⟨ρ, h0, R, sr, o⟩ => (pw_and h.2 hr.2).run wh pins s0 σ H Q I ?_⟩⟩
  · unfold evAnd at o
    refine rdE.bind (later_E Q) sr o fun x h1 R1 H1 vx sr1 lq1 rx o1 => ?_
    cases e1 : truth h1 x with
    | none => rw [e1] at o1; exact o1.elim
    | some b =>
      rw [e1] at o1
      refine ⟨b, by rw [s.g.s5.K]; exact truth_ok sr1.hr rx e1, ?_⟩
      cases b with
      | true => rw [if_pos rfl]; exact ⟨ρ, h1, R1, sr1, o1⟩
      | false => rw [if_neg Bool.false_ne_true]; exact PostE.here o1 sr1.hr rx
  · unfold evAnd at o
    rw [bind_assoc] at o
    refine rdT.bind (later_B Q) sr (g := fun q h => if q = true then (evAnd K (l2 :: ls) ρ h).bind fun x h => Rs.of (truth h x) h else .ok false h) (fun t h b e => ?_) (fun t h e => ?_) o fun q h1 R1 H1 sr1 lq o1 => ?_
    · rw [e]
      cases b with
      | true => rfl
      | false => show Rs.of (truth h t) h = _; rw [e]; rfl
    · rw [e]; rfl
    · cases q with
      | true => rw [if_pos rfl]; exact ⟨ρ, h1, R1, sr1, o1⟩
      | false => rw [if_neg Bool.false_ne_true]; exact o1 R1 H1 (Lq.refl _ _) sr1.hr
theorem sd_or2 (s : SX G k X c W K) {l l2 : LE} {ls : List LE} {e e2 : Expr} {es : List Expr} {p : Pos} (h : EV G X K W l e) (hr : PE X (.BoolOp .Or (e2 :: es) p) (rdOr G K W (l2 :: ls)) ∧ PW X (.BoolOp .Or (e2 :: es) p) (rdTOr G K W (l2 :: ls))) :
    PE X (.BoolOp .Or (e :: e2 :: es) p) (rdOr G K W (l :: l2 :: ls)) ∧ PW X (.BoolOp .Or (e :: e2 :: es) p) (rdTOr G K W (l :: l2 :: ls)) := by
  refine ⟨pe_imp (pe_orT h.1 hr.1) fun σ H Q ⟨ρ, h, R, sr, o⟩ => ?_, ⟨fun wh pins s0 σ H Q I ⟨ρ, h0, R, sr, o⟩ => (pw_or h.2 hr.2).run wh pins s0 σ H Q I ?_⟩⟩
  · unfold evOr at o
    refine rdE.bind (later_E Q) sr o fun x h1 R1 H1 vx sr1 lq1 rx o1 => ?_
    cases e1 : truth h1 x with
    | none => rw [e1] at o1; exact o1.elim
    | some b =>
      rw [e1] at o1
      refine ⟨b, by rw [s.g.s5.K]; exact truth_ok sr1.hr rx e1, ?_⟩
      cases b with
      | false => rw [if_neg Bool.false_ne_true]; exact ⟨ρ, h1, R1, sr1, o1⟩
      | true => rw [if_pos rfl]; exact PostE.here o1 sr1.hr rx
  · unfold evOr at o
    rw [bind_assoc] at o
    refine rdT.bind (later_B Q) sr (g := fun q h => if q = true then .ok true h else (evOr K (l2 :: ls) ρ h).bind fun x h => Rs.of (truth h x) h) (fun t h b e => ?_) (fun t h e => ?_) o fun q h1 R1 H1 sr1 lq o1 => ?_
    · rw [e]
      cases b with
      | false => rfl
      | true => show Rs.of (truth h t) h = _; rw [e]; rfl
    · rw [e]; rfl
    · cases q with
      | false => rw [if_neg Bool.false_ne_true]; exact ⟨ρ, h1, R1, sr1, o1⟩
      | true => rw [if_pos rfl]; exact o1 R1 H1 (Lq.refl _ _) sr1.hr
end
end Lite

/-! LITE, 10b: methods of built-in types, displays of dicts. -/
namespace Lite
open PySem L2 PySem.Spec
open PyProof.Rows hiding St

section
variable {G : GD} {k : Nat} {X : L2.Cx} {c : Sc} {W : WX} {K : Cn}
theorem Lq.put {R : List Addr} {H : Hp} {n : Nat} {a : Addr} {u0 u : HO} (hn : R[n]? = some a) (h0 : H a = some u0) (nft : ¬ FT u0) : Lq R H R (upd H a u) :=
  ⟨fun _ _ e => e, fun _ z n => absurd z n, fun b o e cc => by
    by_cases z : b = a
    · subst z
      rcases cc with cc | cc
      · exact absurd (List.mem_of_getElem? hn) cc
      · rw [h0] at e; cases e; exact absurd cc nft
    · rw [upd_ne z]; exact e⟩
theorem base_plain {o : Expr} (h : plainB o = true) (a : Str) (env : PySem.Env) : attributeBase o a env (eval o env) = eval o env := by
  cases o <;> first | rfl | skip
  rename_i f as ks pos
  cases f <;> first | rfl | skip
  cases as <;> first | rfl | skip
  cases ks <;> first | rfl | skip
  rename_i x p
  have e : (x != ("super" : Str)) = true := by
    simp only [plainB, Bool.not_eq_true'] at h
    simp [bne, h]
  unfold attributeBase
  simp only [e, Bool.true_or, if_true]
/-- a method, by values -/
def MtO (G : GD) (X : L2.Cx) (m id : String) : Prop := ∀ (pins : List (Addr × Obj)) (s : Shared) (σ : St) (H : Hp) (h : Heap) (R : List Addr) (x : T) (xs : List T) (v : V) (vs : List V) (u : Value) (us : List Value) (Q : VK) (E : T → Heap → Prop),
  Inv X pins σ H s → HRel G h R H → VR G R H x v → VRs G R H xs vs → RelV v u → Vals vs us → Sat (bmeth m x xs h) (PostE G R H Q) E →
  wpAny (model X.prog X.w) X.A (PySem.call (.builtin id) (u :: us)) (EP X pins σ Q) X.xe s
theorem recv_is {pins : List (Addr × Obj)} {s : Shared} {σ : St} {H : Hp} {h : Heap} {R : List Addr} {x : T} {v : V} {u : Value} {m : String} (S : Same5 G X) (I : Inv X pins σ H s) (hr : HRel G h R H) (vr : VR G R H x v) (ru : RelV v u) (e : recv m (view h x) = true) :
    s.TypeIs u (btyp m) ∧ ∀ a, u = .ref a → ∃ ob, s.heap.get? a = some ob ∧ ob.dict = none := by
  unfold recv at e
  split at e
  · rename_i xs q
    simp only [decide_eq_true_eq] at e
    rw [e]
    obtain ⟨a, vs, rfl, h1, h2⟩ := view_lst hr vr q
    cases ru
    obtain ⟨_, its, n, _, g⟩ := Inv.exl S I h1
    exact ⟨⟨_, g, rfl⟩, fun b hb => by cases hb; exact ⟨_, g, rfl⟩⟩
  · rename_i ks ys q
    simp only [decide_eq_true_eq] at e
    rw [e]
    obtain ⟨a, kvs, vs, rfl, d, _, _⟩ := view_dlk S I hr vr q
    cases ru
    exact ⟨d.typeIs, d.noDict⟩
  · rename_i t q
    simp only [decide_eq_true_eq] at e
    rw [e]
    rw [view_str vr q] at ru
    obtain ⟨t, rfl⟩ := ru
    exact ⟨typeIs_str s _ t, fun _ e => nomatch e⟩
  · cases e
theorem star_all {c : Sc} : ∀ {ls : List LE} {es : List Expr} {env : PySem.Env} {pos : Pos}, chkEs c ls es = true → (backTo pos (starEach es env)).all (fun x => !x.1) = true
  | [], [], _, _, _ => rfl
  | [], _ :: _, _, _, h => by simp [chkEs] at h
  | _ :: _, [], _, _, h => by simp [chkEs] at h
  | l :: ls, e :: es, env, pos, h => by
    simp only [chkEs, Bool.and_eq_true] at h
    rw [star_cons h.1.1]
    have := star_all (env := env) (pos := pos) h.2
    simpa [backTo] using this
theorem chkEs_len {c : Sc} : ∀ {ls : List LE} {es : List Expr}, chkEs c ls es = true → ls.length = es.length
  | [], [], _ => rfl
  | [], _ :: _, h => by simp [chkEs] at h
  | _ :: _, [], h => by simp [chkEs] at h
  | _ :: _, _ :: _, h => by
    simp only [chkEs, Bool.and_eq_true] at h
    simp [chkEs_len h.2]
theorem sd_bm (s : SX G k X c W K) {T0 id : String} {o : LE} {m : String} {es : List LE} {x : Expr} {y : Str} {xs : List Expr} {ap p : Pos} (pa : PlainAttrs T0) (slot : Slot T0 y id) (hty : typeOf (.builtin id) = pure (.type "method_descriptor")) (hT : btyp m = T0)
    (hm : MtO G X m id) (hb : plainB x = true) (hl : (ap.endLine == p.line) = true) (h20 : xs.length < 20) (hc : chkEs c es xs = true)
    (ho : PE X x (rdE G K W o)) (ha : PA X xs (rdA G K W es)) : PE X (.Call (.Attribute x y ap) xs [] p) (rdE G K W (.bm o m es)) := by
  subst hT
  refine ⟨fun pins s0 σ H Q I ⟨ρ, h, R, sr, oo⟩ => ?_⟩
  unfold evE at oo
  have key := rdE.bind (later_E Q) sr oo (Q := fun v H' => ∃ h' R' t, SR G ρ h' R' σ H' ∧ VR G R' H' t v ∧ recv m (view h' t) = true ∧ Sat ((evEs K es ρ h').bind fun xs h => bmeth m t xs h) (PostE G R' H' Q) (PostX G R' H' (At W σ))) fun t h' R' H' v sr' lq vr o' => by
    split at o'
    · rename_i hr
      exact ⟨h', R', t, sr', vr, hr, o'⟩
    · exact o'.elim
  have go : ∀ (u : Value) (s1 : Shared) (v : V) (H1 : Hp), Inv X pins σ H1 s1 → RelV v u → (∃ h' R' t, SR G ρ h' R' σ H1 ∧ VR G R' H1 t v ∧ recv m (view h' t) = true ∧ Sat ((evEs K es ρ h').bind fun xs h => bmeth m t xs h) (PostE G R' H1 Q) (PostX G R' H1 (At W σ))) →
      MethodOn X.prog X.w X.A y p u (backTo p (starEach xs X.env)) (EP X pins σ Q) X.xe s1 := by
    rintro u s1 v H1 I1 r1 ⟨h', R', t, sr', vr, hr, o'⟩
    obtain ⟨t1, t2⟩ := recv_is s.g.s5 I1 sr'.hr vr r1 hr
    refine ⟨_, id, pa, slot, hty, t1, t2, ?_⟩
    have key2 := rdA.bind (later_E Q) sr' o' (Q := fun vs H' => ∃ h2 R2 ts, HRel G h2 R2 H' ∧ VR G R2 H' t v ∧ VRs G R2 H' ts vs ∧ Sat (bmeth m t ts h2) (PostE G R2 H' Q) (PostX G R2 H' (At W σ))) fun ts h2 R2 H2 vs sr2 lq2 vr2 o2 => ⟨h2, R2, ts, sr2.hr, vr.mono lq2, vr2, o2⟩
    cases xs with
    | nil =>
      cases es with
      | cons _ _ => simp [chkEs] at hc
      | nil =>
        obtain ⟨ρ', h2, R2, sr2, o2⟩ := key2
        unfold evEs at o2
        obtain ⟨h3, R3, ts, hr3, vr3, vrs3, o3⟩ := o2 R2 H1 [] (Lq.refl _ _) sr2.hr .nil
        exact Calls.callWith_builtin rfl (PySem.evalArgs_none (hm pins s1 σ H1 h3 R3 t ts v [] u [] Q _ I1 hr3 vr3 vrs3 r1 .nil o3))
    | cons e es' =>
      cases es with
      | nil => simp [chkEs] at hc
      | cons l ls =>
        have hc' := hc
        simp only [chkEs, Bool.and_eq_true] at hc
        have hA := ha.run p pins s1 σ H1 _ I1 key2
        rw [star_cons hc.1.1] at hA ⊢
        refine Calls.callWith_builtin (by
          show (false || (backTo p (starEach es' X.env)).any (·.1)) = false
          rw [noStar hc.2]; rfl) (Calls.evalArgs_plain ?_)
        exact thn hA fun us s2 ⟨vs, H2, I2, r2, h3, R3, ts, hr3, vr3, vrs3, o3⟩ => hm pins s2 σ H2 h3 R3 t ts v vs u us Q _ I2 hr3 vr3 vrs3 r1 r2 o3
  refine wpAny_Call_method_late (base_plain hb _ _) ?_ hl rfl (thn (ho.run pins s0 σ H _ I key) fun u s1 ⟨v, H1, I1, r1, q⟩ => go u s1 v H1 I1 r1 q)
  rw [star_all hc]
  simp [backToKw, keywordEach]
  omega
theorem mo_append (S : Same5 G X) : MtO G X "append" "list.append" := by
  intro pins s σ H h R x xs v vs u us Q E I hr vr vrs ru rus o
  unfold bmeth at o
  simp (config := { decide := true }) only [if_false, if_true] at o
  split at o <;> (try (exact o.elim))
  rename_i n z
  split at o <;> (try (exact o.elim))
  rename_i zs ez
  split at o <;> (try (exact o.elim))
  rename_i hz
  cases vr
  rename_i a ea
  obtain ⟨ws, e3, r3⟩ := hr.obj n _ a ez ea
  obtain ⟨w, rfl, rw1⟩ := vrs.one
  have lq4 : Lq R H R (upd H a (.lst (ws ++ [w]))) := Lq.put ea e3 (by simp [FT])
  obtain ⟨hr4, _⟩ := hr.put (o := .lst (zs ++ [z])) ea e3 (by simp [FT]) rfl ⟨ws ++ [w], upd_same, (r3.append (.cons rw1 .nil)).mono lq4⟩
  exact mt_append pins s σ H _ _ u us Q I ru rus ⟨a, ws, w, rfl, rfl, e3, by rw [← r3.length, top_eq]; exact hz, o R _ _ lq4 hr4 .non⟩
theorem mo_clear (S : Same5 G X) : MtO G X "clear" "list.clear" := by
  intro pins s σ H h R x xs v vs u us Q E I hr vr vrs ru rus o
  unfold bmeth at o
  simp (config := { decide := true }) only [if_false, if_true] at o
  split at o <;> (try (exact o.elim))
  rename_i n
  split at o <;> (try (exact o.elim))
  rename_i zs ez
  cases vr
  rename_i a ea
  cases vrs
  obtain ⟨ws, e3, r3⟩ := hr.obj n _ a ez ea
  have lq4 : Lq R H R (upd H a (.lst [])) := Lq.put ea e3 (by simp [FT])
  obtain ⟨hr4, _⟩ := hr.put (o := .lst []) ea e3 (by simp [FT]) rfl ⟨[], upd_same, .nil⟩
  exact mt_clear pins s σ H _ _ u us Q I ru rus ⟨a, ws, rfl, rfl, e3, o R _ _ lq4 hr4 .non⟩
theorem VRs.last {R : List Addr} {H : Hp} : ∀ {ys : List T} {ws : List V} {y : T}, VRs G R H ys ws → ys.getLast? = some y → ∃ w, ws[ws.length - 1]? = some w ∧ VR G R H y w ∧ VRs G R H ys.dropLast ws.dropLast
  | _, _, _, .nil, e => by cases e
  | _, _, y, .cons (xs := xs) (vs := vs) h r, e => by
    cases r with
    | nil =>
      simp at e
      subst e
      exact ⟨_, rfl, h, .nil⟩
    | cons h2 r2 =>
      rw [List.getLast?_cons_cons] at e
      obtain ⟨w, e1, q1, q2⟩ := VRs.last (.cons h2 r2) e
      refine ⟨w, by simpa using e1, q1, ?_⟩
      exact VRs.cons h q2
theorem mo_pop (S : Same5 G X) : MtO G X "pop" "list.pop" := by
  intro pins s σ H h R x xs v vs u us Q E I hr vr vrs ru rus o
  unfold bmeth at o
  simp (config := { decide := true }) only [if_false, if_true] at o
  split at o <;> (try (exact o.elim))
  rename_i n
  split at o <;> (try (exact o.elim))
  rename_i zs ez
  split at o <;> (try (exact o.elim))
  rename_i y ey
  cases vr
  rename_i a ea
  cases vrs
  obtain ⟨ws, e3, r3⟩ := hr.obj n _ a ez ea
  obtain ⟨w, e4, q1, q2⟩ := r3.last ey
  have lq4 : Lq R H R (upd H a (.lst ws.dropLast)) := Lq.put ea e3 (by simp [FT])
  obtain ⟨hr4, _⟩ := hr.put (o := .lst zs.dropLast) ea e3 (by simp [FT]) rfl ⟨ws.dropLast, upd_same, q2.mono lq4⟩
  exact mt_pop pins s σ H _ _ u us Q I ru rus ⟨a, ws, w, rfl, rfl, e3, e4, o R _ _ lq4 hr4 (q1.mono lq4)⟩
theorem mo_extend (S : Same5 G X) : MtO G X "extend" "list.extend" := by
  intro pins s σ H h R x xs v vs u us Q E I hr vr vrs ru rus o
  unfold bmeth at o
  simp (config := { decide := true }) only [if_false, if_true] at o
  split at o <;> (try (exact o.elim))
  rename_i n z
  split at o <;> (try (exact o.elim))
  rename_i ys zs ey ez
  split at o <;> (try (exact o.elim))
  rename_i hz
  cases vr
  rename_i a ea
  obtain ⟨ws, e3, r3⟩ := hr.obj n _ a ey ea
  obtain ⟨w, rfl, rw1⟩ := vrs.one
  obtain ⟨b, qs, rfl, h1, r1⟩ := view_lst hr rw1 ez
  have hz2 := hz.2
  have e4 := r3.length
  have e5 := r1.length
  have lq4 : Lq R H R (upd H a (.lst (ws ++ qs))) := Lq.put ea e3 (by simp [FT])
  obtain ⟨hr4, _⟩ := hr.put (o := .lst (ys ++ zs)) ea e3 (by simp [FT]) rfl ⟨ws ++ qs, upd_same, (r3.append r1).mono lq4⟩
  cases ru
  obtain ⟨u1, rfl, ru1⟩ := vals1 rus
  cases ru1
  obtain ⟨z, its, n1, r, hl, e⟩ := I.lstM e3
  obtain ⟨_, its2, n2, r2, e2⟩ := Inv.exl S I h1
  have w1 := r.length
  have w2 := r2.length
  have hsz : its.toArray.size + its2.toArray.size ≤ sizeLine := by rw [List.size_toArray, List.size_toArray, top_eq]; omega
  have hlong : ¬ (!its.toArray.isEmpty && Builtin.List.listTooLong (its.toArray.size + its2.toArray.size)) = true := by
    rw [notLongL hsz, Bool.and_false]
    exact Bool.false_ne_true
  have zz : its2.length ≤ 16777216 := by have : ys.length + zs.length ≤ 16777216 := hz2; omega
  refine call_meets PySem.F.slot_list_extend ⟨_, e, rfl⟩ PySem.F.entry_list_extend (PySem.F.args_list_extend_2 _ _)
    (AutoSeq1.list_extend_list_list_0 a its.toArray n1 b its2.toArray n2 hlong (Nat.le_trans (Nat.le_add_right _ _) hsz) (Nat.le_succ_of_le hsz)) ⟨e, e2, ?_⟩
  refine ⟨.non, _, I.lset (its' := its ++ its2) e3 e (by simp) (r.append r2) ?_, rfl, o R _ _ lq4 hr4 .non⟩
  rw [List.length_append, top_eq]
  show _ ≤ 16777216
  have : ys.length + zs.length ≤ 16777216 := hz2
  omega
theorem mo_get (S : Same5 G X) (hu : X.A.units + 200 < cLine) : MtO G X "get" "dict.get" := by
  intro pins s σ H h R x xs v vs u us Q E I hr vr vrs ru rus o
  unfold bmeth at o
  simp (config := { decide := true }) only [if_false, if_true] at o
  rw [S.prog, S.w]
  split at o <;> (try (exact o.elim))
  · rename_i ks ys k ev
    split at o <;> (try (exact o.elim))
    rename_i ok
    obtain ⟨a, kvs, ws, rfl, d, rk, rv⟩ := view_dlk S I hr vr ev
    cases ru
    obtain ⟨w, rfl, rw1⟩ := vrs.one
    obtain ⟨u1, rfl, ru1⟩ := vals1 rus
    exact dl_get1 S (by omega) I d rv ok rw1 ru1 fun w' v' s' I' r1 r2 => ⟨v', H, I', r1, PostE.here o hr r2⟩
  · rename_i ks ys k dd ev
    split at o <;> (try (exact o.elim))
    rename_i ok
    obtain ⟨a, kvs, ws, rfl, d, rk, rv⟩ := view_dlk S I hr vr ev
    cases ru
    obtain ⟨w, w2, rfl, rw1, rw2⟩ := vrs.two
    obtain ⟨u1, u2, rfl, ru1, ru2⟩ := vals2 rus
    exact dl_get2 S (by omega) I d rv ok rw1 ru1 rw2 ru2 fun w' v' s' I' r1 r2 => ⟨v', H, I', r1, PostE.here o hr r2⟩
/-- a method of texts, by values -/
def MsO (G : GD) (X : L2.Cx) (m id : String) : Prop := ∀ (pins : List (Addr × Obj)) (s : Shared) (σ : St) (H : Hp) (h : Heap) (R : List Addr) (t : List Nat) (xs : List T) (vs : List V) (u : Value) (us : List Value) (Q : VK) (z : T),
  Inv X pins σ H s → HRel G h R H → VRs G R H xs vs → RelV (V.str (tx t)) u → Vals vs us → smeth m h t xs = some z → PostE G R H Q z h →
  wpAny (model X.prog X.w) X.A (PySem.call (.builtin id) (u :: us)) (EP X pins σ Q) X.xe s
theorem MsO.mt {m id : String} (hm : strMs.contains m = true) (k : MsO G X m id) : MtO G X m id := by
  intro pins s σ H h R x xs v vs u us Q E I hr vr vrs ru rus o
  unfold bmeth at o
  rw [if_pos hm] at o
  split at o <;> (try (exact o.elim))
  rename_i t ev
  obtain ⟨z, ez, q⟩ := o.of
  rw [view_str vr ev] at ru
  exact k pins s σ H h R t xs vs u us Q z I hr vrs ru rus ez q
theorem tx_f (x : Str) : tx x.cps.toList = x := rfl
theorem vr_f (R : List Addr) (H : Hp) (x : Str) : VR G R H (ftx x) (.str x) := VR.str (G := G) (R := R) (H := H) x.cps.toList
theorem vrs_f {R : List Addr} {H : Hp} : ∀ l : List Str, VRs G R H (l.map ftx) (l.map V.str)
  | [] => .nil
  | x :: l => .cons (vr_f R H x) (vrs_f l)
theorem vrs_strs {R : List Addr} {H : Hp} : ∀ {ys : List T} {vs : List V} {zs : List (List Nat)}, strsOf ys = some zs → VRs G R H ys vs → vs = zs.map fun z => V.str (tx z)
  | [], _, _, e, .nil => by cases e; rfl
  | y :: ys, _, _, e, .cons h r => by
    cases y <;> first | (cases e; done) | skip
    rename_i s
    obtain ⟨w, h1, rfl⟩ := Option.map_eq_some_iff.mp (show (strsOf ys).map (s :: ·) = _ from e)
    rw [vrs_strs h1 r]
    cases h
    rfl
theorem mo_lower : MsO G X "lower" "str.lower" := by
  intro pins s σ H h R t xs vs u us Q z I hr vrs ru rus e q
  unfold smeth at e
  rw [if_pos rfl] at e
  split at e <;> (try (cases e; done))
  split at e <;> (try (cases e; done))
  rename_i hz
  cases e
  cases vrs
  refine mt_lower pins s σ H _ _ u us Q I ru rus ⟨_, rfl, rfl, by rw [tx_len]; exact hz, ?_⟩
  have e : tx (lowered t) = Txt.lower (tx t) := by simp [tx, lowered]
  rw [← e]
  exact q R H _ (Lq.refl _ _) hr (.str _)
theorem mo_upper : MsO G X "upper" "str.upper" := by
  intro pins s σ H h R t xs vs u us Q z I hr vrs ru rus e q
  unfold smeth at e
  simp (config := { decide := true }) only [if_false, if_true] at e
  split at e <;> (try (cases e; done))
  split at e <;> (try (cases e; done))
  rename_i hz
  cases e
  cases vrs
  exact mt_upper pins s σ H _ _ u us Q I ru rus ⟨_, rfl, rfl, by rw [tx_len]; exact hz, q R H _ (Lq.refl _ _) hr (vr_f R H _)⟩
theorem mo_strip : MsO G X "strip" "str.strip" := by
  intro pins s σ H h R t xs vs u us Q z I hr vrs ru rus e q
  unfold smeth at e
  simp (config := { decide := true }) only [if_false, if_true] at e
  split at e <;> (try (cases e; done))
  split at e <;> (try (cases e; done))
  rename_i hz
  cases e
  cases vrs
  exact mt_strip pins s σ H _ _ u us Q I ru rus ⟨_, rfl, rfl, by rw [tx_len, top_eq]; exact hz, q R H _ (Lq.refl _ _) hr (vr_f R H _)⟩
theorem mo_rstrip : MsO G X "rstrip" "str.rstrip" := by
  intro pins s σ H h R t xs vs u us Q z I hr vrs ru rus e q
  unfold smeth at e
  simp (config := { decide := true }) only [if_false, if_true] at e
  split at e <;> (try (cases e; done))
  split at e <;> (try (cases e; done))
  rename_i hz
  cases e
  obtain ⟨w, rfl, r⟩ := vrs.one
  cases r
  exact mt_rstripChars pins s σ H _ _ u us Q I ru rus ⟨_, _, rfl, rfl, by rw [tx_len, top_eq]; exact hz, q R H _ (Lq.refl _ _) hr (vr_f R H _)⟩
theorem mo_isdigit : MsO G X "isdigit" "str.isdigit" := by
  intro pins s σ H h R t xs vs u us Q z I hr vrs ru rus e q
  unfold smeth at e
  simp (config := { decide := true }) only [if_false, if_true] at e
  split at e <;> (try (cases e; done))
  cases e
  cases vrs
  exact mt_isdigit pins s σ H _ _ u us Q I ru rus ⟨_, rfl, rfl, trivial, q R H _ (Lq.refl _ _) hr (.bl _)⟩
theorem mo_startswith : MsO G X "startswith" "str.startswith" := by
  intro pins s σ H h R t xs vs u us Q z I hr vrs ru rus e q
  unfold smeth at e
  simp (config := { decide := true }) only [if_false, if_true] at e
  split at e <;> (try (cases e; done))
  cases e
  obtain ⟨w, rfl, r⟩ := vrs.one
  cases r
  exact mt_startswith pins s σ H _ _ u us Q I ru rus ⟨_, _, rfl, rfl, q R H _ (Lq.refl _ _) hr (.bl _)⟩
theorem mo_endswith : MsO G X "endswith" "str.endswith" := by
  intro pins s σ H h R t xs vs u us Q z I hr vrs ru rus e q
  unfold smeth at e
  simp (config := { decide := true }) only [if_false, if_true] at e
  split at e <;> (try (cases e; done))
  cases e
  obtain ⟨w, rfl, r⟩ := vrs.one
  cases r
  exact mt_endswith pins s σ H _ _ u us Q I ru rus ⟨_, _, rfl, rfl, q R H _ (Lq.refl _ _) hr (.bl _)⟩
theorem mo_find : MsO G X "find" "str.find" := by
  intro pins s σ H h R t xs vs u us Q z I hr vrs ru rus e q
  unfold smeth at e
  simp (config := { decide := true }) only [if_false, if_true] at e
  split at e <;> (try (cases e; done))
  cases e
  obtain ⟨w, rfl, r⟩ := vrs.one
  cases r
  exact mt_find pins s σ H _ _ u us Q I ru rus ⟨_, _, rfl, rfl, q R H _ (Lq.refl _ _) hr (.int _)⟩
theorem mo_count : MsO G X "count" "str.count" := by
  intro pins s σ H h R t xs vs u us Q z I hr vrs ru rus e q
  unfold smeth at e
  simp (config := { decide := true }) only [if_false, if_true] at e
  split at e <;> (try (cases e; done))
  cases e
  obtain ⟨w, rfl, r⟩ := vrs.one
  cases r
  exact mt_count pins s σ H _ _ u us Q I ru rus ⟨_, _, rfl, rfl, q R H _ (Lq.refl _ _) hr (.int _)⟩
theorem mo_index : MsO G X "index" "str.index" := by
  intro pins s σ H h R t xs vs u us Q z I hr vrs ru rus e q
  unfold smeth at e
  simp (config := { decide := true }) only [if_false, if_true] at e
  split at e <;> (try (cases e; done))
  split at e <;> (try (cases e; done))
  rename_i ho
  cases e
  obtain ⟨w, rfl, r⟩ := vrs.one
  cases r
  exact mt_sindex pins s σ H _ _ u us Q I ru rus ⟨_, _, _, _, rfl, rfl, ho, q R H _ (Lq.refl _ _) hr (.int _)⟩
theorem mo_split : MsO G X "split" "str.split" := by
  intro pins s σ H h R t xs vs u us Q z I hr vrs ru rus e q
  unfold smeth at e
  simp (config := { decide := true }) only [if_false, if_true] at e
  split at e <;> (try (cases e; done))
  rename_i d
  split at e <;> (try (cases e; done))
  rename_i hz
  cases e
  obtain ⟨w, rfl, r⟩ := vrs.one
  cases r
  refine thn (mt_split pins s σ H _ _ u us (LockQ Q) I ru rus ⟨_, _, rfl, rfl, ?_, by rw [tx_len, top_eq]; exact hz.2, fun p hp => ⟨p, H, _, rfl, hp, rfl, fun o => ?_⟩⟩) fun _ _ z => EP.lock z
  · rw [tx_len]
    cases d with
    | nil => exact absurd rfl hz.1
    | cons _ _ => rfl
  · have kk : ∀ b o', H b = some o' → upd H p (.frz o (.lst ((Txt.split (tx t) (tx d)).map V.str))) b = some o' := fun b o' e => by rw [upd_ne (ne_of_none e hp)]; exact e
    exact q R _ _ (Lq.all kk) (hr.grow kk) (.lst (.inl ⟨o, upd_same⟩) (vrs_f _))
theorem mo_partition : MsO G X "partition" "str.partition" := by
  intro pins s σ H h R t xs vs u us Q z I hr vrs ru rus e q
  unfold smeth at e
  simp (config := { decide := true }) only [if_false, if_true] at e
  split at e <;> (try (cases e; done))
  rename_i d
  split at e <;> (try (cases e; done))
  rename_i hz
  cases e
  obtain ⟨w, rfl, r⟩ := vrs.one
  cases r
  refine mt_partition pins s σ H _ _ u us Q I ru rus ⟨_, _, rfl, rfl, ?_, by rw [tx_len, top_eq]; exact hz.2, fun p hp => ?_⟩
  · rw [tx_len]
    cases d with
    | nil => exact absurd rfl hz.1
    | cons _ _ => rfl
  · have kk : ∀ b o', H b = some o' → upd H p (.tup [.str (Txt.partition (tx t) (tx d)).1, .str (Txt.partition (tx t) (tx d)).2.1, .str (Txt.partition (tx t) (tx d)).2.2]) b = some o' := fun b o' e => by rw [upd_ne (ne_of_none e hp)]; exact e
    exact q R _ _ (Lq.all kk) (hr.grow kk) (.tup (.inl (.inl upd_same)) (.cons (vr_f _ _ _) (.cons (vr_f _ _ _) (.cons (vr_f _ _ _) .nil))))
theorem mo_join (S : Same5 G X) : MsO G X "join" "str.join" := by
  intro pins s σ H h R t xs vs u us Q z I hr vrs ru rus e q
  unfold smeth at e
  simp (config := { decide := true }) only [if_false, if_true] at e
  split at e <;> (try (cases e; done))
  obtain ⟨w, rfl, r⟩ := vrs.one
  split at e <;> (try (cases e; done))
  · rename_i ys ev
    obtain ⟨zs, h1, h2⟩ := Option.bind_eq_some_iff.mp e
    split at h2 <;> (try (cases h2; done))
    rename_i hz
    cases h2
    obtain ⟨a, ws, rfl, hq, rs⟩ := view_lst hr r ev
    have ew := vrs_strs h1 rs
    have e3 : ws = (zs.map tx).map V.str := by rw [ew, List.map_map]; rfl
    subst e3
    refine mt_join pins s σ H _ _ u us Q I ru rus ⟨_, a, zs.map tx, rfl, rfl, .inl (by rw [S.K]; exact hq.sq), ?_, q R H _ (Lq.refl _ _) hr (vr_f R H _)⟩
    rw [List.map_map, List.length_map, tx_len]
    have : zs.map ((fun x : Str => x.length) ∘ tx) = zs.map (·.length) := List.map_congr_left fun z _ => tx_len z
    rw [this]
    exact hz
  · rename_i ys ev
    obtain ⟨zs, h1, h2⟩ := Option.bind_eq_some_iff.mp e
    split at h2 <;> (try (cases h2; done))
    rename_i hz
    cases h2
    obtain ⟨a, ws, rfl, hq, rs⟩ := view_tup hr r ev
    have ew := vrs_strs h1 rs
    have e3 : ws = (zs.map tx).map V.str := by rw [ew, List.map_map]; rfl
    subst e3
    refine mt_join pins s σ H _ _ u us Q I ru rus ⟨_, a, zs.map tx, rfl, rfl, .inr (by rw [S.K]; exact hq), ?_, q R H _ (Lq.refl _ _) hr (vr_f R H _)⟩
    rw [List.map_map, List.length_map, tx_len]
    have : zs.map ((fun x : Str => x.length) ∘ tx) = zs.map (·.length) := List.map_congr_left fun z _ => tx_len z
    rw [this]
    exact hz
/-! ### displays of dicts -/
def pairV : List V → List (V × V)
  | v :: u :: r => (v, u) :: pairV r
  | _ => []
def pairsR (G : GD) (K : Cn) (W : WX) : List LE → List (TE × TE)
  | e :: f :: r => (rdE G K W e, rdE G K W f) :: pairsR G K W r
  | _ => []
def evenL : List LE → Bool
  | [] => true
  | [_] => false
  | _ :: _ :: r => evenL r
theorem tp_of : ∀ (es : List LE) {ρ : Rho} {h : Heap} {R : List Addr} {σ : St} {H : Hp} {Q : List (V × V) → Hp → Prop}, evenL es = true → SR G ρ h R σ H → Sat (evEs K es ρ h) (PostEs G R H fun vs H' => Q (pairV vs) H') (PostX G R H (At W σ)) → tPairs (pairsR G K W es) σ H Q
  | [], ρ, h, R, σ, H, Q, _, sr, o => by
    unfold evEs at o
    exact o R H [] (Lq.refl _ _) sr.hr .nil
  | [_], _, _, _, _, _, _, e, _, _ => by simp [evenL] at e
  | e :: f :: r, ρ, h, R, σ, H, Q, he, sr, o => by
    unfold evEs at o
    show rdE G K W e σ H _
    refine rdE.bind (later_Es _) sr o fun x h1 R1 H1 vx sr1 lq1 rx o1 => ?_
    unfold evEs at o1
    rw [bind_assoc] at o1
    refine rdE.bind (later_Es _) sr1 o1 fun y h2 R2 H2 vy sr2 lq2 ry o2 => ?_
    rw [bind_assoc] at o2
    refine tp_of r (by simpa [evenL] using he) sr2 ?_
    refine (Sat.bind.mp o2).imp (fun ts h3 s R3 H3 vs lq hr vrs => ?_) fun _ _ z => z
    exact s R3 H3 _ lq hr (.cons ((rx.mono lq2).mono lq) (.cons (ry.mono lq) vrs))
theorem pairUp_len : ∀ {ts : List T} {ps : List (T × T)}, pairUp ts = some ps → ts.length = 2 * ps.length
  | [], _, e => by cases e; rfl
  | [_], _, e => by cases e
  | x :: y :: r, _, e => by
    obtain ⟨qs, h1, rfl⟩ := Option.map_eq_some_iff.mp (show (pairUp r).map ((x, y) :: ·) = some _ from e)
    simp [pairUp_len h1]
    omega
theorem leaf_key {x : T} {v : V} {R : List Addr} {H : Hp} (hl : leafT x = true) (r : VR G R H x v) : ∃ κ, key1 x = some κ ∧ v = kV κ := by
  cases x <;> first | (cases hl; done) | skip
  · cases r; exact ⟨_, rfl, rfl⟩
  · cases r; exact ⟨_, rfl, rfl⟩
theorem merge_ok {R : List Addr} {H : Hp} : ∀ {ts : List T} {vs : List V} {ps : List (T × T)} {ks0 ys0 : List T} {κs0 : List Key} {vs0 : List V}, pairUp ts = some ps → (ps.map (·.1)).all leafT = true → VRs G R H ts vs → keys1 ks0 = some κs0 → κs0.length = vs0.length → κs0.Nodup → VRs G R H ys0 vs0 →
    ∃ kvs : List (Key × V), pairV vs = kvs.map (fun kv => (kV kv.1, kv.2)) ∧ kvs.length = ps.length ∧ ∃ κs' vs', keys1 (kputs ps (ks0, ys0)).1 = some κs' ∧ κs'.length = vs'.length ∧ mergeK (κs0.zip vs0) kvs = κs'.zip vs' ∧ VRs G R H (kputs ps (ks0, ys0)).2 vs'
  | [], _, _, _, _, κs0, vs0, e, _, r, e0, l0, n0, r0 => by
    cases e
    cases r
    exact ⟨[], rfl, rfl, κs0, vs0, e0, l0, rfl, r0⟩
  | [_], _, _, _, _, _, _, e, _, _, _, _, _, _ => by cases e
  | x :: y :: r, vs, _, ks0, ys0, κs0, vs0, e, hl, rv, e0, l0, n0, r0 => by
    obtain ⟨qs, h1, rfl⟩ := Option.map_eq_some_iff.mp (show (pairUp r).map ((x, y) :: ·) = some _ from e)
    simp only [List.map_cons, List.all_cons, Bool.and_eq_true] at hl
    cases rv with
    | cons hx rv =>
      cases rv with
      | cons hy rv =>
        rename_i vx vy vs2
        obtain ⟨κ, hk, rfl⟩ := leaf_key hl.1 hx
        have hly : ks0.length = ys0.length := by rw [keys1_len e0, l0, r0.length]
        obtain ⟨κs1, vs1, g1, g2, g3, g4, g5, _⟩ := put_leaf (y := y) (v := vy) hk e0 l0 hly n0 r0 hy
        obtain ⟨kvs, f1, f2, κs', vs', f3, f4, f5, f6⟩ := merge_ok h1 hl.2 rv g1 g2 g5 g4
        refine ⟨(κ, vy) :: kvs, by simp [pairV, f1], by simp [f2], κs', vs', f3, f4, ?_, f6⟩
        rw [← f5, ← g3]
        rfl
/-- a thing that stands aside becomes ours -/
theorem HRel.adopt {R0 R : List Addr} {H0 H : Hp} {h : Heap} {p : Addr} {u0 u : HO} {o : O} (lq : Lq R0 (upd H0 p u0) R H) (hr : HRel G h R H) (hp0 : H0 p = none) (hp : H p = some u0) (hpR : p ∉ R) (nft : ¬ FT u0) (ho : OR G (R ++ [p]) (upd H p u) p o) :
    HRel G (h ++ [o]) (R ++ [p]) (upd H p u) ∧ Lq R0 H0 (R ++ [p]) (upd H p u) := by
  obtain ⟨hr2, lf⟩ := hr.aside (u := u) hpR hp nft
  have pre : ∀ (n : Nat) (a : Addr), R[n]? = some a → (R ++ [p])[n]? = some a := fun n a q => by rw [List.getElem?_append_left (List.getElem?_eq_some_iff.mp q).1]; exact q
  have lf2 : Lf R (upd H p u) (R ++ [p]) (upd H p u) := ⟨pre, fun _ _ z _ => z⟩
  refine ⟨⟨by simp [hr.len], ?_, fun a ha => ?_, fun n o' a e1 e2 => ?_⟩, ⟨fun n a q => pre n a (lq.pre n a q), fun a ha n => ?_, fun b o' q cc => ?_⟩⟩
  · rw [List.nodup_append]
    exact ⟨hr.nd, by simp, fun a ha b hb => by simp at hb; subst hb; intro z; exact hpR (z ▸ ha)⟩
  · rcases List.mem_append.mp ha with z | z
    · exact hr2.live a z
    · rw [List.mem_singleton.mp z, upd_same]; simp
  · by_cases hn : n < h.length
    · rw [List.getElem?_append_left hn] at e1
      rw [List.getElem?_append_left (by rw [hr.len]; exact hn)] at e2
      exact (hr2.obj n o' a e1 e2).monoF lf2 fun o q => q
    · have hn' : n = h.length := by
        have := (List.getElem?_eq_some_iff.mp e1).1
        simp at this
        omega
      subst hn'
      simp at e1
      rw [← hr.len] at e2
      simp at e2
      subst e1 e2
      exact ho
  · rcases List.mem_append.mp ha with z | z
    · have q := lq.new a z n
      by_cases e : a = p
      · rw [e]; exact hp0
      · rw [upd_ne e] at q; exact q
    · rw [List.mem_singleton.mp z]; exact hp0
  · have e : b ≠ p := by rintro rfl; rw [hp0] at q; cases q
    rw [upd_ne e]
    exact lq.keep b o' (by rw [upd_ne e]; exact q) cc
theorem Lq.hide {R0 R : List Addr} {H0 H : Hp} {p : Addr} {u0 u : HO} (lq : Lq R0 (upd H0 p u0) R H) (hp0 : H0 p = none) (hpR : p ∉ R) (hp : H p = some u0) : Lq R0 H0 R (upd H p u) :=
  ⟨lq.pre, fun a ha n => by
    have q := lq.new a ha n
    by_cases e : a = p
    · rw [e]; exact hp0
    · rw [upd_ne e] at q; exact q, fun b o' q cc => by
    have e : b ≠ p := by rintro rfl; rw [hp0] at q; cases q
    rw [upd_ne e]
    exact lq.keep b o' (by rw [upd_ne e]; exact q) cc⟩
/-- a dict, or what it is when locked -/
def LockD (G : GD) (Q : VK) : VK := fun v H' => ∃ p ks kvs vs u, v = .ref p ∧ H' p = some u ∧ DU G.prog G.w p ks kvs vs u ∧ ∀ o, Q (.ref p) (upd H' p (.frz o u))
theorem EP.lockD {pins : List (Addr × Obj)} {σ : St} {Q : VK} {u : Value} {s' : Shared} (S : Same5 G X) (h : EP X pins σ (LockD G Q) u s') : EP X pins σ Q u s' := by
  obtain ⟨v, H', I, r, p, ks, kvs, vs, u0, rfl, hp, d, q⟩ := h
  obtain ⟨o, I2⟩ := Inv.lockD I d S hp
  exact ⟨.ref p, _, I2, r, q o⟩
theorem pe_lockD {e : Expr} {t : TE} (S : Same5 G X) (h : PE X e t) : PE X e (fun σ H Q => t σ H (LockD G Q)) := ⟨fun pins s σ H Q I q => thn (h.run pins s σ H _ I q) fun _ _ z => EP.lockD S z⟩
theorem sd_dct (s : SX G k X c W K) {m : Bool} {es : List LE} {ks : List (Option Expr)} {vs : List Expr} {p : Pos} (hev : evenL es = true) (h15 : ks.length ≤ 15) (hall : ks.all (·.isSome) = true) (hlen : ks.length = vs.length) (hl2 : es.length = 2 * ks.length) (hp : PPs X p ks vs (pairsR G K W es)) :
    PE X (.Dict ks vs p) (rdE G K W (.dct m es)) := by
  have core : ∀ (Q2 : VK) (σ : St) (H : Hp), (∃ ρ h R, SR G ρ h R σ H ∧ ∀ a, H a = none → Sat (evEs K es ρ h) (PostEs G R (upd H a (.dK [])) fun us H' => H' a = some (.dK []) ∧ ∃ kvs : List (Key × V), pairV us = kvs.map (fun kv => (kV kv.1, kv.2)) ∧ kvs.length ≤ 15 ∧ Q2 (.ref a) (upd H' a (.dK (mergeK [] kvs)))) (PostX G R (upd H a (.dK [])) (At W σ))) →
      (if ks = [] then (∀ a, H a = none → Q2 (.ref a) (upd H a (.dK []))) else tDisp (pairsR G K W es) σ H Q2) := by
    rintro Q2 σ H ⟨ρ, h, R, sr, o⟩
    split
    · rename_i e
      subst e
      have : es = [] := by cases es <;> first | rfl | (simp at hl2)
      subst this
      intro a ha
      have o2 := o a ha
      unfold evEs at o2
      have k : ∀ b o, H b = some o → upd H a (.dK []) b = some o := fun b o e => by rw [upd_ne (ne_of_none e ha)]; exact e
      obtain ⟨h1, kvs, e1, e2, q⟩ := o2 R _ [] (Lq.refl _ _) (sr.hr.grow k) .nil
      have : kvs = [] := by simpa [pairV] using e1.symm
      subst this
      have e : upd (upd H a (.dK [])) a (.dK (mergeK [] [])) = upd H a (.dK []) := upd_upd
      rw [e] at q
      exact q
    · intro a ha
      have k : ∀ b o, H b = some o → upd H a (.dK []) b = some o := fun b o e => by rw [upd_ne (ne_of_none e ha)]; exact e
      exact tp_of es hev ⟨sr.hr.grow k, sr.er.mono (Lq.all k)⟩ (o a ha)
  have mk : ∀ (t : TE), (∀ σ H Q, t σ H Q → if ks = [] then (∀ a, H a = none → Q (.ref a) (upd H a (.dK []))) else tDisp (pairsR G K W es) σ H Q) → PE X (.Dict ks vs p) t := by
    intro t ht
    by_cases e : ks = []
    · subst e
      have : vs = [] := by cases vs <;> first | rfl | simp at hlen
      subst this
      exact pe_imp pe_dnewK fun σ H Q q => by have := ht σ H Q q; rw [if_pos rfl] at this; exact this
    · exact pe_imp (pe_disp hp hall hlen e h15) fun σ H Q q => by have := ht σ H Q q; rw [if_neg e] at this; exact this
  -- what is known when the pairs are there
  have fin : ∀ {ρ : Rho} {h : Heap} {R : List Addr} {σ : St} {H : Hp} {Q Q2 : VK}, SR G ρ h R σ H → Sat (evE K (.dct m es) ρ h) (PostE G R H Q) (PostX G R H (At W σ)) →
      (∀ a H' R' h' u dks dys dkvs dvs, H a = none → a ∉ R' → H' a = some (.dK []) → Lq R (upd H a (.dK [])) R' H' → HRel G h' R' H' → DU G.prog G.w a dks dkvs dvs u → (∀ R2 H2, VRs G R2 H2 dks dkvs) → VRs G R' H' dys dvs →
        Sat (if m then newO h' (.dct dks dys) else .ok (.dct dks dys) h') (PostE G R H Q) (PostX G R H (At W σ)) → Q2 (.ref a) (upd H' a u)) →
      ∃ ρ h R, SR G ρ h R σ H ∧ ∀ a, H a = none → Sat (evEs K es ρ h) (PostEs G R (upd H a (.dK [])) fun us H' => H' a = some (.dK []) ∧ ∃ kvs : List (Key × V), pairV us = kvs.map (fun kv => (kV kv.1, kv.2)) ∧ kvs.length ≤ 15 ∧ Q2 (.ref a) (upd H' a (.dK (mergeK [] kvs)))) (PostX G R (upd H a (.dK [])) (At W σ)) := by
    intro ρ h R σ H Q Q2 sr o hq
    unfold evE at o
    refine ⟨ρ, h, R, sr, fun a ha => ?_⟩
    have haR : a ∉ R := fun z => sr.hr.live a z ha
    have k : ∀ b o, H b = some o → upd H a (.dK []) b = some o := fun b o e => by rw [upd_ne (ne_of_none e ha)]; exact e
    refine (evEs_len (Sat.bind.mp o)).imp (fun ts h' s R' H' us lq hr vrs => ?_) fun e h' x R' H' c d lq hr xr => x R' H' c d ((Lq.all k).trans lq) hr xr
    obtain ⟨hlts, s⟩ := s
    have haH : H' a = some (.dK []) := lq.keep a _ upd_same (.inl haR)
    have haR' : a ∉ R' := fun z => by
      have := lq.new a z haR
      rw [upd_same] at this
      cases this
    refine ⟨haH, ?_⟩
    cases e : dictOf ts with
    | none => rw [e] at s; exact s.elim
    | some d =>
      rw [e] at s
      unfold dictOf at e
      split at e <;> (try (cases e; done))
      rename_i ps eps
      split at e <;> (try (cases e; done))
      rename_i hlf
      cases e
      obtain ⟨kvs, f1, f2, κs', vs', f3, f4, f5, f6⟩ := merge_ok (ks0 := []) (ys0 := []) (κs0 := []) (vs0 := []) eps hlf vrs rfl rfl List.nodup_nil .nil
      refine ⟨kvs, f1, ?_, ?_⟩
      · have := pairUp_len eps
        omega
      · have f5' : mergeK [] kvs = κs'.zip vs' := f5
        rw [f5']
        refine hq a H' R' h' _ _ _ (κs'.map kV) vs' ha haR' haH lq hr (.inl ⟨κs', f3, f4, rfl, rfl⟩) (fun R2 H2 => keys_vrs f3) f6 s
  cases m with
  | true =>
    refine mk _ fun σ H Q ⟨ρ, h, R, sr, o⟩ => core Q σ H (fin sr o fun a H' R' h' u dks dys dkvs dvs ha haR' haH lq hr du rk rv s => ?_)
    have k2 : Lf R' H' (R' ++ [a]) (upd H' a u) := ⟨fun n b e => by rw [List.getElem?_append_left (List.getElem?_eq_some_iff.mp e).1]; exact e, fun b o z f => by
      by_cases w : b = a
      · subst w; rw [haH] at z; cases z; exact absurd f (by simp [FT])
      · rw [upd_ne w]; exact z⟩
    obtain ⟨hr2, lq2⟩ := HRel.adopt (u := u) (o := .dct dks dys) lq hr ha haH haR' (by simp [FT]) ⟨u, dkvs, dvs, upd_same, du, rk _ _, rv.monoF k2⟩
    exact s _ _ _ lq2 hr2 (.loc (by rw [← hr.len]; simp))
  | false =>
    refine pe_imp (pe_lockD s.g.s5 (mk _ fun σ H Q q => core Q σ H q)) fun σ H Q ⟨ρ, h, R, sr, o⟩ => fin sr o fun a H' R' h' u dks dys dkvs dvs ha haR' haH lq hr du rk rv s => ?_
    refine ⟨a, dks, dkvs, dvs, u, rfl, upd_same, du, fun ob => ?_⟩
    rw [upd_upd]
    obtain ⟨hr2, lf2⟩ := hr.aside (u := .frz ob u) haR' haH (by simp [FT])
    exact s R' _ _ (lq.hide ha haR' haH) hr2 (.dct (.inl ⟨ob, u, upd_same, du⟩) (rk _ _) (rv.monoF lf2))
/-- the methods by name -/
theorem bm_of_name (g : GX G k X c W) {m : String} (hm : bmNames.contains m = true) : ∃ T0 id, PlainAttrs T0 ∧ Slot T0 (Str.ofString m) id ∧ typeOf (.builtin id) = pure (.type "method_descriptor") ∧ btyp m = T0 ∧ MtO G X m id := by
  have h : m ∈ bmNames := by simpa using hm
  simp only [bmNames, strMs, List.cons_append, List.nil_append, List.mem_cons, List.not_mem_nil, or_false] at h
  rcases h with rfl | rfl | rfl | rfl | rfl | rfl | rfl | rfl | rfl | rfl | rfl | rfl | rfl | rfl | rfl | rfl | rfl | rfl
  · exact ⟨"list", _, PySem.F.plainAttrs_list, PySem.F.slot_list_append, PySem.F.type_list_append, by decide, mo_append g.s5⟩
  · exact ⟨"list", _, PySem.F.plainAttrs_list, PySem.F.slot_list_extend, PySem.F.type_list_extend, by decide, mo_extend g.s5⟩
  · exact ⟨"list", _, PySem.F.plainAttrs_list, PySem.F.slot_list_clear, PySem.F.type_list_clear, by decide, mo_clear g.s5⟩
  · exact ⟨"list", _, PySem.F.plainAttrs_list, PySem.F.slot_list_pop, PySem.F.type_list_pop, by decide, mo_pop g.s5⟩
  · exact ⟨"dict", _, PySem.F.plainAttrs_dict, PySem.F.slot_dict_get, PySem.F.type_dict_get, by decide, mo_get g.s5 g.units⟩
  · exact ⟨"str", _, PySem.F.plainAttrs_str, PySem.F.slot_str_lower, PySem.F.type_str_lower, by decide, mo_lower.mt (by decide)⟩
  · exact ⟨"str", _, PySem.F.plainAttrs_str, PySem.F.slot_str_upper, PySem.F.type_str_upper, by decide, mo_upper.mt (by decide)⟩
  · exact ⟨"str", _, PySem.F.plainAttrs_str, PySem.F.slot_str_strip, PySem.F.type_str_strip, by decide, mo_strip.mt (by decide)⟩
  · exact ⟨"str", _, PySem.F.plainAttrs_str, PySem.F.slot_str_isdigit, PySem.F.type_str_isdigit, by decide, mo_isdigit.mt (by decide)⟩
  · exact ⟨"str", _, PySem.F.plainAttrs_str, PySem.F.slot_str_startswith, PySem.F.type_str_startswith, by decide, mo_startswith.mt (by decide)⟩
  · exact ⟨"str", _, PySem.F.plainAttrs_str, PySem.F.slot_str_endswith, PySem.F.type_str_endswith, by decide, mo_endswith.mt (by decide)⟩
  · exact ⟨"str", _, PySem.F.plainAttrs_str, PySem.F.slot_str_find, PySem.F.type_str_find, by decide, mo_find.mt (by decide)⟩
  · exact ⟨"str", _, PySem.F.plainAttrs_str, PySem.F.slot_str_count, PySem.F.type_str_count, by decide, mo_count.mt (by decide)⟩
  · exact ⟨"str", _, PySem.F.plainAttrs_str, PySem.F.slot_str_index, PySem.F.type_str_index, by decide, mo_index.mt (by decide)⟩
  · exact ⟨"str", _, PySem.F.plainAttrs_str, PySem.F.slot_str_split, PySem.F.type_str_split, by decide, mo_split.mt (by decide)⟩
  · exact ⟨"str", _, PySem.F.plainAttrs_str, PySem.F.slot_str_join, PySem.F.type_str_join, by decide, (mo_join g.s5).mt (by decide)⟩
  · exact ⟨"str", _, PySem.F.plainAttrs_str, PySem.F.slot_str_partition, PySem.F.type_str_partition, by decide, mo_partition.mt (by decide)⟩
  · exact ⟨"str", _, PySem.F.plainAttrs_str, PySem.F.slot_str_rstrip, PySem.F.type_str_rstrip, by decide, mo_rstrip.mt (by decide)⟩
end
end Lite

/-! LITE, 10c: instances: attributes, methods, making. -/
namespace Lite
open PySem L2 PySem.Spec
open PyProof.Rows hiding St

theorem ofString_inj {a b : String} (h : Str.ofString a = Str.ofString b) : a = b := by
  have e : ∀ l m : List Char, l.map (fun c => c.val.toNat) = m.map (fun c => c.val.toNat) → l = m := by
    intro l
    induction l with
    | nil => intro m h; cases m <;> first | rfl | simp at h
    | cons x l ih =>
      intro m h
      cases m with
      | nil => simp at h
      | cons y m =>
        simp only [List.map_cons, List.cons.injEq] at h
        have : x = y := Char.ext (UInt32.toNat_inj.mp h.1)
        rw [this, ih m h.2]
  rw [Str.ofString_eq_toList, Str.ofString_eq_toList] at h
  have := congrArg (fun z : Str => z.cps.toList) h
  simp only [List.toList_toArray] at this
  exact String.toList_inj.mp (e _ _ this)
section
variable {G : GD} {R R' : List Addr} {H H' : Hp} {h : Heap}
theorem FR.look : ∀ {fs : List (String × T)} {gs : List (Str × V)} (f : String), FR G R H fs gs → match fs.lookup f with
    | some t => ∃ v, gs.lookup (Str.ofString f) = some v ∧ VR G R H t v
    | none => gs.lookup (Str.ofString f) = none
  | _, _, f, .nil => rfl
  | _, _, f, .cons (n := n) (x := x) (v := v) (fs := fs) (gs := gs) r0 r => by
    have ih := FR.look f r
    simp only [List.lookup_cons]
    by_cases c : f = n
    · subst c
      simp only [beq_self_eq_true]
      exact ⟨v, rfl, r0⟩
    · have c1 : (f == n) = false := by simpa using c
      have c2 : (Str.ofString f == Str.ofString n) = false := by
        cases q : Str.ofString f == Str.ofString n with
        | false => rfl
        | true => exact absurd (ofString_inj (eq_of_beq q)) c
      simp only [c1, c2]
      exact ih
theorem FR.len : ∀ {fs : List (String × T)} {gs : List (Str × V)}, FR G R H fs gs → fs.length = gs.length
  | _, _, .nil => rfl
  | _, _, .cons _ r => by simp [FR.len r]
theorem FR.put {f : String} {t : T} {v : V} (rv : VR G R H t v) : ∀ {fs : List (String × T)} {gs : List (Str × V)}, FR G R H fs gs → FR G R H (Lite.putF f t fs) (L2.putF (Str.ofString f) v gs)
  | _, _, .nil => .cons rv .nil
  | _, _, .cons (n := n) (x := x) (v := w) (fs := fs) (gs := gs) r0 r => by
    have ih := FR.put (f := f) rv r
    by_cases c : n = f
    · subst c
      have e1 : Lite.putF n t ((n, x) :: fs) = (n, t) :: fs := if_pos rfl
      have e2 : L2.putF (Str.ofString n) v ((Str.ofString n, w) :: gs) = (Str.ofString n, v) :: gs := by simp [L2.putF]
      rw [e1, e2]
      exact .cons rv r
    · have e1 : Lite.putF f t ((n, x) :: fs) = (n, x) :: Lite.putF f t fs := if_neg c
      have c2 : ¬Str.ofString n = Str.ofString f := fun e => c (ofString_inj e)
      have e2 : L2.putF (Str.ofString f) v ((Str.ofString n, w) :: gs) = (Str.ofString n, w) :: L2.putF (Str.ofString f) v gs := by simp [L2.putF, c2, Ne.symm c2]
      rw [e1, e2]
      exact .cons r0 ih
end
section
variable {G : GD} {k : Nat} {X : L2.Cx} {c : Sc} {W : WX} {K : Cn}
/-- an attribute, by values: of an instance -/
def AtI (G : GD) (R : List Addr) (H : Hp) (f : String) (v : V) (z : T) : Prop := ∃ a C dx gs w, v = .ref a ∧ H a = some (.ins C dx gs) ∧ Cls G.K C ∧ NoAttr G.K C (Str.ofString f) ∧ gs.lookup (Str.ofString f) = some w ∧ VR G R H z w
/-- of an exception -/
def AtX (G : GD) (R : List Addr) (H : Hp) (f : String) (v : V) (z : T) : Prop := ∃ a C dd oe od fs w, v = .ref a ∧ L2.XfC G.K C ∧ PySem.W.findIn G.K (.ref C) (Str.ofString f) = some none ∧ H a = some (.frz oe (XV (.ref C) (some dd) a)) ∧ H dd = some (.frz od (.xd fs)) ∧ fs.lookup (Str.ofString f) = some w ∧ VR G R H z w
theorem attr_at {R : List Addr} {H : Hp} {h : Heap} {t z : T} {v : V} {f : String} (ok : G.Ok) (hr : HRel G h R H) (vr : VR G R H t v) (e : attrOf G.P h t f = some z) : (clsOf h t ≠ none ∧ AtI G R H f v z) ∨ (clsOf h t = none ∧ AtX G R H f v z) := by
  unfold attrOf at e
  split at e
  · rename_i n
    split at e <;> (try (cases e; done))
    rename_i c fs ec
    split at e <;> (try (cases e; done))
    rename_i hc
    cases vr
    rename_i a ea
    obtain ⟨C, dx, gs, h1, h2, h3⟩ := hr.obj n _ a ec ea
    have hl := FR.look f h3
    rw [e] at hl
    obtain ⟨w, h4, h5⟩ := hl
    obtain ⟨q1, q2⟩ := ok.fld c C f h1 hc
    exact .inl ⟨by simp [clsOf, ec], a, C, dx, gs, w, rfl, h2, q1, q2, h4, h5⟩
  · split at e <;> (try (cases e; done))
    rename_i hx
    cases e
    cases vr
    rename_i a dd C f0 v oe od ha hd hc hf r
    rw [hf] at hx
    cases hx
    obtain ⟨q1, q2⟩ := ok.xf _ _ _ hc hf
    exact .inr ⟨rfl, a, C, dd, oe, od, _, v, rfl, q1, q2, ha, hd, by simp, r⟩
  · cases e
/-- an attribute read, of an instance or an exception -/
theorem pe_attrU {e : Expr} {te : TE} {n : Str} {pos : Pos} (he : PE X e te) (hb : attributeBase e n X.env (eval e X.env) = eval e X.env) : PE X (.Attribute e n pos) (fun σ H Q => te σ H fun x H1 =>
    (∃ a C dx fs v, x = .ref a ∧ H1 a = some (.ins C dx fs) ∧ Cls X.K C ∧ NoAttr X.K C n ∧ fs.lookup n = some v ∧ Q v H1) ∨
    (∃ a C dd oe od fs v, x = .ref a ∧ L2.XfC X.K C ∧ PySem.W.findIn X.K (.ref C) n = some none ∧ H1 a = some (.frz oe (XV (.ref C) (some dd) a)) ∧ H1 dd = some (.frz od (.xd fs)) ∧ fs.lookup n = some v ∧ Q v H1)) := by
  refine ⟨fun pins s σ H Q I h => ?_⟩
  refine attr_of hb (thn (he.run pins s σ H _ I h) fun u s1 hh => ?_)
  obtain ⟨x, H1, I1, rx, hh⟩ := hh
  rcases hh with ⟨a, C, dx, fs, v, ex, ea, c, n, l, q⟩ | ⟨a, C, dd, oe, od, fs, v, ex, T, hno, ea, ed, l, q⟩
  · subst ex
    cases rx
    exact getattr_ok I1 ea c n l fun u s' I' r => ⟨v, H1, I', r, q⟩
  · subst ex
    obtain rfl : u = Value.ref a := rx
    obtain ⟨_, ⟨oe', vs, ha, hz, hd⟩, _⟩ := (I1.hok a _ ea : ObjOk X.prog X.w H1 s1.heap a (.frz oe (XV (.ref C) (some dd) a)))
    obtain ⟨_, mA, hns, hr⟩ := (I1.hok dd _ ed : ObjOk X.prog X.w H1 s1.heap dd (.frz od (.xd fs)))
    obtain ⟨od2, ho, hl⟩ := lookIn_ns hns
    obtain ⟨u, hu, ru⟩ := RelO.some_of (v := v) (o := mA n) (by rw [← l]; exact hr n)
    have J : PySem.W.InstAt s1.heap a oe' C (some od2) := ⟨ha, hz.1, by unfold PySem.W.notCls; rw [hd] <;> rfl, by rw [hz.2]; exact ho⟩
    exact HandSPX.exc_get I1.kIn J T.ga T.gg T.exC (PySem.W.findObj_own T.hdC hno rfl (by rw [hl, hu])) (handed_of ru) ⟨v, H1, I1.tok _, ru, q⟩
theorem sound_attr (s : SX G k X c W K) {o : LE} {f : String} {x : Expr} {y : Str} {pos : Pos} (hy : Str.ofString f = y) (hb : plainB x = true) (ho : PE X x (rdE G K W o)) : PE X (.Attribute x y pos) (rdE G K W (.attr o f)) := by
  subst hy
  refine pe_imp (pe_attrU ho (base_plain hb _ _)) fun σ H Q ⟨ρ, h, R, sr, oo⟩ => ?_
  unfold evE at oo
  refine rdE.bind (later_E Q) sr oo fun t h1 R1 H1 v sr1 lq vr o1 => ?_
  obtain ⟨z, ez, q⟩ := o1.of
  rw [s.P] at ez
  rcases attr_at s.ok sr1.hr vr ez with ⟨_, a, C, dx, gs, w, e1, e2, e3, e4, e5, e6⟩ | ⟨_, a, C, dd, oe, od, fs, w, e1, e2, e3, e4, e5, e6, e7⟩
  · exact .inl ⟨a, C, dx, gs, w, e1, e2, by rw [s.g.s5.K]; exact e3, by rw [s.g.s5.K]; exact e4, e5, q R1 H1 w (Lq.refl _ _) sr1.hr e6⟩
  · exact .inr ⟨a, C, dd, oe, od, fs, w, e1, by rw [s.g.s5.K]; exact e2, by rw [s.g.s5.K]; exact e3, e4, e5, e6, q R1 H1 w (Lq.refl _ _) sr1.hr e7⟩
/-- an attribute's store, by values -/
theorem set_at {R : List Addr} {H : Hp} {h h' : Heap} {t z : T} {v w : V} {f : String} (ok : G.Ok) (hr : HRel G h R H) (vr : VR G R H t v) (vz : VR G R H z w) (e : setA G.P h t f z = some h') :
    ∃ a C dx gs, v = .ref a ∧ H a = some (.ins C dx gs) ∧ Cls G.K C ∧ NoAttr G.K C (Str.ofString f) ∧ gs.length < 1000 ∧ HRel G h' R (upd H a (.ins C dx (L2.putF (Str.ofString f) w gs))) ∧ Lq R H R (upd H a (.ins C dx (L2.putF (Str.ofString f) w gs))) := by
  unfold setA at e
  split at e <;> (try (cases e; done))
  rename_i n
  split at e <;> (try (cases e; done))
  rename_i c fs ec
  split at e <;> (try (cases e; done))
  rename_i hc
  cases e
  cases vr
  rename_i a ea
  obtain ⟨C, dx, gs, h1, h2, h3⟩ := hr.obj n _ a ec ea
  obtain ⟨q1, q2⟩ := ok.fld c C f h1 hc.1
  have lq4 : Lq R H R (upd H a (.ins C dx (L2.putF (Str.ofString f) w gs))) := Lq.put ea h2 (by simp [FT])
  obtain ⟨hr4, _⟩ := hr.put (o := .ins c (Lite.putF f z fs)) ea h2 (by simp [FT]) rfl ⟨C, dx, _, h1, upd_same, (FR.put vz h3).mono lq4⟩
  exact ⟨a, C, dx, gs, rfl, h2, q1, q2, by rw [← h3.len]; exact hc.2, hr4, lq4⟩
/-- o.m(..): the object first, then the method, then the arguments -/
theorem meth_call {prog : Program} {w : World} {A : Around} {env : PySem.Env} {o : Expr} {name : Str} {apos pos : Pos} {args : List Expr} {Q : Value → Shared → Prop} {E : Value → Shared → Prop} {s : Shared}
    (hbase : attributeBase o name env (eval o env) = eval o env) (hfew : (backTo pos (starEach args env)).all (fun x => !x.1) = true) (h20 : args.length < 20) (hline : (apos.endLine == pos.line) = true)
    (h : wpAny (model prog w) A (eval o env) (fun ov s₁ => ∀ pl : Sem Bool, wpAny (model prog w) A (getMethod ov name pl) (fun fx s₂ => wpAny (model prog w) A (callWith pos fx.1 fx.2 (backTo pos (starEach args env)) []) Q E s₂) E s₁) E s) :
    wpAny (model prog w) A (eval (.Call (.Attribute o name apos) args [] pos) env) Q E s := by
  rw [arm_eval_Call, hbase]
  refine wpAny_bind (wpAny_mono h (fun ov s₁ h₁ => ?_) fun _ _ e => e)
  refine wpAny_bind (wpAny_standAt ?_)
  have hform : methodCallForm (args.length + ([] : List Keyword).length) (backTo pos (starEach args env)) (backToKw pos (keywordEach [] env)) = true := by
    unfold methodCallForm
    rw [hfew]
    simp [backToKw, keywordEach]
    omega
  have hpos : methodCallPos true o env apos pos = pure pos := by unfold methodCallPos; simp [hline]
  unfold methodCall
  rw [hform]
  refine wpAny_bind (wpAny_holding ?_)
  show wpAny _ _ (getMethod ov name _) _ _ _
  refine wpAny_mono (h₁ _) (fun fx s₂ h₂ => ?_) fun _ _ e => e
  exact wpAny_bind (wpAny_of_eq hpos h₂)
theorem sound_meth (s : SX G k X c W K) (hh : c.hot = false) {o : LE} {m : String} {es : List LE} {x : Expr} {y : Str} {xs : List Expr} {ap p : Pos} (hy : Str.ofString m = y) (hb : plainB x = true) (hl : (ap.endLine == p.line) = true) (h20 : xs.length < 20) (hc : chkEs c es xs = true)
    (ho : PE X x (rdE G K W o)) (ha : PA X xs (rdA G K W es)) : PE X (.Call (.Attribute x y ap) xs [] p) (rdE G K W (.meth o m es)) := by
  subst hy
  refine ⟨fun pins s0 σ H Q I ⟨ρ, h, R, sr, oo⟩ => ?_⟩
  unfold evE at oo
  have key := rdE.bind (later_E Q) sr oo (Q := fun v H' => ∃ h' R' t f, SR G ρ h' R' σ H' ∧ VR G R' H' t v ∧ methOf G.P h' t m = some f ∧ Sat ((evEs K es ρ h').bind fun xs h => K.call f (t :: xs) h) (PostE G R' H' Q) (PostX G R' H' (At W σ))) fun t h' R' H' v sr' lq vr o' => by
    rw [s.P] at o'
    split at o'
    · rename_i f hf
      exact ⟨h', R', t, f, sr', vr, hf, o'⟩
    · exact o'.elim
  refine meth_call (base_plain hb _ _) (star_all hc) h20 hl (thn (ho.run pins s0 σ H _ I key) fun u s1 ⟨v, H1, I1, r1, h', R', t, f, sr', vr, hf, o'⟩ pl => ?_)
  unfold methOf at hf
  split at hf <;> (try (cases hf; done))
  rename_i n
  split at hf <;> (try (cases hf; done))
  rename_i cl fs ec
  split at hf <;> (try (cases hf; done))
  rename_i hn
  have vr0 := vr
  cases vr
  rename_i a ea
  obtain ⟨C, dx, gs, q1, q2, q3⟩ := sr'.hr.obj n _ a ec ea
  obtain ⟨k1, g, k2, k3⟩ := s.ok.mth cl C m f q1 hf
  have hlook := FR.look m q3
  rw [Option.isNone_iff_eq_none.mp hn] at hlook
  cases r1
  have k1' : Cls X.K C := by rw [s.g.s5.K]; exact k1
  have k3' : Meth X.K C (Str.ofString m) g := by rw [s.g.s5.K]; exact k3
  refine getmeth_ok I1 q2 k1' k3' hlook ?_
  obtain ⟨d, hd⟩ := Option.isSome_iff_exists.mp (s.ok.fa f g k2)
  obtain ⟨a', fd, ps, e2, e3, e4, F, _⟩ := s.calls.fn f d hd
  rw [k2] at e2
  cases e2
  have key2 : rdA G K W es σ H1 (fun vs H' => spI G (K.call f) (V.ref a :: vs) H' Q (At W σ)) := rdA.bind (later_E Q) sr' o' fun ts h2 R2 H2 vs sr2 lq2 vr2 o2 => ⟨T.loc n :: ts, h2, R2, sr2.hr, .cons (vr0.mono lq2) vr2, o2⟩
  have fin : ∀ (us : List Value) (s2 : Shared) (vs : List V) (H2 : Hp), Inv X pins σ H2 s2 → Vals vs us → spI G (K.call f) (V.ref a :: vs) H2 Q (At W σ) → wpAny (model X.prog X.w) X.A (PySem.call (.ref g) (.ref a :: us)) (EP X pins σ Q) X.xe s2 := fun us s2 vs H2 I2 r q =>
    run_fnG s.g.s5 F (s.g.room hh) s.g.gd e4 .nil s.g.tk (fun _ _ _ z => z) I2 (.cons (show RelV (V.ref a) (Value.ref a) from rfl) r) (by rw [List.append_nil]; exact q)
  cases xs with
  | nil =>
    cases es with
    | cons _ _ => simp [chkEs] at hc
    | nil =>
      refine PySem.W.callWith_K0 (first := [.ref a]) I1.kIn k3'.kp ?_
      obtain ⟨ρ', h2, R2, sr2, o2⟩ := key2
      unfold evEs at o2
      exact fin [] s1 [] H1 I1 .nil (o2 R2 H1 [] (Lq.refl _ _) sr2.hr .nil)
  | cons e es' =>
    cases es with
    | nil => simp [chkEs] at hc
    | cons l ls =>
      simp only [chkEs, Bool.and_eq_true] at hc
      refine PySem.W.callWith_K (first := [.ref a]) (h₀ := X.base) I1.ok.mod.kin k3'.kp (thn (ha.run p pins s1 σ H1 _ I1 key2) fun us s2 ⟨vs, H2, I2, r, q⟩ => ⟨I2.kIn, ?_⟩) (star_cons hc.1.1) (noStar hc.2)
      exact fin us s2 vs H2 I2 r q
/-- C(..) -/
theorem sound_make (s : SX G k X c W K) (hh : c.hot = false) {n : String} {x : Str} {xs : List Expr} {es : List LE} {p pos : Pos} (hk : c.kcl n = true) (hn : c.nm n = x) (hg : isGlob c x = true) (hc : chkEs c es xs = true) (ha : PA X xs (rdA G K W es)) : PE X (.Call (.Name x p) xs [] pos) (rdE G K W (.make n es)) := by
  refine ⟨fun pins s0 σ H Q I ⟨ρ, h, R, sr, o⟩ => ?_⟩
  obtain ⟨hg1, hg2⟩ := s.g.gl hg
  obtain ⟨f, hf⟩ := s.kc n hk
  obtain ⟨C, a, hC, hfa, M, hmg⟩ := s.ok.mak n f hf
  obtain ⟨d, hd⟩ := Option.isSome_iff_exists.mp (s.ok.fa f a hfa)
  unfold evE at o
  rw [s.P, hf] at o
  refine wpAny_Call_Name_kw (ld_glob I hg1 (by rw [s.g.s5.mg, ← hn, s.g.nm]; exact hmg) ?_ hg2)
  have key := rdA.bind (later_E Q) sr o (Q := fun vs H' => ∃ ts h' R', HRel G h' R' H' ∧ VRs G R' H' ts vs ∧ Sat ((K.init f (.loc h'.length :: ts) (h' ++ [.ins n []])).bind fun v h2 => if v = .non then .ok (.loc h'.length) h2 else .stuck) (PostE G R' H' Q) (PostX G R' H' (At W σ))) fun ts h' R' H' vs sr' lq vr o' => ⟨ts, h', R', sr'.hr, vr, o'⟩
  have fin : ∀ (us : List Value) (s1 : Shared) (vs : List V) (H1 : Hp), Inv X pins σ H1 s1 → Vals vs us → (∃ ts h' R', HRel G h' R' H1 ∧ VRs G R' H1 ts vs ∧ Sat ((K.init f (.loc h'.length :: ts) (h' ++ [.ins n []])).bind fun v h2 => if v = .non then .ok (.loc h'.length) h2 else .stuck) (PostE G R' H1 Q) (PostX G R' H1 (At W σ))) → wpAny (model X.prog X.w) X.A (PySem.call (.ref C) us) (EP X pins σ Q) X.xe s1 := by
    rintro us s1 vs H1 I1 r ⟨ts, h', R', hr', vrs, o'⟩
    rcases s.init f d hd with hs | ⟨k0, a', fd, ps, ek, e2, e4, F⟩
    · rw [hs] at o'
      exact o'.elim
    · rw [hfa] at e2
      cases e2
      refine run_makeG s.g.s5 M F (by rw [← ek]; exact s.g.room hh) s.g.gd e4 .nil s.g.tk (fun _ _ _ z => z) I1 r fun x dx hx hdx ne => ?_
      rw [List.append_nil]
      have g1 : ∀ b o, H1 b = some o → upd H1 dx (.own x) b = some o := fun b o e => by rw [upd_ne (ne_of_none e hdx)]; exact e
      have hr1 := hr'.grow g1
      have lq1 : Lq R' H1 R' (upd H1 dx (.own x)) := Lq.all g1
      have hx1 : upd H1 dx (.own x) x = none := by rw [upd_ne (Ne.symm ne)]; exact hx
      have g2 : ∀ b o, upd H1 dx (.own x) b = some o → upd (upd H1 dx (.own x)) x (.ins C dx []) b = some o := fun b o e => by rw [upd_ne (ne_of_none e hx1)]; exact e
      obtain ⟨hr2, lq2⟩ := hr1.push (o := .ins n []) (u := .ins C dx []) hx1 rfl ⟨C, dx, [], hC, upd_same, .nil⟩
      have vx : VR G (R' ++ [x]) (upd (upd H1 dx (.own x)) x (.ins C dx [])) (.loc h'.length) (.ref x) := .loc (by rw [← hr'.len]; simp)
      refine ⟨.loc h'.length :: ts, _, _, hr2, .cons vx ((vrs.mono lq1).mono lq2), ?_⟩
      refine (Sat.bind.mp o').imp (fun v h2 q => ?_) fun e h2 q => ?_
      · intro R3 H3 u lq3 hr3 vu
        split at q
        · rename_i ev
          subst ev
          cases vu
          exact ⟨rfl, q R3 H3 _ ((lq1.trans lq2).trans lq3) hr3 (vx.mono lq3)⟩
        · exact q.elim
      · intro R3 H3 cc d lq3 hr3 xr
        exact q R3 H3 cc d ((lq1.trans lq2).trans lq3) hr3 xr
  have hkp : PySem.W.keepIn X.K (.ref C) = true := by rw [s.g.s5.K]; exact M.kp
  cases xs with
  | nil =>
    cases es with
    | cons _ _ => simp [chkEs] at hc
    | nil =>
      refine PySem.W.callWith_K0 I.kIn hkp ?_
      obtain ⟨ρ', h', R', sr', o'⟩ := key
      unfold evEs at o'
      exact fin [] s0 [] H I .nil (o' R' H [] (Lq.refl _ _) sr'.hr .nil)
  | cons e es' =>
    cases es with
    | nil => simp [chkEs] at hc
    | cons l ls =>
      simp only [chkEs, Bool.and_eq_true] at hc
      refine PySem.W.callWith_K (h₀ := X.base) I.ok.mod.kin hkp (thn (ha.run pos pins s0 σ H _ I key) fun us s1 ⟨vs, H1, I1, r, q⟩ => ⟨I1.kIn, ?_⟩) (star_cons hc.1.1) (noStar hc.2)
      exact fin us s1 vs H1 I1 r q
end
end Lite

/-! LITE: dicts walked. -/
namespace Lite
open PySem L2 PySem.Spec
open PyProof.Rows hiding St

/-- the dict at a, as it stands for good -/
def Drw (K : PySem.W.Frag) (H : Hp) (a : Addr) (es : Array DictEntry) (ep : Nat) : Prop :=
  (∃ o u, H a = some (.frz o u) ∧ o.ExactDict ∧ o.data = .dict es ep) ∨ K.lookup a = some ⟨.type "dict", none, .dict es ep, #[]⟩
theorem Drw.raw {X : L2.Cx} {pins : List (Addr × Obj)} {σ : St} {H : Hp} {s : Shared} {a : Addr} {es : Array DictEntry} {ep : Nat} (d : Drw X.K H a es ep) (I : Inv X pins σ H s) : s.heap.DictRaw a es ep := by
  rcases d with ⟨o, u, h, x, e⟩ | h
  · exact ⟨o, (I.hok a _ h).1, x, e⟩
  · exact ⟨_, I.kIn a _ h, ⟨rfl, rfl, rfl⟩, rfl⟩
theorem Drw.mono {K : PySem.W.Frag} {R R' : List Addr} {H H' : Hp} {a : Addr} {es : Array DictEntry} {ep : Nat} (d : Drw K H a es ep) (q : Lf R H R' H') : Drw K H' a es ep := by
  rcases d with ⟨o, u, h, x, e⟩ | h
  · exact .inl ⟨o, u, q.keep _ _ h trivial, x, e⟩
  · exact .inr h
/-- its entries by ours -/
def EntR (es : Array DictEntry) (kvs vs : List V) : Prop := es.size = kvs.length ∧ kvs.length = vs.length ∧ ∀ (i : Nat) (hi : i < es.size), (∀ v, kvs[i]? = some v → RelV v es[i].key) ∧ ∀ v, vs[i]? = some v → RelV v es[i].val
def Itdk (K : PySem.W.Frag) (a : Addr) (es : Array DictEntry) (ep : Nat) (kvs vs : List V) : It :=
  ⟨fun i H => Drw K H a es ep ∧ i < kvs.length, fun i H x H' => H' = H ∧ kvs[i]? = some x, fun i H => Drw K H a es ep ∧ kvs.length ≤ i⟩
def Itdi (K : PySem.W.Frag) (a : Addr) (es : Array DictEntry) (ep : Nat) (kvs vs : List V) : It :=
  ⟨fun i H => Drw K H a es ep ∧ i < kvs.length, fun i H x H' => ∃ T k v, kvs[i]? = some k ∧ vs[i]? = some v ∧ x = .ref T ∧ H T = none ∧ H' = upd H T (.tup [k, v]), fun i H => Drw K H a es ep ∧ kvs.length ≤ i⟩
section
variable {P : Program} {w : World} {K : PySem.W.Frag} {tg : Expr} {d : Addr} {es : Array DictEntry} {ep : Nat} {kvs vs : List V}
theorem turn_dk (it : Addr) (hr : EntR es kvs vs) : Turn P w K tg (Itdk K d es ep kvs vs) [it] it (fun i h => h.IsKeyIter it d i es.size ep) where
  mem := by simp
  obj := fun i h st b hb => by
    have e : b = it := by simpa using hb
    subst e
    obtain ⟨oi, e, c, dd⟩ := st
    exact ⟨oi, e, fun v z => by rw [dd] at z; cases z⟩
  keep := fun i h h' st k => st.at fun oi e => k it (by simp) oi e
  item := by
    intro X hP hw hK hc i pins s σ H E I hf st hg
    subst hP hw hK
    obtain ⟨hd, hi⟩ := hg
    obtain ⟨f0, f1, f2, f3, f4, f5⟩ := hf it (by simp)
    have hi2 : i < es.size := by rw [hr.1]; exact hi
    refine wpAny_pyNext_keys_item_raw st (hd.raw I) hi2 fun h' st' sb => ?_
    have I1 : Inv X pins σ H { s with heap := h' } := I.turned (t' := s.toks) (fun b ob hb e => (sb.2 b hb).trans e) f0 f1 f3 f4 f5
    obtain ⟨oi, e, c, dd⟩ := id st'
    exact ⟨es[i].key, rfl, go_of (s := { s with heap := h' }) e c dd (by decide) ⟨kvs[i], H, I1, (hr.2.2 i hi2).1 _ (List.getElem?_eq_getElem hi), ⟨rfl, List.getElem?_eq_getElem hi⟩, st', fun b hb => (hf b hb).1⟩⟩
  done := by
    intro X hP hw hK hc i pins s σ H E I hf st hg
    subst hP hw hK
    obtain ⟨hd, hi⟩ := hg
    obtain ⟨f0, f1, f2, f3, f4, f5⟩ := hf it (by simp)
    exact wpAny_pyNext_keys_end_raw (I.ok.hd hc) st (hd.raw I) (by rw [hr.1]; exact hi) fun h' eb => ⟨rfl, I.turned (t' := s.toks) (fun b ob hb e => eb b ob hb e) f0 f1 f3 f4 f5⟩
  self := fun A i s Q E st h => by
    refine wpAny_pyIter_slot st.typeIs F.slot_dict_keyiterator_iter (wpAny_call_entry F.slot_dict_keyiterator_iter st.typeIs F.entry_dict_keyiterator_iter ?_ (F.args_dict_keyiterator_iter_1 _))
    show wpAny _ _ (ret (.ref it)) _ _ s
    exact wpAny_pure ⟨_, rfl, "dict_keyiterator", _, st.typeIs, F.slot_dict_keyiterator_next.lookup, h⟩
theorem turn_di {elts : List Expr} {kk : Nat} {tpos : Pos} (it : Addr) (hr : EntR es kvs vs) :
    Turn P w K (.Tuple elts kk tpos) (Itdi K d es ep kvs vs) [it] it (fun i h => ∃ ok ov, IsItemIter h it d i es.size ep ok ov) where
  mem := by simp
  obj := fun i h st b hb => by
    have e : b = it := by simpa using hb
    subst e
    obtain ⟨ok, ov, e⟩ := st
    exact ⟨_, e, fun v z => nomatch z⟩
  keep := fun i h h' st k => let ⟨ok, ov, e⟩ := st; ⟨ok, ov, k it (by simp) _ e⟩
  item := by
    intro X hP hw hK hc i pins s σ H E I hf st hg
    subst hP hw hK
    obtain ⟨hd, hi⟩ := hg
    have hi2 : i < es.size := by rw [hr.1]; exact hi
    have hi3 : i < vs.length := by rw [← hr.2.1]; exact hi
    have rk := (hr.2.2 i hi2).1 _ (List.getElem?_eq_getElem hi)
    have rv := (hr.2.2 i hi2).2 _ (List.getElem?_eq_getElem hi3)
    obtain ⟨ok, ov, he⟩ := st
    have hlt : it < s.heap.objs.size := Heap.lt_size he
    refine wpAny_pyNext_items_item_raw he (hd.raw I) hi2 fun h' ho hT hz hk => ?_
    refine ⟨_, rfl, wpAny_letOwnedTupleGo_items (s := { s with heap := h' }) ho fun h'' he' sb => ?_⟩
    have hT2 : h''.get? s.heap.objs.size = some { cls := .type "tuple", data := .seq #[es[i].key, es[i].val] } := (sb.2 _ (Nat.ne_of_gt hlt)).trans hT
    have new : ObjOk X.prog X.w (upd H s.heap.objs.size (.tup [kvs[i], vs[i]])) h'' s.heap.objs.size (.tup [kvs[i], vs[i]]) :=
      ⟨by show 2 ≤ sizeLine; decide, [es[i].key, es[i].val], .cons rk (.cons rv .nil), ⟨_, hT2, rfl, _, rfl⟩⟩
    have I1 : Inv X pins σ (upd H s.heap.objs.size (.tup [kvs[i], vs[i]])) { s with heap := h'' } :=
      I.turnedNew (t' := s.toks) (ch := [it]) (fun b ob hb e => (sb.2 b (by simpa using hb)).trans (hk b ob (by simpa using hb) e)) hf (Nat.le_refl _) new
    refine ⟨.ref s.heap.objs.size, _, I1, rfl, ⟨_, _, _, List.getElem?_eq_getElem hi, List.getElem?_eq_getElem hi3, rfl, I.hok.fresh (Nat.le_refl _), rfl⟩, ⟨_, _, he'⟩, fun b hb => ?_⟩
    have e : b = it := by simpa using hb
    rw [e, upd_ne (Nat.ne_of_lt hlt)]
    exact (hf it (by simp)).1
  done := by
    intro X hP hw hK hc i pins s σ H E I hf st hg
    subst hP hw hK
    obtain ⟨hd, hi⟩ := hg
    obtain ⟨f0, f1, f2, f3, f4, f5⟩ := hf it (by simp)
    obtain ⟨ok, ov, he⟩ := st
    exact wpAny_pyNext_items_end_raw (I.ok.hd hc) he (hd.raw I) (by rw [hr.1]; exact hi) fun h' eb => ⟨rfl, I.turned (t' := s.toks) (fun b ob hb e => eb b ob hb e) f0 f1 f3 f4 f5⟩
  self := fun A i s Q E st h => let ⟨_, _, e⟩ := st; PySem.W.kcp_self e h
end
theorem relV_mixKey {k : Key} {u : Value} (h : keyIs k u = true) : RelV (kV k) u := by
  rcases keyIs_shape h with ⟨i, t, rfl, rfl⟩ | ⟨x, t, rfl, rfl⟩
  · exact ⟨t, rfl⟩
  · exact ⟨t, rfl⟩
theorem vals_at : ∀ {vs : List V} {us : List Value} {i : Nat} {v : V} {u : Value}, Vals vs us → vs[i]? = some v → us[i]? = some u → RelV v u
  | _, _, i, _, _, .nil, e, _ => by simp at e
  | _, _, 0, _, _, .cons h r, e1, e2 => by simp at e1 e2; subst e1; subst e2; exact h
  | _, _, i + 1, _, _, .cons h r, e1, e2 => vals_at r (by simpa using e1) (by simpa using e2)
section
variable {G : GD} {X : L2.Cx} {pins : List (Addr × Obj)} {σ : St} {H : Hp} {s : Shared} {R : List Addr}
/-- a dict that is never written, as it stands for good -/
theorem drw_of (S : Same5 G X) (I : Inv X pins σ H s) {a : Addr} {ks : List T} {kvs vs : List V} (hf : FzD G H a ks kvs vs) (rk : VRs G R H ks kvs) : (a == sysModules) = false ∧ ∃ es ep, Drw X.K H a es ep ∧ EntR es kvs vs := by
  have d := dlk_fz S I hf rk
  have hkl : kvs.length = vs.length := by rw [← d.len]; exact rk.length.symm
  have raw : ∃ es ep, s.heap.DictRaw a es ep ∧ EntR es kvs vs := by
    rcases d.form with ⟨κs, us, e1, e2, rv, ek, dd⟩ | ⟨xs, e1, e2, rv, ek, dd⟩
    · obtain ⟨es, ep, h1, h2, h3⟩ := dd.raw
      have zl : (κs.zip us).length = κs.length := by simp [e2]
      refine ⟨es, ep, h1, by rw [h2, zl, ek]; simp, hkl, fun i hi => ?_⟩
      have hi1 : i < κs.length := by rw [← zl, ← h2]; exact hi
      have hi2 : i < us.length := by rw [← e2]; exact hi1
      obtain ⟨q1, q2⟩ := h3 i hi κs[i] us[i] (by rw [List.getElem?_zip_eq_some]; exact ⟨List.getElem?_eq_getElem hi1, List.getElem?_eq_getElem hi2⟩)
      refine ⟨fun v ev => ?_, fun v ev => ?_⟩
      · rw [ek, List.getElem?_map, List.getElem?_eq_getElem hi1] at ev
        cases ev
        exact relV_mixKey q1
      · rw [q2]
        exact vals_at rv ev (List.getElem?_eq_getElem hi2)
    · obtain ⟨es, ep, h1, h2, h3⟩ := dd.raw
      refine ⟨es, ep, h1, by rw [h2, ek]; simp, hkl, fun i hi => ?_⟩
      obtain ⟨y, y1, y2, y3, y4⟩ := h3 i hi
      refine ⟨fun v ev => ?_, fun v ev => ?_⟩
      · rw [ek, List.getElem?_map, y1] at ev
        cases ev
        rw [y2]; rfl
      · rw [y3]
        exact vals_at rv ev (by rw [List.getElem?_map, y1]; rfl)
  obtain ⟨es, ep, ⟨o, ho, hx, hd⟩, er⟩ := raw
  refine ⟨d.ne, es, ep, ?_, er⟩
  rcases hf with ⟨o', u, h1, du⟩ | ⟨κs, us, _, _, _, _, _, _, _, es', n, hl⟩
  · have := (I.hok a _ h1).1
    rw [ho] at this
    cases this
    exact .inl ⟨_, u, h1, hx, hd⟩
  · rw [← S.K] at hl
    have := I.kIn a _ hl
    rw [ho] at this
    cases this
    cases hd
    exact .inr hl
end
end Lite

/-! LITE, 11: statements: what stays, targets, what is walked. -/
namespace Lite
open PySem L2 PySem.Spec
open PyProof.Rows hiding St

/-- the slots outside A are as they were -/
def Agree (A : List Nat) (σ σ' : St) : Prop := σ'.length = σ.length ∧ ∀ i, i ∉ A → σ'[i]? = σ[i]?
theorem Agree.refl (A : List Nat) (σ : St) : Agree A σ σ := ⟨rfl, fun _ _ => rfl⟩
theorem Agree.trans {A : List Nat} {a b c : St} (h : Agree A a b) (k : Agree A b c) : Agree A a c := ⟨k.1.trans h.1, fun i n => (k.2 i n).trans (h.2 i n)⟩
theorem Agree.set {A : List Nat} {a b : St} (h : Agree A a b) {i : Nat} (hi : i ∈ A) (v : Option V) : Agree A a (b.set i v) :=
  ⟨by simp [h.1], fun j n => by rw [List.getElem?_set_ne (fun (e : i = j) => n (e ▸ hi))]; exact h.2 j n⟩
def PostXS (G : GD) (A : List Nat) (σ : St) (R : List Addr) (H : Hp) (W : WX) : T → Heap → Prop := fun e h' => ∀ R' H' c d σ', Lq R H R' H' → HRel G h' R' H' → XR G R' H' e c d → Agree A σ σ' → W c d σ' H'
def PostT (G : GD) (A : List Nat) (σ : St) (R : List Addr) (H : Hp) (D : Ends) : Fl → Heap → Prop := fun fl h' => match fl with
  | .nx ρ => ∀ R' H' σ', Lq R H R' H' → HRel G h' R' H' → ERel G R' H' ρ σ' → Agree A σ σ' → D.nx σ' H'
  | .brk ρ => ∀ R' H' σ', Lq R H R' H' → HRel G h' R' H' → ERel G R' H' ρ σ' → Agree A σ σ' → D.bk σ' H'
  | .cnt ρ => ∀ R' H' σ', Lq R H R' H' → HRel G h' R' H' → ERel G R' H' ρ σ' → Agree A σ σ' → D.ct σ' H'
  | .ret t => ∀ R' H' v, Lq R H R' H' → HRel G h' R' H' → VR G R' H' t v → D.rt v H'
section
variable (G : GD) (K : Cn) (W : WX) (A : List Nat)
def rdS (l : LS) : TS := fun D σ H => ∃ ρ h R, SR G ρ h R σ H ∧ Sat (exS K l ρ h) (PostT G A σ R H D) (PostXS G A σ R H W)
def rdSs (l : List LS) : TS := fun D σ H => ∃ ρ h R, SR G ρ h R σ H ∧ Sat (exSs K l ρ h) (PostT G A σ R H D) (PostXS G A σ R H W)
end
section
variable {G : GD} {K : Cn} {W : WX} {A : List Nat} {ρ : Rho} {h : Heap} {R R' : List Addr} {σ σ' : St} {H H' : Hp} {D : Ends}
theorem PostT.later {fl : Fl} {h' : Heap} (q : Lq R H R' H') (g : Agree A σ σ') (p : PostT G A σ R H D fl h') : PostT G A σ' R' H' D fl h' := by
  cases fl with
  | nx ρ => exact fun R2 H2 s l hr e a => p R2 H2 s (q.trans l) hr e (g.trans a)
  | brk ρ => exact fun R2 H2 s l hr e a => p R2 H2 s (q.trans l) hr e (g.trans a)
  | cnt ρ => exact fun R2 H2 s l hr e a => p R2 H2 s (q.trans l) hr e (g.trans a)
  | ret v => exact fun R2 H2 s l hr e => p R2 H2 s (q.trans l) hr e
theorem PostXS.later {e : T} {h' : Heap} (q : Lq R H R' H') (g : Agree A σ σ') (p : PostXS G A σ R H W e h') : PostXS G A σ' R' H' W e h' := fun R2 H2 c d s l hr x a => p R2 H2 c d s (q.trans l) hr x (g.trans a)
theorem Sat.laterS {r : Rs Fl} (q : Lq R H R' H') (g : Agree A σ σ') (s : Sat r (PostT G A σ R H D) (PostXS G A σ R H W)) : Sat r (PostT G A σ' R' H' D) (PostXS G A σ' R' H' W) :=
  s.imp (fun _ _ p => p.later q g) fun _ _ p => p.later q g
theorem PostXS.at {e : T} {h' : Heap} (p : PostXS G A σ R H W e h') : PostX G R H (At W σ) e h' := fun R' H' c d l hr x => p R' H' c d σ l hr x (Agree.refl _ _)
theorem rdE.bindS {le : LE} {f : T → Heap → Rs Fl} (sr : SR G ρ h R σ H) (o : Sat ((evE K le ρ h).bind f) (PostT G A σ R H D) (PostXS G A σ R H W)) {Q : VK}
    (k : ∀ t h' R' H' v, SR G ρ h' R' σ H' → Lq R H R' H' → VR G R' H' t v → Sat (f t h') (PostT G A σ R' H' D) (PostXS G A σ R' H' W) → Q v H') : rdE G K W le σ H Q :=
  ⟨ρ, h, R, sr, (Sat.bind.mp o).imp (fun t h' s R' H' v lq hr vr => k t h' R' H' v (sr.next lq hr) lq vr (s.laterS lq (Agree.refl _ _))) fun _ _ x => x.at⟩
theorem rdA.bindS {les : List LE} {f : List T → Heap → Rs Fl} (sr : SR G ρ h R σ H) (o : Sat ((evEs K les ρ h).bind f) (PostT G A σ R H D) (PostXS G A σ R H W)) {Q : List V → Hp → Prop}
    (k : ∀ ts h' R' H' vs, ts.length = les.length → SR G ρ h' R' σ H' → Lq R H R' H' → VRs G R' H' ts vs → Sat (f ts h') (PostT G A σ R' H' D) (PostXS G A σ R' H' W) → Q vs H') : rdA G K W les σ H Q :=
  ⟨ρ, h, R, sr, (evEs_len (Sat.bind.mp o)).imp (fun t h' s R' H' v lq hr vr => k t h' R' H' v s.1 (sr.next lq hr) lq vr (s.2.laterS lq (Agree.refl _ _))) fun _ _ x => x.at⟩
theorem rdT.bindS {le : LE} {f : T → Heap → Rs Fl} {g : Bool → Heap → Rs Fl} (sr : SR G ρ h R σ H) (hf : ∀ t h b, truth h t = some b → f t h = g b h) (hn : ∀ t h, truth h t = none → f t h = .stuck)
    (o : Sat ((evE K le ρ h).bind f) (PostT G A σ R H D) (PostXS G A σ R H W)) {Q : Bool → Hp → Prop}
    (k : ∀ b h' R' H', SR G ρ h' R' σ H' → Lq R H R' H' → Sat (g b h') (PostT G A σ R' H' D) (PostXS G A σ R' H' W) → Q b H') : rdT G K W le σ H Q := by
  refine ⟨ρ, h, R, sr, ?_⟩
  rw [Sat.bind] at o ⊢
  refine o.imp (fun t h' s => ?_) fun _ _ x => x.at
  cases e : truth h' t with
  | none => rw [hn _ _ e] at s; exact s.elim
  | some b =>
    rw [hf _ _ _ e] at s
    exact fun R' H' lq hr => k b h' R' H' (sr.next lq hr) lq (s.laterS lq (Agree.refl _ _))
theorem SR.next2 {h' : Heap} (s : SR G ρ h R σ H) (q : Lq R H R' H') (hr : HRel G h' R' H') : SR G ρ h' R' σ H' := s.next q hr
end

/-! ### targets -/
theorem pg_imp {X : L2.Cx} {tg : Expr} {t t' : TG} (h : PG X tg t) (f : ∀ v σ H Q, t' v σ H Q → t v σ H Q) : PG X tg t' := ⟨fun pins s σ H v u Q I r q => h.run pins s σ H v u Q I r (f v σ H Q q)⟩
theorem pg_or {X : L2.Cx} {tg : Expr} {t t' : TG} (h : PG X tg t) (h' : PG X tg t') : PG X tg (fun v σ H Q => t v σ H Q ∨ t' v σ H Q) := ⟨fun pins s σ H v u Q I r q => q.elim (h.run pins s σ H v u Q I r) (h'.run pins s σ H v u Q I r)⟩
section
variable {G : GD} {k : Nat} {X : L2.Cx} {c : Sc} {W : WX} {K : Cn} {A : List Nat}
theorem GX.loc (g : GX G k X c W) {x : Str} (h : isLoc c x = true) : Loc X.env.scope x ∧ (X.fn x = true ∨ X.env.scope.names.lookup x = some .local) := by
  simp only [isLoc, Bool.or_eq_true, decide_eq_true_eq] at h
  rcases h with q | q
  · have := g.sc1 x _ (by decide) q
    exact ⟨.inl this, .inr this⟩
  · exact ⟨.inr (g.sc1 x _ (by decide) q), .inl (g.fnc x q)⟩
/-- slots set one after another -/
abbrev sets {α : Type} (ρ : List (Option α)) (is : List Nat) (xs : List α) : List (Option α) := (is.zip xs).foldl (fun r p => r.set p.1 (some p.2)) ρ
theorem ERel.sets {R : List Addr} {H : Hp} : ∀ {is : List Nat} {xs : List T} {vs : List V} {ρ : Rho} {σ : St}, ERel G R H ρ σ → VRs G R H xs vs → ERel G R H (sets ρ is xs) (sets σ is vs)
  | [], _, _, _, _, e, _ => by simpa [Lite.sets] using e
  | _ :: _, _, _, _, _, e, .nil => by simpa [Lite.sets] using e
  | i :: is, _, _, _, _, e, .cons h r => by
    simp only [Lite.sets, List.zip_cons_cons, List.foldl_cons]
    exact ERel.sets (e.set i h) r
theorem Agree.sets {a : St} : ∀ {is : List Nat} {vs : List V} {b : St}, Agree A a b → (∀ i ∈ is, i ∈ A) → Agree A a (sets b is vs)
  | [], _, _, e, _ => by simpa [Lite.sets] using e
  | _ :: _, [], _, e, _ => by simpa [Lite.sets] using e
  | i :: is, v :: vs, _, e, hi => by
    simp only [Lite.sets, List.zip_cons_cons, List.foldl_cons]
    exact Agree.sets (e.set (hi i (by simp)) _) fun j hj => hi j (by simp [hj])
theorem chkNs_mem : ∀ {is : List Nat} {es : List Expr}, chkNs c A is es = true → ∀ i ∈ is, i ∈ A
  | [], _, _, i, hi => by simp at hi
  | j :: is, [], h, _, _ => by simp [chkNs] at h
  | j :: is, e :: es, h, i, hi => by
    cases e <;> simp [chkNs] at h
    rcases List.mem_cons.mp hi with q | q
    · subst q; exact h.1.2
    · exact chkNs_mem h.2 i q
theorem chkNs_each {env : PySem.Env} : ∀ {is : List Nat} {es : List Expr}, chkNs c A is es = true → (assignEach es env).length = is.length ∧ (assignEach es env).findIdx? (·.1) = none
  | [], [], _ => ⟨rfl, rfl⟩
  | [], _ :: _, h => by simp [chkNs] at h
  | j :: is, [], h => by simp [chkNs] at h
  | j :: is, e :: es, h => by
    cases e <;> simp [chkNs] at h
    rename_i x p
    obtain ⟨h1, h2⟩ := chkNs_each (env := env) h.2
    have e1 : assignEach (.Name x p :: es) env = (false, assign (.Name x p) env) :: assignEach es env := rfl
    rw [e1]
    exact ⟨by simp [h1], by simp [List.findIdx?_cons, h2]⟩
def gSets (is : List Nat) : TGs := fun vs σ H Q => vs.length = is.length ∧ Q (sets σ is vs) H
theorem pgs_names (g : GX G k X c W) : ∀ {is : List Nat} {es : List Expr}, chkNs c A is es = true → PGs X es (gSets is)
  | [], [], _ => ⟨fun pins s σ H vs us Q I r h => pgs_nil.run pins s σ H vs us Q I r ⟨by have := h.1; cases vs <;> simp at this; rfl, by have := h.2; simpa [Lite.sets] using this⟩⟩
  | [], _ :: _, h => by simp [chkNs] at h
  | j :: is, [], h => by simp [chkNs] at h
  | j :: is, e :: es, h => by
    cases e <;> simp [chkNs] at h
    rename_i x p
    obtain ⟨l1, l2⟩ := g.loc h.1.1.2
    have h1 : PG X (.Name x p) (gName j) := pg_name (by rw [g.N]; exact g.nd) (by rw [g.N]; exact h.1.1.1) l1 l2
    refine ⟨fun pins s σ H vs us Q I r hq => (pgs_cons h1 (pgs_names g h.2)).run pins s σ H vs us Q I r ?_⟩
    cases vs with
    | nil => simp [gSets] at hq
    | cons v vs =>
      refine ⟨v, vs, rfl, ?_, ?_⟩
      · have := hq.1; simpa using this
      · have := hq.2; simpa [Lite.sets] using this
theorem star_each {env : PySem.Env} : ∀ {es es' : List Expr} {is : List Nat}, starOff es = some es' → chkNs c A is es' = true → (assignEach es env).map (·.2) = (assignEach es' env).map (·.2) ∧ (assignEach es env).length = is.length ∧ ∃ n, is.length = n + 1 ∧ (assignEach es env).findIdx? (·.1) = some n
  | [], _, _, h, _ => by simp [starOff] at h
  | [e], es', is, h, hc => by
    cases e <;> first | (simp [starOff] at h; done) | skip
    rename_i tt pp
    simp only [starOff, Option.some.injEq] at h
    subst h
    match is, hc with
    | [], hc => simp [chkNs] at hc
    | [i], hc => cases tt <;> first | (cases hc; done) | exact ⟨rfl, rfl, 0, rfl, rfl⟩
    | _ :: _ :: _, hc => cases tt <;> first | (cases hc; done) | (simp [chkNs] at hc)
  | e :: e2 :: es, es', is, h, hc => by
    rw [starOff] at h
    obtain ⟨r, h1, rfl⟩ := Option.map_eq_some_iff.mp h
    cases is with
    | nil => simp [chkNs] at hc
    | cons i is =>
      cases e <;> simp [chkNs] at hc
      rename_i x p
      obtain ⟨h2, h3, n, h4, h5⟩ := star_each (env := env) h1 hc.2
      have e1 : assignEach (.Name x p :: e2 :: es) env = (false, assign (.Name x p) env) :: assignEach (e2 :: es) env := rfl
      have e3 : assignEach (.Name x p :: r) env = (false, assign (.Name x p) env) :: assignEach r env := rfl
      rw [e1, e3]
      refine ⟨by simp [h2], by simp [h3], n + 1, by simp [h4], ?_⟩
      simp [List.findIdx?_cons, h5]
theorem zip_take {α β : Type} : ∀ (is : List α) (xs : List β), is.zip (xs.take is.length) = is.zip xs
  | [], _ => rfl
  | _ :: _, [] => rfl
  | i :: is, x :: xs => by simp [zip_take is xs]
/-- (a, *b) = a tuple -/
theorem assign_star {X : L2.Cx} {pins : List (Addr × Obj)} {s : Shared} {σ : St} {H : Hp} {es : List Expr} {kk : Nat} {pos : Pos} {l : Addr} {items : Array Value} {i : Nat} {Q : Unit → Shared → Prop} {E : Value → Shared → Prop} (I : Inv X pins σ H s) (hl : IsTup s.heap l items) (hh : X.A.handled = none)
    (hlen : (assignEach es X.env).length = i + 1) (hstar : (assignEach es X.env).findIdx? (·.1) = some i) (hi : i ≤ items.size) (hz : items.size ≤ sizeLine)
    (h : ∀ D H' h' tk, Inv X pins σ H' { s with heap := h', toks := tk } → (∀ ys, Vals ys (items.toList.drop i) → H D = none ∧ ∃ o, H' = upd H D (.frz o (.lst ys))) → wpAny (model X.prog X.w) X.A (assignInOrder ((assignEach es X.env).map (·.2)) (items.toList.take i ++ [.ref D])) Q E { s with heap := h', toks := tk }) (hv : ∃ ys, Vals ys (items.toList.drop i)) :
    wpAny (model X.prog X.w) X.A (assign (.Tuple es kk pos) X.env (.ref l)) Q E s := by
  obtain ⟨ys, hv⟩ := hv
  rw [PyProof.Rows.assign_Tuple]
  refine wpAny_bind (wpAny_standAt ?_)
  unfold unpack
  rw [hlen, hstar]
  refine wpAny_bind (wpAny_holding ?_)
  have hlt : l ≠ s.heap.objs.size := by obtain ⟨o, ho, _⟩ := hl; exact Nat.ne_of_lt (Heap.lt_size ho)
  unfold unpackItems
  refine wpAny_bind ?_
  unfold notIterableAtAll
  refine wpAny_bind (wpAny_specialOf hl.typeIs PySem.F.slot_tuple_iter.lookup ?_)
  refine wpAny_pure ?_
  simp only [Bool.false_eq_true, if_false]
  refine wpAny_bind (wpAny_holding (iter_tuple hl ?_))
  refine wpAny_bind (wpAny_holding (draw_tuple hlt i 0 _ _ ⟨_, Heap.get?_push_size _ rfl, rfl, rfl⟩ (hl.push _) (by omega) fun h₁ hit₁ hs₁ => ?_))
  have hl₁ : IsTup h₁ l items := (hl.push _).extBut hs₁.extBut hlt
  rw [Nat.zero_add] at hit₁
  have hit₁' := hit₁
  obtain ⟨oi, hoi, _⟩ := hit₁'
  have hl₁' := hl₁
  obtain ⟨ol, hol, _⟩ := hl₁'
  rw [List.drop_zero]
  have hfl : (items.toList.take i).length = i := by rw [List.length_take, Array.length_toList]; omega
  rw [if_neg (show ¬ ((items.toList.take i).length < i) by rw [hfl]; omega)]
  refine wpAny_bind (wpAny_holding (PySem.W.kun_collect (s := { s with heap := h₁ }) (T := "tuple_iterator") (.inr (.inr (.inr rfl))) (Walks.tuple (A := X.A.in1) hh s.heap.objs.size l hlt items) (fun j u st => st.1.typeIs) (k := i) (by omega) ⟨hit₁, hl₁⟩ (Heap.lt_size hoi) (Heap.lt_size hol) (fun h₂ tk hk => ?_) (by rw [sizeLine_eq] at hz ⊢; omega)))
  have hrl : (items.toList.drop i).length = items.size - i := by rw [List.length_drop, Array.length_toList]
  show wpAny _ _ (if (items.toList.drop i).length < (i + 1) - 1 - i then _ else _) _ _ _
  rw [if_neg (by rw [hrl]; omega)]
  show wpAny _ _ (newList ((items.toList.drop i).take ((items.toList.drop i).length - (i + 1 - 1 - i))) >>= fun d => pure (items.toList.take i ++ [d] ++ (items.toList.drop i).drop ((items.toList.drop i).length - (i + 1 - 1 - i)))) _ _ _
  have e1 : (items.toList.drop i).length - (i + 1 - 1 - i) = (items.toList.drop i).length := by omega
  rw [e1, List.take_length, List.drop_length]
  have he : ∀ b o, s.heap.get? b = some o → h₂.get? b = some o := fun b o e => by
    have hb : b ≠ s.heap.objs.size := Nat.ne_of_lt (Heap.lt_size e)
    exact hk b o hb (hs₁.extBut b o hb (Heap.get?_push_of_some _ e))
  have I1 : Inv X pins σ H { s with heap := h₂, toks := tk } := I.kept (t' := tk) he
  have hsz : ys.length ≤ sizeLine := by
    have := hv.length
    rw [hrl] at this
    omega
  obtain ⟨o, I2⟩ := Inv.newF (t' := tk) I1 hv hsz
  have hn : H h₂.objs.size = none := I1.hok.fresh (Nat.le_refl _)
  refine wpAny_bind (wpAny_newList (wpAny_pure ?_) (by rw [hrl]; rw [sizeLine_eq] at hz ⊢; omega))
  rw [List.append_nil]
  exact h h₂.objs.size _ _ tk I2 fun ys' hv' => by
    have : ys' = ys := by
      have inj : ∀ {a b : List V} {us : List Value}, Vals a us → Vals b us → a = b := by
        intro a b us ha
        induction ha generalizing b with
        | nil => intro hb; cases hb; rfl
        | cons h1 t ih =>
          intro hb
          cases hb with
          | cons h2 t2 => rw [RelV.inj h1 h2, ih t2]
      exact inj hv' hv
    subst this
    exact ⟨hn, o, rfl⟩
/-- (a, *b) = a list -/
theorem assign_starL {X : L2.Cx} {pins : List (Addr × Obj)} {s : Shared} {σ : St} {H : Hp} {es : List Expr} {kk : Nat} {pos : Pos} {l : Addr} {items : Array Value} {i : Nat} {Q : Unit → Shared → Prop} {E : Value → Shared → Prop} (I : Inv X pins σ H s) (hl : s.heap.IsList l items) (hh : X.A.handled = none)
    (hlen : (assignEach es X.env).length = i + 1) (hstar : (assignEach es X.env).findIdx? (·.1) = some i) (hi : i ≤ items.size) (hz : items.size ≤ sizeLine)
    (h : ∀ D H' h' tk, Inv X pins σ H' { s with heap := h', toks := tk } → (∀ ys, Vals ys (items.toList.drop i) → H D = none ∧ ∃ o, H' = upd H D (.frz o (.lst ys))) → wpAny (model X.prog X.w) X.A (assignInOrder ((assignEach es X.env).map (·.2)) (items.toList.take i ++ [.ref D])) Q E { s with heap := h', toks := tk }) (hv : ∃ ys, Vals ys (items.toList.drop i)) :
    wpAny (model X.prog X.w) X.A (assign (.Tuple es kk pos) X.env (.ref l)) Q E s := by
  obtain ⟨ys, hv⟩ := hv
  rw [PyProof.Rows.assign_Tuple]
  refine wpAny_bind (wpAny_standAt ?_)
  unfold unpack
  rw [hlen, hstar]
  refine wpAny_bind (wpAny_holding ?_)
  have hlt : l ≠ s.heap.objs.size := by obtain ⟨o, ho, _⟩ := hl; exact Nat.ne_of_lt (Heap.lt_size ho)
  unfold unpackItems
  refine wpAny_bind ?_
  unfold notIterableAtAll
  refine wpAny_bind (wpAny_specialOf hl.typeIs PySem.F.slot_list_iter.lookup ?_)
  refine wpAny_pure ?_
  simp only [Bool.false_eq_true, if_false]
  refine wpAny_bind (wpAny_holding (wpAny_pyIter_list hl ?_))
  refine wpAny_bind (wpAny_holding (PySem.W.kun_draw hlt i 0 _ _ ⟨_, Heap.get?_push_size _ rfl, rfl, rfl⟩ (hl.push _) (by omega) fun h₁ hit₁ hs₁ => ?_))
  have hl₁ : h₁.IsList l items := (hl.push _).extBut hs₁.extBut hlt
  rw [Nat.zero_add] at hit₁
  have hit₁' := hit₁
  obtain ⟨oi, hoi, _⟩ := hit₁'
  have hl₁' := hl₁
  obtain ⟨ol, hol, _⟩ := hl₁'
  rw [List.drop_zero]
  have hfl : (items.toList.take i).length = i := by rw [List.length_take, Array.length_toList]; omega
  rw [if_neg (show ¬ ((items.toList.take i).length < i) by rw [hfl]; omega)]
  refine wpAny_bind (wpAny_holding (PySem.W.kun_collect (s := { s with heap := h₁ }) (T := "list_iterator") (.inr (.inr (.inl rfl))) (Walks.list (A := X.A.in1) hh s.heap.objs.size l hlt items) (fun j u st => st.1.typeIs) (k := i) (by omega) ⟨hit₁, hl₁⟩ (Heap.lt_size hoi) (Heap.lt_size hol) (fun h₂ tk hk => ?_) (by rw [sizeLine_eq] at hz ⊢; omega)))
  have hrl : (items.toList.drop i).length = items.size - i := by rw [List.length_drop, Array.length_toList]
  show wpAny _ _ (if (items.toList.drop i).length < (i + 1) - 1 - i then _ else _) _ _ _
  rw [if_neg (by rw [hrl]; omega)]
  show wpAny _ _ (newList ((items.toList.drop i).take ((items.toList.drop i).length - (i + 1 - 1 - i))) >>= fun d => pure (items.toList.take i ++ [d] ++ (items.toList.drop i).drop ((items.toList.drop i).length - (i + 1 - 1 - i)))) _ _ _
  have e1 : (items.toList.drop i).length - (i + 1 - 1 - i) = (items.toList.drop i).length := by omega
  rw [e1, List.take_length, List.drop_length]
  have he : ∀ b o, s.heap.get? b = some o → h₂.get? b = some o := fun b o e => by
    have hb : b ≠ s.heap.objs.size := Nat.ne_of_lt (Heap.lt_size e)
    exact hk b o hb (hs₁.extBut b o hb (Heap.get?_push_of_some _ e))
  have I1 : Inv X pins σ H { s with heap := h₂, toks := tk } := I.kept (t' := tk) he
  have hsz : ys.length ≤ sizeLine := by
    have := hv.length
    rw [hrl] at this
    omega
  obtain ⟨o, I2⟩ := Inv.newF (t' := tk) I1 hv hsz
  have hn : H h₂.objs.size = none := I1.hok.fresh (Nat.le_refl _)
  refine wpAny_bind (wpAny_newList (wpAny_pure ?_) (by rw [hrl]; rw [sizeLine_eq] at hz ⊢; omega))
  rw [List.append_nil]
  exact h h₂.objs.size _ _ tk I2 fun ys' hv' => by
    have : ys' = ys := by
      have inj : ∀ {a b : List V} {us : List Value}, Vals a us → Vals b us → a = b := by
        intro a b us ha
        induction ha generalizing b with
        | nil => intro hb; cases hb; rfl
        | cons h1 t ih =>
          intro hb
          cases hb with
          | cons h2 t2 => rw [RelV.inj h1 h2, ih t2]
      exact inj hv' hv
    subst this
    exact ⟨hn, o, rfl⟩
/-- a target, by ours -/
def rdG (G : GD) (A : List Nat) (tg : Tg) : TG := fun v σ H Q => ∃ ρ h R x ρ', SR G ρ h R σ H ∧ VR G R H x v ∧ bindTg tg x h ρ = some ρ' ∧ ∀ σ' H', Lq R H R H' → HRel G h R H' → ERel G R H' ρ' σ' → Agree A σ σ' → Q σ' H'
theorem soundG (g : GX G k X c W) (hh : c.hot = false) {tg : Tg} {e : Expr} (h : chkG c A tg e = true) : PG X e (rdG G A tg) := by
  unfold chkG at h
  split at h
  · simp only [Bool.and_eq_true, decide_eq_true_eq] at h
    obtain ⟨l1, l2⟩ := g.loc h.1.2
    refine pg_imp (pg_name (by rw [g.N]; exact g.nd) (by rw [g.N]; exact h.1.1) l1 l2) fun v σ H Q ⟨ρ, h0, R, x, ρ', sr, vr, e, q⟩ => ?_
    cases e
    exact q _ _ (Lq.refl _ _) sr.hr (sr.er.set _ vr) ((Agree.refl _ _).set (by simpa using h.2) _)
  · rename_i is es _ _
    obtain ⟨h1, h2⟩ := chkNs_each (env := X.env) h
    refine pg_imp (pg_or (pg_tup (g.calm hh) (pgs_names g h) h1 h2) (pg_lst (g.calm hh) (pgs_names g h) h1 h2)) fun v σ H Q ⟨ρ, h0, R, x, ρ', sr, vr, e, q⟩ => ?_
    simp only [bindTg] at e
    split at e
    · rename_i xs ev
      split at e <;> (try (cases e; done))
      rename_i hl
      cases e
      obtain ⟨a, vs, rfl, hq, rs⟩ := view_tup sr.hr vr ev
      have hl2 : vs.length = is.length := by rw [← rs.length]; exact hl
      exact .inl ⟨a, vs, rfl, by rw [g.s5.K]; exact hq, hl2, hl2, q _ _ (Lq.refl _ _) sr.hr (sr.er.sets rs) ((Agree.refl _ _).sets (chkNs_mem h))⟩
    · rename_i xs ev
      split at e <;> (try (cases e; done))
      rename_i hl
      cases e
      obtain ⟨a, vs, rfl, hq, rs⟩ := view_lst sr.hr vr ev
      have hl2 : vs.length = is.length := by rw [← rs.length]; exact hl
      exact .inr ⟨a, vs, rfl, by rw [g.s5.K]; exact hq.sq, hl2, hl2, q _ _ (Lq.refl _ _) sr.hr (sr.er.sets rs) ((Agree.refl _ _).sets (chkNs_mem h))⟩
    · cases e
  · rename_i is k es kk pos
    split at h <;> (try (cases h; done))
    rename_i es' hs
    obtain ⟨h1, h2, n, h3, h4⟩ := star_each (env := X.env) hs h
    have hn : n = is.length := by simp at h3; omega
    subst hn
    refine ⟨fun pins s σ H v u Q I r ⟨ρ, h0, R, x, ρ', sr, vr, e, q⟩ => ?_⟩
    simp only [bindTg] at e
    split at e <;> (try (cases e; done))
    · rename_i xs ev
      split at e <;> (try (cases e; done))
      rename_i hl
      cases e
      obtain ⟨a, vs, rfl, hq, rs⟩ := view_tup sr.hr vr ev
      cases r
      rw [← g.s5.K] at hq
      obtain ⟨its, rv, ht, hz⟩ := I.tuple hq
      have hvl := rv.length
      have hsz : its.length ≤ sizeLine := by
        have z : vs.length ≤ sizeLine := by simpa using hz
        rw [← hvl]; exact z
      refine assign_star (items := its.toArray) (i := is.length) I (show IsTup s.heap a its.toArray from ht) (I.ok.hd (g.calm hh)) (by rw [h2]; simp) h4 (by simp; rw [← hvl, ← rs.length]; exact hl) (by simpa using hsz) (fun D H' h' tk I2 hD => ?_) ⟨vs.drop is.length, by simpa using rv.drop is.length⟩
      obtain ⟨hDn, o, rfl⟩ := hD (vs.drop is.length) (by simpa using rv.drop is.length)
      rw [h1]
      have k2 : ∀ b u, H b = some u → upd H D (.frz o (.lst (vs.drop is.length))) b = some u := fun b u e => by rw [upd_ne (ne_of_none e hDn)]; exact e
      refine (pgs_names g h).run pins _ σ _ (vs.take is.length ++ [.ref D]) _ Q I2 (by
        have := (rv.take is.length).append (Paired.cons (show RelV (.ref D) (.ref D) from rfl) .nil)
        simpa using this) ⟨by
        have := rs.length
        simp
        omega, ?_⟩
      have sr2 := sr.er.mono (Lq.all (R := R) k2)
      have hr2 := sr.hr.grow k2
      have vrs : VRs G R _ (xs.take is.length ++ [.lst (xs.drop is.length)]) (vs.take is.length ++ [.ref D]) := ((rs.take _).mono (Lq.all k2)).append (.cons (.lst (.inl ⟨o, upd_same⟩) ((rs.drop _).mono (Lq.all k2))) .nil)
      have e1 : sets ρ (is ++ [k]) (xs.take is.length ++ [.lst (xs.drop is.length)]) = (sets ρ is xs).set k (some (.lst (xs.drop is.length))) := by
        unfold sets
        rw [List.zip_append (by simp; omega), List.foldl_append]
        rw [zip_take is xs]
        rfl
      have er := sr2.sets (is := is ++ [k]) vrs
      rw [e1] at er
      exact q _ _ (Lq.all k2) hr2 er ((Agree.refl _ _).sets (chkNs_mem h))
    · rename_i xs ev
      split at e <;> (try (cases e; done))
      rename_i hl
      cases e
      obtain ⟨a, vs, rfl, hq, rs⟩ := view_lst sr.hr vr ev
      cases r
      obtain ⟨hz, its, nn, rv, ht⟩ := Inv.exl g.s5 I hq
      have hvl := rv.length
      have hsz : its.length ≤ sizeLine := by
        rw [← hvl]; exact hz
      refine assign_starL (items := its.toArray) (i := is.length) I (show s.heap.IsList a its.toArray from ⟨_, ht, rfl, _, rfl⟩) (I.ok.hd (g.calm hh)) (by rw [h2]; simp) h4 (by simp; rw [← hvl, ← rs.length]; exact hl) (by simpa using hsz) (fun D H' h' tk I2 hD => ?_) ⟨vs.drop is.length, by simpa using rv.drop is.length⟩
      obtain ⟨hDn, o, rfl⟩ := hD (vs.drop is.length) (by simpa using rv.drop is.length)
      rw [h1]
      have k2 : ∀ b u, H b = some u → upd H D (.frz o (.lst (vs.drop is.length))) b = some u := fun b u e => by rw [upd_ne (ne_of_none e hDn)]; exact e
      refine (pgs_names g h).run pins _ σ _ (vs.take is.length ++ [.ref D]) _ Q I2 (by
        have := (rv.take is.length).append (Paired.cons (show RelV (.ref D) (.ref D) from rfl) .nil)
        simpa using this) ⟨by
        have := rs.length
        simp
        omega, ?_⟩
      have sr2 := sr.er.mono (Lq.all (R := R) k2)
      have hr2 := sr.hr.grow k2
      have vrs : VRs G R _ (xs.take is.length ++ [.lst (xs.drop is.length)]) (vs.take is.length ++ [.ref D]) := ((rs.take _).mono (Lq.all k2)).append (.cons (.lst (.inl ⟨o, upd_same⟩) ((rs.drop _).mono (Lq.all k2))) .nil)
      have e1 : sets ρ (is ++ [k]) (xs.take is.length ++ [.lst (xs.drop is.length)]) = (sets ρ is xs).set k (some (.lst (xs.drop is.length))) := by
        unfold sets
        rw [List.zip_append (by simp; omega), List.foldl_append]
        rw [zip_take is xs]
        rfl
      have er := sr2.sets (is := is ++ [k]) vrs
      rw [e1] at er
      exact q _ _ (Lq.all k2) hr2 er ((Agree.refl _ _).sets (chkNs_mem h))
  · cases h

/-! ### what is walked -/
/-- what an iterator yields is ours -/
def Steps (G : GD) (J : It) (xs : List T) (ok : Heap → Bool) (R1 : List Addr) (H1 : Hp) : Prop := ∀ i h R H, Lf R1 H1 R H → HRel G h R H → ok h = true →
  (xs.length ≤ i → J.stop i H) ∧ ∀ x, xs[i]? = some x → J.go i H ∧ ∀ v H', J.yld i H v H' → Lq R H R H' ∧ HRel G h R H' ∧ VR G R H' x v
theorem Steps.mono {J : It} {xs : List T} {ok : Heap → Bool} {R R' : List Addr} {H H' : Hp} (s : Steps G J xs ok R H) (q : Lq R H R' H') : Steps G J xs ok R' H' := fun i h R2 H2 l => s i h R2 H2 (q.lf.trans l)
def rdI (G : GD) (K : Cn) (W : WX) (kd : String) (es : List LE) : TI := fun σ H Q => ∃ ρ h R, SR G ρ h R σ H ∧
  Sat ((evEs K es ρ h).bind fun xs h => Rs.of (walked kd h xs) h) (fun p h' => ∀ R' H' J, Lq R H R' H' → HRel G h' R' H' → Steps G J p.1 (still p.2) R' H' → Q J H') (PostX G R H (At W σ))
theorem pi_imp {tg it : Expr} {t t' : TI} (h : PI X tg it t) (f : ∀ σ H Q, t' σ H Q → t σ H Q) : PI X tg it t' := ⟨fun pins s σ H R I q => h.run pins s σ H R I (f σ H R q)⟩
theorem rdI.bindA {kd : String} {es : List LE} {σ : St} {H : Hp} {Q : It → Hp → Prop} (o : rdI G K W kd es σ H Q) {P : List V → Hp → Prop}
    (k : ∀ ts h' R' H' vs xs gs, ts.length = es.length → HRel G h' R' H' → VRs G R' H' ts vs → walked kd h' ts = some (xs, gs) → (∀ J, Steps G J xs (still gs) R' H' → Q J H') → P vs H') : rdA G K W es σ H P := by
  obtain ⟨ρ, h, R, sr, o⟩ := o
  refine ⟨ρ, h, R, sr, (evEs_len (Sat.bind.mp o)).imp (fun ts h' s R' H' vs lq hr vr => ?_) fun _ _ x => x⟩
  obtain ⟨p, e, q⟩ := s.2.of
  exact k ts h' R' H' vs p.1 p.2 s.1 hr vr e fun J st => q R' H' J lq hr st
theorem still_one {x y : T} {h : Heap} (e : still [(x, y)] h = true) : view h x = some y := by simpa [still] using e
theorem still_two {x y z w : T} {h : Heap} (e : still [(x, z), (y, w)] h = true) : view h x = some z ∧ view h y = some w := by simpa [still] using e
theorem walk_val (g : GX G k X c W) {tg it : Expr} {te : TE} (he : PE X it te) : PI X tg it (fun σ H Q => te σ H fun x H1 => (∃ a, x = .ref a ∧ ((∃ xs, SqL X.K H1 a xs) ∧ Q (Itl X.K a) H1 ∨ (∃ xs, SqT X.K H1 a xs) ∧ Q (Itt X.K a) H1)) ∨ (∃ z, x = .str z ∧ Q (Its z) H1) ∨
    ∃ a R ks kvs vs, x = .ref a ∧ FzD G H1 a ks kvs vs ∧ VRs G R H1 ks kvs ∧ ∀ es ep, Drw X.K H1 a es ep → EntR es kvs vs → Q (Itdk X.K a es ep kvs vs) H1) := by
  refine ⟨fun pins s σ H Q I h => thn (he.run pins s σ H _ I h) fun u s1 ⟨x, H1, I1, r1, q1⟩ => ?_⟩
  rcases q1 with ⟨a, rfl, ⟨⟨xs, hq⟩, q⟩ | ⟨⟨xs, hq⟩, q⟩⟩ | ⟨z, rfl, q⟩ | ⟨a, R, ks, kvs, vs, rfl, hf, rk, q⟩
  · cases r1
    obtain ⟨its, rv, p, hz⟩ := I1.list hq
    exact wpAny_pyIter_list p.isList (pi_one (tk := s1.toks) I1 _ (turn_list a _) ⟨_, Heap.get?_push_size _ rfl, rfl, rfl⟩ q)
  · cases r1
    obtain ⟨its, rv, p, hz⟩ := I1.tuple hq
    exact wpAny_pyIter_tuple (show s1.heap.IsTuple a its.toArray from p) (pi_one (tk := s1.toks) I1 _ (turn_tuple a _) ⟨_, Heap.get?_push_size _ rfl, rfl, rfl⟩ q)
  · obtain ⟨t, rfl⟩ := r1
    cases ha : z.cps.all (· < 128) with
    | false => exact wpAny_pyIter_wide ha (pi_one (tk := s1.toks) I1 _ (turn_str _ z t "str_iterator" (.inr rfl)) ⟨_, Heap.get?_push_size _ rfl, rfl, rfl⟩ q)
    | true => exact wpAny_pyIter_ascii ha (pi_one (tk := s1.toks) I1 _ (turn_str _ z t "str_ascii_iterator" (.inl rfl)) ⟨_, Heap.get?_push_size _ rfl, rfl, rfl⟩ q)
  · cases r1
    obtain ⟨ne, es, ep, dr, er⟩ := drw_of g.s5 I1 hf rk
    exact wpAny_pyIter_dict_raw ne (dr.raw I1) (pi_one (tk := s1.toks) I1 _ (turn_dk _ er) ⟨_, Heap.get?_push_size _ rfl, rfl, rfl⟩ (q es ep dr er))
/-- d.items() walked -/
theorem items_val (g : GX G k X c W) {e : Expr} {te : TE} {elts : List Expr} {kk : Nat} {tpos apos cpos : Pos} (he : PE X e te) (hb : plainB e = true) (hl : (apos.endLine == cpos.line) = true) :
    PI X (.Tuple elts kk tpos) (.Call (.Attribute e "items" apos) [] [] cpos) (fun σ H Q => te σ H fun x H1 => ∃ a R ks kvs vs, x = .ref a ∧ FzD G H1 a ks kvs vs ∧ VRs G R H1 ks kvs ∧ ∀ es ep, Drw X.K H1 a es ep → EntR es kvs vs → Q (Itdi X.K a es ep kvs vs) H1) := by
  refine ⟨fun pins s σ H Q I h => ?_⟩
  refine wpAny_Call_method (T := "dict") (id := "dict.items") (base_plain hb _ _) rfl hl F.plainAttrs_dict F.slot_dict_items F.type_dict_items (thn (he.run pins s σ H _ I h) fun u s1 ⟨x, H1, I1, rx, a, R, ks, kvs, vs, ex, hf, rk, q⟩ => ?_)
  subst ex
  obtain rfl : u = Value.ref a := rx
  obtain ⟨ne, es, ep, dr, er⟩ := drw_of g.s5 I1 hf rk
  have d := dlk_fz g.s5 I1 hf rk
  refine ⟨d.typeIs, ?_, ?_⟩
  · obtain ⟨ob, h1, h2⟩ := d.noDict a rfl
    exact fun b z => by cases z; exact ⟨ob, h1, h2⟩
  have I2 : Inv X pins σ H1 { s1 with heap := s1.heap.push { cls := .type "dict_items", data := .fields #[.ref a] } } := I1.kept (t' := s1.toks) fun b ob q => Heap.get?_push_of_some _ q
  have fin : wpAny (model X.prog X.w) X.A (pyIter (.ref s1.heap.objs.size)) (PIE X pins σ (.Tuple elts kk tpos) Q) X.xe { s1 with heap := s1.heap.push { cls := .type "dict_items", data := .fields #[.ref a] } } :=
    wpAny_pyIter_items_raw (d := a) ⟨_, Heap.get?_push_size _ rfl, rfl, rfl⟩ (dr.raw I2) (pi_one (tk := s1.toks) I2 _ (turn_di _ er) ⟨.none, .none, Heap.get?_push_size _ rfl⟩ (q es ep dr er))
  show wpAny _ _ (callWith cpos (.builtin "dict.items") [.ref a] [] []) _ X.xe s1
  exact method_meetsIn F.slot_dict_items F.entry_dict_items rfl (PySem.evalArgs_none ⟨rfl, d.typeIs, F.args_dict_items_1 _, _, meets_dict_items_raw a ne, ⟨es, ep, dr.raw I1⟩, fin⟩)
theorem ref_lst {R : List Addr} {H : Hp} {h : Heap} {t : T} {a : Addr} {ys : List T} (hr : HRel G h R H) (vr : VR G R H t (.ref a)) (e : view h t = some (.lst ys)) : ∃ vs, SqL G.K H a vs ∧ VRs G R H ys vs := by
  obtain ⟨a', vs, e1, h1, h2⟩ := view_lst hr vr e
  cases e1
  exact ⟨vs, h1.sq, h2⟩
theorem ref_tup {R : List Addr} {H : Hp} {h : Heap} {t : T} {a : Addr} {ys : List T} (hr : HRel G h R H) (vr : VR G R H t (.ref a)) (e : view h t = some (.tup ys)) : ∃ vs, SqT G.K H a vs ∧ VRs G R H ys vs := by
  obtain ⟨a', vs, e1, h1, h2⟩ := view_tup hr vr e
  cases e1
  exact ⟨vs, h1, h2⟩
theorem step_lst {R1 : List Addr} {H1 : Hp} {t : T} {a : Addr} {ys : List T} (vr : VR G R1 H1 t (.ref a)) : Steps G (Itl G.K a) ys (still [(t, .lst ys)]) R1 H1 := fun i h R H lq hr ok => by
  obtain ⟨vs, h1, h2⟩ := ref_lst hr (vr.monoF lq) (still_one ok)
  refine ⟨fun hl => ⟨vs, h1, by rw [← h2.length]; exact hl⟩, fun x hx => ?_⟩
  obtain ⟨v, e1, r1⟩ := h2.get hx
  refine ⟨⟨vs, v, h1, e1⟩, fun v' H' ⟨e, q⟩ => ?_⟩
  subst e
  have := q vs h1
  rw [e1] at this
  cases this
  exact ⟨Lq.refl _ _, hr, r1⟩
theorem step_tup {R1 : List Addr} {H1 : Hp} {t : T} {a : Addr} {ys : List T} (vr : VR G R1 H1 t (.ref a)) : Steps G (Itt G.K a) ys (still [(t, .tup ys)]) R1 H1 := fun i h R H lq hr ok => by
  obtain ⟨vs, h1, h2⟩ := ref_tup hr (vr.monoF lq) (still_one ok)
  refine ⟨fun hl => ⟨vs, h1, by rw [← h2.length]; exact hl⟩, fun x hx => ?_⟩
  obtain ⟨v, e1, r1⟩ := h2.get hx
  refine ⟨⟨vs, v, h1, e1⟩, fun v' H' ⟨e, q⟩ => ?_⟩
  subst e
  have := q vs h1
  rw [e1] at this
  cases this
  exact ⟨Lq.refl _ _, hr, r1⟩
theorem step_str {R1 : List Addr} {H1 : Hp} {s : List Nat} {ok : Heap → Bool} : Steps G (Its (tx s)) (s.map fun c => T.str [c]) ok R1 H1 := fun i h R H lq hr _ => by
  refine ⟨fun hl => by show (tx s).cps.size ≤ i; simpa [tx] using hl, fun x hx => ⟨?_, fun v H' ⟨e, c, q, e2⟩ => ?_⟩⟩
  · have := (List.getElem?_eq_some_iff.mp hx).1
    show i < (tx s).cps.size
    simpa [tx] using this
  · subst e e2
    have q' : s[i]? = some c := by simpa [tx] using q
    rw [List.getElem?_map, q'] at hx
    cases hx
    exact ⟨Lq.refl _ _, hr, .str [c]⟩
theorem step_range {R1 : List Addr} {H1 : Hp} {lo hi : Int} {ok : Heap → Bool} : Steps G (Itr lo (hi - lo).toNat) (rangeT lo hi) ok R1 H1 := fun i h R H lq hr _ => by
  refine ⟨fun hl => by show (hi - lo).toNat ≤ i; simpa [rangeT] using hl, fun x hx => ⟨?_, fun v H' ⟨e, e2⟩ => ?_⟩⟩
  · have := (List.getElem?_eq_some_iff.mp hx).1
    show i < (hi - lo).toNat
    simpa [rangeT] using this
  · subst e e2
    have hi := (List.getElem?_eq_some_iff.mp hx).1
    simp only [rangeT, List.length_map, List.length_range] at hi
    simp only [rangeT, List.getElem?_map, List.getElem?_range hi] at hx
    cases hx
    exact ⟨Lq.refl _ _, hr, .int _⟩
theorem enumT_get : ∀ {xs : List T} {i k : Nat} {x : T}, (enumT k xs)[i]? = some x → ∃ y, xs[i]? = some y ∧ x = .tup [.int ((k + i : Nat) : Int), y]
  | [], i, k, x, h => by simp [enumT] at h
  | y :: ys, 0, k, x, h => by simp [enumT] at h; exact ⟨y, by simp, h.symm⟩
  | y :: ys, i + 1, k, x, h => by
    simp [enumT] at h
    obtain ⟨z, h1, h2⟩ := enumT_get h
    refine ⟨z, by simpa using h1, ?_⟩
    rw [h2]
    congr 3
    omega
theorem enumT_len : ∀ (xs : List T) (k : Nat), (enumT k xs).length = xs.length
  | [], _ => rfl
  | x :: xs, k => by simp [enumT, enumT_len xs]
theorem newTup {R : List Addr} {H : Hp} {h : Heap} (hr : HRel G h R H) {p : Addr} (hp : H p = none) {xs : List T} {vs : List V} (r : VRs G R H xs vs) : Lq R H R (upd H p (.tup vs)) ∧ HRel G h R (upd H p (.tup vs)) ∧ VR G R (upd H p (.tup vs)) (.tup xs) (.ref p) := by
  have k : ∀ b o, H b = some o → upd H p (.tup vs) b = some o := fun b o e => by rw [upd_ne (ne_of_none e hp)]; exact e
  exact ⟨Lq.all k, hr.grow k, .tup (.inl (.inl upd_same)) (r.mono (Lq.all k))⟩
theorem step_enum {R1 : List Addr} {H1 : Hp} {t : T} {a : Addr} {ys : List T} (vr : VR G R1 H1 t (.ref a)) : Steps G (Ite G.K a) (enumT 0 ys) (still [(t, .lst ys)]) R1 H1 := fun i h R H lq hr ok => by
  obtain ⟨vs, h1, h2⟩ := ref_lst hr (vr.monoF lq) (still_one ok)
  refine ⟨fun hl => ⟨vs, h1, by rw [← h2.length]; rw [enumT_len] at hl; exact hl⟩, fun x hx => ?_⟩
  obtain ⟨y, hy, rfl⟩ := enumT_get hx
  obtain ⟨v, e1, r1⟩ := h2.get hy
  refine ⟨⟨vs, v, h1, e1⟩, fun v' H' ⟨p, w, e, hp, e2, q⟩ => ?_⟩
  subst e e2
  have := q vs h1
  rw [e1] at this
  cases this
  have := newTup hr hp (.cons (.int (i : Int)) (.cons r1 .nil))
  simpa using this
theorem zipT_get : ∀ {xs ys : List T} {i : Nat} {x : T}, (zipT xs ys)[i]? = some x → ∃ y z, xs[i]? = some y ∧ ys[i]? = some z ∧ x = .tup [y, z]
  | [], _, i, x, h => by simp [zipT] at h
  | _ :: _, [], i, x, h => by simp [zipT] at h
  | y :: ys, z :: zs, 0, x, h => by simp [zipT] at h; exact ⟨y, z, by simp, by simp, h.symm⟩
  | y :: ys, z :: zs, i + 1, x, h => by
    simp [zipT] at h
    obtain ⟨u, w, h1, h2, h3⟩ := zipT_get h
    exact ⟨u, w, by simpa using h1, by simpa using h2, h3⟩
theorem zipT_len : ∀ (xs ys : List T), (zipT xs ys).length = min xs.length ys.length
  | [], _ => by simp [zipT]
  | _ :: _, [] => by simp [zipT]
  | x :: xs, y :: ys => by simp [zipT, zipT_len xs ys, Nat.succ_min_succ]
theorem step_zip {R1 : List Addr} {H1 : Hp} {t u : T} {a b : Addr} {ys zs : List T} (vr : VR G R1 H1 t (.ref a)) (vu : VR G R1 H1 u (.ref b)) : Steps G (Itz G.K a b) (zipT ys zs) (still [(t, .lst ys), (u, .lst zs)]) R1 H1 := fun i h R H lq hr ok => by
  obtain ⟨ok1, ok2⟩ := still_two ok
  obtain ⟨vs, h1, h2⟩ := ref_lst hr (vr.monoF lq) ok1
  obtain ⟨us, k1, k2⟩ := ref_lst hr (vu.monoF lq) ok2
  refine ⟨fun hl => ⟨vs, us, h1, k1, ?_⟩, fun x hx => ?_⟩
  · rw [zipT_len] at hl
    rw [← h2.length, ← k2.length]
    omega
  obtain ⟨y, z, hy, hz, rfl⟩ := zipT_get hx
  obtain ⟨v, e1, r1⟩ := h2.get hy
  obtain ⟨w, f1, s1⟩ := k2.get hz
  refine ⟨⟨vs, us, v, w, h1, k1, e1, f1⟩, fun v' H' ⟨p, x1, y1, e, hp, e2, q1, q2⟩ => ?_⟩
  subst e e2
  have t1 := q1 vs h1
  have t2 := q2 us k1
  rw [e1] at t1
  rw [f1] at t2
  cases t1
  cases t2
  exact newTup hr hp (.cons r1 (.cons s1 .nil))
theorem step_dk {R1 : List Addr} {H1 : Hp} {a : Addr} {es : Array DictEntry} {ep : Nat} {ks : List T} {kvs vs : List V} (dr : Drw G.K H1 a es ep) (rk : VRs G R1 H1 ks kvs) : Steps G (Itdk G.K a es ep kvs vs) ks (still []) R1 H1 := fun i h R H lq hr ok => by
  have hl := rk.length
  refine ⟨fun hi => ⟨dr.mono lq, by omega⟩, fun x hx => ?_⟩
  obtain ⟨v, e1, r1⟩ := rk.get hx
  refine ⟨⟨dr.mono lq, (List.getElem?_eq_some_iff.mp e1).1⟩, fun v' H' ⟨e, q⟩ => ?_⟩
  subst e
  rw [e1] at q
  cases q
  exact ⟨Lq.refl _ _, hr, r1.monoF lq⟩
theorem step_di {R1 : List Addr} {H1 : Hp} {a : Addr} {es : Array DictEntry} {ep : Nat} {ks ys : List T} {kvs vs : List V} (dr : Drw G.K H1 a es ep) (er : EntR es kvs vs) (rk : VRs G R1 H1 ks kvs) (rv : VRs G R1 H1 ys vs) : Steps G (Itdi G.K a es ep kvs vs) (zipT ks ys) (still []) R1 H1 := fun i h R H lq hr ok => by
  have hl := rk.length
  have hl2 := rv.length
  have hl3 := er.2.1
  refine ⟨fun hi => ⟨dr.mono lq, by rw [zipT_len] at hi; omega⟩, fun x hx => ?_⟩
  obtain ⟨y, z, hy, hz, rfl⟩ := zipT_get hx
  obtain ⟨v, e1, r1⟩ := rk.get hy
  obtain ⟨u, e2, r2⟩ := rv.get hz
  refine ⟨⟨dr.mono lq, (List.getElem?_eq_some_iff.mp e1).1⟩, fun v' H' ⟨p, k0, v0, q1, q2, e, hp, e3⟩ => ?_⟩
  subst e e3
  rw [e1] at q1
  rw [e2] at q2
  cases q1
  cases q2
  exact newTup hr hp (.cons (r1.monoF lq) (.cons (r2.monoF lq) .nil))
theorem vr_ref {R : List Addr} {H : Hp} {h : Heap} {t : T} {v : V} {ys : List T} (hr : HRel G h R H) (vr : VR G R H t v) (e : view h t = some (.lst ys)) : ∃ a vs, v = .ref a ∧ SqL G.K H a vs := by
  obtain ⟨a, vs, e1, h1, h2⟩ := view_lst hr vr e
  exact ⟨a, vs, e1, h1.sq⟩
theorem walk_one (g : GX G k X c W) {tg it : Expr} {le : LE} (he : PE X it (rdE G K W le)) : PI X tg it (rdI G K W "" [le]) := by
  refine pi_imp (walk_val g he) fun σ H Q ⟨ρ, h, R, sr, o⟩ => ?_
  refine ⟨ρ, h, R, sr, ?_⟩
  have o1 := Sat.bind.mp o
  unfold evEs at o1
  refine (Sat.bind.mp o1).imp (fun t h' s R' H' v lq hr vr => ?_) fun _ _ x => x
  unfold evEs at s
  obtain ⟨p, e, q⟩ := Sat.of s
  simp only [walked, if_true] at e
  split at e
  · rename_i ks ys e9
    cases e
    obtain rfl : t = .dct ks ys := by simpa using e9
    cases vr with
    | dct hf rk rv => exact .inr (.inr ⟨_, R', _, _, _, rfl, hf, rk, fun es ep dr er => q R' H' _ lq hr (by rw [g.s5.K] at dr ⊢; exact step_dk dr rk)⟩)
  · rename_i x0 a1 a2
    obtain rfl : t = x0 := by first | (simpa using a1) | (simpa using a2)
    split at e
    · rename_i ys ev
      cases e
      obtain ⟨a, vs, rfl, h1, h2⟩ := view_lst hr vr ev
      exact .inl ⟨a, rfl, .inl ⟨⟨vs, by rw [g.s5.K]; exact h1.sq⟩, q R' H' _ lq hr (by rw [g.s5.K]; exact step_lst vr)⟩⟩
    · rename_i ys ev
      cases e
      obtain ⟨a, vs, rfl, h1, h2⟩ := view_tup hr vr ev
      exact .inl ⟨a, rfl, .inr ⟨⟨vs, by rw [g.s5.K]; exact h1⟩, q R' H' _ lq hr (by rw [g.s5.K]; exact step_tup vr)⟩⟩
    · rename_i ys ev
      cases e
      obtain rfl := view_str vr ev
      exact .inr (.inl ⟨_, rfl, q R' H' _ lq hr step_str⟩)
    · cases e
  · cases e
theorem walk_items (g : GX G k X c W) {e : Expr} {le : LE} {elts : List Expr} {kk : Nat} {tpos apos cpos : Pos} (he : PE X e (rdE G K W le)) (hb : plainB e = true) (hl : (apos.endLine == cpos.line) = true) : PI X (.Tuple elts kk tpos) (.Call (.Attribute e "items" apos) [] [] cpos) (rdI G K W "items" [le]) := by
  refine pi_imp (items_val g he hb hl) fun σ H Q ⟨ρ, h, R, sr, o⟩ => ?_
  refine ⟨ρ, h, R, sr, ?_⟩
  have o1 := Sat.bind.mp o
  unfold evEs at o1
  refine (Sat.bind.mp o1).imp (fun t h' s R' H' v lq hr vr => ?_) fun _ _ x => x
  unfold evEs at s
  obtain ⟨p, e, q⟩ := Sat.of s
  simp only [walked] at e
  simp (config := { decide := true }) only [if_false, if_true] at e
  split at e <;> (try (cases e; done))
  rename_i ks ys e9
  cases e
  obtain ⟨rfl⟩ : t = .dct ks ys := by simpa using e9
  cases vr with
  | dct hf rk rv => exact ⟨_, R', _, _, _, rfl, hf, rk, fun es ep dr er => q R' H' _ lq hr (by rw [g.s5.K] at dr ⊢; exact step_di dr er rk rv)⟩
theorem big62_iff {i : Int} : big62 i = true ↔ -(2 ^ 62) ≤ i ∧ i < 2 ^ 62 := by simp [big62]
theorem walk_range (s : SX G k X c W K) {tg : Expr} {x : Str} {es : List LE} {xs : List Expr} {p pos : Pos} (hx : x = ("range" : Str)) (hg : isGlob c x = true) (hl : xs.length = 1 ∨ xs.length = 2) (hc : chkEs c es xs = true) (ha : PA X xs (rdA G K W es)) : PI X tg (.Call (.Name x p) xs [] pos) (rdI G K W "range" es) := by
  subst hx
  obtain ⟨hg1, hg2⟩ := s.g.gl hg
  have hm : X.mg ("range" : Str) = none := by rw [s.g.s5.mg]; exact s.ok.free "range" (by decide)
  match xs, es, hl, hc, ha with
  | [a], [l], _, hc, ha =>
    simp only [chkEs, Bool.and_eq_true] at hc
    refine pi_imp (pi_range1 hg1 hm ha (star_cons hc.1.1)) fun σ H Q o => ?_
    refine o.bindA fun ts h' R' H' vs ys gs hl hr vr e q => ?_
    simp only [walked] at e
    simp (config := { decide := true }) only [if_false, if_true] at e
    split at e <;> (try (cases e; done))
    · rename_i j
      split at e <;> (try (cases e; done))
      rename_i hb
      cases e
      obtain ⟨v, rfl, r⟩ := vr.one
      cases r
      have := big62_iff.mp hb
      refine ⟨j, rfl, this.1, this.2, q _ ?_⟩
      have z := step_range (G := G) (R1 := R') (H1 := H') (lo := 0) (hi := j) (ok := still [])
      rw [Int.sub_zero] at z
      exact z
    · simp at hl
  | [a, b], [l, m], _, hc, ha =>
    simp only [chkEs, Bool.and_eq_true] at hc
    refine pi_imp (pi_range2 hg1 hm ha (by rw [star_cons hc.1.1, star_cons hc.2.1.1]; rfl) (star_cons hc.2.1.1)) fun σ H Q o => ?_
    refine o.bindA fun ts h' R' H' vs ys gs hl hr vr e q => ?_
    simp only [walked] at e
    simp (config := { decide := true }) only [if_false, if_true] at e
    split at e <;> (try (cases e; done))
    · simp at hl
    · rename_i i j
      split at e <;> (try (cases e; done))
      rename_i hb
      cases e
      obtain ⟨v, w, rfl, r1, r2⟩ := vr.two
      cases r1
      cases r2
      simp only [Bool.and_eq_true] at hb
      have h1 := big62_iff.mp hb.1
      have h2 := big62_iff.mp hb.2
      exact ⟨i, j, rfl, ⟨h1.1, h1.2, h2.1, h2.2⟩, q _ step_range⟩
  | [a], [], _, hc, _ => simp [chkEs] at hc
  | [a], _ :: _ :: _, _, hc, _ => simp [chkEs] at hc
  | [a, b], [], _, hc, _ => simp [chkEs] at hc
  | [a, b], [_], _, hc, _ => simp [chkEs] at hc
  | [a, b], _ :: _ :: _ :: _, _, hc, _ => simp [chkEs] at hc
  | [], _, hl, _, _ => simp at hl
  | _ :: _ :: _ :: _, _, hl, _, _ => simp at hl
theorem walk_enum (s : SX G k X c W K) {es0 : List Expr} {kk : Nat} {tp : Pos} {x : Str} {l : LE} {e : Expr} {p pos : Pos} (hx : x = ("enumerate" : Str)) (hg : isGlob c x = true) (hp : plainE e = true) (ha : PA X [e] (rdA G K W [l])) : PI X (.Tuple es0 kk tp) (.Call (.Name x p) [e] [] pos) (rdI G K W "enumerate" [l]) := by
  subst hx
  obtain ⟨hg1, hg2⟩ := s.g.gl hg
  have hm : X.mg ("enumerate" : Str) = none := by rw [s.g.s5.mg]; exact s.ok.free "enumerate" (by decide)
  refine pi_imp (pi_enum hg1 hm ha (star_cons hp)) fun σ H Q o => ?_
  refine o.bindA fun ts h' R' H' vs ys gs hl hr vr e q => ?_
  simp only [walked] at e
  simp (config := { decide := true }) only [if_false, if_true] at e
  split at e <;> (try (cases e; done))
  split at e <;> (try (cases e; done))
  rename_i ev
  cases e
  obtain ⟨v, rfl, r⟩ := vr.one
  obtain ⟨a, us, rfl, h1⟩ := vr_ref hr r ev
  exact ⟨a, us, rfl, by rw [s.g.s5.K]; exact h1, q _ (by rw [s.g.s5.K]; exact step_enum r)⟩
theorem walk_zip (s : SX G k X c W K) {es0 : List Expr} {kk : Nat} {tp : Pos} {x : Str} {l l2 : LE} {e e2 : Expr} {p pos : Pos} (hx : x = ("zip" : Str)) (hg : isGlob c x = true) (hp : plainE e = true) (hp2 : plainE e2 = true) (ha : PA X [e, e2] (rdA G K W [l, l2])) :
    PI X (.Tuple es0 kk tp) (.Call (.Name x p) [e, e2] [] pos) (rdI G K W "zip" [l, l2]) := by
  subst hx
  obtain ⟨hg1, hg2⟩ := s.g.gl hg
  have hm : X.mg ("zip" : Str) = none := by rw [s.g.s5.mg]; exact s.ok.free "zip" (by decide)
  refine pi_imp (pi_zip hg1 hm ha (star_cons hp) (by rw [star_cons hp2]; rfl)) fun σ H Q o => ?_
  refine o.bindA fun ts h' R' H' vs ys gs hl hr vr e q => ?_
  simp only [walked] at e
  simp (config := { decide := true }) only [if_false, if_true] at e
  split at e <;> (try (cases e; done))
  split at e <;> (try (cases e; done))
  rename_i ev ev2
  cases e
  obtain ⟨v, w, rfl, r1, r2⟩ := vr.two
  obtain ⟨a, us, rfl, h1⟩ := vr_ref hr r1 ev
  obtain ⟨b, ws, rfl, h2⟩ := vr_ref hr r2 ev2
  exact ⟨a, b, us, ws, rfl, by rw [s.g.s5.K]; exact h1, by rw [s.g.s5.K]; exact h2, q _ (by rw [s.g.s5.K]; exact step_zip r1 r2)⟩
end
end Lite

/-! LITE, 11b: comprehensions. -/
namespace Lite
open PySem L2 PySem.Spec
open PyProof.Rows hiding St

/-- no exception is wanted -/
abbrev W0 : WX := fun _ _ _ _ => False
theorem relab_free {env : PySem.Env} : ∀ {names : List (Str × NameKind)} {x : Str}, names.lookup x = some .free →
    (names.map fun (n, k) => if (k == NameKind.free && env.scope.kind == .function && env.kindOf n == some .cell) then (n, NameKind.cell) else (n, k)).lookup x = some .free ∨
    (names.map fun (n, k) => if (k == NameKind.free && env.scope.kind == .function && env.kindOf n == some .cell) then (n, NameKind.cell) else (n, k)).lookup x = some .cell
  | [], _, h => by simp at h
  | (n, k) :: r, x, h => by
    have ih := @relab_free env r x
    rw [List.map_cons]
    simp only [List.lookup_cons] at h
    cases e : x == n with
    | true =>
      rw [e] at h
      cases h
      by_cases hc : (NameKind.free == NameKind.free && env.scope.kind == .function && env.kindOf n == some .cell) = true
      · right
        simp only [hc, if_true, List.lookup_cons, e]
      · left
        simp only [if_neg hc, List.lookup_cons, e]
    | false =>
      rw [e] at h
      have h2 := ih h
      by_cases hc : (k == NameKind.free && env.scope.kind == .function && env.kindOf n == some .cell) = true
      · simp only [hc, if_true, List.lookup_cons, e]; exact h2
      · simp only [if_neg hc, List.lookup_cons, e]; exact h2
theorem relab_keep {env : PySem.Env} : ∀ {names : List (Str × NameKind)} {x : Str} {k0 : NameKind}, k0 ≠ .free → names.lookup x = some k0 →
    (names.map fun (n, k) => if (k == NameKind.free && env.scope.kind == .function && env.kindOf n == some .cell) then (n, NameKind.cell) else (n, k)).lookup x = some k0
  | [], _, _, _, h => by simp at h
  | (n, k) :: r, x, k0, hk, h => by
    have ih := @relab_keep env r x k0 hk
    rw [List.map_cons]
    simp only [List.lookup_cons] at h
    cases e : x == n with
    | true =>
      rw [e] at h
      cases h
      have hc : ¬ (k == NameKind.free && env.scope.kind == .function && env.kindOf n == some .cell) = true := by
        intro z
        simp only [Bool.and_eq_true, beq_iff_eq] at z
        exact hk z.1.1
      simp only [if_neg hc, List.lookup_cons, e]
    | false =>
      rw [e] at h
      have h2 := ih h
      by_cases hc : (k == NameKind.free && env.scope.kind == .function && env.kindOf n == some .cell) = true
      · simp only [hc, if_true, List.lookup_cons, e]; exact h2
      · simp only [if_neg hc, List.lookup_cons, e]; exact h2
section
variable {G : GD} {k : Nat} {X : L2.Cx} {c : Sc} {W : WX} {K : Cn}
/-- a comprehension's block -/
theorem SX.blk (s : SX G k X c W K) (scope : Scope) (s0 : Shared) (H : Hp) (C : Addr) (cl : List (Str × Addr)) (fp : List Addr) : SX G k (X.blk s0 H scope (compEnvC scope cl C X.env) fp) { c with sc := scope } W0 K where
  ok := s.ok
  P := s.P
  kn := s.kn
  lv := s.lv
  kc := s.kc
  kx := s.kx
  kr := s.kr
  calls := s.calls
  init := s.init
  g := {
    s5 := ⟨s.g.s5.prog, s.g.s5.w, s.g.s5.K, s.g.s5.mg, s.g.s5.base⟩
    room := s.g.room
    un := s.g.un
    gd := s.g.gd
    calm := s.g.calm
    nm := s.g.nm
    N := s.g.N
    nd := s.g.nd
    sc1 := fun x kd hk h => relab_keep hk h
    sc2 := fun x h => relab_free h
    fnc := fun x h => by
      have h' : scope.names.lookup x = some .cell := h
      show (scope.names.lookup x == some .cell) = true
      rw [h']
      rfl
    tk := fun u s' ⟨_, _, _, _, _, _, _, _, _, _, _, _, _, _, _, _, w⟩ => w
    po := fun _ => PassesOwn.never }
theorem blk_ok (g : GX G k X c W) {scope : Scope} {own : List (Str × Nat)} (h : blkC c.N c.sc scope own = true) : BlkOk X.N X.env.scope scope own := by
  have b := blkOk_by h
  refine ⟨b.kind, b.uniq, fun p hp => by rw [g.N]; exact b.ix p hp, fun y hy e => ?_, fun y hy e => by rw [g.N]; exact b.own y hy e⟩
  rcases b.free y hy e with z | z
  · exact .inl (g.sc1 _ _ (by decide) z)
  · exact (g.sc2 _ z).symm
theorem wipe_in {σ : St} {i : Nat} : ∀ {vs : List Nat}, i ∈ vs → i < σ.length → (L2.wipe σ vs)[i]? = some none
  | [], h, _ => by simp at h
  | v :: vs, h, hl => by
    show ((L2.wipe σ vs).set v none)[i]? = _
    by_cases e : v = i
    · subst e
      rw [List.getElem?_set_self (by rw [wipe_length]; exact hl)]
    · rw [List.getElem?_set_ne e]
      rcases List.mem_cons.mp h with z | z
      · exact absurd z.symm e
      · exact wipe_in z hl
theorem wipe_agree {σ σ2 : St} {vs : List Nat} (a : Agree vs (L2.wipe σ vs) σ2) : L2.wipe σ2 vs = L2.wipe σ vs := by
  have hl : σ2.length = σ.length := by rw [a.1, wipe_length]
  refine List.ext_getElem? fun i => ?_
  by_cases hi : i ∈ vs
  · by_cases hlt : i < σ.length
    · rw [wipe_in hi hlt, wipe_in hi (by omega)]
    · rw [List.getElem?_eq_none (by rw [wipe_length]; omega), List.getElem?_eq_none (by rw [wipe_length]; omega)]
  · rw [wipe_out hi, a.2 i hi]
theorem wipe_eq (ρ : Rho) : ∀ own : List Nat, Lite.wipe ρ own = own.foldr (fun i r => r.set i none) ρ := fun _ => rfl

/-! ### tests -/
def rdIf (G : GD) (K : Cn) (W : WX) (ifs : List LE) : TT := fun σ H Q => ∃ ρ h R, SR G ρ h R σ H ∧ Sat (evIfs K ifs ρ h) (PostB G R H Q) (PostX G R H (At W σ))
theorem ifs_nil : PTs X [] (rdIf G K W []) := ⟨fun pins s σ H Q I ⟨ρ, h, R, sr, o⟩ => pts_nil.run pins s σ H Q I (by
  unfold evIfs at o
  exact o R H (Lq.refl _ _) sr.hr)⟩
theorem ifs_one {l : LE} {e : Expr} (h : PT X e (rdT G K W l)) : PTs X [e] (rdIf G K W [l]) := ⟨fun pins s σ H Q I ⟨ρ, h0, R, sr, o⟩ => (pts_one h).run pins s σ H Q I ⟨ρ, h0, R, sr, by
  unfold evIfs at o
  refine Sat.bind.mpr ((Sat.bind.mp o).imp (fun t h' s => ?_) fun _ _ z => z)
  cases e1 : truth h' t with
  | none => rw [e1] at s; exact s.elim
  | some b =>
    rw [e1] at s
    cases b with
    | true => unfold evIfs at s; exact s
    | false => exact s⟩⟩
theorem Sat.calm {α : Type} {r : Rs α} {Q : α → Heap → Prop} {E E' : T → Heap → Prop} (s : Sat r.calm Q E) : Sat r Q E' := by
  cases r with
  | ok a h => exact s
  | exc e h => exact s.elim
  | stuck => exact s.elim

/-! ### one clause -/
/-- a turn's state: the places, the new list at D -/
structure TurnS (G : GD) (R1 : List Addr) (H1 : Hp) (D : Addr) (acc : List T) (h : Heap) (R : List Addr) (H : Hp) : Prop where
  lq : Lq R1 H1 R H
  hr : HRel G h R H
  out : D ∉ R
  at_ : ∃ vs, H D = some (.lst vs) ∧ VRs G R H acc vs
theorem TurnS.later {R1 R R' : List Addr} {H1 H H' : Hp} {D : Addr} {acc : List T} {h h' : Heap} (t : TurnS G R1 H1 D acc h R H) (lq : Lq R H R' H') (hr : HRel G h' R' H') : TurnS G R1 H1 D acc h' R' H' := by
  obtain ⟨vs, e, r⟩ := t.at_
  refine ⟨t.lq.trans lq, hr, fun z => ?_, vs, lq.keep D _ e (.inl t.out), r.mono lq⟩
  have := lq.new D z t.out
  rw [e] at this
  cases this
theorem TurnS.app {R1 R : List Addr} {H1 H : Hp} {D : Addr} {acc : List T} {h : Heap} {y : T} {v : V} (t : TurnS G R1 H1 D acc h R H) (hD : H1 D = none) (r : VR G R H y v) {vs : List V} (e : H D = some (.lst vs)) : TurnS G R1 H1 D (acc ++ [y]) h R (upd H D (.lst (vs ++ [v]))) := by
  obtain ⟨vs', e', rs⟩ := t.at_
  rw [e] at e'
  cases e'
  obtain ⟨hr2, lf⟩ := t.hr.aside (u := .lst (vs ++ [v])) t.out e (by simp [FT])
  refine ⟨⟨t.lq.pre, t.lq.new, fun b o q cc => ?_⟩, hr2, t.out, vs ++ [v], upd_same, (rs.monoF lf).append (.cons (r.monoF lf) .nil)⟩
  rw [upd_ne (ne_of_none q hD)]
  exact t.lq.keep b o q cc
/-- the end: the new list is ours -/
theorem TurnS.loc {R1 R : List Addr} {H1 H : Hp} {D : Addr} {acc : List T} {h : Heap} {Q : VK} (t : TurnS G R1 H1 D acc h R H) (hD : H1 D = none) (p : PostE G R1 H1 Q (.loc h.length) (h ++ [.lst acc])) : Q (.ref D) H := by
  obtain ⟨vs, e, rs⟩ := t.at_
  have pre : ∀ (n : Nat) (a : Addr), R[n]? = some a → (R ++ [D])[n]? = some a := fun n a q => by rw [List.getElem?_append_left (List.getElem?_eq_some_iff.mp q).1]; exact q
  have lf : Lf R H (R ++ [D]) H := ⟨pre, fun _ _ z _ => z⟩
  refine p (R ++ [D]) H _ ⟨fun n a q => pre n a (t.lq.pre n a q), fun a ha n => ?_, t.lq.keep⟩ ⟨by simp [t.hr.len], ?_, fun a ha => ?_, fun n o a e1 e2 => ?_⟩ (.loc (by rw [← t.hr.len]; simp))
  · rcases List.mem_append.mp ha with z | z
    · exact t.lq.new a z n
    · rw [List.mem_singleton.mp z]; exact hD
  · rw [List.nodup_append]
    exact ⟨t.hr.nd, by simp, fun a ha b hb => by simp at hb; subst hb; intro z; exact t.out (z ▸ ha)⟩
  · rcases List.mem_append.mp ha with z | z
    · exact t.hr.live a z
    · rw [List.mem_singleton.mp z, e]; simp
  · by_cases hn : n < h.length
    · rw [List.getElem?_append_left hn] at e1
      rw [List.getElem?_append_left (by rw [t.hr.len]; exact hn)] at e2
      exact (t.hr.obj n o a e1 e2).monoF lf fun _ z => z
    · have hn' : n = h.length := by
        have := (List.getElem?_eq_some_iff.mp e1).1
        simp at this
        omega
      subst hn'
      simp at e1
      rw [← t.hr.len] at e2
      simp at e2
      subst e1 e2
      exact ⟨vs, e, rs.monoF lf⟩
/-- the end: the new list is locked -/
theorem TurnS.frz {R1 R : List Addr} {H1 H : Hp} {D : Addr} {acc : List T} {h : Heap} {Q : VK} (t : TurnS G R1 H1 D acc h R H) (hD : H1 D = none) (p : PostE G R1 H1 Q (.lst acc) h) : LockQ Q (.ref D) H := by
  obtain ⟨vs, e, rs⟩ := t.at_
  refine ⟨D, fun b => if b = D then none else H b, vs, rfl, if_pos rfl, ?_, fun o => ?_⟩
  · funext b
    unfold upd
    by_cases z : b = D
    · rw [if_pos z, z, e]
    · rw [if_neg z]
      exact (if_neg z).symm
  · have eu : upd (fun b => if b = D then none else H b) D (.frz o (.lst vs)) = upd H D (.frz o (.lst vs)) := by
      funext b
      unfold upd
      by_cases z : b = D
      · rw [if_pos z, if_pos z]
      · rw [if_neg z, if_neg z]
        exact if_neg z
    rw [eu]
    obtain ⟨hr2, lf⟩ := t.hr.aside (u := .frz o (.lst vs)) t.out e (by simp [FT])
    refine p R _ _ ⟨t.lq.pre, t.lq.new, fun b u q cc => ?_⟩ hr2 (.lst (.inl ⟨o, upd_same⟩) (rs.monoF lf))
    rw [upd_ne (ne_of_none q hD)]
    exact t.lq.keep b u q cc
/-- the loop of a comprehension, by ours -/
theorem lc_loop {kd : String} {it : List LE} {own : List Nat} {elt : LE} {tg : Tg} {ifs : List LE} {σ : St} {H : Hp} {Q : VK} {fin : List T → Heap → Rs T}
    (o : ∃ ρ h R, SR G ρ h R σ H ∧ Sat ((evEs K it ρ h).bind fun xs h => match walked kd h xs with
      | some (xs, gs) => (turns (still gs) (fun x h => withB (bindTg tg x h (wipe ρ own)) fun ρ => ((evIfs K ifs ρ h).bind fun b h => if b then (evE K elt ρ h).bind fun y h => .ok (some y) h else .ok none h).calm) xs [] h).bind fin
      | none => .stuck) (PostE G R H Q) (PostX G R H (At W σ)))
    (hfin : ∀ ys h, Sat (fin ys h) (fun _ _ => True) (fun _ _ => True) → ys.length ≤ top)
    (Q2 : VK) (hQ : ∀ R1 H1 D acc h R H, H1 D = none → TurnS G R1 H1 D acc h R H → Sat (fin acc h) (PostE G R1 H1 Q) (PostX G R1 H1 (At W σ)) → Q2 (.ref D) H) :
    tLc (rdI G K W kd it) (rdG G own tg) (rdIf G K W0 ifs) (rdE G K W0 elt) own σ H Q2 := by
  obtain ⟨ρ, h, R, sr, o⟩ := o
  refine ⟨ρ, h, R, sr, Sat.bind.mpr ((Sat.bind.mp o).imp (fun ts h1 o1 => ?_) fun _ _ z => z)⟩
  cases ew : walked kd h1 ts with
  | none => rw [ew] at o1; exact o1.elim
  | some p =>
    obtain ⟨xs, gs⟩ := p
    rw [ew] at o1
    show Sat (.ok (xs, gs) h1) _ _
    intro R1 H1 J lq1 hr1 st D hD
    have o2 := Sat.later (later_E Q) lq1 o1
    have kD : ∀ b o, H1 b = some o → upd H1 D (.lst []) b = some o := fun b o e => by rw [upd_ne (ne_of_none e hD)]; exact e
    refine ⟨fun i m H' => m = xs.length - i ∧ i ≤ xs.length ∧ ∃ h' R' acc, TurnS G R1 H1 D acc h' R' H' ∧
        Sat ((turns (still gs) (fun x h => withB (bindTg tg x h (wipe ρ own)) fun ρ => ((evIfs K ifs ρ h).bind fun b h => if b then (evE K elt ρ h).bind fun y h => .ok (some y) h else .ok none h).calm) (xs.drop i) acc h').bind fin) (PostE G R1 H1 Q) (PostX G R1 H1 (At W σ)),
      ⟨xs.length, by simp, Nat.zero_le _, h1, R1, [], ⟨Lq.all kD, hr1.grow kD, fun z => hr1.live D z hD, [], upd_same, .nil⟩, by simpa using o2⟩, ?_⟩
    rintro i m H' ⟨rfl, hi, h', R', acc, ts', o3⟩
    by_cases hlt : i < xs.length
    · right
      rw [List.drop_eq_getElem_cons hlt] at o3
      unfold turns at o3
      split at o3 <;> (try (exact o3.elim))
      rename_i hok
      obtain ⟨st1, st2⟩ := st i h' R' H' ts'.lq.lf ts'.hr hok
      obtain ⟨go, yl⟩ := st2 xs[i] (by simp [hlt])
      refine ⟨go, _, fun H2 w => ⟨xs.length - (i + 1), by omega, w⟩, fun v H2 hy => ?_⟩
      obtain ⟨lq2, hr2, vr⟩ := yl v H2 hy
      have ts2 := ts'.later lq2 hr2
      rw [bind_assoc] at o3
      cases eb : bindTg tg xs[i] h' (wipe ρ own) with
      | none => rw [eb] at o3; exact o3.elim
      | some ρ2 =>
        rw [eb, withB_some] at o3
        have erw : ERel G R' H2 (wipe ρ own) (L2.wipe σ own) := ((sr.er.mono lq1).mono (ts'.lq.trans lq2)).wipe own
        refine ⟨wipe ρ own, h', R', xs[i], ρ2, ⟨hr2, erw⟩, vr, eb, fun σ3 H3 lq3 hr3 er3 ag3 => ⟨wipe_agree ag3, ?_⟩⟩
        have ts3 := ts2.later lq3 hr3
        have o4 := Sat.calm (E' := fun _ _ => False) (Sat.bind.mp o3)
        refine ⟨ρ2, h', R', ⟨hr3, er3⟩, (Sat.bind.mp o4).imp (fun b h4 o5 => ?_) fun _ _ z => z.elim⟩
        intro R4 H4 lq4 hr4
        have ts4 := ts3.later lq4 hr4
        cases b with
        | false =>
          rw [if_neg Bool.false_ne_true] at o5 ⊢
          exact ⟨rfl, hlt, h4, R4, acc, ts4, o5⟩
        | true =>
          rw [if_pos rfl] at o5 ⊢
          refine ⟨ρ2, h4, R4, ⟨hr4, er3.mono lq4⟩, (Sat.bind.mp o5).imp (fun y h6 o6 => ?_) fun _ _ z => z.elim⟩
          intro R6 H6 v6 lq6 hr6 vr6
          have ts6 := ts4.later lq6 hr6
          obtain ⟨vs, e6, rs6⟩ := ts6.at_
          refine ⟨vs, e6, ?_, rfl, hlt, h6, R6, acc ++ [y], ts6.app hD vr6 e6, o6⟩
          have hle : (acc ++ [y]).length ≤ top := by
            have key : ∀ (zs : List T) (a : List T) (hh : Heap) (P : T → Heap → Prop) (E : T → Heap → Prop), Sat ((turns (still gs) (fun x h => withB (bindTg tg x h (wipe ρ own)) fun ρ => ((evIfs K ifs ρ h).bind fun b h => if b then (evE K elt ρ h).bind fun y h => .ok (some y) h else .ok none h).calm) zs a hh).bind fin) P E → a.length ≤ top := fun zs => by
              induction zs with
              | nil =>
                intro a hh P E q
                unfold turns at q
                split at q <;> (try (exact q.elim))
                exact hfin a hh (Sat.imp q (fun _ _ _ => trivial) fun _ _ _ => trivial)
              | cons z zs ih =>
                intro a hh P E q
                unfold turns at q
                split at q <;> (try (exact q.elim))
                rw [bind_assoc] at q
                cases ez : bindTg tg z hh (wipe ρ own) with
                | none => rw [ez] at q; exact q.elim
                | some ρz =>
                  rw [ez, withB_some] at q
                  cases er : ((evIfs K ifs ρz hh).bind fun b h => if b then (evE K elt ρz h).bind fun y h => Rs.ok (some y) h else .ok none h).calm with
                  | stuck => rw [er] at q; exact q.elim
                  | exc e h7 =>
                    exfalso
                    revert er
                    cases ((evIfs K ifs ρz hh).bind fun b h => if b then (evE K elt ρz h).bind fun y h => Rs.ok (some y) h else .ok none h) <;> intro er <;> cases er
                  | ok w h7 =>
                    rw [er] at q
                    cases w with
                    | none => exact ih a h7 P E q
                    | some w =>
                      have := ih (a ++ [w]) h7 P E q
                      simp at this
                      omega
            exact key _ _ _ _ _ o6
          rw [← rs6.length]
          rw [List.length_append, List.length_singleton] at hle
          change acc.length + 1 ≤ 16777216 at hle
          rw [top_eq]
          show acc.length < 16777216
          omega
    · left
      have e : i = xs.length := by omega
      subst e
      rw [List.drop_length] at o3
      unfold turns at o3
      split at o3 <;> (try (exact o3.elim))
      rename_i hok
      exact ⟨(st _ h' R' H' ts'.lq.lf ts'.hr hok).1 (Nat.le_refl _), hQ R1 H1 D acc h' R' H' hD ts' o3⟩
theorem ownN_ix (c : Sc) (own : List Nat) : (ownN c own).map (·.2) = own := by
  unfold ownN
  rw [List.map_map]
  exact List.map_id _
theorem fold_ok {it : Expr} (h : chkOne it = true) (env : PySem.Env) (x : Value) : foldedSetIterable it env x = pure x := by
  cases it <;> first | rfl | cases h
/-- what a comprehension wants of its parts -/
structure CompOk (G : GD) (X : L2.Cx) (c : Sc) (W : WX) (K : Cn) (scope : Scope) (own : List Nat) (elt : LE) (tg : Tg) (kd : String) (it : List LE) (ifs : List LE) (e t i : Expr) (is : List Expr) : Prop where
  blk : blkC c.N c.sc scope (ownN c own) = true
  one : chkOne i = true
  hi : PI X t i (rdI G K W kd it)
  hg : ∀ (s : Shared) (H : Hp) (C : Addr) (cl : List (Str × Addr)) (fp : List Addr), PG (X.blk s H scope (compEnvC scope cl C X.env) fp) t (rdG G own tg)
  ht : ∀ (s : Shared) (H : Hp) (C : Addr) (cl : List (Str × Addr)) (fp : List Addr), PTs (X.blk s H scope (compEnvC scope cl C X.env) fp) is (rdIf G K W0 ifs)
  he : ∀ (s : Shared) (H : Hp) (C : Addr) (cl : List (Str × Addr)) (fp : List Addr), PE (X.blk s H scope (compEnvC scope cl C X.env) fp) e (rdE G K W0 elt)
theorem comp_len {ys : List T} {h : Heap} {m : Bool} (q : Sat (if ys.length ≤ top then (if m then newO h (.lst ys) else Rs.ok (T.lst ys) h) else .stuck) (fun _ _ => True) (fun _ _ => True)) : ys.length ≤ top := by
  split at q
  · assumption
  · exact q.elim
theorem comp_end {R1 R : List Addr} {H1 H : Hp} {D : Addr} {acc : List T} {h : Heap} {Q : VK} {E : T → Heap → Prop} (hD : H1 D = none) (t : TurnS G R1 H1 D acc h R H) (q : Sat (if acc.length ≤ top then newO h (.lst acc) else .stuck) (PostE G R1 H1 Q) E) : Q (.ref D) H := by
  split at q
  · exact t.loc hD q
  · exact q.elim
theorem comp_endF {R1 R : List Addr} {H1 H : Hp} {D : Addr} {acc : List T} {h : Heap} {Q : VK} {E : T → Heap → Prop} (hD : H1 D = none) (t : TurnS G R1 H1 D acc h R H) (q : Sat (if acc.length ≤ top then Rs.ok (T.lst acc) h else .stuck) (PostE G R1 H1 Q) E) : LockQ Q (.ref D) H := by
  split at q
  · exact t.frz hD q
  · exact q.elim
theorem sd_comp (g : GX G k X c W) (hh : c.hot = false) {scope : Scope} {own : List Nat} {elt : LE} {tg : Tg} {kd : String} {it : List LE} {ifs : List LE} {e t i : Expr} {is : List Expr} {p : Pos} (m : Bool) (o : CompOk G X c W K scope own elt tg kd it ifs e t i is) :
    PE X (.ListComp e [⟨t, i, is, 0⟩] scope p) (rdE G K W (.comp m own elt tg kd it ifs)) := by
  have hN : X.N.Nodup := by rw [g.N]; exact g.nd
  have base := pe_lc (pos := p) (g.calm hh) hN o.hi (blk_ok g o.blk) o.hg o.ht o.he (fold_ok o.one _)
  rw [ownN_ix] at base
  cases m with
  | true =>
    refine pe_imp base fun σ H Q ⟨ρ, h, R, sr, oo⟩ => ?_
    unfold evE at oo
    exact lc_loop ⟨ρ, h, R, sr, oo⟩ (fun ys h q => comp_len (m := true) q) Q fun R1 H1 D acc h R H hD ts q => comp_end hD ts q
  | false =>
    refine pe_imp (pe_lock base) fun σ H Q ⟨ρ, h, R, sr, oo⟩ => ?_
    unfold evE at oo
    exact lc_loop ⟨ρ, h, R, sr, oo⟩ (fun ys h q => comp_len (m := false) q) (LockQ Q) fun R1 H1 D acc h R H hD ts q => comp_endF hD ts q
theorem tLc_imp {wi : TI} {g : TG} {tt : TT} {te : TE} {vs : List Nat} {σ : St} {H : Hp} {Q Q' : VK} (hq : ∀ v H, Q v H → Q' v H) (hwi : True := trivial) (z : tLc wi g tt te vs σ H Q) (mono : ∀ R R' : It → Hp → Prop, (∀ J H, R J H → R' J H) → wi σ H R → wi σ H R') : tLc wi g tt te vs σ H Q' := by
  refine mono _ _ (fun J H1 q D hD => ?_) z
  obtain ⟨W, w0, st⟩ := q D hD
  refine ⟨W, w0, fun i m H w => (st i m H w).imp (fun ⟨a, b⟩ => ⟨a, hq _ _ b⟩) id⟩
theorem rdI_mono {kd : String} {es : List LE} {σ : St} {H : Hp} (R R' : It → Hp → Prop) (f : ∀ J H, R J H → R' J H) : rdI G K W kd es σ H R → rdI G K W kd es σ H R' := fun ⟨ρ, h, R0, sr, o⟩ => ⟨ρ, h, R0, sr, o.imp (fun p h' s R' H' J l hr st => f _ _ (s R' H' J l hr st)) fun _ _ z => z⟩
theorem st_comp (g : GX G k X c W) (hh : c.hot = false) {A : List Nat} {scope : Scope} {own : List Nat} {elt : LE} {tg : Tg} {kd : String} {it : List LE} {ifs : List LE} {e t i : Expr} {is : List Expr} {p sp py : Pos} {y : Str} {j : Nat} (m : Bool) (o : CompOk G X c W K scope own elt tg kd it ifs e t i is)
    (h1 : c.N[j]? = some y) (h2 : c.sc.names.lookup y = some .local) (h3 : j ∈ A) (hl : (py.line == p.line) = true) (ha : (scope.names.any fun (n, k) => n == y && (k == .local || k == .cell)) = false) :
    PS X (.Assign [.Name y py] (.ListComp e [⟨t, i, is, 0⟩] scope p) sp) (rdS G K W A (.set j (.comp m own elt tg kd it ifs))) := by
  have hN : X.N.Nodup := by rw [g.N]; exact g.nd
  have hy := g.sc1 y _ (by decide) h2
  refine ⟨fun pins s σ H D I q => ?_⟩
  have hk : X.env.scope.kind = .function := I.ok.kind
  have hsw : swapsWith (.ListComp e [⟨t, i, is, 0⟩] scope p) (some (.Name y py)) sp.line X.env = pure true := sw_true hk hy hl ha
  have base := ps_setLc (g.calm hh) hN (by rw [g.N]; exact h1) hy hsw o.hi (blk_ok g o.blk) o.hg o.ht o.he (fold_ok o.one _)
  rw [ownN_ix] at base
  obtain ⟨ρ, h, R, sr, oo⟩ := q
  unfold exS at oo
  have oe : rdE G K W (.comp m own elt tg kd it ifs) σ H (fun v H' => D.nx (σ.set j (some v)) H') := rdE.bindS sr oo fun t h1 R1 H1 v sr1 lq vr o1 => o1 R1 H1 _ (Lq.refl _ _) sr1.hr (sr1.er.set _ vr) ((Agree.refl _ _).set h3 _)
  obtain ⟨ρ', h', R', sr', oo'⟩ := oe
  unfold evE at oo'
  cases m with
  | true =>
    exact base.run pins s σ H D I (lc_loop ⟨ρ', h', R', sr', oo'⟩ (fun ys h q => comp_len (m := true) q) (fun v H' => D.nx (σ.set j (some v)) H') fun R1 H1 D acc h R H hD ts q => comp_end hD ts q)
  | false =>
    -- the list is locked once it is bound
    have z := lc_loop (Q := fun v H' => D.nx (σ.set j (some v)) H') ⟨ρ', h', R', sr', oo'⟩ (fun ys h q => comp_len (m := false) q) (LockQ fun v H' => D.nx (σ.set j (some v)) H') fun R1 H1 D acc h R H hD ts q => comp_endF hD ts q
    refine thn (base.run pins s σ H { D with nx := fun σ' H' => ∃ v, σ' = σ.set j (some v) ∧ LockQ (fun v H' => D.nx (σ.set j (some v)) H') v H' } I ?_) fun f s' hs => ?_
    · exact tLc_imp (fun v H' q => ⟨v, rfl, q⟩) trivial z rdI_mono
    · cases f with
      | next =>
        obtain ⟨σ', H', I', v, rfl, q⟩ := hs
        obtain ⟨p', H2, ys, rfl, hp, rfl, q⟩ := q
        obtain ⟨ob, I2⟩ := Inv.lock I' (p := p') upd_same
        rw [upd_upd] at I2
        exact ⟨_, _, I2, q ob⟩
      | ret u => exact hs
      | brk => exact hs
      | cont => exact hs
end
end Lite

/-! LITE, 11c: comprehensions of two clauses. -/
namespace Lite
open PySem L2 PySem.Spec
open PyProof.Rows hiding St
section
variable {G : GD} {k : Nat} {X : L2.Cx} {c : Sc} {W : WX} {K : Cn}
/-- the second clause's turn, the first clause's turn -/
abbrev turn2 (K : Cn) (ρ : Rho) (own1 : List Nat) (elt : LE) (tg1 : Tg) (ifs1 : List LE) : T → Heap → Rs (Option T) := fun x h => withB (bindTg tg1 x h (wipe ρ own1)) fun ρ => (evIfs K ifs1 ρ h).bind fun b h => if b then (evE K elt ρ h).bind fun y h => .ok (some y) h else .ok none h
abbrev turn1 (K : Cn) (ρ : Rho) (own : List Nat) (elt : LE) (tg : Tg) (ifs : List LE) (own1 : List Nat) (tg1 : Tg) (k1 : String) (it1 : List LE) (ifs1 : List LE) : T → Heap → Rs (Option (List T)) := fun x h => withB (bindTg tg x h (wipe ρ own)) fun ρ => ((evIfs K ifs ρ h).bind fun b h => if b then (evEs K it1 ρ h).bind fun x1 h => (match walked k1 h x1 with
  | some (xs1, gs1) => (turns (still gs1) (turn2 K ρ own1 elt tg1 ifs1) xs1 [] h).bind fun ys h => .ok (some ys) h
  | none => .stuck) else .ok none h).calm
theorem turn1_some {K : Cn} {ρ ρ2 : Rho} {own own1 : List Nat} {elt : LE} {tg tg1 : Tg} {k1 : String} {it1 ifs ifs1 : List LE} {x : T} {h : Heap} (e : bindTg tg x h (wipe ρ own) = some ρ2) :
    turn1 K ρ own elt tg ifs own1 tg1 k1 it1 ifs1 x h = ((evIfs K ifs ρ2 h).bind fun b h => if b then (evEs K it1 ρ2 h).bind fun x1 h => (match walked k1 h x1 with
      | some (xs1, gs1) => (turns (still gs1) (turn2 K ρ2 own1 elt tg1 ifs1) xs1 [] h).bind fun ys h => .ok (some ys) h
      | none => .stuck) else .ok none h).calm := by
  show withB (bindTg tg x h (wipe ρ own)) _ = _
  rw [e]
  rfl
theorem turn1_none {K : Cn} {ρ : Rho} {own own1 : List Nat} {elt : LE} {tg tg1 : Tg} {k1 : String} {it1 ifs ifs1 : List LE} {x : T} {h : Heap} (e : bindTg tg x h (wipe ρ own) = none) : turn1 K ρ own elt tg ifs own1 tg1 k1 it1 ifs1 x h = .stuck := by
  show withB (bindTg tg x h (wipe ρ own)) _ = _
  rw [e]
  rfl
theorem turn2_some {K : Cn} {ρ ρ2 : Rho} {own1 : List Nat} {elt : LE} {tg1 : Tg} {ifs1 : List LE} {x : T} {h : Heap} (e : bindTg tg1 x h (wipe ρ own1) = some ρ2) : turn2 K ρ own1 elt tg1 ifs1 x h = (evIfs K ifs1 ρ2 h).bind fun b h => if b then (evE K elt ρ2 h).bind fun y h => .ok (some y) h else .ok none h := by
  show withB (bindTg tg1 x h (wipe ρ own1)) _ = _
  rw [e]
  rfl
theorem turn2_none {K : Cn} {ρ : Rho} {own1 : List Nat} {elt : LE} {tg1 : Tg} {ifs1 : List LE} {x : T} {h : Heap} (e : bindTg tg1 x h (wipe ρ own1) = none) : turn2 K ρ own1 elt tg1 ifs1 x h = .stuck := by
  show withB (bindTg tg1 x h (wipe ρ own1)) _ = _
  rw [e]
  rfl
theorem ev_comp2 {K : Cn} {m : Bool} {own own1 : List Nat} {elt : LE} {tg tg1 : Tg} {kd k1 : String} {it it1 ifs ifs1 : List LE} {ρ : Rho} {h : Heap} : evE K (.comp2 m own elt tg kd it ifs own1 tg1 k1 it1 ifs1) ρ h = (evEs K it ρ h).bind fun xs h => match walked kd h xs with
    | some (xs, gs) => (turns (still gs) (turn1 K ρ own elt tg ifs own1 tg1 k1 it1 ifs1) xs [] h).bind fun yss h => fin2 m yss h
    | none => .stuck := by unfold evE; rfl
/-- what is gathered stays short enough -/
theorem turns_pre {α : Type} {ok : Heap → Bool} {f : T → Heap → Rs (Option α)} : ∀ {xs : List T} {acc r : List α} {h h' : Heap}, turns ok f xs acc h = .ok r h' → ∃ w, r = acc ++ w
  | [], acc, r, h, h', e => by
    unfold turns at e
    split at e
    · cases e; exact ⟨[], by simp⟩
    · cases e
  | x :: xs, acc, r, h, h', e => by
    unfold turns at e
    split at e <;> (try (cases e; done))
    cases ef : f x h with
    | stuck => rw [ef] at e; cases e
    | exc a b => rw [ef] at e; cases e
    | ok o h2 =>
      rw [ef, Rs.bind_ok] at e
      cases o with
      | none => exact turns_pre e
      | some a =>
        obtain ⟨w, rfl⟩ := turns_pre e
        exact ⟨a :: w, by simp [addO]⟩
theorem sat_ok {α : Type} {r : Rs α} {Q : α → Heap → Prop} {E : T → Heap → Prop} (s : Sat r Q E) (hE : ∀ e h, E e h → False) : ∃ a h, r = .ok a h ∧ Q a h := by
  cases r with
  | ok a h => exact ⟨a, h, rfl, s⟩
  | exc e h => exact (hE e h s).elim
  | stuck => exact s.elim
theorem calm_noexc {α : Type} {r : Rs α} {e : T} {h : Heap} (q : r.calm = .exc e h) : False := by
  cases r <;> cases q
theorem turns_noexc {own own1 : List Nat} {elt : LE} {tg tg1 : Tg} {k1 : String} {it1 ifs ifs1 : List LE} {ρ : Rho} {ok : Heap → Bool} : ∀ {xs : List T} {acc : List (List T)} {h h' : Heap} {e : T}, turns ok (turn1 K ρ own elt tg ifs own1 tg1 k1 it1 ifs1) xs acc h = .exc e h' → False
  | [], acc, h, h', e, q => by
    unfold turns at q
    split at q <;> cases q
  | x :: xs, acc, h, h', e, q => by
    unfold turns at q
    split at q <;> (try (cases q; done))
    cases ef : turn1 K ρ own elt tg ifs own1 tg1 k1 it1 ifs1 x h with
    | stuck => rw [ef] at q; cases q
    | exc a b =>
      cases eb : bindTg tg x h (wipe ρ own) with
      | none => rw [turn1_none eb] at ef; cases ef
      | some ρ2 =>
        rw [turn1_some eb] at ef
        exact calm_noexc ef
    | ok o h2 =>
      rw [ef, Rs.bind_ok] at q
      exact turns_noexc q
theorem lc2_loop {kd k1 : String} {it it1 : List LE} {own own1 : List Nat} {elt : LE} {tg tg1 : Tg} {ifs ifs1 : List LE} {σ : St} {H : Hp} {Q : VK} {b0 : Bool}
    (o : rdE G K W (.comp2 b0 own elt tg kd it ifs own1 tg1 k1 it1 ifs1) σ H Q) :
    tLc2 (rdI G K W kd it) (rdG G own tg) (rdIf G K W0 ifs) (rdI G K W0 k1 it1) (rdG G own1 tg1) (rdIf G K W0 ifs1) (rdE G K W0 elt) own own1 σ H (if b0 = true then Q else LockQ Q) := by
  obtain ⟨ρ, h, R, sr, o⟩ := o
  rw [ev_comp2] at o
  refine ⟨ρ, h, R, sr, Sat.bind.mpr ((Sat.bind.mp o).imp (fun ts h1 o1 => ?_) fun _ _ z => z)⟩
  cases ew : walked kd h1 ts with
  | none => rw [ew] at o1; exact o1.elim
  | some p =>
    obtain ⟨xs, gs⟩ := p
    rw [ew] at o1
    show Sat (.ok (xs, gs) h1) _ _
    intro R1 H1 J lq1 hr1 st D hD
    have o2 := Sat.later (later_E Q) lq1 o1
    have kD : ∀ b o, H1 b = some o → upd H1 D (.lst []) b = some o := fun b o e => by rw [upd_ne (ne_of_none e hD)]; exact e
    refine ⟨fun i m H' => m = xs.length - i ∧ i ≤ xs.length ∧ ∃ h' R' acc, TurnS G R1 H1 D acc.flatten h' R' H' ∧
        Sat ((turns (still gs) (turn1 K ρ own elt tg ifs own1 tg1 k1 it1 ifs1) (xs.drop i) acc h').bind fun yss h => fin2 b0 yss h) (PostE G R1 H1 Q) (PostX G R1 H1 (At W σ)),
      ⟨xs.length, by simp, Nat.zero_le _, h1, R1, [], ⟨Lq.all kD, hr1.grow kD, fun z => hr1.live D z hD, [], upd_same, .nil⟩, by simpa using o2⟩, ?_⟩
    rintro i m H' ⟨rfl, hi, h', R', acc, ts', o3⟩
    by_cases hlt : i < xs.length
    · right
      rw [List.drop_eq_getElem_cons hlt] at o3
      unfold turns at o3
      split at o3 <;> (try (exact o3.elim))
      rename_i hok
      obtain ⟨st1, st2⟩ := st i h' R' H' ts'.lq.lf ts'.hr hok
      obtain ⟨go, yl⟩ := st2 xs[i] (by simp [hlt])
      refine ⟨go, _, fun H2 w => ⟨xs.length - (i + 1), by omega, w⟩, fun v H2 hy => ?_⟩
      obtain ⟨lq2, hr2, vr⟩ := yl v H2 hy
      have ts2 := ts'.later lq2 hr2
      rw [bind_assoc] at o3
      cases eb : bindTg tg xs[i] h' (wipe ρ own) with
      | none => rw [turn1_none eb] at o3; exact o3.elim
      | some ρ2 =>
        rw [turn1_some eb] at o3
        have erw : ERel G R' H2 (wipe ρ own) (L2.wipe σ own) := ((sr.er.mono lq1).mono (ts'.lq.trans lq2)).wipe own
        refine ⟨wipe ρ own, h', R', xs[i], ρ2, ⟨hr2, erw⟩, vr, eb, fun σ3 H3 lq3 hr3 er3 ag3 => ⟨wipe_agree ag3, ?_⟩⟩
        have ts3 := ts2.later lq3 hr3
        have o4 := Sat.calm (E' := fun _ _ => False) (Sat.bind.mp o3)
        refine ⟨ρ2, h', R', ⟨hr3, er3⟩, (Sat.bind.mp o4).imp (fun b h4 o5 => ?_) fun _ _ z => z.elim⟩
        intro R4 H4 lq4 hr4
        have ts4 := ts3.later lq4 hr4
        cases b with
        | false =>
          rw [if_neg Bool.false_ne_true] at o5 ⊢
          exact ⟨rfl, hlt, h4, R4, acc, ts4, o5⟩
        | true =>
          rw [if_pos rfl] at o5 ⊢
          refine ⟨ρ2, h4, R4, ⟨hr4, er3.mono lq4⟩, Sat.bind.mpr ((Sat.bind.mp o5).imp (fun ts5 h5 o6 => ?_) fun _ _ z => z.elim)⟩
          cases ew1 : walked k1 h5 ts5 with
          | none => rw [ew1] at o6; exact o6.elim
          | some p1 =>
            obtain ⟨xs1, gs1⟩ := p1
            rw [ew1] at o6
            show Sat (.ok (xs1, gs1) h5) _ _
            intro R5 H5 J1 lq5 hr5 sti
            have ts5 := ts4.later lq5 hr5
            have er5 : ERel G R5 H5 ρ2 σ3 := (er3.mono lq4).mono lq5
            refine ⟨fun j m H' => m = xs1.length - j ∧ j ≤ xs1.length ∧ ∃ h' R' a1, TurnS G R1 H1 D (acc.flatten ++ a1) h' R' H' ∧ Lf R5 H5 R' H' ∧
                Sat ((turns (still gs1) (turn2 K ρ2 own1 elt tg1 ifs1) (xs1.drop j) a1 h').bind fun ys h => Rs.ok (some ys) h)
                  (fun a h => Sat ((turns (still gs) (turn1 K ρ own elt tg ifs own1 tg1 k1 it1 ifs1) (xs.drop (i + 1)) (addO acc a) h).bind fun yss h => fin2 b0 yss h) (PostE G R1 H1 Q) (PostX G R1 H1 (At W σ))) (fun _ _ => False),
              ⟨xs1.length, by simp, Nat.zero_le _, h5, R5, [], by rw [List.append_nil]; exact ts5, Lf.refl _ _, by rw [List.drop_zero]; exact o6⟩, ?_⟩
            rintro j m H' ⟨rfl, hj, h', R', a1, tj, lfj, o7⟩
            by_cases hjt : j < xs1.length
            · right
              rw [List.drop_eq_getElem_cons hjt, turns_cons] at o7
              split at o7 <;> (try (exact o7.elim))
              rename_i hok1
              obtain ⟨_, st4⟩ := sti j h' R' H' lfj tj.hr hok1
              obtain ⟨go1, yl1⟩ := st4 xs1[j] (by simp [hjt])
              refine ⟨go1, _, fun H6 w => ⟨xs1.length - (j + 1), by omega, w⟩, fun v6 H6 hy6 => ?_⟩
              obtain ⟨lq6, hr6, vr6⟩ := yl1 v6 H6 hy6
              have t6 := tj.later lq6 hr6
              have lf6 := lfj.trans lq6.lf
              rw [bind_assoc] at o7
              cases eb1 : bindTg tg1 xs1[j] h' (wipe ρ2 own1) with
              | none => rw [turn2_none eb1] at o7; exact o7.elim
              | some ρ7 =>
                rw [turn2_some eb1] at o7
                have erw1 : ERel G R' H6 (wipe ρ2 own1) (L2.wipe σ3 own1) := by
                  refine ERel.wipe ⟨er5.1, fun i t z => ?_⟩ own1
                  obtain ⟨v, a, b⟩ := er5.2 i t z
                  exact ⟨v, a, b.monoF lf6⟩
                refine ⟨wipe ρ2 own1, h', R', xs1[j], ρ7, ⟨hr6, erw1⟩, vr6, eb1, fun σ7 H7 lq7 hr7 er7 ag7 => ⟨wipe_agree ag7, ?_⟩⟩
                have t7 := t6.later lq7 hr7
                have lf7 := lf6.trans lq7.lf
                refine ⟨ρ7, h', R', ⟨hr7, er7⟩, (Sat.bind.mp (Sat.bind.mp o7)).imp (fun b h8 o8 => ?_) fun _ _ z => z.elim⟩
                intro R8 H8 lq8 hr8
                have t8 := t7.later lq8 hr8
                have lf8 := lf7.trans lq8.lf
                cases b with
                | false =>
                  rw [if_neg Bool.false_ne_true] at o8 ⊢
                  exact ⟨rfl, hjt, h8, R8, a1, t8, lf8, o8⟩
                | true =>
                  rw [if_pos rfl] at o8 ⊢
                  refine ⟨ρ7, h8, R8, ⟨hr8, er7.mono lq8⟩, (Sat.bind.mp o8).imp (fun y h9 o9 => ?_) fun _ _ z => z.elim⟩
                  intro R9 H9 v9 lq9 hr9 vr9
                  have t9 := t8.later lq9 hr9
                  obtain ⟨vs, e9, rs9⟩ := t9.at_
                  have ta := t9.app hD vr9 e9
                  rw [List.append_assoc] at ta
                  obtain ⟨_, lfa⟩ := t9.hr.aside (u := .lst (vs ++ [v9])) t9.out e9 (by simp [FT])
                  refine ⟨vs, e9, ?_, rfl, hjt, h9, R9, a1 ++ [y], ta, (lf8.trans lq9.lf).trans lfa, o9⟩
                  have hle : (acc.flatten ++ (a1 ++ [y])).length ≤ top := by
                    obtain ⟨w1, g1, e1, q1⟩ := sat_ok (show Sat ((turns (still gs1) (turn2 K ρ2 own1 elt tg1 ifs1) (xs1.drop (j + 1)) (a1 ++ [y]) h9).bind fun ys h => Rs.ok (some ys) h) _ (fun _ _ => False) from o9) (fun _ _ z => z)
                    cases et : turns (still gs1) (turn2 K ρ2 own1 elt tg1 ifs1) (xs1.drop (j + 1)) (a1 ++ [y]) h9 with
                    | stuck => rw [et] at e1; cases e1
                    | exc a b => rw [et] at e1; cases e1
                    | ok r1 g2 =>
                      rw [et, Rs.bind_ok] at e1
                      cases e1
                      obtain ⟨w2, rfl⟩ := turns_pre et
                      have q2 : Sat (turns (still gs) (turn1 K ρ own elt tg ifs own1 tg1 k1 it1 ifs1) (xs.drop (i + 1)) (acc ++ [a1 ++ [y] ++ w2]) g1) _ _ := Sat.bind.mp q1
                      cases et2 : turns (still gs) (turn1 K ρ own elt tg ifs own1 tg1 k1 it1 ifs1) (xs.drop (i + 1)) (acc ++ [a1 ++ [y] ++ w2]) g1 with
                      | stuck => rw [et2] at q2; exact q2.elim
                      | exc a b =>
                        exfalso
                        revert et2
                        generalize (acc ++ [a1 ++ [y] ++ w2]) = A0
                        generalize g1 = G0
                        generalize xs.drop (i + 1) = X0
                        intro et2
                        exact turns_noexc et2
                      | ok r2 g3 =>
                        rw [et2] at q2
                        obtain ⟨w3, rfl⟩ := turns_pre et2
                        have q3 : Sat (fin2 b0 (acc ++ [a1 ++ [y] ++ w2] ++ w3) g3) (PostE G R1 H1 Q) (PostX G R1 H1 (At W σ)) := q2
                        unfold fin2 at q3
                        split at q3
                        · rename_i hz
                          refine Nat.le_trans ?_ hz
                          simp only [List.flatten_append, List.flatten_cons, List.flatten_nil, List.append_nil, List.length_append]
                          omega
                        · exact q3.elim
                  rw [← rs9.length]
                  rw [List.length_append, List.length_append, List.length_singleton] at hle
                  change acc.flatten.length + (a1.length + 1) ≤ 16777216 at hle
                  rw [top_eq, List.length_append]
                  show acc.flatten.length + a1.length < 16777216
                  omega
            · left
              have e : j = xs1.length := by omega
              subst e
              rw [List.drop_length, turns_nil] at o7
              split at o7 <;> (try (exact o7.elim))
              rename_i hok1
              refine ⟨(sti _ h' R' H' lfj tj.hr hok1).1 (Nat.le_refl _), rfl, hlt, h', R', acc ++ [a1], ?_, o7⟩
              simpa using tj
    · left
      have e : i = xs.length := by omega
      subst e
      rw [List.drop_length] at o3
      unfold turns at o3
      split at o3 <;> (try (exact o3.elim))
      rename_i hok
      refine ⟨(st _ h' R' H' ts'.lq.lf ts'.hr hok).1 (Nat.le_refl _), ?_⟩
      cases b0 with
      | true =>
        rw [if_pos rfl]
        have o3' : Sat (if acc.flatten.length ≤ top then newO h' (.lst acc.flatten) else .stuck) (PostE G R1 H1 Q) (PostX G R1 H1 (At W σ)) := o3
        exact comp_end hD ts' o3'
      | false =>
        rw [if_neg Bool.false_ne_true]
        have o3' : Sat (if acc.flatten.length ≤ top then Rs.ok (T.lst acc.flatten) h' else .stuck) (PostE G R1 H1 Q) (PostX G R1 H1 (At W σ)) := o3
        exact comp_endF hD ts' o3'
theorem sd_comp2 (g : GX G k X c W) (hh : c.hot = false) (b0 : Bool) {scope : Scope} {own own1 : List Nat} {elt : LE} {tg tg1 : Tg} {kd k1 : String} {it it1 ifs ifs1 : List LE} {e t i t1 i1 : Expr} {is is1 : List Expr} {p : Pos} (hb : blkC c.N c.sc scope (ownN c own) = true) (h1 : chkOne i = true) (h2 : chkOne i1 = true) (hv : ∀ j ∈ own1, j ∈ own)
    (hi : PI X t i (rdI G K W kd it)) (hg : ∀ (s : Shared) (H : Hp) (C : Addr) (cl : List (Str × Addr)) (fp : List Addr), PG (X.blk s H scope (compEnvC scope cl C X.env) fp) t (rdG G own tg)) (ht : ∀ (s : Shared) (H : Hp) (C : Addr) (cl : List (Str × Addr)) (fp : List Addr), PTs (X.blk s H scope (compEnvC scope cl C X.env) fp) is (rdIf G K W0 ifs))
    (hi1 : ∀ (s : Shared) (H : Hp) (C : Addr) (cl : List (Str × Addr)) (fp : List Addr), PI (X.blk s H scope (compEnvC scope cl C X.env) fp) t1 i1 (rdI G K W0 k1 it1)) (hg1 : ∀ (s : Shared) (H : Hp) (C : Addr) (cl : List (Str × Addr)) (fp : List Addr), PG (X.blk s H scope (compEnvC scope cl C X.env) fp) t1 (rdG G own1 tg1))
    (ht1 : ∀ (s : Shared) (H : Hp) (C : Addr) (cl : List (Str × Addr)) (fp : List Addr), PTs (X.blk s H scope (compEnvC scope cl C X.env) fp) is1 (rdIf G K W0 ifs1)) (he : ∀ (s : Shared) (H : Hp) (C : Addr) (cl : List (Str × Addr)) (fp : List Addr), PE (X.blk s H scope (compEnvC scope cl C X.env) fp) e (rdE G K W0 elt)) :
    PE X (.ListComp e [⟨t, i, is, 0⟩, ⟨t1, i1, is1, 0⟩] scope p) (rdE G K W (.comp2 b0 own elt tg kd it ifs own1 tg1 k1 it1 ifs1)) := by
  have hN : X.N.Nodup := by rw [g.N]; exact g.nd
  have base := pe_lc2 (pos := p) (vs1 := own1) (g.calm hh) hN hi (blk_ok g hb) (by rw [ownN_ix]; exact hv) hg ht hi1 hg1 ht1 he (fold_ok h1 _) (fun env x => fold_ok h2 env x)
  rw [ownN_ix] at base
  cases b0 with
  | true => exact pe_imp base fun σ H Q o => lc2_loop (b0 := true) o
  | false => exact pe_imp (pe_lock base) fun σ H Q o => lc2_loop (b0 := false) o
end
end Lite

/-! LITE, 12: soundness: expressions, the induction. -/
namespace Lite
open PySem L2 PySem.Spec
open PyProof.Rows hiding St

section
variable {G : GD} {k : Nat} {X : L2.Cx} {c : Sc} {W : WX} {K : Cn}
theorem pairs_facts : ∀ {ks : List (Option Expr)} {vs xs : List Expr}, pairsE ks vs = some xs → ks.all (·.isSome) = true ∧ ks.length = vs.length ∧ xs.length = 2 * ks.length ∧ True
  | [], [], _, h => by cases h; exact ⟨rfl, rfl, rfl, trivial⟩
  | [], _ :: _, _, h => by simp [pairsE] at h
  | none :: _, [], _, h => by simp [pairsE] at h
  | none :: _, _ :: _, _, h => by simp [pairsE] at h
  | some _ :: _, [], _, h => by simp [pairsE] at h
  | some k :: ks, v :: vs, xs, h => by
    obtain ⟨r, h1, rfl⟩ := Option.map_eq_some_iff.mp (show (pairsE ks vs).map (fun r => k :: v :: r) = some xs from h)
    obtain ⟨q1, q2, q3, _⟩ := pairs_facts h1
    exact ⟨by simp [q1], by simp [q2], by simp [q3]; omega, trivial⟩
theorem even_of : ∀ (es : List LE) (n : Nat), es.length = 2 * n → evenL es = true
  | [], _, _ => rfl
  | [_], n, h => by simp at h; omega
  | _ :: _ :: r, n, h => by
    simp at h
    exact even_of r (n - 1) (by omega)
mutual
theorem soundE {X : L2.Cx} {c : Sc} {W : WX} (s : SX G k X c W K) (le : LE) (e : Expr) (h : chkE c le e = true) : EV G X K W le e := by
  unfold chkE at h
  split at h
  · simp only [Bool.and_eq_true, decide_eq_true_eq] at h
    exact ev_of s.g rfl (sd_var s h.1 h.2)
  · simp only [decide_eq_true_eq] at h
    subst h
    exact ev_of s.g rfl (sd_here pe_int (fun _ _ => by unfold evE; rfl) fun _ _ => .int _)
  · simp only [decide_eq_true_eq] at h
    subst h
    exact ev_of s.g rfl (sd_here pe_str (fun _ _ => by unfold evE; rfl) fun _ _ => .str _)
  · simp only [beq_iff_eq] at h
    subst h
    exact ev_of s.g rfl (sd_here pe_bl (fun _ _ => by unfold evE; rfl) fun _ _ => .bl _)
  · exact ev_of s.g rfl (sd_here pe_non (fun _ _ => by unfold evE; rfl) fun _ _ => .non)
  · exact ev_of s.g h ⟨fun pins s0 σ H Q I ⟨ρ, h, R, sr, o⟩ => by unfold evE at o; exact o.elim⟩
  · simp only [Bool.and_eq_true, decide_eq_true_eq] at h
    exact ev_of s.g rfl (sd_glob s h.1 h.2)
  · simp only [Bool.and_eq_true, decide_eq_true_eq] at h
    exact ev_of s.g rfl (sd_bin s h.1.1 (soundE s _ _ h.1.2).1 (soundE s _ _ h.2).1)
  · exact ev_of s.g rfl (sd_neg (soundE s _ _ h).1)
  · exact ⟨sd_not s (soundE s _ _ h).1, sd_notT (soundE s _ _ h).2⟩
  · obtain ⟨h1, h2⟩ := soundAnd s _ _ _ h
    exact ⟨pe_imp h1 fun σ H Q ⟨ρ, h, R, sr, o⟩ => ⟨ρ, h, R, sr, by unfold evE at o; exact o⟩, pt_imp h2.pt fun σ H Q ⟨ρ, h, R, sr, o⟩ => ⟨ρ, h, R, sr, by unfold evE at o; exact o⟩⟩
  · obtain ⟨h1, h2⟩ := soundOr s _ _ _ h
    exact ⟨pe_imp h1 fun σ H Q ⟨ρ, h, R, sr, o⟩ => ⟨ρ, h, R, sr, by unfold evE at o; exact o⟩, pt_imp h2.pt fun σ H Q ⟨ρ, h, R, sr, o⟩ => ⟨ρ, h, R, sr, by unfold evE at o; exact o⟩⟩
  · simp only [Bool.and_eq_true, decide_eq_true_eq, Bool.not_eq_true'] at h
    exact sd_cmp s h.1.1.1 h.1.1.2 (soundE s _ _ h.1.2).1 (soundE s _ _ h.2).1
  · simp only [Bool.and_eq_true, decide_eq_true_eq, Bool.not_eq_true'] at h
    exact sd_chain s h.1.1.1.1.1 h.1.1.1.1.2 h.1.1.1.2 (soundE s _ _ h.1.1.2).1 (soundE s _ _ h.1.2).1 (soundE s _ _ h.2).1
  · simp only [Bool.and_eq_true] at h
    exact sd_ife (soundE s _ _ h.1.1).2 (soundE s _ _ h.1.2) (soundE s _ _ h.2)
  · simp only [Bool.and_eq_true, decide_eq_true_eq] at h
    exact ev_of s.g rfl (sd_tup (soundEs s _ _ h.1) h.2)
  · simp only [Bool.and_eq_true, decide_eq_true_eq] at h
    exact ev_of s.g rfl (sd_lst (soundEs s _ _ h.1) h.2)
  · split at h <;> (try (cases h; done))
    rename_i xs0 hp0
    simp only [Bool.and_eq_true, decide_eq_true_eq] at h
    obtain ⟨q1, q2, q3, q4⟩ := pairs_facts hp0
    have hl := chkEs_len h.1
    exact ev_of s.g rfl (sd_dct s (even_of _ _ (hl.trans q3)) h.2 q1 q2 (hl.trans q3) (soundKV s _ _ _ _ _ hp0 h.1))
  · simp only [Bool.and_eq_true, decide_eq_true_eq, Bool.not_eq_true'] at h
    obtain ⟨hh, h⟩ := h
    exact ev_of s.g rfl (sound_callV s hh h.1.1.1 h.1.1.2 h.1.2 h.2 (sd_var s h.1.1.1 h.1.1.2) (soundEs s _ _ h.2))
  · simp only [Bool.and_eq_true] at h
    exact ev_of s.g rfl (sd_slc s (soundE s _ _ h.1.1).1 (soundP s _ _ h.1.2) (soundP s _ _ h.2))
  · simp only [Bool.and_eq_true] at h
    exact ev_of s.g rfl (sd_idx s h.1.1 (soundE s _ _ h.1.2).1 (soundE s _ _ h.2).1)
  · simp only [Bool.and_eq_true, decide_eq_true_eq, Bool.not_eq_true'] at h
    obtain ⟨hh, h⟩ := h
    exact ev_of s.g rfl (sound_call0 s hh h.1.1.1 h.1.1.2 h.1.2 h.2 (soundEs s _ _ h.2))
  · simp only [Bool.and_eq_true, decide_eq_true_eq, Bool.not_eq_true'] at h
    obtain ⟨hh, h⟩ := h
    exact ev_of s.g rfl (sound_bi s hh h.1.1.1.1 h.1.1.1.2 h.1.1.2 h.1.2 h.2 (soundEs s _ _ h.2))
  · simp only [Bool.and_eq_true, decide_eq_true_eq, Bool.not_eq_true'] at h
    obtain ⟨hh, h⟩ := h
    exact ev_of s.g rfl (sound_biM s hh h.1.1.1.1 h.1.1.1.2 h.1.1.2 h.1.2 h.2 (soundEs s _ _ h.2))
  · simp only [Bool.and_eq_true, decide_eq_true_eq] at h
    exact ev_of s.g rfl (sound_isi s h.1.1.1.1.1.1 h.1.1.1.1.1.2 h.1.1.1.1.2 h.1.1.2 h.1.2 h.2 (soundE s _ _ h.1.1.1.2).1)
  · simp only [Bool.and_eq_true, Bool.or_eq_true, decide_eq_true_eq] at h
    exact ev_of s.g rfl (sound_isx s h.1.1.1.1.1 h.1.1.1.1.2 h.1.1.1.2 h.1.2 h.2 (soundE s _ _ h.1.1.2).1)
  · simp only [Bool.and_eq_true, decide_eq_true_eq] at h
    exact ev_of s.g rfl (sound_attr s h.1.1 h.1.2 (soundE s _ _ h.2).1)
  · simp only [Bool.and_eq_true, decide_eq_true_eq, Bool.not_eq_true'] at h
    obtain ⟨hh, h⟩ := h
    exact ev_of s.g rfl (sound_make s hh h.1.1.1 h.1.1.2 h.1.2 h.2 (soundEs s _ _ h.2))
  · simp only [Bool.and_eq_true, decide_eq_true_eq, Bool.not_eq_true'] at h
    obtain ⟨hh, h⟩ := h
    exact ev_of s.g rfl (sound_meth s hh h.1.1.1.1.1 h.1.1.1.1.2 h.1.1.1.2 h.1.1.2 h.2 (soundE s _ _ h.1.2).1 (soundEs s _ _ h.2))
  · simp only [Bool.and_eq_true, decide_eq_true_eq] at h
    obtain ⟨⟨⟨⟨⟨⟨h1, h2⟩, h3⟩, h4⟩, h5⟩, h6⟩, h7⟩ := h
    subst h2
    obtain ⟨T0, id, pa, slot, hty, hT, hm⟩ := bm_of_name (s.g) h1
    exact ev_of s.g rfl (sd_bm s pa slot hty hT hm h3 h4 h5 h7 (soundE s _ _ h6).1 (soundEs s _ _ h7))
  · simp only [Bool.and_eq_true, Bool.not_eq_true'] at h
    obtain ⟨hh, h⟩ := h
    exact ev_of s.g rfl (sd_comp s.g hh _ ⟨h.1.1.1.1.1, h.1.1.1.1.2, soundI s _ _ _ _ h.1.1.1.2, fun s0 H C cl fp => soundG (s.blk _ s0 H C cl fp).g (by exact hh) h.1.1.2, fun s0 H C cl fp => soundF (s.blk _ s0 H C cl fp) _ _ h.1.2, fun s0 H C cl fp => (soundE (s.blk _ s0 H C cl fp) _ _ h.2).1⟩)
  · simp only [Bool.and_eq_true, List.all_eq_true, List.contains_eq_mem, decide_eq_true_eq, Bool.not_eq_true'] at h
    obtain ⟨hh, h⟩ := h
    obtain ⟨⟨⟨⟨⟨⟨⟨⟨⟨⟨hb, h1⟩, h2⟩, hv⟩, hi⟩, hg⟩, hf⟩, hi1⟩, hg1⟩, hf1⟩, he⟩ := h
    exact ev_of s.g rfl (sd_comp2 s.g hh _ hb h1 h2 hv (soundI s _ _ _ _ hi) (fun s0 H C cl fp => soundG (s.blk _ s0 H C cl fp).g (by exact hh) hg) (fun s0 H C cl fp => soundF (s.blk _ s0 H C cl fp) _ _ hf) (fun s0 H C cl fp => soundI (s.blk _ s0 H C cl fp) _ _ _ _ hi1)
      (fun s0 H C cl fp => soundG (s.blk _ s0 H C cl fp).g (by exact hh) hg1) (fun s0 H C cl fp => soundF (s.blk _ s0 H C cl fp) _ _ hf1) fun s0 H C cl fp => (soundE (s.blk _ s0 H C cl fp) _ _ he).1)
  · cases h
termination_by sizeOf le
theorem soundKV {X : L2.Cx} {c : Sc} {W : WX} (s : SX G k X c W K) : ∀ (es : List LE) (ks : List (Option Expr)) (vs xs : List Expr) (p : Pos), pairsE ks vs = some xs → chkEs c es xs = true → PPs X p ks vs (pairsR G K W es)
  | [], ks, vs, xs, p, hp, h => by
    have : xs = [] := by cases xs <;> first | rfl | simp [chkEs] at h
    subst this
    obtain ⟨_, q2, q3, _⟩ := pairs_facts hp
    have : ks = [] := by cases ks <;> first | rfl | simp at q3
    subst this
    have : vs = [] := by cases vs <;> first | rfl | simp at q2
    subst this
    exact pps_nil
  | [_], ks, vs, xs, p, hp, h => by
    have h1 := chkEs_len h
    obtain ⟨_, _, q3, _⟩ := pairs_facts hp
    simp at h1
    omega
  | e :: f :: es, ks, vs, xs, p, hp, h => by
    match ks, vs, hp with
    | [], [], hp => cases hp; simp [chkEs] at h
    | [], _ :: _, hp => simp [pairsE] at hp
    | none :: _, [], hp => simp [pairsE] at hp
    | none :: _, _ :: _, hp => simp [pairsE] at hp
    | some _ :: _, [], hp => simp [pairsE] at hp
    | some kk :: ks, v :: vs, hp =>
      obtain ⟨r, h1, rfl⟩ := Option.map_eq_some_iff.mp (show (pairsE ks vs).map (fun r => kk :: v :: r) = some xs from hp)
      simp only [chkEs, Bool.and_eq_true] at h
      exact pps_cons (soundE s e kk h.1.2).1 (soundE s f v h.2.1.2).1 (soundKV s es ks vs r p h1 h.2.2)
termination_by es => sizeOf es
theorem soundI {X : L2.Cx} {c : Sc} {W : WX} (s : SX G k X c W K) (tg : Expr) (kd : String) (es : List LE) (it : Expr) (h : chkI c tg kd es it = true) : PI X tg it (rdI G K W kd es) := by
  unfold chkI at h
  split at h
  · split at h
    · rename_i e
      subst e
      simp only [Bool.and_eq_true] at h
      exact walk_one s.g (soundE s _ _ h.2).1
    · split at h
      · rename_i e
        subst e
        split at h <;> (try (cases h; done))
        simp only [Bool.and_eq_true, decide_eq_true_eq] at h
        exact walk_range s h.1.1.1 h.1.1.2 (.inl rfl) (by simp only [chkEs, Bool.and_eq_true]; exact ⟨⟨h.1.2, h.2⟩, trivial⟩) (sd_cons h.1.2 (soundE s _ _ h.2).1 sd_nil)
      · split at h
        · rename_i e
          subst e
          split at h <;> (try (cases h; done))
          simp only [Bool.and_eq_true, decide_eq_true_eq] at h
          have ht := h.1.1.2
          cases tg <;> (try (cases ht; done))
          exact walk_enum s h.1.1.1.1 h.1.1.1.2 h.1.2 (sd_cons h.1.2 (soundE s _ _ h.2).1 sd_nil)
        · split at h
          · rename_i e
            subst e
            split at h <;> (try (cases h; done))
            simp only [Bool.and_eq_true, decide_eq_true_eq] at h
            have ht := h.1.1.1.2
            have hy := h.1.1.1.1
            subst hy
            cases tg <;> (try (cases ht; done))
            exact walk_items s.g (soundE s _ _ h.2).1 h.1.1.2 h.1.2
          · cases h
  · split at h
    · rename_i e
      subst e
      split at h <;> (try (cases h; done))
      simp only [Bool.and_eq_true, decide_eq_true_eq] at h
      exact walk_range s h.1.1.1.1.1 h.1.1.1.1.2 (.inr rfl) (by simp only [chkEs, Bool.and_eq_true]; exact ⟨⟨h.1.1.1.2, h.1.2⟩, ⟨h.1.1.2, h.2⟩, trivial⟩) (sd_cons h.1.1.1.2 (soundE s _ _ h.1.2).1 (sd_cons h.1.1.2 (soundE s _ _ h.2).1 sd_nil))
    · split at h
      · rename_i e
        subst e
        split at h <;> (try (cases h; done))
        simp only [Bool.and_eq_true, decide_eq_true_eq] at h
        have ht := h.1.1.1.1.2
        cases tg <;> (try (cases ht; done))
        exact walk_zip s h.1.1.1.1.1.1 h.1.1.1.1.1.2 h.1.1.1.2 h.1.1.2 (sd_cons h.1.1.1.2 (soundE s _ _ h.1.2).1 (sd_cons h.1.1.2 (soundE s _ _ h.2).1 sd_nil))
      · cases h
  · cases h
termination_by sizeOf es
theorem soundF {X : L2.Cx} {c : Sc} {W : WX} (s : SX G k X c W K) (ls : List LE) (es : List Expr) (h : chkF c ls es = true) : PTs X es (rdIf G K W ls) := by
  unfold chkF at h
  split at h
  · exact ifs_nil
  · exact ifs_one (soundE s _ _ h).2
  · cases h
termination_by sizeOf ls
theorem soundP {X : L2.Cx} {c : Sc} {W : WX} (s : SX G k X c W K) : ∀ (lo : List LE) (l : Option Expr), chkO c lo l = true → PO X l (rdPart G K W lo)
  | [], none, _ => sd_part0
  | [a], some e, h => by
    simp only [chkO] at h
    exact sd_part1 (soundE s a e h).1
  | [], some _, h => by simp [chkO] at h
  | [_], none, h => by simp [chkO] at h
  | _ :: _ :: _, none, h => by simp [chkO] at h
  | _ :: _ :: _, some _, h => by simp [chkO] at h
termination_by lo => sizeOf lo
theorem soundAnd {X : L2.Cx} {c : Sc} {W : WX} (s : SX G k X c W K) : ∀ (ls : List LE) (es : List Expr) (p : Pos), chkB c ls es = true → PE X (.BoolOp .And es p) (rdAnd G K W ls) ∧ PW X (.BoolOp .And es p) (rdTAnd G K W ls)
  | [], _, _, h => by simp [chkB] at h
  | _ :: _, [], _, h => by simp [chkB] at h
  | [l], [e], p, h => by
    simp only [chkB] at h
    exact sd_and1 (soundE s l e h)
  | [_], _ :: _ :: _, _, h => by simp [chkB] at h
  | _ :: _ :: _, [_], _, h => by simp [chkB] at h
  | l :: l2 :: ls, e :: e2 :: es, p, h => by
    simp only [chkB, Bool.and_eq_true] at h
    exact sd_and2 s (soundE s l e h.1) (soundAnd s (l2 :: ls) (e2 :: es) p h.2)
termination_by ls => sizeOf ls
theorem soundOr {X : L2.Cx} {c : Sc} {W : WX} (s : SX G k X c W K) : ∀ (ls : List LE) (es : List Expr) (p : Pos), chkB c ls es = true → PE X (.BoolOp .Or es p) (rdOr G K W ls) ∧ PW X (.BoolOp .Or es p) (rdTOr G K W ls)
  | [], _, _, h => by simp [chkB] at h
  | _ :: _, [], _, h => by simp [chkB] at h
  | [l], [e], p, h => by
    simp only [chkB] at h
    exact sd_or1 (soundE s l e h)
  | [_], _ :: _ :: _, _, h => by simp [chkB] at h
  | _ :: _ :: _, [_], _, h => by simp [chkB] at h
  | l :: l2 :: ls, e :: e2 :: es, p, h => by
    simp only [chkB, Bool.and_eq_true] at h
    exact sd_or2 s (soundE s l e h.1) (soundOr s (l2 :: ls) (e2 :: es) p h.2)
termination_by ls => sizeOf ls
theorem soundEs {X : L2.Cx} {c : Sc} {W : WX} (s : SX G k X c W K) : ∀ (ls : List LE) (es : List Expr), chkEs c ls es = true → PA X es (rdA G K W ls)
  | [], [], _ => sd_nil
  | [], _ :: _, h => by simp [chkEs] at h
  | _ :: _, [], h => by simp [chkEs] at h
  | l :: ls, e :: es, h => by
    simp only [chkEs, Bool.and_eq_true] at h
    exact sd_cons h.1.1 (soundE s l e h.1.2).1 (soundEs s ls es h.2)
termination_by ls => sizeOf ls
end
end
end Lite

/-! LITE, 12b: a, b = x, y. -/
namespace Lite
open PySem L2 PySem.Spec
open PyProof.Rows hiding St
theorem swapped2 {env : PySem.Env} {x y : Str} {px py pt pt2 : Pos} {kt k2 : Nat} {a b : Expr} (hk : env.scope.kind = .function) (hx : env.scope.names.lookup x = some .local) (hy : env.scope.names.lookup y = some .local) (hl : (py.line == px.line) = true) (hne : (x == y) = false)
    (pa : plainE a = true) (pb : plainE b = true) (hf : ([a, b].all (foldedForSure 8)) = false) (hc : ([a, b].all (constantsAlone 8)) = false) :
    swappedStores [.Tuple [.Name x px, .Name y py] kt pt] (.Tuple [a, b] k2 pt2) env = pure (some [x, y]) := by
  have hne2 : ¬ x = y := by simpa using hne
  have hne3 : ¬ y = x := fun e => hne2 e.symm
  have kx : env.kindOf x = some .local := hx
  have ky : env.kindOf y = some .local := hy
  have bk : env.blockKind = .function := by simp [Env.blockKind, hk]
  have ed : ([x, y] : List Str).eraseDups = [x, y] := by simp [List.eraseDups_cons, hne3]
  have hl2 : py.line = px.line := by simpa using hl
  unfold swappedStores
  simp only [List.length_cons, List.length_nil, bk]
  simp [kx, ky, hl2, ed, Expr.pos]
  rw [if_neg, if_neg, if_neg]
  · rintro ⟨h1, h2⟩
    simp [h1, h2] at hc
  · rintro ⟨h1, h2⟩
    simp [h1, h2] at hf
  · rintro (h | h)
    · cases a <;> first | (cases pa; done) | (cases h; done)
    · cases b <;> first | (cases pb; done) | (cases h; done)
theorem swapped3 {env : PySem.Env} {x y z : Str} {px py pz pt pt2 : Pos} {kt k2 : Nat} {a b d : Expr} (hk : env.scope.kind = .function) (hx : env.scope.names.lookup x = some .local) (hy : env.scope.names.lookup y = some .local) (hz : env.scope.names.lookup z = some .local)
    (hl : (py.line == px.line) = true) (hl' : (pz.line == px.line) = true) (hne : (x == y) = false) (hne' : (x == z) = false) (hne'' : (y == z) = false)
    (pa : plainE a = true) (pb : plainE b = true) (pd : plainE d = true) (hf : ([a, b, d].all (foldedForSure 8)) = false) (hc : ([a, b, d].all (constantsAlone 8)) = false) :
    swappedStores [.Tuple [.Name x px, .Name y py, .Name z pz] kt pt] (.Tuple [a, b, d] k2 pt2) env = pure (some [x, y, z]) := by
  have n1 : ¬ y = x := fun e => by simp [e] at hne
  have n2 : ¬ z = x := fun e => by simp [e] at hne'
  have n3 : ¬ z = y := fun e => by simp [e] at hne''
  have kx : env.kindOf x = some .local := hx
  have ky : env.kindOf y = some .local := hy
  have kz : env.kindOf z = some .local := hz
  have bk : env.blockKind = .function := by simp [Env.blockKind, hk]
  have ed : ([x, y, z] : List Str).eraseDups = [x, y, z] := by simp [List.eraseDups_cons, n1, n2, n3]
  have hl2 : py.line = px.line := by simpa using hl
  have hl3 : pz.line = px.line := by simpa using hl'
  unfold swappedStores
  simp only [List.length_cons, List.length_nil, bk]
  simp [kx, ky, kz, hl2, hl3, ed, Expr.pos]
  rw [if_neg, if_neg, if_neg]
  · rintro ⟨h1, h2, h3⟩
    simp [h1, h2, h3] at hc
  · rintro ⟨h1, h2, h3⟩
    simp [h1, h2, h3] at hf
  · rintro (h | h | h)
    · cases a <;> first | (cases pa; done) | (cases h; done)
    · cases b <;> first | (cases pb; done) | (cases h; done)
    · cases d <;> first | (cases pd; done) | (cases h; done)
section
variable {G : GD} {k : Nat} {X : L2.Cx} {c : Sc} {W : WX} {K : Cn} {A : List Nat}
/-- the target and the value of such a statement -/
def chkPar (c : Sc) (A : List Nat) (is : List Nat) : Expr → Expr → Bool
  | .Tuple [.Name x px, .Name y py] _ _, .Tuple [a, b] _ _ => (match is with
    | [i, j] => decide (c.N[i]? = some x) && decide (c.N[j]? = some y) && decide (c.sc.names.lookup x = some .local) && decide (c.sc.names.lookup y = some .local) && A.contains i && A.contains j && decide (i ≠ j) && (py.line == px.line) && !(x == y) &&
        plainE a && plainE b && !([a, b].all (foldedForSure 8)) && !([a, b].all (constantsAlone 8))
    | _ => false)
  | .Tuple [.Name x px, .Name y py, .Name z pz] _ _, .Tuple [a, b, d] _ _ => (match is with
    | [i, j, l] => decide (c.N[i]? = some x) && decide (c.N[j]? = some y) && decide (c.N[l]? = some z) && decide (c.sc.names.lookup x = some .local) && decide (c.sc.names.lookup y = some .local) && decide (c.sc.names.lookup z = some .local) && A.contains i && A.contains j && A.contains l &&
        decide (i ≠ j) && decide (i ≠ l) && decide (j ≠ l) && (py.line == px.line) && (pz.line == px.line) && !(x == y) && !(x == z) && !(y == z) &&
        plainE a && plainE b && plainE d && !([a, b, d].all (foldedForSure 8)) && !([a, b, d].all (constantsAlone 8))
    | _ => false)
  | _, _ => false
def tupEs : Expr → List Expr
  | .Tuple es _ _ => es
  | _ => []
theorem st_par (g : GX G k X c W) (hh : c.hot = false) {is : List Nat} {es : List LE} {t e : Expr} {p : Pos} (h : chkPar c A is t e = true) (ha : PA X (tupEs e) (rdA G K W es)) : PS X (.Assign [t] e p) (rdS G K W A (.par is es)) := by
  refine ⟨fun pins s σ H D I q => ?_⟩
  have hk : X.env.scope.kind = .function := I.ok.kind
  have hN : X.N.Nodup := by rw [g.N]; exact g.nd
  obtain ⟨ρ, h0, R, sr, oo⟩ := q
  unfold exS at oo
  unfold chkPar at h
  split at h
  · split at h <;> (try (cases h; done))
    rename_i i j
    simp only [Bool.and_eq_true, decide_eq_true_eq, List.contains_eq_mem, Bool.not_eq_true'] at h
    obtain ⟨⟨⟨⟨⟨⟨⟨⟨⟨⟨⟨⟨n1, n2⟩, l1⟩, l2⟩, a1⟩, a2⟩, hij⟩, hl⟩, hne⟩, pa⟩, pb⟩, hf⟩, hc⟩ := h
    refine (ps_par (g.calm hh) hN (by rw [g.N]; exact n1) (by rw [g.N]; exact n2) hij (g.sc1 _ _ (by decide) l1) (g.sc1 _ _ (by decide) l2) ha (swapped2 hk (g.sc1 _ _ (by decide) l1) (g.sc1 _ _ (by decide) l2) hl hne pa pb hf hc)).run pins s σ H D I ?_
    refine rdA.bindS sr oo fun ts h1 R1 H1 vs hlen sr1 lq rs o1 => ?_
    split at o1 <;> (try (exact o1.elim))
    rename_i hl2
    match ts, vs, rs, hl2, o1 with
    | [x, y], [v, w], .cons r1 (.cons r2 .nil), _, o1 =>
      exact ⟨v, w, rfl, o1 R1 H1 _ (Lq.refl _ _) sr1.hr ((sr1.er.set i r1).set j r2) (((Agree.refl _ _).set a1 _).set a2 _)⟩
    | [], _, _, hl2, _ => simp at hl2
    | [_], _, _, hl2, _ => simp at hl2
    | _ :: _ :: _ :: _, _, _, hl2, _ => simp at hl2
  · split at h <;> (try (cases h; done))
    rename_i i j l
    simp only [Bool.and_eq_true, decide_eq_true_eq, List.contains_eq_mem, Bool.not_eq_true'] at h
    obtain ⟨⟨⟨⟨⟨⟨⟨⟨⟨⟨⟨⟨⟨⟨⟨⟨⟨⟨⟨⟨⟨n1, n2⟩, n3⟩, l1⟩, l2⟩, l3⟩, a1⟩, a2⟩, a3⟩, hij⟩, hil⟩, hjl⟩, hl⟩, hl'⟩, hne⟩, hne'⟩, hne''⟩, pa⟩, pb⟩, pd⟩, hf⟩, hc⟩ := h
    refine (ps_par3 (g.calm hh) hN (by rw [g.N]; exact n1) (by rw [g.N]; exact n2) (by rw [g.N]; exact n3) hij hil hjl (g.sc1 _ _ (by decide) l1) (g.sc1 _ _ (by decide) l2) (g.sc1 _ _ (by decide) l3) ha
      (swapped3 hk (g.sc1 _ _ (by decide) l1) (g.sc1 _ _ (by decide) l2) (g.sc1 _ _ (by decide) l3) hl hl' hne hne' hne'' pa pb pd hf hc)).run pins s σ H D I ?_
    refine rdA.bindS sr oo fun ts h1 R1 H1 vs hlen sr1 lq rs o1 => ?_
    split at o1 <;> (try (exact o1.elim))
    rename_i hl2
    match ts, vs, rs, hl2, o1 with
    | [x, y, z], [v, w, u], .cons r1 (.cons r2 (.cons r3 .nil)), _, o1 =>
      exact ⟨v, w, u, rfl, o1 R1 H1 _ (Lq.refl _ _) sr1.hr (((sr1.er.set i r1).set j r2).set l r3) ((((Agree.refl _ _).set a1 _).set a2 _).set a3 _)⟩
    | [], _, _, hl2, _ => simp at hl2
    | [_], _, _, hl2, _ => simp at hl2
    | [_, _], _, _, hl2, _ => simp at hl2
    | _ :: _ :: _ :: _ :: _, _, _, hl2, _ => simp at hl2
  · cases h
end
end Lite

/-! LITE, 12a: statements on instances: stores of attributes. -/
namespace Lite
open PySem L2 PySem.Spec
open PyProof.Rows hiding St

section
variable {G : GD} {k : Nat} {X : L2.Cx} {c : Sc} {W : WX} {K : Cn} {A : List Nat}
theorem swaps_at {e o : Expr} {f : Str} {p : Pos} {n : Nat} {env : PySem.Env} : swapsWith e (some (.Attribute o f p)) n env = pure false := by cases e <;> rfl
theorem st_sattr (s : SX G k X c W K) {o l : LE} {f : String} {x e : Expr} {y : Str} {p p2 : Pos} (hy : Str.ofString f = y) (ho : PE X x (rdE G K W o)) (he : PE X e (rdE G K W l)) : PS X (.Assign [.Attribute x y p2] e p) (rdS G K W A (.sattr o f l)) := by
  subst hy
  refine ps_imp (ps_fld ho he swaps_at) fun D σ H ⟨ρ, h, R, sr, oo⟩ => ?_
  unfold exS at oo
  refine rdE.bindS sr oo fun t h1 R1 H1 v sr1 lq1 vr o1 => ?_
  refine rdE.bindS sr1 o1 fun z h2 R2 H2 w sr2 lq2 wr o2 => ?_
  obtain ⟨h3, e3, q⟩ := (Sat.bind.mp o2).of
  rw [s.P] at e3
  obtain ⟨a, C, dx, gs, e1, e2, k1, k2, k3, hr3, lq3⟩ := set_at s.ok sr2.hr wr (vr.mono lq2) e3
  rw [s.g.s5.K]
  exact ⟨a, C, dx, gs, e1, e2, k1, k2, k3, q R2 _ σ lq3 hr3 (sr2.er.mono lq3) (Agree.refl _ _)⟩
theorem in_aug : ∀ o : BOp, InOp X (bOp o) (fun x y H Q => ∃ (R : List Addr) (a b z : T), VR G R H a x ∧ VR G R H b y ∧ augop o a b = some z ∧ ∀ v, VR G R H z v → Q v H) := by
  intro o pins s σ H x y u v Q I rx ry ⟨R, a, b, z, h1, h2, h3, q⟩
  unfold augop at h3
  split at h3 <;> (try (cases h3; done))
  · cases h1; cases h2; cases h3
    exact ip_add pins s σ H _ _ u v Q I rx ry ⟨_, _, rfl, rfl, q _ (.int _)⟩
  · cases h1; cases h2; cases h3
    exact ip_sub pins s σ H _ _ u v Q I rx ry ⟨_, _, rfl, rfl, q _ (.int _)⟩
  · split at h3 <;> (try (cases h3; done))
    rename_i hz
    cases h1; cases h2; cases h3
    refine iop_add_str pins s σ H _ _ u v Q I rx ry ⟨_, _, rfl, rfl, ?_, ?_⟩
    · rw [tx_len, tx_len, top_eq]; exact hz
    · rw [tx_app]; exact q _ (.str _)
theorem st_augA (s : SX G k X c W K) {o l : LE} {f : String} {op : BOp} {op2 : Operator} {x e : Expr} {y : Str} {p p2 : Pos} (hy : Str.ofString f = y) (hop : bOp op = op2) (ho : PE X x (rdE G K W o)) (he : PE X e (rdE G K W l)) : PS X (.AugAssign (.Attribute x y p2) op2 e p) (rdS G K W A (.augA o f op l)) := by
  subst hy hop
  refine ps_imp (ps_fldaug ho he (in_aug (G := G) op)) fun D σ H ⟨ρ, h, R, sr, oo⟩ => ?_
  unfold exS at oo
  refine rdE.bindS sr oo fun t h1 R1 H1 v sr1 lq1 vr o1 => ?_
  split at o1 <;> (try (exact o1.elim))
  rename_i hnn
  obtain ⟨z, ez, o2⟩ := (Sat.bind.mp o1).of
  rw [s.P] at ez
  obtain ⟨a, C, dx, gs, w, e1, e2, k1, k2, k3, k4⟩ := (attr_at s.ok sr1.hr vr ez).elim (fun z => z.2) fun z => absurd z.1 hnn
  rw [s.g.s5.K]
  subst e1
  refine ⟨a, C, dx, gs, w, rfl, e2, k1, k2, k3, ?_⟩
  refine rdE.bindS sr1 o2 fun u h2 R2 H2 q2 sr2 lq2 ur o3 => ?_
  obtain ⟨zz, ezz, o4⟩ := (Sat.bind.mp o3).of
  split at o4 <;> (try (exact o4.elim))
  rename_i hcls
  refine ⟨R2, z, u, zz, k4.mono lq2, ur, ezz, fun v3 r3 => ?_⟩
  obtain ⟨h3, e3, q⟩ := (Sat.bind.mp o4).of
  rw [s.P] at e3
  have e30 := e3
  obtain ⟨a2, C2, dx2, gs2, f1, f2, f3, f4, f5, hr3, lq3⟩ := set_at s.ok sr2.hr (vr.mono lq2) r3 e3
  cases f1
  have hC : C2 = C := by
    have vr2 := vr.mono lq2
    unfold setA at e30
    split at e30 <;> (try (cases e30; done))
    rename_i n
    split at e30 <;> (try (cases e30; done))
    rename_i cc fs ec
    cases vr2
    rename_i ea2
    cases vr
    rename_i ea1
    obtain ⟨C3, dx3, gs3, g1, g2, _⟩ := sr2.hr.obj n _ a ec ea2
    rw [f2] at g2
    cases g2
    have hc2 : clsOf h1 (.loc n) = some cc := by rw [hcls]; simp only [clsOf, ec]
    unfold clsOf at hc2
    simp only at hc2
    split at hc2 <;> (try (cases hc2; done))
    rename_i c4 fs4 ec4
    cases hc2
    obtain ⟨C5, dx5, gs5, g3, g4, _⟩ := sr1.hr.obj n _ a ec4 ea1
    rw [e2] at g4
    cases g4
    rw [g1] at g3
    cases g3
    rfl
  subst hC
  exact ⟨dx2, gs2, f2, f5, q R2 _ σ lq3 hr3 (sr2.er.mono lq3) (Agree.refl _ _)⟩
/-! ### several attributes -/
theorem pg_attr {o : Expr} {f : Str} {p : Pos} {to : TE} (ho : PE X o to) : PG X (.Attribute o f p) (fun v σ H Q => to σ H fun x H1 => ∃ a C dx fs, x = .ref a ∧ H1 a = some (.ins C dx fs) ∧ Cls X.K C ∧ NoAttr X.K C f ∧ fs.length < 1000 ∧ Q σ (upd H1 a (.ins C dx (L2.putF f v fs)))) := by
  refine ⟨fun pins s σ H v u Q I r h => ?_⟩
  show wpAny _ _ (do
    let ov ← holding [u] (eval o X.env)
    standAt p.atName
    holding [u, ov] (setAttr ov f u)
    release [u, ov] []) _ _ _
  refine wpAny_bind (wpAny_holding (thn (ho.run pins s σ H _ I h) fun ov s1 ⟨x, H1, I1, r1, a, C, dx, fs, ex, ea, c, n, l, q⟩ => ?_))
  subst ex
  cases r1
  refine wpAny_bind (wpAny_standAt (wpAny_bind (wpAny_holding (setattr_ok I1 ea c n l r fun s2 I2 => ?_))))
  exact wpAny_release ⟨σ, _, I2, q⟩
def gAs (G : GD) (K : Cn) (W : WX) (os : List LE) (fs : List String) : TGs := fun vs σ H Q => ∃ ρ h R xs, SR G ρ h R σ H ∧ VRs G R H xs vs ∧ Sat (setAs K ρ os fs xs h) (fun _ h' => ∀ R' H', Lq R H R' H' → HRel G h' R' H' → Q σ H') (PostX G R H (At W σ))
def chkAs (c : Sc) : List LE → List String → List Expr → Bool
  | o :: os, f :: fs, .Attribute x y _ :: ts => decide (Str.ofString f = y) && chkE c o x && chkAs c os fs ts
  | [], [], [] => true
  | _, _, _ => false
theorem gAs_pgs (s : SX G k X c W K) : ∀ {os : List LE} {fs : List String} {ts : List Expr}, chkAs c os fs ts = true → PGs X ts (gAs G K W os fs)
  | [], [], [], _ => ⟨fun pins s0 σ H vs us Q I r ⟨ρ, h, R, xs, sr, vr, o⟩ => pgs_nil.run pins s0 σ H vs us Q I r (by
      cases vr with
      | nil => exact ⟨rfl, o R H (Lq.refl _ _) sr.hr⟩
      | cons _ _ => exact o.elim)⟩
  | o :: os, f :: fs, t :: ts, h => by
    cases t <;> first | (simp [chkAs] at h; done) | skip
    rename_i x y p
    simp only [chkAs, Bool.and_eq_true, decide_eq_true_eq] at h
    obtain ⟨⟨hy, he⟩, ht⟩ := h
    subst hy
    refine ⟨fun pins s0 σ H vs us Q I r ⟨ρ, h0, R, xs, sr, vr, oo⟩ => (pgs_cons (pg_attr (soundE s _ _ he).1) (gAs_pgs s ht)).run pins s0 σ H vs us Q I r ?_⟩
    cases vr with
    | nil => exact oo.elim
    | cons hv vrs =>
      rename_i z v zs vs2
      refine ⟨_, _, rfl, ?_⟩
      unfold setAs at oo
      refine rdE.bind (P := fun R H => fun _ h' => ∀ R' H', Lq R H R' H' → HRel G h' R' H' → Q σ H') (fun R H R' H' a h q p R2 H2 l hr => p R2 H2 (q.trans l) hr) sr oo fun w h2 R2 H2 vw sr2 lq2 wr o2 => ?_
      obtain ⟨h3, e3, o3⟩ := (Sat.bind.mp o2).of
      rw [s.P] at e3
      obtain ⟨a, C, dx, gs, e1, e2, k1, k2, k3, hr3, lq3⟩ := set_at s.ok sr2.hr wr (hv.mono lq2) e3
      rw [s.g.s5.K]
      exact ⟨a, C, dx, gs, e1, e2, k1, k2, k3, ρ, h3, R2, _, ⟨hr3, sr2.er.mono lq3⟩, (vrs.mono lq2).mono lq3, o3.later (P := fun R H => fun _ h' => ∀ R' H', Lq R H R' H' → HRel G h' R' H' → Q σ H') (fun R H R' H' a h q p R2 H2 l hr => p R2 H2 (q.trans l) hr) lq3⟩
  | [], [], _ :: _, h => by simp [chkAs] at h
  | [], _ :: _, _, h => by simp [chkAs] at h
  | _ :: _, [], _, h => by simp [chkAs] at h
  | _ :: _, _ :: _, [], h => by simp [chkAs] at h
theorem chkAs_len {c : Sc} {env : PySem.Env} : ∀ {os : List LE} {fs : List String} {ts : List Expr}, chkAs c os fs ts = true → (assignEach ts env).length = os.length ∧ (assignEach ts env).findIdx? (·.1) = none
  | [], [], [], _ => ⟨rfl, rfl⟩
  | o :: os, f :: fs, t :: ts, h => by
    cases t <;> first | (simp [chkAs] at h; done) | skip
    simp only [chkAs, Bool.and_eq_true] at h
    obtain ⟨h1, h2⟩ := chkAs_len (env := env) h.2
    exact ⟨by simp [assignEach, h1], by simp [assignEach, List.findIdx?_cons, h2]⟩
  | [], [], _ :: _, h => by simp [chkAs] at h
  | [], _ :: _, _, h => by simp [chkAs] at h
  | _ :: _, [], _, h => by simp [chkAs] at h
  | _ :: _, _ :: _, [], h => by simp [chkAs] at h
theorem st_unpA (s : SX G k X c W K) (hh : c.hot = false) {os : List LE} {fs : List String} {l : LE} {ts : List Expr} {kt : Nat} {pt : Pos} {e : Expr} {p : Pos} (hc : chkAs c os fs ts = true) (hs : swapsWith e (some (.Tuple ts kt pt)) p.line X.env = pure false) (hm : swappedStores [.Tuple ts kt pt] e X.env = pure none)
    (he : PE X e (rdE G K W l)) : PS X (.Assign [.Tuple ts kt pt] e p) (rdS G K W A (.unpA os fs l)) := by
  obtain ⟨c1, c2⟩ := chkAs_len (env := X.env) hc
  refine ps_imp (ps_asg he (pg_tup (s.g.calm hh) (gAs_pgs s hc) c1 c2) hs hm rfl) fun D σ H ⟨ρ, h, R, sr, oo⟩ => ?_
  unfold exS at oo
  refine rdE.bindS sr oo fun t h1 R1 H1 v sr1 lq1 vr o1 => ?_
  split at o1 <;> (try (exact o1.elim))
  rename_i xs ev
  split at o1 <;> (try (exact o1.elim))
  rename_i hl
  obtain ⟨a, vs, rfl, hq, rs⟩ := view_tup sr1.hr vr ev
  refine ⟨a, vs, rfl, by rw [s.g.s5.K]; exact hq, by rw [← rs.length]; exact hl, ρ, h1, R1, xs, sr1, rs, ?_⟩
  refine (Sat.bind.mp o1).imp (fun _ h2 q R2 H2 lq2 hr2 => ?_) fun _ _ z => z.at
  exact q R2 H2 σ lq2 hr2 (sr1.er.mono lq2) (Agree.refl _ _)
end
end Lite

/-! LITE, 12b: try, with caught exceptions as values. -/
namespace Lite
open PySem L2 PySem.Spec
open PyProof.Rows hiding St

section
variable {X : L2.Cx} {pins : List (Addr × Obj)} {σ : St} {H : Hp} {s : Shared}
/-- a thing that stands there is tracked from now on -/
theorem adopt {a : Addr} {o : HO} {oe : Obj} {vs : Array Value} (I : Inv X pins σ H s) (he : s.heap.get? a = some oe) (hd : oe.data = .fields vs) (na : H a = none) (n0 : X.s_0.heap.get? a = none) (nL : a ≠ X.env.locals) (np : ∀ p ∈ X.pn ++ pins, p.1 ≠ a) (new : ObjOk X.prog X.w (upd H a o) s.heap a o) :
    Inv X pins σ (upd H a o) s where
  ok := I.ok
  os := I.os
  bare := I.bare
  base := ⟨I.base.keep, I.base.slot, fun b u q n hx => by rw [upd_ne (fun z => by rw [z, n0] at q; cases q)]; exact I.base.free b u q n hx, I.base.there,
    fun b xs q => by have z := I.base.tups b xs q; rw [upd_ne (ne_of_none z na)]; exact z, fun b u xs q => by have z := I.base.frzs b u xs q; rw [upd_ne (ne_of_none z na)]; exact z,
    fun b ps q => by obtain ⟨m, z⟩ := I.base.tbls b ps q; exact ⟨m, by rw [upd_ne (ne_of_none z na)]; exact z⟩⟩
  loc := I.loc
  cell := I.cell
  free := by rw [upd_ne (Ne.symm nL)]; exact I.free
  freeC x c e := by
    obtain ⟨v, u, e1, e2⟩ := I.cell x c e
    rw [upd_ne (fun z => by
      rw [z, he] at e1
      cases e1
      rw [hd] at e2
      cases e2)]
    exact I.freeC x c e
  pin p hp := by
    obtain ⟨e1, e2, e3⟩ := I.pin p hp
    exact ⟨e1, by rw [upd_ne (np p hp)]; exact e2, e3⟩
  hok b u e := by
    by_cases hb : b = a
    · subst hb
      rw [upd_same] at e
      cases e
      exact new
    · rw [upd_ne hb] at e
      exact (I.hok b u e).stay (fun c v _ q => q) (fun c q => by rw [upd_ne (ne_of_none q na)]; exact q) fun c xs q => by rw [upd_ne (ne_of_none q na)]; exact q
  len := I.len
/-- fewer pins -/
theorem inv_suite {a : Addr} (I : Inv X pins σ H s) : Inv (X.suite a (X.pn ++ pins)) [] σ H s :=
  ⟨I.ok.suite _ _, I.os, I.bare, I.base, I.loc, I.cell, I.free, I.freeC, fun p hp => I.pin p (by rw [List.append_nil] at hp; exact hp), I.hok, I.len⟩
theorem inv_unsuite {a : Addr} (I : Inv (X.suite a (X.pn ++ pins)) [] σ H s) (ok : X.Ok) : Inv X pins σ H s :=
  ⟨ok, I.os, I.bare, I.base, I.loc, I.cell, I.free, I.freeC, fun p hp => I.pin p (by rw [List.append_nil]; exact hp), I.hok, I.len⟩
end
/-- a tracked thing is told otherwise -/
def Plain : HO → Prop
  | .xd _ => True
  | .ext _ => True
  | _ => False
section
variable {X : L2.Cx} {pins : List (Addr × Obj)} {σ : St} {H : Hp} {s : Shared}
theorem relabel {a : Addr} {o o' : HO} (I : Inv X pins σ H s) (e : H a = some o) (pl : Plain o) (new : ObjOk X.prog X.w (upd H a o') s.heap a o') : Inv X pins σ (upd H a o') s where
  ok := I.ok
  os := I.os
  bare := I.bare
  base := ⟨I.base.keep, I.base.slot, fun b u q n hx => by
      have z := I.base.free b u q n hx
      rw [upd_ne (fun w => by rw [w, e] at z; cases z)]
      exact z, I.base.there,
    fun b xs q => by have z := I.base.tups b xs q; rw [upd_ne (fun w => by rw [w, e] at z; cases z; exact pl)]; exact z, fun b u xs q => by have z := I.base.frzs b u xs q; rw [upd_ne (fun w => by rw [w, e] at z; cases z; exact pl)]; exact z,
    fun b ps q => by obtain ⟨m, z⟩ := I.base.tbls b ps q; exact ⟨m, by rw [upd_ne (fun w => by rw [w, e] at z; cases z; exact pl)]; exact z⟩⟩
  loc := I.loc
  cell := I.cell
  free := by rw [upd_ne (fun w => by have z := I.free; rw [w, e] at z; cases z)]; exact I.free
  freeC x c q := by
    have z := I.freeC x c q
    rw [upd_ne (fun w => by rw [w, e] at z; cases z)]
    exact z
  pin p hp := by
    obtain ⟨e1, e2, e3⟩ := I.pin p hp
    exact ⟨e1, by rw [upd_ne (fun w => by rw [w, e] at e2; cases e2)]; exact e2, e3⟩
  hok b u q := by
    by_cases hb : b = a
    · subst hb
      rw [upd_same] at q
      cases q
      exact new
    · rw [upd_ne hb] at q
      exact (I.hok b u q).stay (fun c v _ q => q) (fun c q => by rw [upd_ne (fun w => by rw [w, e] at q; cases q; exact pl)]; exact q) fun c xs q => by rw [upd_ne (fun w => by rw [w, e] at q; cases q; exact pl)]; exact q
  len := I.len
/-- a made exception, its dict never written from now on -/
theorem mkp_lock {Q : XK} {u : Value} {s' : Shared} (m : MkP X pins σ (fun cls d H => ∃ dd fs, d = some dd ∧ H dd = some (.xd fs) ∧ ∀ od, Q cls d (upd H dd (.frz od (.xd fs)))) u s') : MkP X pins σ Q u s' := by
  obtain ⟨a, oe, vs, sI, H', cls, d, rfl, I, k, na, ha, hz, hd, h1, nH, os, ag, r, dd, fs, rfl, ed, q⟩ := m
  obtain ⟨mA, ⟨od, es, ep, ho, c⟩, rr⟩ := (I.hok dd _ ed : ObjOk X.prog X.w H' sI.heap dd (.xd fs))
  have ne : a ≠ dd := fun z => by rw [z, ed] at nH; cases nH
  exact ⟨a, oe, vs, sI, _, cls, some dd, rfl, relabel (o' := .frz od (.xd fs)) I ed trivial ⟨ho, mA, ⟨od, es, ep, ho, c⟩, rr⟩, k, na, ha, hz, hd, h1, by rw [upd_ne ne]; exact nH, os, ag, r, q od⟩
end
/-- a caught exception, known to the object -/
def lockX (t : TS) : TS := fun D σ H => ∃ a cls d, H a = some (XV cls d a) ∧ ∀ oe, t D σ (upd H a (.frz oe (XV cls d a)))
theorem pss_lockX {X : L2.Cx} {b : List Stmt} {t : TS} (h : PSs X b t) : PSs X b (lockX t) := by
  refine ⟨fun pins s σ H D I ⟨a, cls, d, ea, q⟩ => ?_⟩
  obtain ⟨⟨oe, vs, e1, e2, e3⟩, r⟩ := (I.hok a _ ea : ObjOk X.prog X.w H s.heap a (XV cls d a))
  exact h.run pins s σ _ D (relabel (o' := .frz oe (XV cls d a)) I ea trivial ⟨e1, ⟨oe, vs, e1, e2, e3⟩, r⟩) (q oe)
/-! ### the clauses -/
def setU (i : Option Nat) (σ : St) (v : Option V) : St := match i with
  | some i => σ.set i v
  | none => σ
def endU (i : Option Nat) (D : Ends) : Ends := { nx := fun σ H => D.nx (setU i σ none) H, rt := D.rt, bk := fun σ H => D.bk (setU i σ none) H, ct := fun σ H => D.ct (setU i σ none) H }
abbrev Hd := Value × Option Nat × TS
/-- what the clauses wish -/
def wTry (K : PySem.W.Frag) (Wout : WX) (D : Ends) : List Hd → WX
  | [] => Wout
  | (c, i, ts) :: r => fun cls d σ H => ∃ b, PySem.W.exmOne K cls c = some b ∧ (b = true → ∀ a, H a = none → ts (endU i D) (setU i σ (some (.ref a))) (upd H a (XV cls d a))) ∧ (b = false → wTry K Wout D r cls d σ H)
inductive HdL (X : L2.Cx) : List ExceptHandler → List Hd → Prop
  | nil : HdL X [] []
  | cons {x : Str} {c : Value} {n : Option Str} {i : Option Nat} {ts : TS} {b₀ : Stmt} {suite : List Stmt} {np pos' : Pos} {hds : List ExceptHandler} {l : List Hd} (hc : L2.Names X x c)
      (hn : (n = none ∧ i = none) ∨ ∃ m j, n = some m ∧ i = some j ∧ X.N[j]? = some m ∧ X.env.kindOf m = some .local)
      (hsu : ∀ (a : Addr) (pn : List (Addr × Obj)), PSs (X.suite a pn) (b₀ :: suite) ts) (r : HdL X hds l) :
      HdL X (.ExceptHandler (some (.Name x np)) n (b₀ :: suite) pos' :: hds) ((c, i, ts) :: l)
theorem ps_tryL {X : L2.Cx} {body : List Stmt} {h₀ : ExceptHandler} {hds : List ExceptHandler} {l : List Hd} {pos : Pos} {tb : WX → TS} {Wout : WX} (hs : X.stack = X.env :: X.outer) (hf : X.env.frame = some X.env.locals) (hx : X.ex = []) (hN : X.N.Nodup) (tk : Takes X Wout)
    (hb : ∀ (W : WX) (pn : List (Addr × Obj)) (xe : Value → Shared → Prop), Takes (X.tr pn xe) W → PassesOwn (model X.prog X.w) X.A X.env xe → PSs (X.tr pn xe) body (tb W))
    (hh : HdL X (h₀ :: hds) l) : PS X (.Try body (h₀ :: hds) [] [] pos) (fun D σ H => tb (wTry X.K Wout D l) D σ H) := by
  refine ⟨fun pins s σ H D I h => ?_⟩
  have ok := I.ok
  have hfr : X.A.frames = some (X.env :: X.outer) := by rw [ok.frames, hs]
  refine wpAny_Try_except ?_
  refine wpAny_mono ((hb (wTry X.K Wout D l) (X.pn ++ pins) (fun e s₁ => wpAny (model X.prog X.w) X.A (noteFrame e X.env) (fun _ s₂ => wpAny (model X.prog X.w) X.A (setFlight e none) (fun _ s₃ =>
    wpAny (model X.prog X.w) X.A (handleBy e X.env (h₀ :: hds)) (SP X pins D) X.xe s₃) X.xe s₂) X.xe s₁) (fun u s' xx => ?_) PassesOwn.looking).run [] s σ H D (I.toTry _) h) (fun f s1 hsp => ?_) (fun e s1 he => he)
  · -- it is caught, or goes on
    obtain ⟨a, B, sI, pins', σ', H', cls, d, rfl, J', nb, up, sky, na, os, ag, w⟩ := xx
    have J : Inv X pins σ' H' sI := J'.ofTry ok
    refine Sky.land Zc.steady hfr hf (by rw [← hs]; exact sky) fun h3 fl up3 => ?_
    obtain ⟨oe, vs, he, hz, hd⟩ := fl.there
    have nfr : a ∉ frs (X.env :: X.outer) := fun hm => by
      obtain ⟨_, o', e', hnf⟩ := fl.2.2.1.mem hm
      rw [he] at e'
      cases e'
      exact hnf _ hd
    have nI : sI.heap.get? a = none := by
      cases q : sI.heap.get? a with
      | none => rfl
      | some o =>
        have z := nb a o q (by rw [hs]; exact nfr)
        rw [fl.2.1] at z
        cases z
    have n0 : X.s_0.heap.get? a = none := by
      cases q : X.s_0.heap.get? a with
      | none => rfl
      | some o =>
        obtain ⟨o', z⟩ := J.base.there a o q (by rw [hx]; simp)
        rw [nI] at z
        cases z
    have np : ∀ p ∈ X.pn ++ pins, p.1 ≠ a := fun p hp z => by
      have e := (J.pin p hp).1
      rw [z, nI] at e
      cases e
    have nL : a ≠ X.env.locals := fun z => nfr (List.mem_filterMap.mpr ⟨X.env, List.mem_cons_self, by rw [hf, z]⟩)
    have J3 : Inv X pins σ' H' { s' with heap := h3 } := J.landed nb fl.1 (up.trans up3) os ag
    have go : ∀ {hds' : List ExceptHandler} {l' : List Hd}, HdL X hds' l' → wTry X.K Wout D l' cls d σ' H' → wpAny (model X.prog X.w) X.A (handleBy (.ref a) X.env hds') (SP X pins D) X.xe { s' with heap := h3 } := by
      intro hds' l' hk
      induction hk with
      | nil =>
        intro w
        refine wpAny_handleBy_nil ?_
        obtain ⟨_, _, _, oe, vs, T, oT, ts', he, hz, hd, h1, hr⟩ := id fl
        unfold PySem.passOn
        refine wpAny_bind (wpAny_field he hd h1 ?_)
        rw [if_neg (show ¬ ((Value.ref T == Value.none) = true) from by simp)]
        have fin : wpAny (model X.prog X.w) X.A (setFlight (.ref a) X.env.frame) (fun _ s4 => wpAny (model X.prog X.w) X.A (throw (.ref a) : Sem Flow) (SP X pins D) X.xe s4) X.xe { s' with heap := h3 } := by
          rw [hf]
          exact HandSPX.setFlight_upZ fl fun h4 hh4 up4 => wpAny_throw (tk _ _ ⟨a, B, sI, pins, σ', H', cls, d, rfl, J, nb, (up.trans up3).trans up4, .inr (.inr (by rw [hs]; exact hh4)), na, os, ag, w⟩)
        first
          | exact wpAny_bind (wpAny_pure (wpAny_bind fin))
          | exact wpAny_bind fin
      | @cons x c n i ts b₀ suite np' pos' hds2 l2 hc hn hsu r ih =>
        intro w
        obtain ⟨b, hb1, hyes, hno⟩ := w
        refine wpAny_handleBy_cons (codeAny_handlers_test ?_) (by intro q; cases q)
        have LM := PySem.W.exm_one (M := model X.prog X.w) J3.kIn (fun A Q E s k q => wpAny_typeOf_ref (k _ _ he) (by rw [hz.1]; exact q)) hb1
        have S3 : Inv (X.suite a (X.pn ++ pins)) [] σ' H' { s' with heap := h3 } := inv_suite J3
        have test : ∀ {Q : Value → Shared → Prop} {E : Value → Shared → Prop}, Q c { s' with heap := h3 } → wpAny (model X.prog X.w) (X.A.mark (some (.ref a))) (eval (.Name x np') X.env) Q E { s' with heap := h3 } := fun {Q E} q => by
          obtain ⟨hg, hdbg, hm | ⟨hm, hv, hnn⟩⟩ := hc
          · exact ld_glob (X := X.suite a (X.pn ++ pins)) S3 hg hm q hdbg
          · exact ld_blt (X := X.suite a (X.pn ++ pins)) S3 hg hm hv q hnn hdbg
        refine test (LM.here ?_)
        cases b with
        | false => exact ih (hno rfl)
        | true =>
          have key : ∀ h4, HandSPX.FlyingZ B (X.env :: X.outer) a (Zc cls d) h4 → h3.UpToSlots h4 → Inv (X.suite a (X.pn ++ pins)) [] σ' (upd H' a (XV cls d a)) { s' with heap := h4 } := fun h4 fl4 up4 => by
            obtain ⟨oe4, vs4, he4, hz4, hd4⟩ := fl4.there
            have J4 : Inv X pins σ' H' { s' with heap := h4 } := J.landed nb fl4.1 ((up.trans up3).trans up4) os ag
            exact adopt (inv_suite J4) he4 hd4 na n0 nL (fun p hp => np p (by rw [List.append_nil] at hp; exact hp)) (xv_ok he4 hz4 hd4)
          rcases hn with ⟨rfl, rfl⟩ | ⟨m, j, rfl, rfl, hj, hm⟩
          · refine codeAny_handlers_suite (HandSPX.lands_againZ fl fun h4 fl4 up4 => ?_)
            refine wpAny_mono ((hsu a (X.pn ++ pins)).run [] _ _ _ _ (key h4 fl4 up4) (hyes rfl a na)) (fun f s6 hsp => ?_) (fun _ _ z => False.elim z)
            cases f with
            | ret u =>
              obtain ⟨v6, σ6, H6, S6, r6, q6⟩ := hsp
              exact ⟨_, _, _, inv_unsuite S6 ok, r6, q6⟩
            | _ =>
              obtain ⟨σ6, H6, S6, q6⟩ := hsp
              exact ⟨_, _, inv_unsuite S6 ok, q6⟩
          · refine codeAny_handlers_suite_as (HandSPX.lands_againZ fl fun h4 fl4 up4 => ?_)
            refine store_ok (X := X.suite a (X.pn ++ pins)) (v := .ref a) (key h4 fl4 up4) hN hj (.inl hm) rfl (fun s5 S5 => ?_) (.inr hm)
            refine wpAny_mono ((hsu a (X.pn ++ pins)).run [] s5 _ _ _ S5 (hyes rfl a na)) (fun f s6 hsp => ?_) (fun _ _ z => False.elim z)
            have end_ : ∀ {σ6 : St} {H6 : Hp} {Q : Shared → Prop}, Inv (X.suite a (X.pn ++ pins)) [] σ6 H6 s6 → (∀ s7, Inv X pins (σ6.set j none) H6 s7 → Q s7) →
                wpAny (model X.prog X.w) X.A (do bindName X.env m .none; unbindBehindTheSuite X.env m pos') (fun _ s7 => Q s7) X.xe s6 := fun {σ6 H6 Q} S6 hq => gone_ok (inv_unsuite S6 ok) hN hj hm hq
            cases f with
            | ret u =>
              obtain ⟨v6, σ6, H6, S6, r6, q6⟩ := hsp
              exact end_ S6 fun s7 J7 => ⟨_, _, _, J7, r6, q6⟩
            | _ =>
              obtain ⟨σ6, H6, S6, q6⟩ := hsp
              exact end_ S6 fun s7 J7 => ⟨_, _, J7, q6⟩
    exact go hh w
  · cases f with
    | next =>
      obtain ⟨σ', H', J', q⟩ := hsp
      exact wpAny_execs_nil ⟨σ', H', J'.ofTry ok, q⟩
    | ret u =>
      obtain ⟨v, σ', H', J', r, q⟩ := hsp
      exact ⟨v, σ', H', J'.ofTry ok, r, q⟩
    | _ =>
      obtain ⟨σ', H', J', q⟩ := hsp
      exact ⟨σ', H', J'.ofTry ok, q⟩
end Lite

/-! LITE, 12b: exceptions of the program's own classes, made and raised. -/
namespace Lite
open PySem L2 PySem.Spec
open PyProof.Rows hiding St

/-- what the written part says of an exception class over Exception -/
structure XcE (K : PySem.W.Frag) (C : Addr) : Prop where
  cls : ∃ nm q N bs sn sub ab col dd k0 k1 k2 k3 k5, K.lookup C = some (excClassObj nm q C N bs PySem.ESX.exTail true sn sub ab col dd k0 k1 k2 k3 k5 "Exception.__new__")
  sa : PySem.W.findIn K (.ref C) "__setattr__" = some (some (.builtin "object.__setattr__"))
def xcEB (K : PySem.W.Frag) (C : Addr) : Bool := (match K.lookup C with
  | some ⟨.type "type", _, .cls cd, sl⟩ => (match sl.toList with
    | [_, _, _, _, some (.builtin n), _] => decide (n = "Exception.__new__") && decide (cd.mro = .ref C :: PySem.ESX.exTail) && cd.hasDict && !cd.hasDel
    | _ => false)
  | _ => false) && decide (PySem.W.findIn K (.ref C) "__setattr__" = some (some (.builtin "object.__setattr__")))
theorem xcEB_ok {K : PySem.W.Frag} {C : Addr} (h : xcEB K C = true) : XcE K C := by
  unfold xcEB at h
  rw [Bool.and_eq_true, decide_eq_true_eq] at h
  obtain ⟨h, hs⟩ := h
  refine ⟨?_, hs⟩
  split at h <;> (try (cases h; done))
  rename_i od cd sl e
  split at h <;> (try (cases h; done))
  rename_i k0 k1 k2 k3 n k5 es
  simp only [Bool.and_eq_true, decide_eq_true_eq, Bool.not_eq_true'] at h
  obtain ⟨⟨⟨h1, h2⟩, h3⟩, h4⟩ := h
  subst h1
  obtain ⟨nm, bs, mro, ns, qn, hd, sn, sb, ab, col, del⟩ := cd
  dsimp only at h2 h3 h4
  subst h2 h3 h4
  have esl : sl = #[k0, k1, k2, k3, some (.builtin "Exception.__new__"), k5] := by
    apply Array.toList_inj.mp
    rw [es]
  subst esl
  exact ⟨nm, qn, ns, bs, sn, sb, ab, col, od, k0, k1, k2, k3, k5, e⟩
section
variable {X : L2.Cx} {pins : List (Addr × Obj)} {σ : St} {H : Hp} {s : Shared} {a C : Addr} {f : Str} {y : V} {u : Value} {E : Value → Shared → Prop} {A : Around}
/-- the first attribute of such an exception -/
theorem first_attr {Q : Unit → Shared → Prop} (T : XcE X.K C) (I : Inv X pins σ H s) (ea : H a = some (exo a C none)) (na : PySem.W.findIn X.K (.ref C) f = some none) (ry : RelV y u)
    (fin : ∀ dx s', H dx = none → dx ≠ a → Inv X pins σ (upd (upd H dx (exd dx [(f, y)])) a (exo a C (some dx))) s' → Q () s') : wpAny (model X.prog X.w) A (setAttr (.ref a) f u) Q E s := by
  obtain ⟨nm, q, N, bs, sn, sub, ab, col, dd, k0, k1, k2, k3, k5, hC⟩ := T.cls
  have hcd : PySem.W.clsIn X.K C = some ⟨nm, bs, .ref C :: PySem.ESX.exTail, N, q, true, sn, sub, ab, col, false⟩ := by
    unfold PySem.W.clsIn
    rw [hC]
  obtain ⟨t0, g0⟩ := exo_at I.hok ea
  obtain ⟨hp, gg, dr, tk, os⟩ := s
  refine PySem.W.set_plain I.kIn (od := none) ⟨g0, rfl, rfl, trivial⟩ T.sa ?_
  refine PySem.ESX.osa_new I.kIn g0 hcd rfl rfl na fun h2 tk2 dx kp lo ne g2 ns2 => ?_
  have fr : H dx = none := I.hok.fresh lo
  -- the new dict first, then the exception
  obtain ⟨h1, eh1⟩ : ∃ h1 : PySem.Heap, h1 = h2.update a (fun _ => { cls := .ref C, dict := none, data := .fields #[.ref t0, .none, .none, .none, .bool false, .none] }) := ⟨_, rfl⟩
  have g1 : h1.get? a = some { cls := .ref C, dict := none, data := .fields #[.ref t0, .none, .none, .none, .bool false, .none] } := by rw [eh1]; exact Heap.get?_update_self _ g2 rfl
  have o1 : ∀ b, b ≠ a → h1.get? b = h2.get? b := fun b hb => by rw [eh1]; exact Heap.get?_update_ne _ _ _ _ hb
  have old : ∀ b o, hp.get? b = some o → h1.get? b = some o := fun b o e => by
    by_cases hb : b = a
    · subst hb
      rw [g1, ← e]
      exact g0.symm
    · rw [o1 b hb]
      exact kp b o hb e
  have rel1 : ∀ z, RelO (([(f, y)] : List (Str × V)).lookup z) (if z = f then some u else none) := relO_put (fs := []) ry fun z => True.intro
  have ns1 : h1.Ns1 dx (fun z => if z = f then some u else none) := ns2.at fun o e => (o1 dx ne).trans e
  have I1 := I.laid (t' := tk2) (a := dx) (o := exd dx [(f, y)]) (h' := h1) old lo (exd_ok ns1 rel1)
  have ea1 : upd H dx (exd dx [(f, y)]) a = some (exo a C none) := by rw [upd_ne (Ne.symm ne)]; exact ea
  have I2 := I1.write (t' := tk2) (h' := h2) (x := a) (e := a) (o := exo a C (some dx)) (by rw [ea1]; exact True.intro) (.inl rfl) (fun b o hb e => (o1 b hb).symm.trans e) ⟨_, g2⟩ (exo_ok g2)
  exact fin dx _ fr ne I2
/-- Exception.__init__(e, ..) -/
theorem base_init {us : List Value} {Q : Value → Shared → Prop} (T : XcE X.K C) (I : Inv X pins σ H s) (ea : H a = some (exo a C none)) (hz : us.length ≤ sizeLine) (fin : ∀ s', Inv X pins σ H s' → Q .none s') :
    wpAny (model X.prog X.w) A (PySem.call (.builtin "Exception.__init__") (.ref a :: us)) Q E s := by
  obtain ⟨nm, q, N, bs, sn, sub, ab, col, dd, k0, k1, k2, k3, k5, hC⟩ := T.cls
  obtain ⟨t0, g0⟩ := exo_at I.hok ea
  obtain ⟨hp, gg, dr, tk, os⟩ := s
  refine wpAny_call (PySem.HandSPX.init_base PySem.F.excBase_Exception (fun _ => rfl) (I.kIn _ _ hC) g0 hz fun h2 t2 kp g2 => ?_)
  have I2 := I.write (t' := tk) (x := a) (h' := h2) (e := a) (o := exo a C none) (by rw [ea]; exact True.intro) (.inl rfl) kp ⟨_, g2⟩ (exo_ok g2)
  have same : upd H a (exo a C none) = H := funext fun b => by
    by_cases hb : b = a
    · subst hb; rw [upd_same]; exact ea.symm
    · exact upd_ne hb
  exact fin _ (same ▸ I2)
end
theorem typ_Exc : typeOf (.type "Exception") = pure (.type "type") := by kernel_rfl
section
variable {X : L2.Cx}
/-- Exception.__init__(self, 'text') as a statement -/
theorem pe_excinit {p1 p2 pos : Pos} {es : List Expr} {e : Expr} {ta : TA} {C : Addr} (hg : Gl X "Exception") (hm : X.mg "Exception" = none) (hf : PySem.W.findCls X.K (.type "Exception") (.type "type") "__init__" = some (.val (.builtin "Exception.__init__"))) (ha : PA X (e :: es) ta)
    (he : starEach (e :: es) X.env = (false, eval e X.env) :: starEach es X.env) (hpl : (backTo pos (starEach es X.env)).any (·.1) = false) (hall : (backTo pos (starEach (e :: es) X.env)).all (fun x => !x.1) = true) (h20 : (e :: es).length < 20) (hline : (p2.endLine == pos.line) = true) :
    PE X (.Call (.Attribute (.Name "Exception" p1) "__init__" p2) (e :: es) [] pos) (fun σ H Q => ta σ H fun vs H1 => ∃ (a C : Addr) (ws : List V), vs = .ref a :: ws ∧ ws.length ≤ 1000 ∧ XcE X.K C ∧ H1 a = some (exo a C none) ∧ Q .non H1) := by
  refine ⟨fun pins s σ H Q I h => ?_⟩
  refine meth_call (base_plain rfl _ _) hall h20 hline (ld_blt I hg hm PyProof.Rows.Boot.«Exception» ?_ (by decide) (by decide))
  intro pl
  obtain ⟨m, fr⟩ := I.fr
  refine PySem.W.method_type fr I.ok.mod.kin typ_Exc (by decide +kernel) hf (by decide +kernel) ?_
  refine PyProof.Rows.callWith_method1 (thn (ha.run pos pins _ σ H _ (I.tok _) h) fun us s1 ⟨vs, H1, I1, r1, a, C, ws, ev, hl, T, ea, q⟩ => ?_) he hpl
  subst ev
  cases r1 with
  | @cons _ u0 _ ur ra rw' =>
    cases ra
    refine base_init T I1 ea ?_ fun s' J => ⟨.non, H1, J, rfl, q⟩
    rw [← Paired.length rw', sizeLine_eq]
    omega
/-- self.f = e in such an __init__ -/
theorem ps_xattr {o e : Expr} {f : Str} {p' pos : Pos} {to te : TE} (ho : PE X o to) (he : PE X e te) : PS X (.Assign [.Attribute o f p'] e pos) (fun D σ H => te σ H fun y H1 => to σ H1 fun x H2 => ∃ a C : Addr, x = .ref a ∧ XcE X.K C ∧ PySem.W.findIn X.K (.ref C) f = some none ∧ H2 a = some (exo a C none) ∧
    ∀ dx, H2 dx = none → dx ≠ a → D.nx σ (upd (upd H2 dx (exd dx [(f, y)])) a (exo a C (some dx)))) := by
  refine ⟨fun pins s σ H D I h => ?_⟩
  refine plainObj_wpAny_Assign_Attribute (thn (he.run pins s σ H _ I h) fun v s1 ⟨y, H1, I1, r1, q1⟩ => thn (ho.run pins s1 σ H1 _ I1 q1) fun u s2 ⟨x, H2, I2, r2, q2⟩ => ?_) swaps_at
  obtain ⟨a, C, ex, T, hno, ea, q⟩ := q2
  subst ex
  cases r2
  exact first_attr T I2 ea hno r1 fun dx s' n ne J => ⟨σ, _, J, q dx n ne⟩
end
/-- the promise of such an __init__ -/
def spX (C : Addr) (f : Str) : Sp := fun vs H Q _ => ∃ a v, vs = [.ref a, v] ∧ H a = some (exo a C none) ∧ ∀ dx, H dx = none → dx ≠ a → Q .non (upd (upd H dx (exd dx [(f, v)])) a (exo a C (some dx)))
section
variable {X : L2.Cx}
/-- C(e), an exception's making -/
theorem pmk_x {CX : CXT} {x : Str} {C fI : Addr} {k : Nat} {fd : FuncData} {ps : List Str} {f : Str} {e : Expr} {te : TA} {p pos : Pos} (T : XcE X.K C) (rs : Raises X (.ref C)) (kC : PySem.W.keepIn X.K (.ref C) = true) (iC : PySem.W.findIn X.K (.ref C) "__init__" = some (some (.ref fI))) (tI : PySem.W.typeIn X.K (.ref fI) = some (.type "function"))
    (F1 : FnOk X.prog X.w X.K X.mg X.base CX k fI fd ps (spX C f)) (hr : Room (k + 1) X.A) (hb : L2.Binds X.K fd ps []) (hx : Passes CX X (fun _ _ _ => False)) (hg : Gl X x) (hdb : (x == ("__debug__" : Str)) = false) (hm : X.mg x = some (.ref C)) (ha : PA X [e] te) (he : starEach [e] X.env = (false, eval e X.env) :: starEach [] X.env) :
    PMk X (.Call (.Name x p) [e] [] pos) (fun σ H Q => te σ H fun vs H1 => ∃ v, vs = [v] ∧ ∀ d od, H1 d = none → Q (.ref C) (some d) (upd H1 d (.frz od (.xd [(f, v)])))) := by
  intro pins s σ H Q I h
  obtain ⟨nm, q, N, bs, sn, sub, ab, col, dd, k0, k1, k2, k3, k5, hC⟩ := T.cls
  refine wpAny_Call_Name_kw (ld_glob I hg hm ?_ hdb)
  refine PySem.W.callWith_K (h₀ := X.base) I.ok.mod.kin kC (thn (ha.run pos pins s σ H _ I h) fun us s1 ⟨vs, H1, I1, r1, v, ev, q1⟩ => ⟨I1.kIn, ?_⟩) he (by rfl)
  subst ev
  show wpAny _ _ (PySem.call (.ref C) us) _ _ _
  obtain ⟨uv, rfl, ruv⟩ := vals1 r1
  obtain ⟨hp, gg, dr, tk, os⟩ := s1
  have lo : hp.objs.size ≤ hp.objs.size + 1 := Nat.le_succ _
  obtain ⟨a, eaa⟩ : ∃ a, a = hp.objs.size + 1 := ⟨_, rfl⟩
  have fa : H1 a = none := I1.hok.fresh (by rw [eaa]; exact lo)
  obtain ⟨hp2, eh2⟩ : ∃ h2 : PySem.Heap, h2 = (hp.push (PySem.W.kdv_tup [uv])).push (PySem.HandSPX.excO C hp.objs.size) := ⟨_, rfl⟩
  have kk : ∀ b o, hp.get? b = some o → hp2.get? b = some o := fun b o e => by rw [eh2]; exact Heap.get?_push_of_some _ (Heap.get?_push_of_some _ e)
  have ga : hp2.get? a = some (PySem.HandSPX.excO C hp.objs.size) := by rw [eh2, eaa]; heap_get
  have I2 : Inv X pins σ (upd H1 a (exo a C none)) ⟨hp2, gg, dr, tk, os⟩ := I1.laid (t' := tk) (a := a) (o := exo a C none) (h' := hp2) kk (by rw [eaa]; exact lo) (exo_ok ga)
  have hsp : spX C f [.ref a, v] (upd H1 a (exo a C none)) (fun w H2 => w = .non ∧ ∃ d, H1 d = none ∧ d ≠ a ∧ H2 = upd (upd (upd H1 a (exo a C none)) d (exd d [(f, v)])) a (exo a C (some d))) (fun _ _ _ => False) :=
    ⟨a, v, rfl, upd_same, fun dx n ne => ⟨rfl, dx, by rw [upd_ne ne] at n; exact n, ne, rfl⟩⟩
  have r2 : Vals [V.ref a, v] [Value.ref a, uv] := .cons rfl (.cons ruv .nil)
  have hl : ([Value.ref a, uv] ++ ([] : List Value)).length = ps.length := by
    have := F1.len _ _ _ _ hsp
    simpa using this
  have hbt := hb ⟨hp2, gg, dr, tk, os⟩ [Value.ref a, uv] I2.kIn hl
  rw [List.append_nil] at hbt
  have run := F1.run _ X.stack _ _ ⟨[Value.ref a, uv], []⟩ [Value.ref a, uv] [V.ref a, v] _ (fun _ _ _ => False) (hr.make C [uv] []) (I2.env0.make C [uv] []) hbt r2 hsp
  refine wpAny_call (PySem.HandSPX.call_own PySem.F.excBase_Exception (fun _ => rfl) (I1.kIn _ _ hC) (PySem.W.looks_findIn I1.kIn iC) (fun self => PySem.W.bind_fn I1.kIn self tI) (by rw [sizeLine_eq]; show 1 ≤ 16777216; omega) ?_)
  rw [← eh2, ← eaa]
  refine codeAny_mono run fun r s' hq => ?_
  cases r with
  | error er => exact hx pins σ _ _ er s' I2 hq
  | ok fl =>
    cases fl with
    | ret u =>
      obtain ⟨w, H2, os2, bare2, un2, hok2, rv, ew, d, hd1, hda, eH2⟩ := hq
      subst ew
      obtain ⟨h3, g3, d3, t3, os3⟩ := s'
      refine ⟨rv, mkp_lock (mk_end (H1 := H1) (H2 := H2) (fs := [(f, v)]) (d := d) rs I1 (by rw [eaa]; exact lo) kk un2 hok2 os2 bare2 (by rw [eH2, upd_same]) (by rw [eH2, upd_ne hda, upd_same]) hd1 ?_)⟩
      have e3 : upd (L2.del H2 a) d (.xd [(f, v)]) = upd H1 d (.xd [(f, v)]) := funext fun b => by
        by_cases hb : b = d
        · subst hb; rw [upd_same, upd_same]
        · rw [upd_ne hb, upd_ne hb]
          by_cases hba : b = a
          · rw [hba, del_same, fa]
          · rw [del_ne hba, eH2, upd_ne hba, upd_ne hb, upd_ne hba]
      rw [e3]
      exact ⟨d, _, rfl, upd_same, fun od => by rw [upd_upd]; exact q1 d od hd1⟩
    | next => exact False.elim hq
    | brk => exact False.elim hq
    | cont => exact False.elim hq
end
/-! ### classes over ValueError -/
def oexB (K : PySem.W.Frag) (C : Addr) : Bool := (match K.lookup C with
  | some ⟨.type "type", _, .cls cd, sl⟩ => (match sl.toList with
    | [_, _, _, _, some (.builtin n), _] => decide (n = "ValueError.__new__") && (match cd.mro with
      | .ref D :: bm => decide (D = C) && PySem.HandSPX.refsVE bm
      | _ => false) && cd.hasDict && !cd.hasDel
    | _ => false)
  | _ => false) && decide (PySem.W.findIn K (.ref C) "__setattr__" = some (some (.builtin "object.__setattr__"))) && decide (PySem.W.subIn K (.ref C) (.type "BaseException") = some true) && decide (PySem.W.typeIn K (.ref C) = some (.type "type")) && PySem.W.keepIn K (.ref C)
theorem oexB_ok {K : PySem.W.Frag} {C : Addr} (h : oexB K C = true) : OexC K C := by
  unfold oexB at h
  simp only [Bool.and_eq_true, decide_eq_true_eq] at h
  obtain ⟨⟨⟨⟨h, hs⟩, h6⟩, h7⟩, h8⟩ := h
  refine ⟨?_, hs, h6, h7, h8⟩
  split at h <;> (try (cases h; done))
  rename_i od cd sl e
  split at h <;> (try (cases h; done))
  rename_i k0 k1 k2 k3 n k5 es
  simp only [Bool.and_eq_true, decide_eq_true_eq, Bool.not_eq_true'] at h
  obtain ⟨⟨⟨h1, h2⟩, h3⟩, h4⟩ := h
  subst h1
  obtain ⟨nm, bs, mro, ns, qn, hd, sn, sb, ab, col, del⟩ := cd
  dsimp only at h2 h3 h4
  subst h3 h4
  split at h2 <;> (try (cases h2; done))
  rename_i D bm
  simp only [Bool.and_eq_true, decide_eq_true_eq] at h2
  obtain ⟨h9, h10⟩ := h2
  subst h9
  have esl : sl = #[k0, k1, k2, k3, some (.builtin "ValueError.__new__"), k5] := by
    apply Array.toList_inj.mp
    rw [es]
  subst esl
  exact ⟨nm, qn, ns, bs, bm, sn, sb, ab, col, od, k0, k1, k2, k3, k5, e, h10⟩
section
variable {X : L2.Cx}
/-- B.__init__(self, 'text') as a statement, B a class above ours that has none of its own -/
theorem pe_vinit {p1 p2 pos : Pos} {es : List Expr} {e : Expr} {ta : TA} {x : Str} {B : Addr} (hg : Gl X x) (hdb : (x == ("__debug__" : Str)) = false) (hm : X.mg x = some (.ref B)) (hs : PySem.W.specialIn X.K (.ref B) "__getattribute__" = some (some (.builtin "type.__getattribute__"))) (hr : PySem.W.readsIn X.K B (.type "type") = true)
    (hf : PySem.W.findCls X.K (.ref B) (.type "type") "__init__" = some (.val (.builtin "ValueError.__init__"))) (ha : PA X (e :: es) ta)
    (he : starEach (e :: es) X.env = (false, eval e X.env) :: starEach es X.env) (hpl : (backTo pos (starEach es X.env)).any (·.1) = false) (hall : (backTo pos (starEach (e :: es) X.env)).all (fun x => !x.1) = true) (h20 : (e :: es).length < 20) (hline : (p2.endLine == pos.line) = true) :
    PE X (.Call (.Attribute (.Name x p1) "__init__" p2) (e :: es) [] pos) (tVeI X.K ta) := by
  refine ⟨fun pins s σ H Q I h => ?_⟩
  refine meth_call (base_plain rfl _ _) hall h20 hline (ld_glob I hg hm ?_ hdb)
  intro pl
  refine PySem.W.method_cls I.kIn hs (PySem.W.cls_value I.kIn hr hf (by decide +kernel) ?_)
  refine PyProof.Rows.callWith_method1 (thn (ha.run pos pins _ σ H _ (I.tok _) h) fun us s1 ⟨vs, H1, I1, r1, a, C, ws, ev, hl, T, ea, q⟩ => ?_) he hpl
  subst ev
  cases r1 with
  | @cons _ u0 _ ur ra rw' =>
    cases ra
    refine oinit_ok T I1 ea ?_ fun s' J => ⟨.non, H1, J, rfl, q⟩
    rw [← Paired.length rw', sizeLine_eq]
    omega
theorem pa_up {es : List Expr} {t : TA} (h : PA X es t) : PA X es (fun σ H Q' => ∃ P, t σ H P ∧ ∀ vs H1, P vs H1 → Q' vs H1) :=
  ⟨fun pos pins s σ H Q I ⟨P, hp, f⟩ => wpAny_mono (h.run pos pins s σ H P I hp) (fun us s' ⟨vs, H1, I1, r, q⟩ => ⟨vs, H1, I1, r, f vs H1 q⟩) fun _ _ z => z⟩
/-- C(e), such an exception's making -/
theorem pmk_v {CX : CXT} {x : Str} {C fI : Addr} {k : Nat} {fd : FuncData} {ps : List Str} {f : Str} {e : Expr} {te : TA} {p pos : Pos} (T : OexC X.K C) (iC : PySem.W.findIn X.K (.ref C) "__init__" = some (some (.ref fI))) (tI : PySem.W.typeIn X.K (.ref fI) = some (.type "function"))
    (F1 : FnOk X.prog X.w X.K X.mg X.base CX k fI fd ps (spX C f)) (hr : Room (k + 1) X.A) (hb : L2.Binds X.K fd ps []) (hx : Passes CX X (fun _ _ _ => False)) (hg : Gl X x) (hdb : (x == ("__debug__" : Str)) = false) (hm : X.mg x = some (.ref C)) (ha : PA X [e] te) (he : starEach [e] X.env = (false, eval e X.env) :: starEach [] X.env) :
    PMk X (.Call (.Name x p) [e] [] pos) (fun σ H Q => te σ H fun vs H1 => ∃ v, vs = [v] ∧ ∀ d od, H1 d = none → Q (.ref C) (some d) (upd H1 d (.frz od (.xd [(f, v)])))) := by
  intro pins s σ H Q I h
  have base := pmk_oex (p := p) (pos := pos) (dvs := []) (ds := []) (es := []) T iC tI F1 hr hb .nil hx hg hm (pa_up ha) hdb he rfl pins s σ H (fun cls d H => ∃ dd fs, d = some dd ∧ H dd = some (.xd fs) ∧ ∀ od, Q cls d (upd H dd (.frz od (.xd fs)))) I
  refine wpAny_mono (base ⟨_, h, fun vs H1 ⟨v, ev, q⟩ => ?_⟩) (fun u s' m => mkp_lock m) fun _ _ z => z
  subst ev
  refine ⟨by simp, fun a na => ⟨a, v, rfl, upd_same, fun dx n ne => ⟨rfl, dx, [(f, v)], upd_same, ?_, ?_, dx, [(f, v)], rfl, upd_same, fun od => ?_⟩⟩⟩
  · rw [upd_ne ne, upd_same]
  · rw [upd_ne ne] at n; exact n
  · rw [upd_ne ne] at n
    have e3 : upd (upd (L2.del (upd (upd (upd H1 a (exo a C none)) dx (exd dx [(f, v)])) a (exo a C (some dx))) a) dx (.xd [(f, v)])) dx (.frz od (.xd [(f, v)])) = upd H1 dx (.frz od (.xd [(f, v)])) := funext fun b => by
      by_cases hb : b = dx
      · subst hb; rw [upd_same, upd_same]
      · rw [upd_ne hb, upd_ne hb, upd_ne hb]
        by_cases hba : b = a
        · rw [hba, del_same, na]
        · rw [del_ne hba, upd_ne hba, upd_ne hb, upd_ne hba]
    rw [e3]
    exact q dx od n
end
/-- what is known of an exception class with one field -/
structure XF (G : GD) (c f : String) : Prop where
  ex : ∃ (C fI : Addr) (fd : FuncData) (ps : List Str), G.ca c = some C ∧ G.mg (G.nm c) = some (.ref C) ∧ (XcE G.K C ∨ OexC G.K C) ∧ PySem.W.subIn G.K (.ref C) (.type "BaseException") = some true ∧ PySem.W.typeIn G.K (.ref C) = some (.type "type") ∧ PySem.W.keepIn G.K (.ref C) = true ∧
    PySem.W.findIn G.K (.ref C) "__init__" = some (some (.ref fI)) ∧ PySem.W.typeIn G.K (.ref fI) = some (.type "function") ∧ L2.Binds G.K fd ps [] ∧ FnOk G.prog G.w G.K G.mg G.base (L2.CX G.prog G.w) 1 fI fd ps (spX C (Str.ofString f)) ∧ XfC G.K C ∧ PySem.W.findIn G.K (.ref C) (Str.ofString f) = some none
structure XOk (G : GD) : Prop where
  known : ∀ d, G.P.exk d = true → ∃ C, G.ca d = some C ∧ G.mg (G.nm d) = some (.ref C)
  exn : ∀ c f, G.P.exf c = some f → XF G c f
  sub : ∀ c d C D, (G.P.exf c).isSome = true → G.P.exk d = true → G.ca c = some C → G.ca d = some D → PySem.W.exmOne G.K (.ref C) (.ref D) = some (G.P.sub c d)
section
variable {G : GD} {k : Nat} {X : L2.Cx} {c : Sc} {W : WX} {K : Cn} {A : List Nat}
theorem st_raise (s : SX G k X c W K) (hh : c.hot = false) (xo : XOk G) {n : String} {l : LE} {x : Str} {e : Expr} {p pos pos' : Pos} (hk : c.kxr n = true) (hn : c.nm n = x) (hg : isGlob c x = true) (hpl : plainE e = true) (he : PA X [e] (rdA G K W [l])) : PS X (.Raise (some (.Call (.Name x p) [e] [] pos)) none pos') (rdS G K W A (.raise n [l])) := by
  obtain ⟨f, hf⟩ := Option.isSome_iff_exists.mp (s.kr n hk)
  obtain ⟨C, fI, fd, ps, e1, e2, e3, e4, e5, e6, e7, e8, e9, e10, e11, e12⟩ := (xo.exn n f hf).ex
  obtain ⟨hg1, hg2⟩ := s.g.gl hg
  have s5 := s.g.s5
  by_cases hlv : 2 ≤ k
  · have F : FnOk X.prog X.w X.K X.mg X.base (L2.CX X.prog X.w) 1 fI fd ps (spX C (Str.ofString f)) := by rw [s5.prog, s5.w, s5.K, s5.mg, s5.base]; exact e10
    have mk : PMk X (.Call (.Name x p) [e] [] pos) (fun σ H Q => rdA G K W [l] σ H fun vs H1 => ∃ v, vs = [v] ∧ ∀ d od, H1 d = none → Q (.ref C) (some d) (upd H1 d (.frz od (.xd [(Str.ofString f, v)])))) := by
      rcases e3 with e3 | e3
      · exact pmk_x (CX := L2.CX X.prog X.w) (by rw [s5.K]; exact e3) (raises_own (by rw [s5.K]; exact e4) (by rw [s5.K]; exact e5)) (by rw [s5.K]; exact e6) (by rw [s5.K]; exact e7) (by rw [s5.K]; exact e8) F ((s.g.room hh).mono hlv) (by rw [s5.K]; exact e9) (passes_call s.g.tk fun _ _ _ _ z => z.elim) hg1 hg2 (by rw [s5.mg, ← hn, s.g.nm]; exact e2) he (star_cons hpl)
      · exact pmk_v (CX := L2.CX X.prog X.w) (by rw [s5.K]; exact e3) (by rw [s5.K]; exact e7) (by rw [s5.K]; exact e8) F ((s.g.room hh).mono hlv) (by rw [s5.K]; exact e9) (passes_call s.g.tk fun _ _ _ _ z => z.elim) hg1 hg2 (by rw [s5.mg, ← hn, s.g.nm]; exact e2) he (star_cons hpl)
    refine ps_imp (ps_raise (s.g.calm hh) s.g.tk mk) fun D σ H ⟨ρ, h, R, sr, o⟩ => ?_
    unfold exS at o
    rw [if_pos (by rw [s.lv]; exact hlv)] at o
    refine ⟨ρ, h, R, sr, (evEs_len (Sat.bind.mp o)).imp (fun ts h1 q => ?_) fun _ _ z => z.at⟩
    obtain ⟨hl, q⟩ := q
    intro R1 H1 vs lq hr vrs
    match ts, hl, vrs with
    | [t], _, .cons (v := v) vt .nil =>
      refine ⟨v, rfl, fun d od hd => ?_⟩
      have kk : ∀ b o, H1 b = some o → upd H1 d (.frz od (.xd [(Str.ofString f, v)])) b = some o := fun b o e => by rw [upd_ne (ne_of_none e hd)]; exact e
      exact q R1 _ (.ref C) (some d) σ (lq.trans (Lq.all kk)) (hr.grow kk) ⟨n, [t], C, rfl, e1, rfl, t, v, d, od, f, rfl, rfl, hf, vt.mono (Lq.all kk), upd_same⟩ (Agree.refl _ _)
  · refine ⟨fun pins s0 σ H D I ⟨ρ, h, R, sr, o⟩ => ?_⟩
    unfold exS at o
    rw [if_neg (by rw [s.lv]; exact hlv)] at o
    exact o.elim
/-! ### try -/
/-- what is no comprehension -/
def noCompX : Expr → Bool
  | .ListComp .. => false
  | .SetComp .. => false
  | .DictComp .. => false
  | _ => true
theorem swaps_noX {e : Expr} (h : noCompX e = true) (t : Option Expr) (n : Nat) (env : PySem.Env) : swapsWith e t n env = pure false := by
  cases e <;> first | rfl | cases h
/-- a statement that raises with the slots as they were -/
def rd1 (G : GD) (K : Cn) (W : WX) (A : List Nat) (l : LS) : TS := fun D σ H => ∃ ρ h R, SR G ρ h R σ H ∧ Sat (exS K l ρ h) (PostT G A σ R H D) (PostX G R H (At W σ))
theorem rdE.bind1 {le : LE} {f : T → Heap → Rs Fl} {ρ : Rho} {h : Heap} {R : List Addr} {σ : St} {H : Hp} {D : Ends} (sr : SR G ρ h R σ H) (o : Sat ((evE K le ρ h).bind f) (PostT G A σ R H D) (PostX G R H (At W σ))) {Q : VK}
    (q : ∀ t h' R' H' v, SR G ρ h' R' σ H' → Lq R H R' H' → VR G R' H' t v → Sat (f t h') (PostT G A σ R' H' D) (PostX G R' H' (At W σ)) → Q v H') : rdE G K W le σ H Q :=
  ⟨ρ, h, R, sr, (Sat.bind.mp o).imp (fun t h' o1 R' H' v lq hr vr => q t h' R' H' v (sr.next lq hr) lq vr (o1.imp (fun _ _ z => z.later lq (Agree.refl _ _)) fun _ _ z => later_X _ _ _ _ _ _ _ lq z)) fun _ _ z => z⟩
theorem s1_set (g : GX G k X c W) {i : Nat} {x : Str} {l : LE} {e : Expr} {p p2 : Pos} (h1 : c.N[i]? = some x) (h2 : isLoc c x = true) (h3 : i ∈ A) (hn : swapsWith e (some (.Name x p2)) p.line X.env = pure false) (he : PE X e (rdE G K W l)) : PS X (.Assign [.Name x p2] e p) (rd1 G K W A (.set i l)) := by
  obtain ⟨l1, l2⟩ := g.loc h2
  refine ps_imp (ps_set (by rw [g.N]; exact g.nd) (by rw [g.N]; exact h1) l1 he hn l2) fun D σ H ⟨ρ, h, R, sr, o⟩ => ?_
  unfold exS at o
  exact rdE.bind1 sr o fun t h1 R1 H1 v sr1 lq vr o1 => o1 R1 H1 _ (Lq.refl _ _) sr1.hr (sr1.er.set _ vr) ((Agree.refl _ _).set h3 _)
theorem s1_ret {l : LE} {e : Expr} {p : Pos} (he : PE X e (rdE G K W l)) : PS X (.Return (some e) p) (rd1 G K W A (.ret l)) := by
  refine ps_imp (ps_ret he) fun D σ H ⟨ρ, h, R, sr, o⟩ => ?_
  unfold exS at o
  exact rdE.bind1 sr o fun t h1 R1 H1 v sr1 lq vr o1 => o1 R1 H1 v (Lq.refl _ _) sr1.hr vr
theorem s1_expr {l : LE} {e : Expr} {p : Pos} (hn : swapsWith e none p.line X.env = pure false) (he : PE X e (rdE G K W l)) : PS X (.Expr e p) (rd1 G K W A (.expr l)) := by
  refine ps_imp (ps_expr he hn) fun D σ H ⟨ρ, h, R, sr, o⟩ => ?_
  unfold exS at o
  exact rdE.bind1 sr o fun t h1 R1 H1 v sr1 lq vr o1 => o1 R1 H1 σ (Lq.refl _ _) sr1.hr sr1.er (Agree.refl _ _)
/-- the same of a block of one statement -/
def rd1s (G : GD) (K : Cn) (W : WX) (A : List Nat) (l : List LS) : TS := fun D σ H => ∃ ρ h R, SR G ρ h R σ H ∧ Sat (exSs K l ρ h) (PostT G A σ R H D) (PostX G R H (At W σ))
theorem one_S {l : LS} {ρ : Rho} {h : Heap} : exSs K [l] ρ h = exS K l ρ h := by
  rw [exSs]
  cases exS K l ρ h with
  | ok fl h2 => cases fl <;> (rw [Rs.bind_ok] <;> first | rfl | simp only [exSs])
  | exc _ _ => rfl
  | stuck => rfl
theorem s1_one {l : LS} {t : Stmt} (h : PS X t (rd1 G K W A l)) : PSs X [t] (rd1s G K W A [l]) :=
  pss_imp (pss_one h) fun D σ H ⟨ρ, h, R, sr, o⟩ => ⟨ρ, h, R, sr, by rw [one_S] at o; exact o⟩
theorem s1_if {l : LE} {a b : List LS} {e : Expr} {x y : List Stmt} {p : Pos} (he : PT X e (rdT G K W l)) (ha : PSs X x (rd1s G K W A a)) (hb : PSs X y (rd1s G K W A b)) : PS X (.If e x y p) (rd1 G K W A (.iff l a b)) := by
  refine ps_imp (ps_if he ha hb) fun D σ H ⟨ρ, h, R, sr, o⟩ => ?_
  unfold exS at o
  refine ⟨ρ, h, R, sr, ?_⟩
  have o1 := Sat.bind.mp o
  refine Sat.bind.mpr (o1.imp (fun t h1 o2 => ?_) fun _ _ z => z)
  cases et : truth h1 t with
  | none => rw [et] at o2; exact o2.elim
  | some q =>
    rw [et] at o2
    show Sat (.ok q h1) _ _
    intro R1 H1 lq hr
    have sr1 := sr.next lq hr
    cases q with
    | true => exact ⟨ρ, h1, R1, sr1, Sat.imp o2 (fun _ _ z => z.later lq (Agree.refl _ _)) fun _ _ z => later_X _ _ _ _ _ _ _ lq z⟩
    | false => exact ⟨ρ, h1, R1, sr1, Sat.imp o2 (fun _ _ z => z.later lq (Agree.refl _ _)) fun _ _ z => later_X _ _ _ _ _ _ _ lq z⟩
mutual
def chk1 (c : Sc) (A : List Nat) : LS → Stmt → Bool
  | .set i l, .Assign [.Name x _] e _ => decide (c.N[i]? = some x) && isLoc c x && A.contains i && noCompX e && chkE c l e
  | .ret l, .Return (some e) _ => chkE c l e
  | .expr l, .Expr e _ => noCompX e && chkE c l e
  | .iff l a b, .If e x y _ => chkE c l e && chk1s c A a x && chk1s c A b y
  | _, _ => false
def chk1s (c : Sc) (A : List Nat) : List LS → List Stmt → Bool
  | [l], [t] => chk1 c A l t
  | _, _ => false
end
mutual
theorem sound1 (s : SX G k X c W K) (l : LS) (t : Stmt) (h : chk1 c A l t = true) : PS X t (rd1 G K W A l) := by
  unfold chk1 at h
  split at h
  · simp only [Bool.and_eq_true, decide_eq_true_eq, List.contains_eq_mem] at h
    exact s1_set s.g h.1.1.1.1 h.1.1.1.2 h.1.1.2 (swaps_noX h.1.2 _ _ _) (soundE s _ _ h.2).1
  · exact s1_ret (soundE s _ _ h).1
  · simp only [Bool.and_eq_true] at h
    exact s1_expr (swaps_noX h.1 _ _ _) (soundE s _ _ h.2).1
  · simp only [Bool.and_eq_true] at h
    exact s1_if (soundE s _ _ h.1.1).2 (sound1s s _ _ h.1.2) (sound1s s _ _ h.2)
  · cases h
termination_by sizeOf l
theorem sound1s (s : SX G k X c W K) (l : List LS) (t : List Stmt) (h : chk1s c A l t = true) : PSs X t (rd1s G K W A l) := by
  unfold chk1s at h
  split at h
  · exact s1_one (sound1 s _ _ h)
  · cases h
termination_by sizeOf l
end
/-- within a try's body -/
theorem SX.tr {X : L2.Cx} (s : SX G k X c W K) {pn : List (Addr × Obj)} {xe : Value → Shared → Prop} {W' : WX} (tk : Takes (X.tr pn xe) W') (po : PassesOwn (model X.prog X.w) X.A X.env xe) : SX G k (X.tr pn xe) c W' K where
  ok := s.ok
  P := s.P
  kn := s.kn
  lv := s.lv
  kc := s.kc
  kx := s.kx
  kr := s.kr
  calls := s.calls
  init := s.init
  g := { s5 := ⟨s.g.s5.prog, s.g.s5.w, s.g.s5.K, s.g.s5.mg, s.g.s5.base⟩, room := s.g.room, un := s.g.un, gd := s.g.gd, calm := s.g.calm, nm := s.g.nm, N := s.g.N, nd := s.g.nd, sc1 := s.g.sc1, sc2 := s.g.sc2, fnc := s.g.fnc, tk := tk, po := fun _ => po }
/-- within an except suite -/
theorem SX.suite {X : L2.Cx} (s : SX G k X c W K) (a : Addr) (pn : List (Addr × Obj)) : SX G k (X.suite a pn) { c with hot := true } W0 K where
  ok := s.ok
  P := s.P
  kn := s.kn
  lv := s.lv
  kc := s.kc
  kx := s.kx
  kr := s.kr
  calls := s.calls
  init := s.init
  g := { s5 := ⟨s.g.s5.prog, s.g.s5.w, s.g.s5.K, s.g.s5.mg, s.g.s5.base⟩, room := fun z => (by cases z), un := s.g.un, gd := s.g.gd, calm := fun z => (by cases z), nm := s.g.nm, N := s.g.N, nd := s.g.nd, sc1 := s.g.sc1, sc2 := s.g.sc2, fnc := s.g.fnc, tk := fun u s' ⟨_, _, _, _, _, _, _, _, _, _, _, _, _, _, _, _, w⟩ => w, po := fun z => (by cases z) }
/-- a clause's name -/
def nameH (c : Sc) (A : List Nat) : Option Nat → Option Str → Bool
  | none, none => true
  | some i, some n => decide (c.N[i]? = some n) && decide (c.sc.names.lookup n = some .local) && A.contains i
  | _, _ => false
theorem Agree.unset {a b : St} {i : Option Nat} (h : Agree A a b) (hi : ∀ j, i = some j → j ∈ A) (v : Option V) : Agree A a (setU i b v) := by
  cases i with
  | none => exact h
  | some j => exact h.set (hi j rfl) v
/-- one clause -/
theorem hd_one (s : SX G k X c W K) (xo : XOk G) {d : String} {i : Option Nat} {su : List LS} {cc : String} {vs : List T} {cls : Value} {dd : Option Addr} {D : Ends} {ρ : Rho} {h : Heap} {R : List Addr} {σ : St} {H : Hp} (hi : ∀ j, i = some j → j ∈ A)
    (sr : SR G ρ h R σ H) (xr : XR G R H (.exn cc vs) cls dd) (o : Sat ((exSs K su (bindX i (.exn cc vs) ρ) h).calm.bind fun fl h => .ok (mapFl (unbindX i) fl) h) (PostT G A σ R H D) (PostXS G A σ R H W)) (a : Addr) (na : H a = none) :
    lockX (rdSs G K W0 A su) (endU i D) (setU i σ (some (.ref a))) (upd H a (XV cls dd a)) := by
  refine ⟨a, cls, dd, upd_same, fun oe => ?_⟩
  rw [upd_upd]
  obtain ⟨c2, vs2, C, e2, e3, e4, x, v, da, od, f, e5, e6, e7, e8, e9⟩ := xr
  cases e2
  subst e4 e5 e6
  have kk : ∀ b o, H b = some o → upd H a (.frz oe (XV (.ref C) (some da) a)) b = some o := fun b o e => by rw [upd_ne (ne_of_none e na)]; exact e
  have lq : Lq R H R (upd H a (.frz oe (XV (.ref C) (some da) a))) := Lq.all kk
  have vx : VR G R (upd H a (.frz oe (XV (.ref C) (some da) a))) (.exn cc [x]) (.ref a) := .exn e3 e7 upd_same (kk _ _ e9) (e8.mono lq)
  have er : ERel G R (upd H a (.frz oe (XV (.ref C) (some da) a))) (bindX i (.exn cc [x]) ρ) (setU i σ (some (.ref a))) := by
    cases i with
    | none => exact sr.er.mono lq
    | some j => exact (sr.er.mono lq).set j vx
  refine ⟨_, h, R, ⟨sr.hr.grow kk, er⟩, ?_⟩
  have o1 := Sat.calm (E' := PostXS G A (setU i σ (some (.ref a))) R (upd H a (.frz oe (XV (.ref C) (some da) a))) W0) (Sat.bind.mp o)
  refine o1.imp (fun fl h2 q => ?_) fun _ _ z => z
  have end_ : ∀ {ρ' : Rho} {R' : List Addr} {H' : Hp} {σ' : St}, ERel G R' H' ρ' σ' → ERel G R' H' (unbindX i ρ') (setU i σ' none) := fun {ρ' R' H' σ'} e => by
    cases i with
    | none => exact e
    | some j => exact e.drop j none
  have ag : ∀ {σ' : St}, Agree A (setU i σ (some (.ref a))) σ' → Agree A σ (setU i σ' none) := fun {σ'} e => (((Agree.refl A σ).unset hi _).trans e).unset hi _
  cases fl with
  | nx ρ' => exact fun R' H' σ' l hr' er' ag' => q R' H' _ (lq.trans l) hr' (end_ er') (ag ag')
  | brk ρ' => exact fun R' H' σ' l hr' er' ag' => q R' H' _ (lq.trans l) hr' (end_ er') (ag ag')
  | cnt ρ' => exact fun R' H' σ' l hr' er' ag' => q R' H' _ (lq.trans l) hr' (end_ er') (ag ag')
  | ret t => exact fun R' H' v l hr' vr' => q R' H' v (lq.trans l) hr' vr'
/-- what the clauses of a try make of its exceptions -/
def HdsOk (G : GD) (K : Cn) (X : L2.Cx) (W : WX) (A : List Nat) (hs : List LS) (hds : List ExceptHandler) : Prop := ∃ l, HdL X hds l ∧ ∀ (D : Ends) (ρ : Rho) (h : Heap) (R : List Addr) (σ : St) (H : Hp) (cc : String) (vs : List T) (cls : Value) (d : Option Addr), SR G ρ h R σ H → XR G R H (.exn cc vs) cls d →
  Sat (exH K hs cc vs ρ h) (PostT G A σ R H D) (PostXS G A σ R H W) → wTry X.K W D l cls d σ H
theorem hds_nil : HdsOk G K X W A [] [] := ⟨[], .nil, fun D ρ h R σ H cc vs cls d sr xr o => by
  unfold exH at o
  exact o R H cls d σ (Lq.refl _ _) sr.hr xr (Agree.refl _ _)⟩
theorem hds_cons (s : SX G k X c W K) (xo : XOk G) {d : String} {i : Option Nat} {su : List LS} {hs : List LS} {n : Option Str} {hx : Str} {b₀ : Stmt} {bs : List Stmt} {np pos' : Pos} {hds : List ExceptHandler} (hd : c.kex d = true) (hdn : c.nm d = hx) (hdg : isGlob c hx = true) (hn : nameH c A i n = true)
    (hsu : ∀ (a : Addr) (pn : List (Addr × Obj)), PSs (X.suite a pn) (b₀ :: bs) (rdSs G K W0 A su)) (r : HdsOk G K X W A hs hds) : HdsOk G K X W A (.hnd [d] i su :: hs) (.ExceptHandler (some (.Name hx np)) n (b₀ :: bs) pos' :: hds) := by
  obtain ⟨l, hl, q⟩ := r
  obtain ⟨hg1, hg2⟩ := s.g.gl hdg
  obtain ⟨D0, eD, eM⟩ := xo.known d (s.kx d hd)
  have hnm : L2.Names X hx (.ref D0) := ⟨hg1, hg2, .inl (by rw [s.g.s5.mg, ← hdn, s.g.nm]; exact eM)⟩
  have hi : ∀ j, i = some j → j ∈ A := fun j e => by
    subst e
    cases n with
    | none => cases hn
    | some n =>
      simp only [nameH, Bool.and_eq_true, List.contains_eq_mem, decide_eq_true_eq] at hn
      exact hn.2
  refine ⟨(.ref D0, i, lockX (rdSs G K W0 A su)) :: l, .cons hnm ?_ (fun a pn => pss_lockX (hsu a pn)) hl, fun D ρ h R σ H cc vs cls dd sr xr o => ?_⟩
  · cases i with
    | none => cases n with
      | none => exact .inl ⟨rfl, rfl⟩
      | some _ => cases hn
    | some j => cases n with
      | none => cases hn
      | some n =>
        simp only [nameH, Bool.and_eq_true, decide_eq_true_eq] at hn
        exact .inr ⟨n, j, rfl, rfl, by rw [s.g.N]; exact hn.1.1, s.g.sc1 _ _ (by decide) hn.1.2⟩
  · unfold exH at o
    have xr0 := xr
    obtain ⟨c2, vs2, C, e2, e3, e4, x, v, da, od, f, e5, e6, e7, e8, e9⟩ := xr0
    cases e2
    subst e4 e5 e6
    have hsub := xo.sub cc d C D0 (by rw [e7]; rfl) (s.kx d hd) e3 eD
    refine ⟨G.P.sub cc d, by rw [s.g.s5.K]; exact hsub, fun hy a na => ?_, fun hn => ?_⟩
    · have hc : caughtBy K.P cc [d] = true := by rw [s.P]; simp [caughtBy, hy]
      rw [if_pos hc] at o
      exact hd_one (d := d) s xo hi sr xr o a na
    · have hc : caughtBy K.P cc [d] = false := by rw [s.P]; simp [caughtBy, hn]
      rw [if_neg (by rw [hc]; exact Bool.false_ne_true)] at o
      exact q D ρ h R σ H cc [x] _ _ sr xr o
/-- try: one statement that raises with the slots as they were -/
theorem st_try (s : SX G k X c W K) (hst : X.stack = X.env :: X.outer ∧ X.env.frame = some X.env.locals ∧ X.ex = []) {b : LS} {t : Stmt} {hs : List LS} {h₀ : ExceptHandler} {hds : List ExceptHandler} {pos : Pos} (hb : chk1 c A b t = true) (hh : HdsOk G K X W A hs (h₀ :: hds)) :
    PS X (.Try [t] (h₀ :: hds) [] [] pos) (rdS G K W A (.try [b] hs)) := by
  obtain ⟨l, hl, q⟩ := hh
  refine ps_imp (ps_tryL (tb := fun W' => rd1s G K W' A [b]) hst.1 hst.2.1 hst.2.2 (by rw [s.g.N]; exact s.g.nd) s.g.tk (fun W' pn xe tk po => sound1s (s.tr tk po) [b] [t] (by simpa [chk1s] using hb)) hl) fun D σ H ⟨ρ, h, R, sr, o⟩ => ?_
  unfold exS at o
  refine ⟨ρ, h, R, sr, ?_⟩
  split at o
  · rename_i fl h1 e1
    rw [e1]
    exact o
  · rename_i cc vs h1 e1
    rw [e1]
    intro R1 H1 cls dd lq hr xr
    exact q D ρ h1 R1 σ H1 cc vs cls dd (sr.next lq hr) xr (o.laterS lq (Agree.refl A σ))
  · exact o.elim
end
end Lite

/-! LITE, 12: statements: the check and the induction. -/
namespace Lite
open PySem L2 PySem.Spec
open PyProof.Rows hiding St

/-- what is no comprehension -/
def noComp : Expr → Bool
  | .ListComp .. => false
  | .SetComp .. => false
  | .DictComp .. => false
  | _ => true
def noTup : Expr → Bool
  | .Tuple .. => false
  | _ => true
theorem swaps_no {e : Expr} (h : noComp e = true) (t : Option Expr) (n : Nat) (env : PySem.Env) : swapsWith e t n env = pure false := by
  cases e <;> first | rfl | cases h
/-- a tuple of constants -/
def allFold : Expr → Bool
  | .Tuple es _ _ => es.all (foldedForSure 8)
  | _ => false
theorem stores_fold {tg e : Expr} (h : (noTup e || allFold e) = true) (env : PySem.Env) : swappedStores [tg] e env = pure none := by
  cases e with
  | Tuple vs kk pp =>
    have hf : vs.all (foldedForSure 8) = true := by simpa [noTup, allFold] using h
    unfold swappedStores
    cases tg <;> first | rfl | skip
    all_goals
      simp only [hf, if_true]
      repeat' split
      all_goals first | rfl | (simp; done) | skip
  | _ => cases tg <;> rfl
theorem stores_no {tg e : Expr} (h : noTup e = true) (env : PySem.Env) : swappedStores [tg] e env = pure none := by
  cases e <;> first | (cases tg <;> rfl) | cases h
/-- a target that is caught by an inner block -/
def cellN (c : Sc) : Expr → Bool
  | .Name x _ => decide (c.sc.names.lookup x = some .cell)
  | _ => false
def cellT (c : Sc) : Expr → Bool
  | .Tuple ts _ _ => ts.any (cellN c)
  | _ => false
theorem fm_lt {α β : Type} {f : α → Option β} : ∀ {ts : List α}, (∃ t ∈ ts, f t = none) → (ts.filterMap f).length < ts.length
  | [], ⟨_, h, _⟩ => by cases h
  | t :: ts, ⟨u, h, e⟩ => by
    cases ft : f t with
    | none =>
      rw [List.filterMap_cons_none ft]
      exact Nat.lt_succ_of_le (List.length_filterMap_le _ _)
    | some b =>
      rw [List.filterMap_cons_some ft, List.length_cons, List.length_cons]
      rcases List.mem_cons.mp h with rfl | h
      · rw [ft] at e; cases e
      · exact Nat.succ_lt_succ (fm_lt ⟨u, h, e⟩)
theorem stores_cell {ts : List Expr} {kt : Nat} {pt : Pos} {e : Expr} {env : PySem.Env} (h : ∃ x p, Expr.Name x p ∈ ts ∧ env.kindOf x = some .cell) : swappedStores [.Tuple ts kt pt] e env = pure none := by
  obtain ⟨x, p, hm, hk⟩ := h
  cases e with
  | Tuple vs kk pp =>
    unfold swappedStores
    simp only
    split
    · rfl
    split
    · rfl
    rw [if_pos]
    simp only [Bool.or_eq_true, bne_iff_ne]
    left
    refine Nat.ne_of_lt (fm_lt ⟨_, hm, ?_⟩)
    simp [hk]
  | _ => rfl
mutual
def chkS (c : Sc) (A : List Nat) : LS → Stmt → Bool
  | .expr l, .Expr e _ => noComp e && chkE c l e
  | .set i (.comp _ own elt tg kd it ifs), .Assign [.Name y py] (.ListComp e [⟨t, j, is, 0⟩] scope p) _ => !c.hot && decide (c.N[i]? = some y) && decide (c.sc.names.lookup y = some .local) && A.contains i && (py.line == p.line) && !(scope.names.any fun (n, k) => n == y && (k == .local || k == .cell)) &&
      (blkC c.N c.sc scope (ownN c own) && chkOne j && chkI c t kd it j && chkG { c with sc := scope } own tg t && chkF { c with sc := scope } ifs is && chkE { c with sc := scope } elt e)
  | .set i l, .Assign [.Name x _] e _ => decide (c.N[i]? = some x) && isLoc c x && A.contains i && noComp e && chkE c l e
  | .par is es, .Assign [t] e _ => !c.hot && chkPar c A is t e && chkEs c es (tupEs e)
  | .unp g l, .Assign [tg] e _ => !c.hot && isTup tg && chkG c A g tg && (noTup e || allFold e || cellT c tg) && chkE c l e
  | .sidx o i l, .Assign [.Subscript a b _] e _ => ixE b && noComp e && chkE c o a && chkE c i b && chkE c l e
  | .sattr o f l, .Assign [.Attribute x y _] e _ => decide (Str.ofString f = y) && chkE c o x && chkE c l e
  | .unpA os fs l, .Assign [.Tuple ts _ _] e _ => !c.hot && chkAs c os fs ts && noComp e && (noTup e || allFold e) && chkE c l e
  | .augA o f op l, .AugAssign (.Attribute x y _) op2 e _ => decide (Str.ofString f = y) && decide (bOp op = op2) && chkE c o x && chkE c l e
  | .raise n [l], .Raise (some (.Call (.Name x _) [e] [] _)) none _ => !c.hot && c.kxr n && decide (c.nm n = x) && isGlob c x && plainE e && chkE c l e
  | .try [b] hs, .Try [t] (h₀ :: hds) [] [] _ => !c.hot && chk1 c A b t && chkH c A hs (h₀ :: hds)
  | .aug i o l, .AugAssign (.Name x _) op e _ => decide (c.N[i]? = some x) && isLoc c x && A.contains i && decide (bOp o = op) && chkE c l e
  | .ret l, .Return (some e) _ => chkE c l e
  | .retN, .Return none _ => true
  | .iff l a b, .If e x y _ => chkE c l e && chkSs c A a x && chkSs c A b y
  | .whl _ l b, .While e x [] _ => !c.hot && chkE c l e && chkSs c A b x
  | .for g k it b, .For tg e x [] _ => !c.hot && chkI c tg k it e && chkOne e && chkG c A g tg && chkSs c A b x
  | .pass, .Pass _ => true
  | .pass, .Expr (.Constant (.str _) _ _) _ => true
  | .brk, .Break _ => true
  | .cnt, .Continue _ => true
  | _, _ => false
def chkSs (c : Sc) (A : List Nat) : List LS → List Stmt → Bool
  | [], [] => true
  | .frz i :: ls, ss => decide (i < c.N.length) && A.contains i && chkSs c A ls ss
  | l :: ls, s :: ss => chkS c A l s && chkSs c A ls ss
  | _, _ => false
def chkH (c : Sc) (A : List Nat) : List LS → List ExceptHandler → Bool
  | [], [] => true
  | .hnd [d] i su :: hs, .ExceptHandler (some (.Name hx _)) n (b₀ :: bs) _ :: hds => c.kex d && decide (c.nm d = hx) && isGlob c hx && nameH c A i n && chkSs { c with hot := true } A su (b₀ :: bs) && chkH c A hs hds
  | _, _ => false
end

section
variable {G : GD} {k : Nat} {X : L2.Cx} {c : Sc} {W : WX} {K : Cn} {A : List Nat}
theorem set_same {α : Type} : ∀ {l : List α} {i : Nat} {x : α}, l[i]? = some x → l.set i x = l
  | [], i, x, h => by simp at h
  | y :: ys, 0, x, h => by simp at h; simp [h]
  | y :: ys, i + 1, x, h => by simp at h; simp [set_same h]
/-! ### the cases -/
theorem st_expr {l : LE} {e : Expr} {p : Pos} (hn : noComp e = true) (he : PE X e (rdE G K W l)) : PS X (.Expr e p) (rdS G K W A (.expr l)) := by
  refine ps_imp (ps_expr he (swaps_no hn _ _ _)) fun D σ H ⟨ρ, h, R, sr, o⟩ => ?_
  unfold exS at o
  exact rdE.bindS sr o fun t h1 R1 H1 v sr1 lq vr o1 => o1 R1 H1 σ (Lq.refl _ _) sr1.hr sr1.er (Agree.refl _ _)
theorem st_set (g : GX G k X c W) {i : Nat} {x : Str} {l : LE} {e : Expr} {p p2 : Pos} (h1 : c.N[i]? = some x) (h2 : isLoc c x = true) (h3 : i ∈ A) (hn : noComp e = true) (he : PE X e (rdE G K W l)) : PS X (.Assign [.Name x p2] e p) (rdS G K W A (.set i l)) := by
  obtain ⟨l1, l2⟩ := g.loc h2
  refine ps_imp (ps_set (by rw [g.N]; exact g.nd) (by rw [g.N]; exact h1) l1 he (swaps_no hn _ _ _) l2) fun D σ H ⟨ρ, h, R, sr, o⟩ => ?_
  unfold exS at o
  exact rdE.bindS sr o fun t h1 R1 H1 v sr1 lq vr o1 => o1 R1 H1 _ (Lq.refl _ _) sr1.hr (sr1.er.set _ vr) ((Agree.refl _ _).set h3 _)
theorem swaps_tup {tg e : Expr} (h : isTup tg = true) (p : Pos) (n : Nat) (env : PySem.Env) : swapsWith e (some tg) n env = pure false := by
  cases tg <;> first | (cases e <;> rfl) | cases h
theorem each_tup {tg : Expr} (h : isTup tg = true) (env : PySem.Env) : (assignEach [tg] env).map (·.2) = [assign tg env] := by
  cases tg <;> first | rfl | cases h
theorem stores_any (g : GX G k X c W) {t e : Expr} (hm : (noTup e || allFold e || cellT c t) = true) : swappedStores [t] e X.env = pure none := by
  by_cases h1 : (noTup e || allFold e) = true
  · exact stores_fold h1 _
  · have h2 : cellT c t = true := by
      simp only [Bool.or_eq_true] at hm h1
      rcases hm with hm | hm
      · exact absurd hm h1
      · exact hm
    cases t with
    | Tuple ts kt pt =>
      obtain ⟨n, hn, hc⟩ := List.any_eq_true.mp h2
      cases n with
      | Name x px => exact stores_cell ⟨x, px, hn, g.sc1 _ _ (by decide) (by simpa [cellN] using hc)⟩
      | _ => cases hc
    | _ => cases h2
theorem st_unp (g : GX G k X c W) (hh : c.hot = false) {tg : Tg} {l : LE} {e t : Expr} {p : Pos} (h1 : isTup t = true) (h2 : chkG c A tg t = true) (hm : (noTup e || allFold e || cellT c t) = true) (he : PE X e (rdE G K W l)) : PS X (.Assign [t] e p) (rdS G K W A (.unp tg l)) := by
  refine ps_imp (ps_asg he (soundG g hh h2) (swaps_tup h1 p _ _) (stores_any g hm) (each_tup h1 _)) fun D σ H ⟨ρ, h, R, sr, o⟩ => ?_
  unfold exS at o
  refine rdE.bindS sr o fun t h1 R1 H1 v sr1 lq vr o1 => ?_
  cases eb : bindTg tg t h1 ρ with
  | none => rw [eb] at o1; exact o1.elim
  | some ρ' =>
    rw [eb] at o1
    exact ⟨ρ, h1, R1, t, ρ', sr1, vr, eb, fun σ' H' lq' hr' er ag => o1 R1 H' σ' lq' hr' er ag⟩
/-- a store, by ours -/
def storeO (G : GD) : TSet := fun o i v H Q => ∃ (h : Heap) (R : List Addr) (x y z : T) (h' : Heap), HRel G h R H ∧ VR G R H x o ∧ VR G R H y i ∧ VR G R H z v ∧ (match x with
    | .loc n => (match h[n]?, y with
      | some (.lst xs), .int w => (match place xs.length w with
        | some j => some (h.set n (.lst (xs.set j z)))
        | none => none)
      | some (.dct ks vs), w => if okKey ks w ∧ ks.length < top then some (h.set n (.dct (kput ks vs w z).1 (kput ks vs w z).2)) else none
      | _, _ => none)
    | _ => none) = some h' ∧ ∀ H', Lq R H R H' → HRel G h' R H' → Q H'
theorem set_ours (g : GX G k X c W) : PSet X (storeO G) := by
  intro pins s σ H o i v ov iv u Q I ro ri ru ⟨h, R, x, y, z, h', hr, vx, vy, vz, e, q⟩
  split at e <;> (try (cases e; done))
  rename_i n
  split at e <;> (try (cases e; done))
  · rename_i xs w ev
    split at e <;> (try (cases e; done))
    rename_i j ej
    cases e
    cases vx
    rename_i a ea
    cases vy
    obtain ⟨vs, hq, rs⟩ := hr.obj n _ a ev ea
    have lq4 : Lq R H R (upd H a (.lst (vs.set j v))) := Lq.put ea hq (by simp [FT])
    obtain ⟨hr4, _⟩ := hr.put (o := .lst (xs.set j z)) ea hq (by simp [FT]) rfl ⟨vs.set j v, upd_same, (rs.set vz j).mono lq4⟩
    exact set_list pins s σ H _ _ v ov iv u Q I ro ri ru ⟨a, vs, w, j, rfl, rfl, hq, by rw [← place_ix, ← rs.length]; exact ej, q _ lq4 hr4⟩
  · rename_i y _ _ ks ys ev
    split at e <;> (try (cases e; done))
    rename_i hc
    cases e
    cases vx
    rename_i a ea
    obtain ⟨u0, kvs, vs, hq, du, rk, rv⟩ := hr.obj n _ a ev ea
    cases ro
    have hq' := dl_setItem (A := X.A) (E := X.xe) (Q := fun _ s' => ∃ H', Inv X pins σ H' s' ∧ Q H') g.s5 (by have := g.units; omega) I du hq rk rv hc.1 hc.2 vy ri vz ru fun s' u' kvs' vs' d1 d2 d3 I' => by
      have lq4 : Lq R H R (upd H a u') := Lq.put ea hq du.nft
      obtain ⟨hr4, _⟩ := hr.put (o := .dct (kput ks ys y z).1 (kput ks ys y z).2) ea hq du.nft rfl ⟨u', kvs', vs', upd_same, d1, d2.mono lq4, d3.mono lq4⟩
      exact ⟨_, I', q _ lq4 hr4⟩
    rw [← g.s5.prog, ← g.s5.w] at hq'
    exact hq'
theorem st_sidx (g : GX G k X c W) {o i l : LE} {a b e : Expr} {p p2 : Pos} (hx : ixE b = true) (hn : noComp e = true) (ha : PE X a (rdE G K W o)) (hb : PE X b (rdE G K W i)) (he : PE X e (rdE G K W l)) : PS X (.Assign [.Subscript a b p2] e p) (rdS G K W A (.sidx o i l)) := by
  refine ps_imp (ps_asg he (pg_sub ha hb (set_ours g) (fun v => by cases b <;> first | rfl | cases hx)) (by show swapsWith e (some (.Subscript a b p2)) p.line X.env = pure false; exact swaps_no hn _ _ _) (by cases e <;> rfl) rfl) fun D σ H ⟨ρ, h, R, sr, oo⟩ => ?_
  unfold exS at oo
  refine rdE.bindS sr oo fun t h1 R1 H1 v sr1 lq1 vr o1 => ?_
  refine rdE.bindS sr1 o1 fun x h2 R2 H2 vx sr2 lq2 rx o2 => ?_
  refine rdE.bindS sr2 o2 fun y h3 R3 H3 vy sr3 lq3 ry o3 => ?_
  have vr3 : VR G R3 H3 t v := (vr.mono lq2).mono lq3
  split at o3 <;> (try (exact o3.elim))
  rename_i n
  split at o3 <;> (try (exact o3.elim))
  · rename_i xs z ev
    split at o3 <;> (try (exact o3.elim))
    rename_i j ej
    exact ⟨h3, R3, .loc n, .int z, t, _, sr3.hr, rx.mono lq3, ry, vr3, by simp only [ev, ej], fun H' lq hr => o3 R3 H' σ lq hr (sr3.er.mono lq) (Agree.refl _ _)⟩
  · rename_i y _ _ ks vs ev
    split at o3 <;> (try (exact o3.elim))
    rename_i hc
    exact ⟨h3, R3, .loc n, y, t, _, sr3.hr, rx.mono lq3, ry, vr3, by simp only [ev, if_pos hc], fun H' lq hr => o3 R3 H' σ lq hr (sr3.er.mono lq) (Agree.refl _ _)⟩
theorem op_aug : ∀ o : BOp, PIp X (bOp o) (fun x y H Q => ∃ (R : List Addr) (a b z : T), VR G R H a x ∧ VR G R H b y ∧ augop o a b = some z ∧ ∀ v, VR G R H z v → Q v H) := by
  intro o pins s σ H x y v u Q I rx ry ⟨R, a, b, z, h1, h2, h3, q⟩
  unfold augop at h3
  split at h3 <;> (try (cases h3; done))
  · cases h1; cases h2; cases h3
    exact ip_add pins s σ H _ _ v u Q I rx ry ⟨_, _, rfl, rfl, q _ (.int _)⟩
  · cases h1; cases h2; cases h3
    exact ip_sub pins s σ H _ _ v u Q I rx ry ⟨_, _, rfl, rfl, q _ (.int _)⟩
  · split at h3 <;> (try (cases h3; done))
    rename_i hz
    cases h1; cases h2; cases h3
    refine iop_add_str pins s σ H _ _ v u Q I rx ry ⟨_, _, rfl, rfl, ?_, ?_⟩
    · rw [tx_len, tx_len, top_eq]; exact hz
    · rw [tx_app]; exact q _ (.str _)
theorem st_aug (g : GX G k X c W) {i : Nat} {o : BOp} {op : Operator} {x : Str} {l : LE} {e : Expr} {p p2 : Pos} (h1 : c.N[i]? = some x) (h2 : isLoc c x = true) (h3 : i ∈ A) (ho : bOp o = op) (he : PE X e (rdE G K W l)) : PS X (.AugAssign (.Name x p2) op e p) (rdS G K W A (.aug i o l)) := by
  subst ho
  obtain ⟨l1, l2⟩ := g.loc h2
  refine ps_imp (ps_aug (by rw [g.N]; exact g.nd) (by rw [g.N]; exact h1) l1 he (op_aug (G := G) o) l2) fun D σ H ⟨ρ, h, R, sr, oo⟩ => ?_
  unfold exS at oo
  split at oo
  · rename_i t et
    obtain ⟨v, ev, rv⟩ := sr.er.2 i t et
    refine ⟨v, ev, rdE.bindS sr oo fun y h1 R1 H1 vy sr1 lq ry o1 => ?_⟩
    obtain ⟨z, ez, q⟩ := o1.of
    cases e1 : augop o t y with
    | none => rw [e1] at ez; cases ez
    | some w =>
      rw [e1] at ez
      cases ez
      exact ⟨R1, t, y, w, rv.mono lq, ry, e1, fun v' r' => q R1 H1 _ (Lq.refl _ _) sr1.hr (sr1.er.set _ r') ((Agree.refl _ _).set h3 _)⟩
  · exact oo.elim
theorem st_ret {l : LE} {e : Expr} {p : Pos} (he : PE X e (rdE G K W l)) : PS X (.Return (some e) p) (rdS G K W A (.ret l)) := by
  refine ps_imp (ps_ret he) fun D σ H ⟨ρ, h, R, sr, o⟩ => ?_
  unfold exS at o
  exact rdE.bindS sr o fun t h1 R1 H1 v sr1 lq vr o1 => o1 R1 H1 v (Lq.refl _ _) sr1.hr vr
theorem st_retN {p : Pos} : PS X (.Return none p) (rdS G K W A .retN) := ps_imp ps_retN fun D σ H ⟨ρ, h, R, sr, o⟩ => by
  unfold exS at o
  exact o R H .non (Lq.refl _ _) sr.hr .non
theorem st_pass {t : Stmt} (ht : PS X t tNext) : PS X t (rdS G K W A .pass) := ps_imp ht fun D σ H ⟨ρ, h, R, sr, o⟩ => by
  unfold exS at o
  exact o R H σ (Lq.refl _ _) sr.hr sr.er (Agree.refl _ _)
theorem st_brk {p : Pos} : PS X (.Break p) (rdS G K W A .brk) := ps_imp ps_break fun D σ H ⟨ρ, h, R, sr, o⟩ => by
  unfold exS at o
  exact o R H σ (Lq.refl _ _) sr.hr sr.er (Agree.refl _ _)
theorem st_cnt {p : Pos} : PS X (.Continue p) (rdS G K W A .cnt) := ps_imp ps_continue fun D σ H ⟨ρ, h, R, sr, o⟩ => by
  unfold exS at o
  exact o R H σ (Lq.refl _ _) sr.hr sr.er (Agree.refl _ _)
theorem st_if {l : LE} {a b : List LS} {e : Expr} {x y : List Stmt} {p : Pos} (he : PT X e (rdT G K W l)) (ha : PSs X x (rdSs G K W A a)) (hb : PSs X y (rdSs G K W A b)) : PS X (.If e x y p) (rdS G K W A (.iff l a b)) := by
  refine ps_imp (ps_if he ha hb) fun D σ H ⟨ρ, h, R, sr, o⟩ => ?_
  unfold exS at o
  refine rdT.bindS sr (g := fun q h => if q = true then exSs K a ρ h else exSs K b ρ h) (fun t h b e => ?_) (fun t h e => ?_) o fun q h1 R1 H1 sr1 lq o1 => ?_
  · rw [e]; cases b <;> rfl
  · rw [e]
  · cases q with
    | true => exact ⟨ρ, h1, R1, sr1, o1⟩
    | false => exact ⟨ρ, h1, R1, sr1, o1⟩
theorem ss_nil : PSs X [] (rdSs G K W A []) := pss_imp pss_nil fun D σ H ⟨ρ, h, R, sr, o⟩ => by
  unfold exSs at o
  exact o R H σ (Lq.refl _ _) sr.hr sr.er (Agree.refl _ _)
theorem ss_cons {l : LS} {ls : List LS} {t : Stmt} {ts : List Stmt} (h1 : PS X t (rdS G K W A l)) (h2 : PSs X ts (rdSs G K W A ls)) : PSs X (t :: ts) (rdSs G K W A (l :: ls)) := by
  refine pss_imp (pss_cons h1 h2) fun D σ H ⟨ρ, h, R, sr, o⟩ => ?_
  unfold exSs at o
  refine ⟨ρ, h, R, sr, (Sat.bind.mp o).imp (fun fl h' q => ?_) fun _ _ z => z⟩
  cases fl with
  | nx ρ' => exact fun R' H' σ' lq hr er ag => ⟨ρ', h', R', ⟨hr, er⟩, q.laterS lq ag⟩
  | brk ρ' => exact q
  | cnt ρ' => exact q
  | ret v => exact q
theorem ss_frz (s5 : Same5 G X) {i : Nat} {ls : List LS} {ts : List Stmt} (hi : i ∈ A) (h2 : PSs X ts (rdSs G K W A ls)) : PSs X ts (rdSs G K W A (.frz i :: ls)) := by
  refine ⟨fun pins s σ H D I ⟨ρ, h, R, sr, o⟩ => ?_⟩
  unfold exSs at o
  have o1 := Sat.bind.mp o
  unfold exS at o1
  split at o1 <;> (try (exact o1.elim))
  rename_i n en
  split at o1 <;> (try (exact o1.elim))
  · rename_i xs ex
    obtain ⟨v, ev, rv⟩ := sr.er.2 i _ en
    cases rv
    rename_i a ea
    obtain ⟨vs, hq, rs⟩ := sr.hr.obj n _ a ex ea
    obtain ⟨ob, I2⟩ := Inv.lock I hq
    obtain ⟨hr2, lq2⟩ := sr.hr.put (o := .dead) (u := .frz ob (.lst vs)) ea hq (by simp [FT]) rfl trivial
    refine h2.run pins s σ _ D I2 ⟨_, _, R, ⟨hr2, ?_⟩, Sat.laterS lq2 (Agree.refl _ _) o1⟩
    have er2 := (sr.er.mono lq2).set i (VR.lst (.inl ⟨ob, upd_same⟩) (rs.mono lq2))
    rw [set_same ev] at er2
    exact er2
  · rename_i ks ys ex
    obtain ⟨v, ev, rv⟩ := sr.er.2 i _ en
    cases rv
    rename_i a ea
    obtain ⟨u, kvs, vs, hq, dd, rk, rs⟩ := sr.hr.obj n _ a ex ea
    obtain ⟨ob, I2⟩ := Inv.lockD I dd s5 hq
    obtain ⟨hr2, lq2⟩ := sr.hr.put (o := .dead) (u := .frz ob u) ea hq dd.nft rfl trivial
    refine h2.run pins s σ _ D I2 ⟨_, _, R, ⟨hr2, ?_⟩, Sat.laterS lq2 (Agree.refl _ _) o1⟩
    have er2 := (sr.er.mono lq2).set i (VR.dct (.inl ⟨ob, u, upd_same, dd⟩) (rk.mono lq2) (rs.mono lq2))
    rw [set_same ev] at er2
    exact er2
/-! ### for -/
theorem st_for (s : SX G k X c W K) (hh : c.hot = false) {g : Tg} {kd : String} {it : List LE} {b : List LS} {tg e : Expr} {x : List Stmt} {p : Pos} (hi : PI X tg e (rdI G K W kd it)) (hs : chkOne e = true) (hg : chkG c A g tg = true) (hb : PSs X x (rdSs G K W A b)) :
    PS X (.For tg e x [] p) (rdS G K W A (.for g kd it b)) := by
  refine ps_imp (ps_for (s.g.po hh) (s.g.calm hh) hi (soundG s.g hh hg) hb (fun y => by cases e <;> first | rfl | cases hs)) fun D σ H ⟨ρ, h, R, sr, o⟩ => ?_
  unfold exS at o
  refine ⟨ρ, h, R, sr, Sat.bind.mpr ((Sat.bind.mp o).imp (fun ts h1 o1 => ?_) fun _ _ z => z.at)⟩
  cases ew : walked kd h1 ts with
  | none => rw [ew] at o1; exact o1.elim
  | some p =>
    obtain ⟨xs, gs⟩ := p
    rw [ew] at o1
    show Sat (.ok (xs, gs) h1) _ _
    intro R1 H1 J lq1 hr1 st
    have o2 := o1.laterS lq1 (Agree.refl A σ)
    refine ⟨fun i m σ' H' => m = xs.length - i ∧ i ≤ xs.length ∧ ∃ ρ' h' R', SR G ρ' h' R' σ' H' ∧ Lq R1 H1 R' H' ∧
        Sat (loop (still gs) (fun x ρ h => withB (bindTg g x h ρ) fun ρ => exSs K b ρ h) (xs.drop i) ρ' h') (PostT G A σ' R' H' D) (PostXS G A σ' R' H' W),
      ⟨xs.length, by simp, Nat.zero_le _, ρ, h1, R1, ⟨hr1, sr.er.mono lq1⟩, Lq.refl _ _, by simpa using o2⟩, ?_⟩
    rintro i m σ' H' ⟨rfl, hi, ρ', h', R', sr', lq', o3⟩
    by_cases hlt : i < xs.length
    · right
      rw [List.drop_eq_getElem_cons hlt] at o3
      unfold loop at o3
      split at o3 <;> (try (exact o3.elim))
      rename_i hok
      obtain ⟨st1, st2⟩ := st i h' R' H' lq'.lf sr'.hr hok
      obtain ⟨go, yl⟩ := st2 xs[i] (by simp [hlt])
      refine ⟨go, _, fun σ2 H2 w => ⟨xs.length - (i + 1), by omega, w⟩, fun v H2 hy => ?_⟩
      obtain ⟨lq2, hr2, vr⟩ := yl v H2 hy
      cases eb : bindTg g xs[i] h' ρ' with
      | none => rw [eb] at o3; exact o3.elim
      | some ρ2 =>
        rw [eb] at o3
        refine ⟨ρ', h', R', xs[i], ρ2, ⟨hr2, sr'.er.mono lq2⟩, vr, eb, fun σ3 H3 lq3 hr3 er3 ag3 => ⟨ρ2, h', R', ⟨hr3, er3⟩, ?_⟩⟩
        have lq23 := lq2.trans lq3
        refine (Sat.bind.mp o3).imp (fun fl h4 o4 => ?_) fun _ _ z => z.later lq23 ag3
        have nxt : ∀ ρ5, Sat (loop (still gs) (fun x ρ h => withB (bindTg g x h ρ) fun ρ => exSs K b ρ h) (xs.drop (i + 1)) ρ5 h4) (PostT G A σ' R' H' D) (PostXS G A σ' R' H' W) →
            ∀ R5 H5 σ5, Lq R' H3 R5 H5 → HRel G h4 R5 H5 → ERel G R5 H5 ρ5 σ5 → Agree A σ3 σ5 → _ := fun ρ5 q R5 H5 σ5 l5 hr5 er5 ag5 =>
          (⟨rfl, hlt, ρ5, h4, R5, ⟨hr5, er5⟩, (lq'.trans lq23).trans l5, q.laterS (lq23.trans l5) (ag3.trans ag5)⟩ : (xs.length - (i + 1) = xs.length - (i + 1)) ∧ i + 1 ≤ xs.length ∧ ∃ ρ' h' R', SR G ρ' h' R' σ5 H5 ∧ Lq R1 H1 R' H5 ∧
            Sat (loop (still gs) (fun x ρ h => withB (bindTg g x h ρ) fun ρ => exSs K b ρ h) (xs.drop (i + 1)) ρ' h') (PostT G A σ5 R' H5 D) (PostXS G A σ5 R' H5 W))
        cases fl with
        | nx ρ5 => exact nxt ρ5 o4
        | cnt ρ5 => exact nxt ρ5 o4
        | brk ρ5 => exact fun R5 H5 σ5 l5 hr5 er5 ag5 => o4 R5 H5 σ5 (lq23.trans l5) hr5 er5 (ag3.trans ag5)
        | ret t => exact fun R5 H5 v5 l5 hr5 vr5 => o4 R5 H5 v5 (lq23.trans l5) hr5 vr5
    · left
      have e : i = xs.length := by omega
      subst e
      rw [List.drop_length] at o3
      unfold loop at o3
      split at o3 <;> (try (exact o3.elim))
      rename_i hok
      exact ⟨(st _ h' R' H' lq'.lf sr'.hr hok).1 (Nat.le_refl _), o3 R' H' σ' (Lq.refl _ _) sr'.hr sr'.er (Agree.refl _ _)⟩
/-! ### while -/
theorem st_whl (s : SX G k X c W K) (hh : c.hot = false) {n : Nat} {l : LE} {b : List LS} {e : Expr} {x : List Stmt} {p : Pos} (he : PT X e (rdT G K W l)) (hb : PSs X x (rdSs G K W A b)) : PS X (.While e x [] p) (rdS G K W A (.whl n l b)) := by
  refine ps_imp (ps_while (s.g.po hh) he hb) fun D σ H ⟨ρ, h, R, sr, o⟩ => ?_
  unfold exS at o
  refine ⟨fun m σ' H' => ∃ ρ' h' R', SR G ρ' h' R' σ' H' ∧ Sat (wloop (fun ρ h => (evE K l ρ h).bind fun x h => Rs.of (truth h x) h) (fun ρ h => exSs K b ρ h) m ρ' h') (PostT G A σ' R' H' D) (PostXS G A σ' R' H' W), ⟨n, ρ, h, R, sr, o⟩, ?_⟩
  rintro m σ' H' ⟨ρ', h', R', sr', o1⟩
  cases m with
  | zero => exact o1.elim
  | succ m =>
    unfold wloop at o1
    refine ⟨ρ', h', R', sr', (Sat.bind.mp o1).imp (fun d h2 o2 => ?_) fun _ _ z => z.at⟩
    intro R2 H2 lq2 hr2
    cases d with
    | false =>
      rw [if_neg Bool.false_ne_true] at o2 ⊢
      exact o2 R2 H2 σ' lq2 hr2 (sr'.er.mono lq2) (Agree.refl _ _)
    | true =>
      rw [if_pos rfl] at o2 ⊢
      refine ⟨_, fun σ3 H3 w => ⟨m, Nat.lt_succ_self _, w⟩, ρ', h2, R2, ⟨hr2, sr'.er.mono lq2⟩, ?_⟩
      refine (Sat.bind.mp o2).imp (fun fl h4 o4 => ?_) fun _ _ z => z.later lq2 (Agree.refl _ _)
      cases fl with
      | nx ρ5 => exact fun R5 H5 σ5 l5 hr5 er5 ag5 => ⟨ρ5, h4, R5, ⟨hr5, er5⟩, o4.laterS (lq2.trans l5) ag5⟩
      | cnt ρ5 => exact fun R5 H5 σ5 l5 hr5 er5 ag5 => ⟨ρ5, h4, R5, ⟨hr5, er5⟩, o4.laterS (lq2.trans l5) ag5⟩
      | brk ρ5 => exact fun R5 H5 σ5 l5 hr5 er5 ag5 => o4 R5 H5 σ5 (lq2.trans l5) hr5 er5 ag5
      | ret t => exact fun R5 H5 v5 l5 hr5 vr5 => o4 R5 H5 v5 (lq2.trans l5) hr5 vr5
/-! ### the induction -/
mutual
theorem soundS {X : L2.Cx} {c : Sc} {W : WX} (s : SX G k X c W K) (hst : c.hot = false → X.stack = X.env :: X.outer ∧ X.env.frame = some X.env.locals ∧ X.ex = []) (xo : XOk G) (l : LS) (t : Stmt) (h : chkS c A l t = true) : PS X t (rdS G K W A l) := by
  unfold chkS at h
  split at h
  · simp only [Bool.and_eq_true] at h
    exact st_expr h.1 (soundE s _ _ h.2).1
  · simp only [Bool.and_eq_true, decide_eq_true_eq, List.contains_eq_mem, Bool.not_eq_true'] at h
    obtain ⟨⟨⟨⟨⟨⟨hh, h1⟩, h2⟩, h3⟩, hl⟩, ha⟩, h⟩ := h
    exact st_comp s.g hh _ ⟨h.1.1.1.1.1, h.1.1.1.1.2, soundI s _ _ _ _ h.1.1.1.2, fun s0 H C cl fp => soundG (s.blk _ s0 H C cl fp).g (by exact hh) h.1.1.2, fun s0 H C cl fp => soundF (s.blk _ s0 H C cl fp) _ _ h.1.2, fun s0 H C cl fp => (soundE (s.blk _ s0 H C cl fp) _ _ h.2).1⟩ h1 h2 h3 hl ha
  · simp only [Bool.and_eq_true, decide_eq_true_eq, List.contains_eq_mem] at h
    exact st_set s.g h.1.1.1.1 h.1.1.1.2 h.1.1.2 h.1.2 (soundE s _ _ h.2).1
  · simp only [Bool.and_eq_true, Bool.not_eq_true'] at h
    exact st_par s.g h.1.1 h.1.2 (soundEs s _ _ h.2)
  · simp only [Bool.and_eq_true, Bool.not_eq_true'] at h
    exact st_unp s.g h.1.1.1.1 h.1.1.1.2 h.1.1.2 h.1.2 (soundE s _ _ h.2).1
  · simp only [Bool.and_eq_true] at h
    exact st_sidx s.g h.1.1.1.1 h.1.1.1.2 (soundE s _ _ h.1.1.2).1 (soundE s _ _ h.1.2).1 (soundE s _ _ h.2).1
  · simp only [Bool.and_eq_true, decide_eq_true_eq] at h
    exact st_sattr s h.1.1 (soundE s _ _ h.1.2).1 (soundE s _ _ h.2).1
  · simp only [Bool.and_eq_true, Bool.not_eq_true'] at h
    exact st_unpA s h.1.1.1.1 h.1.1.1.2 (swaps_no h.1.1.2 _ _ _) (stores_any s.g (by rw [h.1.2]; rfl)) (soundE s _ _ h.2).1
  · simp only [Bool.and_eq_true, decide_eq_true_eq] at h
    exact st_augA s h.1.1.1 h.1.1.2 (soundE s _ _ h.1.2).1 (soundE s _ _ h.2).1
  · simp only [Bool.and_eq_true, decide_eq_true_eq, Bool.not_eq_true'] at h
    exact st_raise s h.1.1.1.1.1 xo h.1.1.1.1.2 h.1.1.1.2 h.1.1.2 h.1.2 (sd_cons h.1.2 (soundE s _ _ h.2).1 sd_nil)
  · simp only [Bool.and_eq_true, Bool.not_eq_true'] at h
    exact st_try s (hst h.1.1) h.1.2 (soundH s h.1.1 xo _ _ h.2)
  · simp only [Bool.and_eq_true, decide_eq_true_eq, List.contains_eq_mem] at h
    exact st_aug s.g h.1.1.1.1 h.1.1.1.2 h.1.1.2 h.1.2 (soundE s _ _ h.2).1
  · exact st_ret (soundE s _ _ h).1
  · exact st_retN
  · simp only [Bool.and_eq_true] at h
    exact st_if (soundE s _ _ h.1.1).2 (soundSs s hst xo _ _ h.1.2) (soundSs s hst xo _ _ h.2)
  · simp only [Bool.and_eq_true, Bool.not_eq_true'] at h
    exact st_whl s h.1.1 (soundE s _ _ h.1.2).2 (soundSs s hst xo _ _ h.2)
  · simp only [Bool.and_eq_true, Bool.not_eq_true'] at h
    exact st_for s h.1.1.1.1 (soundI s _ _ _ _ h.1.1.1.2) h.1.1.2 h.1.2 (soundSs s hst xo _ _ h.2)
  · exact st_pass ps_pass
  · exact st_pass ps_doc
  · exact st_brk
  · exact st_cnt
  · cases h
termination_by sizeOf l
theorem soundSs {X : L2.Cx} {c : Sc} {W : WX} (s : SX G k X c W K) (hst : c.hot = false → X.stack = X.env :: X.outer ∧ X.env.frame = some X.env.locals ∧ X.ex = []) (xo : XOk G) (ls : List LS) (ts : List Stmt) (h : chkSs c A ls ts = true) : PSs X ts (rdSs G K W A ls) := by
  unfold chkSs at h
  split at h
  · exact ss_nil
  · simp only [Bool.and_eq_true, decide_eq_true_eq, List.contains_eq_mem] at h
    exact ss_frz s.g.s5 h.1.2 (soundSs s hst xo _ _ h.2)
  · simp only [Bool.and_eq_true] at h
    exact ss_cons (soundS s hst xo _ _ h.1) (soundSs s hst xo _ _ h.2)
  · cases h
termination_by sizeOf ls
theorem soundH {X : L2.Cx} {c : Sc} {W : WX} (s : SX G k X c W K) (hh : c.hot = false) (xo : XOk G) (hs : List LS) (hds : List ExceptHandler) (h : chkH c A hs hds = true) : HdsOk G K X W A hs hds := by
  unfold chkH at h
  split at h
  · exact hds_nil
  · simp only [Bool.and_eq_true, decide_eq_true_eq] at h
    exact hds_cons s xo h.1.1.1.1.1 h.1.1.1.1.2 h.1.1.1.2 h.1.1.2 (fun a pn => soundSs (s.suite a pn) (fun z => by cases z) xo _ _ h.1.2) (soundH s hh xo _ _ h.2)
  · cases h
termination_by sizeOf hs
end
end
end Lite

/-! LITE, 13: a def keeps what the interpreter says of it. -/
namespace Lite
open PySem L2 PySem.Spec
open PyProof.Rows hiding St

/-- the names that texts may use -/
structure Kns where
  kn : String → Bool
  kcl : String → Bool
  kex : String → Bool
  kxr : String → Bool
structure KOk (G : GD) (q : Kns) : Prop where
  kn : ∀ f, q.kn f = true → (G.P.fn f).isSome = true ∧ ∀ a, G.fa f = some a → G.mg (G.nm f) = some (.ref a)
  kc : ∀ n, q.kcl n = true → ∃ f, G.P.meth n "__init__" = some f
  kx : ∀ n, q.kex n = true → G.P.exk n = true
  kr : ∀ n, q.kxr n = true → (G.P.exf n).isSome = true
/-- a def's text and ours -/
structure DOk (G : GD) (q : Kns) (f : String) (d : Fn) : Prop where
  ex : ∃ (a : Addr) (name qual : Str) (params : Arguments) (body : List Stmt) (scope : Scope) (dV kV doc pm cdv ct oc : Value) (an od : Option Addr) (osl : Array (Option Value)) (N ps : List Str),
    G.fa f = some a ∧ PySem.W.keepIn G.K (.ref a) = true ∧
    G.K.lookup a = some ⟨oc, od, .func (PySem.W.fnOf name qual params body scope dV kV doc pm an cdv ct), osl⟩ ∧ PySem.W.codeIn G.K cdv qual = true ∧ FnScope N ps scope ∧
    L2.Binds G.K (PySem.W.fnOf name qual params body scope dV kV doc pm an cdv ct) ps [] ∧ ps.length = d.np ∧ N.length = d.ns ∧ chkSs ⟨G.nm, q.kn, N, scope, q.kcl, q.kex, q.kxr, false⟩ (List.range d.ns) d.body body = true ∧ ps = params.args.map (·.arg)

theorem ERel.start {G : GD} {R : List Addr} {H : Hp} : ∀ {ts : List T} {xs : List V}, VRs G R H ts xs → ∀ n, ERel G R H (ts.map some ++ List.replicate n none) (xs.map some ++ List.replicate n none)
  | _, _, .nil, n => ⟨by simp, fun i t h => by simp [List.getElem?_replicate] at h⟩
  | _, _, .cons (x := x) (v := v) hx r, n => by
    obtain ⟨l, g⟩ := ERel.start r n
    refine ⟨by simpa using l, fun i t h => ?_⟩
    cases i with
    | zero => simp at h; subst h; exact ⟨v, by simp, hx⟩
    | succ i =>
      simp at h
      obtain ⟨w, h1, h2⟩ := g i t (by simpa using h)
      exact ⟨w, by simpa using h1, h2⟩

section
variable {G : GD} {R R' : List Addr} {H H' : Hp} {h h' : Heap}
theorem Lq.prefix (q : Lq R H R' H') : ∀ k, k < R.length → ∀ a, R'[k]? = some a → R[k]? = some a := fun k hk a e => by
  have := q.pre k R[k] (by simp [hk])
  rw [e] at this
  cases this
  simp [hk]
theorem FR.shrink {n : Nat} (p : ∀ k, k < n → ∀ a, R'[k]? = some a → R[k]? = some a) : ∀ {fs : List (String × T)} {gs : List (Str × V)}, (∀ q ∈ fs, q.2.within n = true) → FR G R' H fs gs → FR G R H fs gs
  | _, _, _, .nil => .nil
  | _, _, w, .cons h r => .cons (VR.shrink p (w (_, _) (List.mem_cons_self ..)) h) (FR.shrink p (fun q hq => w q (List.mem_cons_of_mem _ hq)) r)
theorem FR.within : ∀ {fs : List (String × T)} {gs : List (Str × V)}, FR G R H fs gs → ∀ q ∈ fs, q.2.within R.length = true
  | _, _, .nil, q, hq => by simp at hq
  | _, _, .cons h r, q, hq => by
    rcases List.mem_cons.mp hq with e | e
    · subst e; exact h.within
    · exact FR.within r q e
/-- the state behind a call that leaves the old places -/
theorem shrinkH (hr0 : HRel G h R H) (lq : Lq R H R' H') (hr : HRel G h' R' H') {g : Heap} (hl : g.length = h.length) (hg : ∀ (n : Nat) (o : O), g[n]? = some o → h'[n]? = some o) (hw : ∀ (n : Nat) (o : O), g[n]? = some o → h[n]? = some o ∨ ∃ xs, o = O.lst xs ∧ T.withins 0 xs = true) :
    Lq R H R H' ∧ HRel G g R H' := by
  have pf := lq.prefix
  refine ⟨⟨fun _ _ e => e, fun _ z n => absurd z n, lq.keep⟩, ⟨by rw [hl]; exact hr0.len, hr0.nd, fun a ha => ?_, fun n o a e1 e2 => ?_⟩⟩
  · obtain ⟨n, hn⟩ := List.getElem?_of_mem ha
    exact hr.live a (List.mem_of_getElem? (lq.pre n a hn))
  · have z := hr.obj n o a (hg n o e1) (lq.pre n a e2)
    rcases hw n o e1 with e | ⟨xs, rfl, w⟩
    · have y := hr0.obj n o a e e2
      cases o with
      | lst xs =>
        obtain ⟨vs, q, r⟩ := z
        obtain ⟨_, _, r0⟩ := y
        exact ⟨vs, q, VRs.shrink pf r0.within r⟩
      | dct ks ys =>
        obtain ⟨u, kvs, vs, q, d, rk, r⟩ := z
        obtain ⟨_, _, _, _, _, rk0, r0⟩ := y
        exact ⟨u, kvs, vs, q, d, VRs.shrink pf rk0.within rk, VRs.shrink pf r0.within r⟩
      | ins c fs =>
        obtain ⟨C, dx, gs, c1, q, r⟩ := z
        obtain ⟨_, _, _, _, _, r0⟩ := y
        exact ⟨C, dx, gs, c1, q, FR.shrink pf (FR.within r0) r⟩
      | dead => trivial
    · obtain ⟨vs, q, r⟩ := z
      exact ⟨vs, q, VRs.shrink (n := 0) (fun k hk => absurd hk (Nat.not_lt_zero _)) w r⟩
theorem keeps_at : ∀ {h0 h : Heap}, keeps h0 h = true → ∀ (n : Nat) (o : O), h0[n]? = some o → ∃ p : O, h[n]? = some p ∧ (p = o ∨ ∃ xs, p = O.lst xs ∧ T.withins 0 xs = true)
  | [], _, _, n, o, e => by simp at e
  | _ :: _, [], k, _, _, _ => by simp [keeps] at k
  | o :: h0, p :: h, k, 0, o', e => by
    simp at e
    subst e
    simp only [keeps, Bool.and_eq_true, Bool.or_eq_true, decide_eq_true_eq] at k
    refine ⟨p, by simp, k.1.imp id fun z => ?_⟩
    cases p <;> first | exact ⟨_, rfl, z⟩ | cases z
  | o :: h0, p :: h, k, n + 1, o', e => by
    simp at e
    simp only [keeps, Bool.and_eq_true] at k
    obtain ⟨q, h1, h2⟩ := keeps_at k.2 n o' e
    exact ⟨q, by simpa using h1, h2⟩
theorem keeps_len : ∀ {h0 h : Heap}, keeps h0 h = true → h0.length ≤ h.length
  | [], _, _ => by simp
  | _ :: _, [], k => by simp [keeps] at k
  | o :: h0, p :: h, k => by
    simp only [keeps, Bool.and_eq_true] at k
    have := keeps_len k.2
    simp
    omega
/-- a call's end -/
theorem leave_ok {mode : Nat} {v : T} {Q : VK} {E : T → Heap → Prop} (hr0 : HRel G h R H) (s : Sat (leave mode h h' v) (PostE G R H Q) E) : ∀ R' H' u, Lq R H R' H' → HRel G h' R' H' → VR G R' H' v u → Q u H' := fun R' H' u lq hr vr => by
  unfold leave at s
  split at s
  · split at s <;> (try (exact s.elim))
    rename_i c
    have hle : h.length ≤ h'.length := by
      have := congrArg List.length c.1
      simp at this
      omega
    obtain ⟨l1, h1⟩ := shrinkH hr0 lq hr (g := h) rfl (fun n o e => by
      have hn := (List.getElem?_eq_some_iff.mp e).1
      rw [← c.1, List.getElem?_take_of_lt hn] at e
      exact e) fun n o e => .inl e
    exact s R H' u l1 h1 (VR.shrink lq.prefix (by rw [hr0.len]; exact c.2) vr)
  · split at s
    · split at s <;> (try (exact s.elim))
      rename_i c
      have hle := keeps_len c.2
      obtain ⟨l1, h1⟩ := shrinkH hr0 lq hr (g := h'.take h.length) (by simp; omega) (fun n o e => by
        have hn := (List.getElem?_eq_some_iff.mp e).1
        rw [List.getElem?_take_of_lt (by simp only [List.length_take] at hn; omega)] at e
        exact e) fun n o e => by
          have hn := (List.getElem?_eq_some_iff.mp e).1
          have hn2 : n < h.length := by
            simp only [List.length_take] at hn
            omega
          rw [List.getElem?_take_of_lt hn2] at e
          obtain ⟨p, e1, e2⟩ := keeps_at c.2 n h[n] (by simp [hn2])
          rw [e] at e1
          cases e1
          rcases e2 with z | z
          · left; rw [z]; simp [hn2]
          · exact .inr z
      exact s R H' u l1 h1 (VR.shrink lq.prefix (by rw [hr0.len]; exact c.1) vr)
    · exact s R' H' u lq hr vr
end

section
variable {G : GD} {q : Kns}
theorem calls_zero (D : ∀ f d, G.P.fn f = some d → DOk G q f d) : Calls G 0 (call G.P 0) where
  fn f d e := by
    obtain ⟨a, name, qual, params, body, scope, dV, kV, doc, pm, cdv, ct, oc, an, od, osl, N, ps, h2, h3, h4, h5, h6, h7, h8, h9, h10, h11⟩ := (D f d e).ex
    refine ⟨a, _, ps, h2, h3, h7, ⟨fun xs H Q E ⟨ts, h, R, _, _, s⟩ => ?_, fun A out s H args us xs Q E hr hg e0 hb r ⟨ts, h, R, _, _, s⟩ => ?_⟩, ⟨_, _, _, h4⟩, h11⟩
    · unfold call at s; exact s.elim
    · unfold call at s; exact s.elim
  none f ts h e := by unfold call; rfl
theorem calls_succ (ok : G.Ok) (hk : KOk G q) (xo : XOk G) (D : ∀ f d, G.P.fn f = some d → DOk G q f d) {k : Nat} (C : Calls G k (call G.P k)) (C2 : ∀ m, k = m + 1 → Calls G m (call G.P m)) : Calls G (k + 1) (call G.P (k + 1)) where
  none f ts h e := by unfold call; rw [e]
  fn f d e := by
    obtain ⟨a, name, qual, params, body, scope, dV, kV, doc, pm, cdv, ct, oc, an, od, osl, N, ps, h2, h3, h4, h5, h6, h7, h8, h9, h10, h11⟩ := (D f d e).ex
    have un := call_up e k
    refine ⟨a, _, ps, h2, h3, h7, fnG_of h4 h5 h6 (fun xs H Q E ⟨ts, h, R, hr, vr, s⟩ => ?_) (fun A out s0 H xs Q E hroom hg ⟨ts, h, R, hr, vr, s⟩ => ?_), ⟨_, _, _, h4⟩, h11⟩
    · rw [un, runFn] at s
      split at s
      · rename_i hl
        rw [← vr.length, hl, h8]
      · exact s.elim
    · rw [un, runFn] at s
      split at s <;> (try (exact s.elim))
      rename_i hl
      have hx : xs.length = d.np := by rw [← vr.length]; exact hl
      have gx : GX G k (cxOf (CX G.prog G.w) G.prog G.w G.K G.mg G.base N qual scope a cdv A out s0 H E) ⟨G.nm, q.kn, N, scope, q.kcl, q.kex, q.kxr, false⟩ (fun cls d _ H => E cls d H) :=
        ⟨⟨rfl, rfl, rfl, rfl, rfl⟩, fun _ => hroom, Nat.lt_of_le_of_lt (Nat.add_le_add_right (Nat.le_add_right _ (16 * k)) 200) hroom.un, hg, fun _ => rfl, rfl, rfl, h6.nd, fun _ _ _ e => e, fun _ e => .inl e, fun _ _ => rfl, takes_of rfl rfl rfl rfl, fun _ => passes_of rfl⟩
      have sx : SX G k (cxOf (CX G.prog G.w) G.prog G.w G.K G.mg G.base N qual scope a cdv A out s0 H E) ⟨G.nm, q.kn, N, scope, q.kcl, q.kex, q.kxr, false⟩ (fun cls d _ H => E cls d H) (cnOf G.P k) := ⟨gx, ok, rfl, hk.kn, rfl, hk.kc, hk.kx, hk.kr, C, fun f d e => by
        cases k with
        | zero => exact .inl fun _ _ => rfl
        | succ m =>
          obtain ⟨a, fd, ps, e1, _, e3, F, _⟩ := (C2 m rfl).fn f d e
          exact .inr ⟨m, a, fd, ps, rfl, e1, e3, F⟩⟩
      refine ⟨_, soundSs (K := cnOf G.P k) sx (fun _ => ⟨rfl, rfl, rfl⟩) xo _ _ h10, ?_⟩
      have es : L2.start N xs = xs.map some ++ List.replicate (d.ns - d.np) none := by
        unfold L2.start
        rw [h9, hx]
      refine ⟨_, h, R, ⟨hr, by rw [es]; exact ERel.start vr _⟩, (Sat.bind.mp s).imp (fun fl h' q => ?_) fun e h' q => fun R' H' c d σ' l hr' x _ => q R' H' c d l hr' x⟩
      cases fl with
      | ret v => exact fun R' H' u l hr' vr' => leave_ok hr q R' H' u l hr' vr'
      | nx ρ => exact fun R' H' σ' l hr' _ _ => leave_ok hr q R' H' .non l hr' .non
      | brk ρ => exact q.elim
      | cnt ρ => exact q.elim
/-- every level -/
theorem calls_both (ok : G.Ok) (hk : KOk G q) (xo : XOk G) (D : ∀ f d, G.P.fn f = some d → DOk G q f d) : ∀ k, Calls G k (call G.P k) ∧ ∀ m, k = m + 1 → Calls G m (call G.P m)
  | 0 => ⟨calls_zero D, fun m e => by cases e⟩
  | k + 1 => by
    obtain ⟨h1, h2⟩ := calls_both ok hk xo D k
    exact ⟨calls_succ ok hk xo D h1 h2, fun m e => by cases e; exact h1⟩
theorem calls_all (ok : G.Ok) (hk : KOk G q) (xo : XOk G) (D : ∀ f d, G.P.fn f = some d → DOk G q f d) (k : Nat) : Calls G k (call G.P k) := (calls_both ok hk xo D k).1
end
end Lite

/-! LITE, 14: binding. -/
namespace Lite
open PySem L2 PySem.Spec
open PyProof.Rows hiding St
theorem lookup_zip : ∀ {ps : List Str} {us : List Value}, us.length = ps.length → ∀ n ∈ ps, ((ps.zip us).lookup n).isSome = true
  | [], _, _, n, h => by simp at h
  | p :: ps, [], hl, _, _ => by simp at hl
  | p :: ps, u :: us, hl, n, h => by
    simp only [List.zip_cons_cons, List.lookup_cons]
    cases e : n == p with
    | true => rfl
    | false =>
      have hn : n ∈ ps := by
        rcases List.mem_cons.mp h with z | z
        · subst z; simp at e
        · exact z
      exact lookup_zip (by simpa using hl) n hn
theorem filterMap_zip : ∀ {ps : List Str} {us : List Value} (q : List (Str × Value)), ps.Nodup → us.length = ps.length → (∀ p ∈ q, p.1 ∉ ps) → ps.filterMap (fun n => ((q ++ ps.zip us).lookup n).map (n, ·)) = ps.zip us
  | [], _, _, _, _, _ => by simp
  | p :: ps, [], _, _, hl, _ => by simp at hl
  | p :: ps, u :: us, q, nd, hl, hq => by
    have hp : (q ++ (p :: ps).zip (u :: us)).lookup p = some u := by
      have : q.lookup p = none := by
        rw [List.lookup_eq_none_iff]
        intro y hy
        have := hq y hy
        simp at this
        simp
        exact fun e => this.1 e.symm
      rw [List.lookup_append, this]
      simp
    rw [List.filterMap_cons, hp]
    simp only [Option.map_some, List.zip_cons_cons, List.cons.injEq, true_and]
    have nd' := List.nodup_cons.mp nd
    have := filterMap_zip (us := us) (q ++ [(p, u)]) nd'.2 (by simpa using hl) (fun y hy => by
      rcases List.mem_append.mp hy with z | z
      · have := hq y z
        simp at this
        exact this.2
      · simp at z
        subst z
        exact nd'.1)
    simpa using this
theorem bind_all {x qual : Str} {params : Arguments} {body : List Stmt} {scope : Scope} {kV doc pm cdv ct : Value} {an : Option Addr} {us : List Value} (h1 : params.posonlyargs = []) (h2 : params.vararg = none) (h3 : params.kwonlyargs = []) (h4 : params.kwarg = none)
    (nd : (params.args.map (·.arg)).Nodup) (hl : us.length = (params.args.map (·.arg)).length) : bindArgs (PySem.W.fnOf x qual params body scope .none kV doc pm an cdv ct) ⟨us, []⟩ = pure ((params.args.map (·.arg)).zip us) := by
  obtain ⟨po, as, va, ko, kd, kw, df⟩ := params
  simp only at h1 h2 h3 h4 hl nd
  subst h1 h2 h3 h4
  have hs : seqItems? Value.none = pure none := rfl
  unfold bindArgs PySem.W.fnOf
  simp only [hs]
  generalize List.map (fun x : Arg => x.arg) as = ps at hl nd
  have hm : List.filter (fun n => (List.lookup n (ps.zip us)).isNone) ps = [] := by
    rw [List.filter_eq_nil_iff]
    intro n hn
    have := lookup_zip hl n hn
    cases e : (ps.zip us).lookup n <;> simp_all
  have hf := filterMap_zip (us := us) [] nd hl (fun p hp => by simp at hp)
  simp only [List.nil_append] at hf
  simp [hl, hm, hf]
end Lite

/-! LITE, 14b: the __init__ of an exception class over Exception. -/
namespace Lite
open PySem L2 PySem.Spec
open PyProof.Rows hiding St
def excB (K : PySem.W.Frag) : Bool := match PySem.W.findCls K (.type "Exception") (.type "type") "__init__" with
  | some (.val (.builtin n)) => decide (n = "Exception.__init__")
  | _ => false
theorem excB_ok {K : PySem.W.Frag} (h : excB K = true) : PySem.W.findCls K (.type "Exception") (.type "type") "__init__" = some (.val (.builtin "Exception.__init__")) := by
  unfold excB at h
  split at h
  · rename_i n e
    rw [e, of_decide_eq_true h]
  · cases h
def visB (sc : Scope) (x : Str) : Bool := decide (sc.names.lookup x = some .local) && !(x == ("__debug__" : Str)) && !(x == ("__classdict__" : Str))
/-- Exception.__init__(self, 'text'); self.f = v -/
def xbodyB (ex0 : Str) (N : List Str) (f : Str) (sc : Scope) (body : List Stmt) : Bool := match N, body with
  | [s0, v0], [.Expr (.Call (.Attribute (.Name ex _) ini p2) [.Name a1 _, .Constant (.str _) _ _] [] pos) _, .Assign [.Attribute (.Name a2 _) f2 _] (.Name v2 _) _] =>
    decide (ex = ex0) && !(ex == ("__debug__" : Str)) && decide (ini = "__init__") && decide (a1 = s0) && decide (a2 = s0) && decide (v2 = v0) && decide (f2 = f) && (p2.endLine == pos.line) && visB sc s0 && visB sc v0 && decide (sc.names.lookup ex = some .globalImplicit)
  | _, _ => false
theorem init_ok {P : Program} {w : World} {K : PySem.W.Frag} {mg : Str → Option Value} {base : PySem.Heap} {qual : Str} {params : Arguments} {body : List Stmt} {scope : Scope} {fI C : Addr} {fd : FuncData} {N : List Str} {f : Str}
    (F : L2.FunD K "__init__" qual params body scope [] [] fI fd) (S : FnScope N N scope) (hB : xbodyB "Exception" N f scope body = true) (hm : mg "Exception" = none) (hx : excB K = true) (T : XcE K C) (hno : PySem.W.findIn K (.ref C) f = some none) :
    FnOk P w K mg base (L2.CX P w) 1 fI fd N (spX C f) := by
  unfold xbodyB at hB
  split at hB
  · rename_i s0 v0 ex _ ini p2 a1 _ _ _ _ pos _ a2 _ f2 _ v2 _ _
    simp only [Bool.and_eq_true, decide_eq_true_eq, Bool.not_eq_true'] at hB
    obtain ⟨⟨⟨⟨⟨⟨⟨⟨⟨⟨h1, hdb⟩, h2⟩, h3⟩, h4⟩, h5⟩, h6⟩, h7⟩, h8⟩, h9⟩, h10⟩ := hB
    subst h1 h2 h3 h4 h5 h6
    simp only [visB, Bool.and_eq_true, decide_eq_true_eq, Bool.not_eq_true'] at h8 h9
    refine F.ok (k := 0) S (fun vs H Q E hsp => ?_) fun cdv A outer s H vs Q E hr hsp => ?_
    · obtain ⟨a, v, rfl, _⟩ := hsp
      rfl
    · obtain ⟨a, v, rfl, ea, q⟩ := hsp
      refine ⟨_, pss_cons (ps_expr (pe_excinit (C := C) (e := .Name a2 _) (X := cxOf (L2.CX P w) P w K mg base [a2, v2] qual scope fI cdv A outer s H E) h10 hm (excB_ok hx) (pa_cons (pe_var (i := 0) rfl (.inl h8.1.1) h8.1.2 h8.2) (pa_cons pe_str pa_nil rfl) rfl) rfl rfl rfl (by simp) h7) rfl)
        (pss_one (ps_xattr (pe_var (i := 0) rfl (.inl h8.1.1) h8.1.2 h8.2) (pe_var (i := 1) rfl (.inl h9.1.1) h9.1.2 h9.2))), ?_⟩
      exact ⟨_, rfl, a, C, _, rfl, by simp, T, ea, v, rfl, .ref a, rfl, a, C, rfl, T, hno, ea, q⟩
  · cases hB
def vinB (K : PySem.W.Frag) (B : Addr) : Bool := decide (PySem.W.specialIn K (.ref B) "__getattribute__" = some (some (.builtin "type.__getattribute__"))) && PySem.W.readsIn K B (.type "type") && (match PySem.W.findCls K (.ref B) (.type "type") "__init__" with
  | some (.val (.builtin n)) => decide (n = "ValueError.__init__")
  | _ => false)
theorem vinB_ok {K : PySem.W.Frag} {B : Addr} (h : vinB K B = true) : PySem.W.specialIn K (.ref B) "__getattribute__" = some (some (.builtin "type.__getattribute__")) ∧ PySem.W.readsIn K B (.type "type") = true ∧ PySem.W.findCls K (.ref B) (.type "type") "__init__" = some (.val (.builtin "ValueError.__init__")) := by
  simp only [vinB, Bool.and_eq_true, decide_eq_true_eq] at h
  refine ⟨h.1.1, h.1.2, ?_⟩
  have h2 := h.2
  split at h2
  · rename_i n e
    rw [e, of_decide_eq_true h2]
  · cases h2
theorem init_okV {P : Program} {w : World} {K : PySem.W.Frag} {mg : Str → Option Value} {base : PySem.Heap} {qual : Str} {params : Arguments} {body : List Stmt} {scope : Scope} {fI C : Addr} {fd : FuncData} {N : List Str} {f x : Str} {B : Addr}
    (F : L2.FunD K "__init__" qual params body scope [] [] fI fd) (S : FnScope N N scope) (hB : xbodyB x N f scope body = true) (hm : mg x = some (.ref B)) (hs : PySem.W.specialIn K (.ref B) "__getattribute__" = some (some (.builtin "type.__getattribute__"))) (hrd : PySem.W.readsIn K B (.type "type") = true)
    (hfc : PySem.W.findCls K (.ref B) (.type "type") "__init__" = some (.val (.builtin "ValueError.__init__"))) (T : OexC K C) (hno : PySem.W.findIn K (.ref C) f = some none) :
    FnOk P w K mg base (L2.CX P w) 1 fI fd N (spX C f) := by
  unfold xbodyB at hB
  split at hB
  · rename_i s0 v0 ex _ ini p2 a1 _ _ _ _ pos _ a2 _ f2 _ v2 _ _
    simp only [Bool.and_eq_true, decide_eq_true_eq, Bool.not_eq_true'] at hB
    obtain ⟨⟨⟨⟨⟨⟨⟨⟨⟨⟨h1, hdb⟩, h2⟩, h3⟩, h4⟩, h5⟩, h6⟩, h7⟩, h8⟩, h9⟩, h10⟩ := hB
    subst h1 h2 h3 h4 h5 h6
    simp only [visB, Bool.and_eq_true, decide_eq_true_eq, Bool.not_eq_true'] at h8 h9
    refine F.ok (k := 0) S (fun vs H Q E hsp => ?_) fun cdv A outer s H vs Q E hr hsp => ?_
    · obtain ⟨a, v, rfl, _⟩ := hsp
      rfl
    · obtain ⟨a, v, rfl, ea, q⟩ := hsp
      refine ⟨_, pss_cons (ps_expr (pe_vinit (B := B) (e := .Name a2 _) (X := cxOf (L2.CX P w) P w K mg base [a2, v2] qual scope fI cdv A outer s H E) h10 hdb hm hs hrd hfc (pa_cons (pe_var (i := 0) rfl (.inl h8.1.1) h8.1.2 h8.2) (pa_cons pe_str pa_nil rfl) rfl) rfl rfl rfl (by simp) h7) rfl)
        (pss_one (ps_ost (pe_var (i := 0) rfl (.inl h8.1.1) h8.1.2 h8.2) (pe_var (i := 1) rfl (.inl h9.1.1) h9.1.2 h9.2))), ?_⟩
      exact ⟨_, rfl, a, C, _, rfl, by simp, T, ea, v, rfl, .ref a, rfl, a, C, rfl, T, hno, .inl ⟨ea, q⟩⟩
  · cases hB
end Lite

/-! LITE, 15: from the row's head to the interpreter. -/
namespace Lite
open PySem L2 PySem.Spec
open PyProof.Rows hiding St

/-- the row's end: the law's def called with the script -/
theorem law_end {G : PySem.Heap → GD} {P : Program} {w : World} {K : PySem.W.Frag} {mg mb : Str → Option Value} {k : Nat} {fa a : Addr} {fd : FuncData} {x : Str} {pl : Prog} {f : String} {s1 : Shared} {vs : List Value} {ns : List Int}
    (hG : ∀ b, (G b).prog = P ∧ (G b).w = w ∧ (G b).K = K ∧ (G b).mg = mg ∧ (G b).base = b)
    (hsm : SM s1.heap) (KX : K.In s1.heap) (hns : s1.heap.Ns mainGlobals mg) (hb : s1.heap.Ns builtinsNs mb) (hbb : ∀ x : Str, x ≠ "__name__" → mb x = bootBuiltins x) (hlim : s1.heap.NoLimit) (hg : s1.gens = #[])
    (ha : s1.heap.get? a = some { cls := .type "list", data := .seq vs.toArray }) (hi : IntsAre vs ns) (hl : ns.length ≤ sizeLine) (hr : Room k callerA)
    (F : ∀ b : PySem.Heap, SM b → K.In b → b.Ns mainGlobals mg → FnG (G b) k fa fd [x] (spI (G b) (call pl k f))) (hbind : ∀ (s : Shared) (u : Value), BindsTo s fd ⟨[u], []⟩ [(x, u)])
    (pure : ∃ h', call pl k f [.lst (ns.map T.int)] [] = .ok (.bl true) h') :
    codeAny (model P w) callerA (.call (.ref fa) ⟨[.ref a], []⟩) (fun r s' => r = .ok (.ret (.bool true)) ∧ OldK s1.heap s'.heap ∧ s'.os = s1.os ∧ AllBare s'.gens) s1 := by
  obtain ⟨h', hp⟩ := pure
  have rv := L2.vals_ints hi
  have main : ∀ H : Hp, (∀ b u, H b = some u → b = a ∧ K.lookup a = none ∧ ∃ o xs, u = .frz o (.lst xs)) → HOk P w H s1.heap → (∀ b, FzL (G b).K H a (ns.map V.int)) →
      codeAny (model P w) callerA (.call (.ref fa) ⟨[.ref a], []⟩) (fun r s' => r = .ok (.ret (.bool true)) ∧ OldK s1.heap s'.heap ∧ s'.os = s1.os ∧ AllBare s'.gens) s1 := by
    intro H hO hok hz
    have kept : ∀ {b : Addr} {o : Obj}, s1.heap.get? b = some o → H b = none → (hidT s1.heap H).get? b = some o := fun e n => hidT_get e n
    have nodict : ∀ {b : Addr} {o : Obj} {es : Array DictEntry} {ep : Nat}, s1.heap.get? b = some o → o.data = .dict es ep → H b = none := fun {b o es ep} e d => by
      match q : H b with
      | none => rfl
      | some u =>
        obtain ⟨rfl, _⟩ := hO b u q
        rw [ha] at e
        cases e
        cases (show Data.seq vs.toArray _ = Data.dict es ep from d)
    have names : ∀ {b : Addr} {m : Str → Option Value}, s1.heap.Ns b m → (hidT s1.heap H).Ns b m := fun {b m} ⟨o, es, ep, e, d, r⟩ => ⟨o, es, ep, kept e (nodict e d), d, r⟩
    have hK : K.In (hidT s1.heap H) := fun b o e => kept (KX b o e) (by
      match q : H b with
      | none => rfl
      | some u =>
        obtain ⟨rfl, n, _⟩ := hO b u q
        rw [n] at e
        cases e)
    have hS : SM (hidT s1.heap H) := by
      obtain ⟨o, es, n, e1, e2⟩ := hsm
      exact ⟨o, es, n, kept e1 (nodict e1 e2), e2⟩
    have hM : L2.Mod K mg (hidT s1.heap H) := ⟨hK, names hns, ⟨mb, names hb, hbb⟩, let ⟨mc, h1, h2⟩ := hlim; ⟨mc, names h1, h2⟩⟩
    have e0 : Env0 P w K mg (hidT s1.heap H) callerA [] s1 H := ⟨rfl, hM, fun b o e => of_hidT e, Nat.le_of_eq (hidT_size _ _), trivial, fun b hb => absurd (show b ∈ ([] : List Addr) from hb) (by simp), hok, .of_eq hg⟩
    obtain ⟨g1, g2, g3, g4, g5⟩ := hG (hidT s1.heap H)
    have run := (F _ hS hK (names hns)).run callerA [] s1 H ⟨[.ref a], []⟩ [.ref a] [.ref a] (fun v _ => v = .bl true) (fun _ _ _ => False) hr rfl (by rw [g1, g2, g3, g4, g5]; exact e0) (hbind s1 (.ref a)) (.cons rfl .nil) (by
      refine ⟨[.lst (ns.map T.int)], [], [], ⟨rfl, List.nodup_nil, fun a h => by simp at h, fun n o a h => by simp at h⟩, .cons (.lst (hz _) ?_) .nil, ?_⟩
      · have : ∀ l : List Int, VRs (G (hidT s1.heap H)) [] H (l.map T.int) (l.map V.int) := fun l => by
          induction l with
          | nil => exact .nil
          | cons i l ih => exact .cons (.int i) ih
        exact this ns
      · rw [hp]
        intro R' H' v _ _ r
        cases r
        rfl)
    rw [g1, g2] at run
    refine codeAny_mono run fun r s' h => ?_
    match r, h with
    | .error e, h =>
      obtain ⟨_, _, _, _, _, _, _, _, _, _, _, _, z⟩ := h
      exact z.elim
    | .ok .next, h => exact False.elim h
    | .ok .brk, h => exact False.elim h
    | .ok .cont, h => exact False.elim h
    | .ok (.ret u), h =>
      obtain ⟨v, H', os, bare, un, hok', r', q⟩ := h
      have q' : v = .bl true := q
      subst q'
      cases (show u = Value.bool true from r')
      refine ⟨rfl, OldK.of_keep fun b o e => ?_, os, bare⟩
      match q : H b with
      | none => exact un.keep b o e q (by intro z; exact absurd (show b ∈ ([] : List Addr) from z) (by simp)) (by simp)
      | some u =>
        obtain ⟨_, _, ob, xs, rfl⟩ := hO b u q
        have e2 := (hok' b _ (un.frzs b ob _ q)).1
        rw [← e, (hok b _ q).1]
        exact e2
  match hk : K.lookup a with
  | some o =>
    have e := KX a o hk
    rw [ha] at e
    cases e
    refine main (fun _ => none) (fun b u z => by cases z) (fun b u z => by cases (show (none : Option HO) = some u from z)) fun b => .inr ⟨vs, 0, ?_, ?_, rv⟩
    · rw [(hG b).2.2.1]; exact hk
    · rw [List.length_map]; exact hl
  | none =>
    refine main (fun b => if b = a then some (.frz { cls := .type "list", data := .seq vs.toArray } (.lst (ns.map V.int))) else none) (fun b u z => ?_) (fun b u z => ?_) fun b => .inl ⟨{ cls := .type "list", data := .seq vs.toArray }, if_pos rfl⟩
    · by_cases hb : b = a
      · subst hb
        rw [if_pos rfl] at z
        cases z
        exact ⟨rfl, hk, _, _, rfl⟩
      · rw [if_neg hb] at z; cases z
    · by_cases hb : b = a
      · subst hb
        have z' := (if_pos rfl).symm.trans z
        cases z'
        exact ⟨ha, by rw [List.length_map]; exact hl, vs, _, rv, ha⟩
      · have z' := (if_neg hb).symm.trans z
        cases z'

/-! ### defs of a class -/
/-- the j-th statement of the i-th statement's class -/
def clsDef (p : Program) (i j : Nat) : DefRec := match p.main.body[i]? with
  | some (.ClassDef _ _ _ b _ _ _ _ _ _ _) => (match b[j]? with
    | some (.FunctionDef n a b _ _ _ sc _ _ pos) => ⟨n, a, b, sc, pos⟩
    | _ => ⟨"law", ⟨[], [], none, [], [], none, []⟩, [], ⟨.function, [], false, false, []⟩, default⟩)
  | _ => ⟨"law", ⟨[], [], none, [], [], none, []⟩, [], ⟨.function, [], false, false, []⟩, default⟩
/-- the first def of a class's body -/
def firstDef : List Stmt → DefRec
  | .FunctionDef n a b _ _ _ sc _ _ pos :: _ => ⟨n, a, b, sc, pos⟩
  | _ :: r => firstDef r
  | [] => ⟨"law", ⟨[], [], none, [], [], none, []⟩, [], ⟨.function, [], false, false, []⟩, default⟩
def initDef (p : Program) (i : Nat) : DefRec := match p.main.body[i]? with
  | some (.ClassDef _ _ _ b _ _ _ _ _ _ _) => firstDef b
  | _ => ⟨"law", ⟨[], [], none, [], [], none, []⟩, [], ⟨.function, [], false, false, []⟩, default⟩
/-! ### a row's defs, constants, classes -/
/-- a def: its canonical name, its name in the row, its place among the top's statements, ours, its names by slot; a method: the class's name in the row, its place in the class's body, its qualified name -/
structure Df where
  f : String
  x : Str
  i : Nat
  d : Fn
  N : List Str
  m : Option (Str × Nat × Str)
/-- a constant: its canonical name, its name in the row, its value -/
structure Cd where
  g : String
  x : Str
  t : T
/-- a class: its canonical name, its name in the row, its fields, its methods -/
structure Kd where
  c : String
  x : Str
  fl : List String
  ms : List (String × String)
/-- an exception class: its canonical name, its name in the row, its one field, its place, its __init__'s qualified name and parameters, the classes above it (it too) -/
structure Xd where
  c : String
  x : Str
  f : Option String
  i : Nat
  q : Str
  N : List Str
  up : List String
  b : Option Str
structure Mo where
  ds : List Df
  cs : List Cd
  ks : List Kd
  xs : List Xd
def dfAt (ds : List Df) (f : String) : Option Df := ds.find? fun e => e.f == f
def cdAt (cs : List Cd) (g : String) : Option Cd := cs.find? fun e => e.g == g
def kdAt (ks : List Kd) (g : String) : Option Kd := ks.find? fun e => e.c == g
def xdAt (xs : List Xd) (g : String) : Option Xd := xs.find? fun e => e.c == g
theorem dfAt_some {ds : List Df} {f : String} {e : Df} (h : dfAt ds f = some e) : e ∈ ds ∧ e.f = f := ⟨List.mem_of_find?_eq_some h, by simpa using List.find?_some h⟩
theorem cdAt_some {cs : List Cd} {g : String} {e : Cd} (h : cdAt cs g = some e) : e ∈ cs ∧ e.g = g := ⟨List.mem_of_find?_eq_some h, by simpa using List.find?_some h⟩
theorem kdAt_some {ks : List Kd} {g : String} {e : Kd} (h : kdAt ks g = some e) : e ∈ ks ∧ e.c = g := ⟨List.mem_of_find?_eq_some h, by simpa using List.find?_some h⟩
theorem xdAt_some {xs : List Xd} {g : String} {e : Xd} (h : xdAt xs g = some e) : e ∈ xs ∧ e.c = g := ⟨List.mem_of_find?_eq_some h, by simpa using List.find?_some h⟩
/-- a name's text in the row -/
def nmOf (M : Mo) (f : String) : Str := match dfAt M.ds f with
  | some e => e.x
  | none => (match cdAt M.cs f with
    | some e => e.x
    | none => (match kdAt M.ks f with
      | some e => e.x
      | none => (match xdAt M.xs f with
        | some e => e.x
        | none => Str.ofString f)))
def progOf (M : Mo) : Prog where
  fn f := (dfAt M.ds f).map (·.d)
  con g := (cdAt M.cs g).map (·.t)
  meth c m := (kdAt M.ks c).bind fun k => k.ms.lookup m
  sub c d := match xdAt M.xs c with
    | some e => e.up.contains d
    | none => false
  flds c := match kdAt M.ks c with
    | some k => k.fl
    | none => []
  exf c := (xdAt M.xs c).bind (·.f)
  exk c := (xdAt M.xs c).isSome
def knownOf (M : Mo) (f : String) : Bool := match dfAt M.ds f with
  | some e => e.m.isNone
  | none => false
def knsOf (M : Mo) : Kns where
  kn := knownOf M
  kcl c := ((progOf M).meth c "__init__").isSome
  kex c := (xdAt M.xs c).isSome
  kxr c := ((progOf M).exf c).isSome
def recOf (p : Program) (e : Df) : DefRec := match e.m with
  | none => HandSHeadRun.topDef p e.i
  | some q => clsDef p e.i q.2.1
def Df.at_ (e : Df) : Str × Option Str := match e.m with
  | none => (e.x, none)
  | some q => (q.1, some e.x)
def defD (p : Program) (e : Df) : He.DefD := ⟨e.at_, e.x, (match e.m with | none => e.x | some q => q.2.2), (recOf p e).params, (recOf p e).body, (recOf p e).scope, [], []⟩
def psOf (p : Program) (e : Df) : List Str := (recOf p e).params.args.map (·.arg)
def xdefD (p : Program) (e : Xd) : He.DefD := ⟨(e.x, some "__init__"), "__init__", e.q, (initDef p e.i).params, (initDef p e.i).body, (initDef p e.i).scope, [], []⟩
def fnsOf (M : Mo) (p : Program) : List He.DefD := M.ds.map (defD p) ++ (M.xs.filter (·.f.isSome)).map (xdefD p)
def scopeB (N ps : List Str) (sc : Scope) : Bool := (match sc.kind with | .function => true | _ => false) && !sc.isCoroutine && !sc.isGenerator && decide N.Nodup && decide (N.take ps.length = ps) &&
  (ps.all fun x => decide (sc.names.lookup x = some .local) || decide (sc.names.lookup x = some .cell)) && sc.names.all fun y => decide (y.2 ≠ .free)
theorem scopeB_ok {N ps : List Str} {sc : Scope} (h : scopeB N ps sc = true) : FnScope N ps sc := by
  simp only [scopeB, Bool.and_eq_true, Bool.not_eq_true', decide_eq_true_eq, List.all_eq_true, Bool.or_eq_true] at h
  refine ⟨?_, h.1.1.1.1.1.2, h.1.1.1.1.2, h.1.1.1.2, h.1.1.2, h.1.2, h.2⟩
  have := h.1.1.1.1.1.1
  cases e : sc.kind <;> rw [e] at this <;> first | rfl | cases this
def paramsB (p : Arguments) : Bool := p.posonlyargs.isEmpty && p.vararg.isNone && p.kwonlyargs.isEmpty && p.kwarg.isNone && decide (p.args.map (·.arg)).Nodup
def dfB (p : Program) (M : Mo) (e : Df) : Bool := paramsB (recOf p e).params && scopeB e.N (psOf p e) (recOf p e).scope && decide ((psOf p e).length = e.d.np) && decide (e.N.length = e.d.ns) &&
  chkSs ⟨nmOf M, knownOf M, e.N, (recOf p e).scope, (knsOf M).kcl, (knsOf M).kex, (knsOf M).kxr, false⟩ (List.range e.d.ns) e.d.body (recOf p e).body

/-! ### constants -/
mutual
def repB (fa : String → Option Addr) (K : PySem.W.Frag) : T → Value → Bool
  | .non, .none => true
  | .bl b, .bool k => b == k
  | .int i, .int j _ => decide (i = j)
  | .str s, .str x _ => decide (tx s = x)
  | .tup xs, .ref a => (match K.lookup a with
    | some ⟨.type "tuple", _, .seq its _, _⟩ => decide (its.size ≤ sizeLine) && repsB fa K xs its.toList
    | _ => false)
  | .lst xs, .ref a => (match K.lookup a with
    | some ⟨.type "list", none, .seq its _, sl⟩ => decide (its.size ≤ sizeLine) && sl.isEmpty && repsB fa K xs its.toList
    | _ => false)
  | .fn f, .ref a => decide (fa f = some a)
  | _, _ => false
def repsB (fa : String → Option Addr) (K : PySem.W.Frag) : List T → List Value → Bool
  | [], [] => true
  | x :: xs, u :: us => repB fa K x u && repsB fa K xs us
  | _, _ => false
end
mutual
theorem repB_ok {G : GD} (t : T) (u : Value) (h : repB G.fa G.K t u = true) : ∃ v, RelV v u ∧ ∀ R H, VR G R H t v := by
  unfold repB at h
  split at h
  · exact ⟨.non, rfl, fun _ _ => .non⟩
  · rename_i b k
    simp only [beq_iff_eq] at h
    subst h
    exact ⟨.bl b, rfl, fun _ _ => .bl b⟩
  · rename_i i j t
    simp only [decide_eq_true_eq] at h
    subst h
    exact ⟨.int i, ⟨t, rfl⟩, fun _ _ => .int i⟩
  · rename_i s x t
    simp only [decide_eq_true_eq] at h
    subst h
    exact ⟨.str (tx s), ⟨t, rfl⟩, fun _ _ => .str s⟩
  · rename_i xs a
    split at h <;> (try (cases h; done))
    rename_i od its n sl e
    simp only [Bool.and_eq_true, decide_eq_true_eq] at h
    obtain ⟨vs, h1, h2⟩ := repsB_ok xs its.toList h.2
    exact ⟨.ref a, rfl, fun R H => .tup (.inr ⟨_, its, n, e, rfl, rfl, h.1, h1⟩) (h2 R H)⟩
  · rename_i xs a
    split at h <;> (try (cases h; done))
    rename_i its n sl e
    simp only [Bool.and_eq_true, decide_eq_true_eq] at h
    obtain ⟨vs, h1, h2⟩ := repsB_ok xs its.toList h.2
    have hs : sl = #[] := by simpa using h.1.2
    subst hs
    exact ⟨.ref a, rfl, fun R H => .lst (.inr ⟨its.toList, n, e, by rw [h1.length]; simpa using h.1.1, h1⟩) (h2 R H)⟩
  · rename_i f a
    simp only [decide_eq_true_eq] at h
    exact ⟨.ref a, rfl, fun R H => .fn h⟩
  · cases h
termination_by sizeOf t
theorem repsB_ok {G : GD} : ∀ (ts : List T) (us : List Value), repsB G.fa G.K ts us = true → ∃ vs, Vals vs us ∧ ∀ R H, VRs G R H ts vs
  | [], [], _ => ⟨[], .nil, fun _ _ => .nil⟩
  | [], _ :: _, h => by simp [repsB] at h
  | _ :: _, [], h => by simp [repsB] at h
  | t :: ts, u :: us, h => by
    simp only [repsB, Bool.and_eq_true] at h
    obtain ⟨v, h1, h2⟩ := repB_ok t u h.1
    obtain ⟨vs, h3, h4⟩ := repsB_ok ts us h.2
    exact ⟨v :: vs, .cons h1 h3, fun R H => .cons (h2 R H) (h4 R H)⟩
termination_by ts => sizeOf ts
end
/-! dicts of the top with text keys -/
def strsT : List T → Option (List Str)
  | [] => some []
  | .str s :: xs => (strsT xs).map (tx s :: ·)
  | _ => none
def keysB : List Str → List DictEntry → Bool
  | [], [] => true
  | x :: xs, e :: es => (match e.key with | .str y _ => decide (x = y) | _ => false) && keysB xs es
  | _, _ => false
def dictB (fa : String → Option Addr) (K : PySem.W.Frag) (ks vs : List T) (a : Addr) : Bool := match K.lookup a, strsT ks with
  | some ⟨_, _, .dict es _, _⟩, some xs => keysB xs es.toList && repsB fa K vs (es.toList.map (·.val)) && decide xs.Nodup && decide (ks.length ≤ 1000)
  | _, _ => false
def faOf (ds : List Df) (K : PySem.W.Frag) (f : String) : Option Addr := (dfAt ds f).map fun e => He.fAd K e.at_
def caOf (M : Mo) (K : PySem.W.Frag) (c : String) : Option Addr := match kdAt M.ks c with
  | some k => some (He.ga K k.x)
  | none => (xdAt M.xs c).map fun e => He.ga K e.x
/-- the classes -/
def kdB (ds : List Df) (K : PySem.W.Frag) (k : Kd) : Bool := isKB K (He.ga K k.x) && ((He.Fa.glo k.x).ok K && (He.Fa.cls k.x).ok K && (k.fl.all fun f => (He.Fa.noat k.x (Str.ofString f)).ok K) &&
  (k.ms.all fun q => (He.Fa.meth k.x (Str.ofString q.1)).ok K && decide (faOf ds K q.2 = some (He.ma K (He.ga K k.x) (Str.ofString q.1)))) && (!(k.ms.lookup "__init__").isSome || (He.Fa.mkr k.x).ok K))
/-- the exception classes -/
def xkB (M : Mo) (K : PySem.W.Frag) (e : Xd) : Bool := (names7.all fun a => decide (PySem.W.kitOne K (.type a) (.ref (He.ga K e.x)) = some false)) && (e.f.isNone || (xisB K (He.ga K e.x) && decide (PySem.W.kitOne K (.ref (He.ga K e.x)) (.type "ValueError") = some ((progOf M).sub e.c "ValueError")) &&
  M.xs.all fun e' => decide (PySem.W.kitOne K (.ref (He.ga K e.x)) (.ref (He.ga K e'.x)) = some ((progOf M).sub e.c e'.c))))
def xdB (M : Mo) (K : PySem.W.Frag) (e : Xd) : Bool := (He.Fa.glo e.x).ok K && (kdAt M.ks e.c).isNone && (match e.f with
  | none => true
  | some f => (match e.b with
      | none => (He.Fa.free "Exception").ok K && excB K && xcEB K (He.ga K e.x)
      | some b => (He.Fa.glo b).ok K && vinB K (He.ga K b) && oexB K (He.ga K e.x)) && ((He.Fa.meth e.x "__init__").ok K && decide (PySem.W.subIn K (.ref (He.ga K e.x)) (.type "BaseException") = some true) && decide (PySem.W.typeIn K (.ref (He.ga K e.x)) = some (.type "type")) && PySem.W.keepIn K (.ref (He.ga K e.x)) &&
    decide (PySem.W.typeIn K (.ref (He.ma K (He.ga K e.x) "__init__")) = some (.type "function")) && xfB K (He.ga K e.x) && (He.Fa.noat e.x (Str.ofString f)).ok K &&
    M.xs.all fun e' => decide (PySem.W.exmOne K (.ref (He.ga K e.x)) (.ref (He.ga K e'.x)) = some ((progOf M).sub e.c e'.c))))
def conB (ds : List Df) (cs : List Cd) (K : PySem.W.Frag) : Bool := cs.all fun e => match PySem.W.nsIn K mainGlobals e.x with
  | some (some u) => (match e.t, u with
    | .dct ks vs, .ref a => dictB (faOf ds K) K ks vs a
    | t, u => repB (faOf ds K) K t u)
  | _ => false
def moB (M : Mo) (K : PySem.W.Frag) : Bool := (conB M.ds M.cs K && M.xs.all (xkB M K)) && M.ks.all (kdB M.ds K) && M.xs.all (xdB M K)
def tabsOf (cs : List Cd) : List He.Tab := cs.filterMap fun e => match e.t with
  | .dct ks _ => (strsT ks).map fun xs => (fun K => He.ga K e.x, xs)
  | _ => none
theorem strs_keys : ∀ {ks : List T} {xs : List Str}, strsT ks = some xs → keys1 ks = some (xs.map Sum.inr)
  | [], _, e => by cases e; rfl
  | k :: ks, xs, e => by
    cases k <;> first | (cases e; done) | skip
    rename_i s
    obtain ⟨r, h1, rfl⟩ := Option.map_eq_some_iff.mp (show (strsT ks).map (tx s :: ·) = some xs from e)
    simp only [keys1, key1, strs_keys h1, List.map_cons]
theorem keysB_pairs {P : Program} {w : World} : ∀ {xs : List Str} {es : List DictEntry}, keysB xs es = true → Pairs (mixKind P w) es ((xs.map Sum.inr).zip (es.map (·.val)))
  | [], [], _ => .nil
  | [], _ :: _, h => by simp [keysB] at h
  | _ :: _, [], h => by simp [keysB] at h
  | x :: xs, e :: es, h => by
    simp only [keysB, Bool.and_eq_true] at h
    refine .cons ?_ rfl (keysB_pairs h.2)
    have h1 := h.1
    split at h1
    · rename_i y t q
      simp only [decide_eq_true_eq] at h1
      subst h1
      rw [q]
      exact mixKind_str P w x t
    · cases h1
theorem keysB_len : ∀ {xs : List Str} {es : List DictEntry}, keysB xs es = true → xs.length = es.length
  | [], [], _ => rfl
  | [], _ :: _, h => by simp [keysB] at h
  | _ :: _, [], h => by simp [keysB] at h
  | x :: xs, e :: es, h => by
    simp only [keysB, Bool.and_eq_true] at h
    simp [keysB_len h.2]
theorem inr_nodup : ∀ {xs : List Str}, xs.Nodup → (xs.map (Sum.inr : Str → Key)).Nodup
  | [], _ => List.nodup_nil
  | x :: xs, h => by
    obtain ⟨h1, h2⟩ := List.nodup_cons.mp h
    refine List.nodup_cons.mpr ⟨fun z => ?_, inr_nodup h2⟩
    obtain ⟨y, hy, e⟩ := List.mem_map.mp z
    injection e with e
    exact h1 (e ▸ hy)
theorem dictB_ok {G : GD} {ks vs : List T} {a : Addr} {es : Array DictEntry} {n : Nat} (h : dictB G.fa G.K ks vs a = true) (D : L2.KDict G.K G.w a es n) : ∀ R H, VR G R H (.dct ks vs) (.ref a) := by
  unfold dictB at h
  rw [D.at_] at h
  cases e : strsT ks with
  | none => rw [e] at h; cases h
  | some xs =>
    rw [e] at h
    simp only [Bool.and_eq_true, decide_eq_true_eq] at h
    obtain ⟨⟨⟨h1, h2⟩, h3⟩, h4⟩ := h
    obtain ⟨ws, g1, g2⟩ := repsB_ok vs _ h2
    have hl := keysB_len h1
    have hk := strs_keys e
    have hkl := keys1_len hk
    have hwl := g1.length
    simp at hwl
    have hl2 : xs.length = es.size := by simpa using hl
    rw [List.length_map] at hkl
    intro R H
    refine .dct (.inr ⟨xs.map Sum.inr, _, hk, by simp; omega, rfl, g1, D.low, by rw [sizeLine_eq]; omega, fun hh X => ?_, es, n, D.at_⟩) (keys_vrs hk) (g2 R H)
    refine ⟨_, es, n, X _ _ D.at_, ⟨rfl, rfl, rfl⟩, rfl, fun d hd => ?_, keysB_pairs h1, ?_⟩
    · obtain ⟨x, t, e1, e2⟩ := D.lit.all d (Array.mem_toList_iff.mpr hd)
      exact ⟨.inr x, by rw [e1]; exact mixKind_str G.prog G.w x t, e2⟩
    · rw [zip_fst (by simp; omega)]
      exact inr_nodup h3

/-! ### the row -/
def bltNames : List String := fnNames ++ tyNames ++ ["isinstance", "range", "enumerate", "zip", "ValueError"]
def facts (M : Mo) : List He.Fa := (M.ds.filter (·.m.isNone)).map (fun e => .glo e.x) ++ bltNames.map fun b => .free (Str.ofString b)
def gdOf (M : Mo) (p : Program) (w : World) (K : PySem.W.Frag) (mg : Str → Option Value) (base : PySem.Heap) : GD where
  prog := p
  w := w
  K := K
  mg := mg
  base := base
  P := progOf M
  nm := nmOf M
  fa := faOf M.ds K
  ca := caOf M K
/-- every name's text is its own -/
def apartB (M : Mo) : Bool := (M.ds.all fun e => e.m.isSome || decide (nmOf M e.f = e.x)) && (M.cs.all fun e => decide (nmOf M e.g = e.x)) && (M.ks.all fun e => decide (nmOf M e.c = e.x)) && M.xs.all fun e => decide (nmOf M e.c = e.x)
theorem lookup_mem {α : Type} {m : String} {f : α} : ∀ {l : List (String × α)}, l.lookup m = some f → (m, f) ∈ l
  | [], h => by cases h
  | (k, v) :: l, h => by
    rw [List.lookup_cons] at h
    split at h
    · rename_i e
      cases h
      rw [eq_of_beq e]
      exact List.mem_cons_self ..
    · exact List.mem_cons_of_mem _ (lookup_mem h)
section
variable {M : Mo} {p : Program} {w : World} {K : PySem.W.Frag} {mg : Str → Option Value} {h base : PySem.Heap} {fn : List He.DefD}
theorem mo_ca (ap : apartB M = true) (hm : moB M K = true) (X : K.In h) (N : h.Ns mainGlobals mg) {d : String} {e : Xd} (q : xdAt M.xs d = some e) : caOf M K d = some (He.ga K e.x) ∧ mg (nmOf M d) = some (.ref (He.ga K e.x)) := by
  simp only [moB, Bool.and_eq_true] at hm
  obtain ⟨h1, h2⟩ := xdAt_some q
  have z := List.all_eq_true.mp hm.2 e h1
  simp only [xdB, Bool.and_eq_true] at z
  refine ⟨?_, ?_⟩
  · unfold caOf
    rw [← h2, Option.isNone_iff_eq_none.mp z.1.2, h2, q]
    rfl
  · simp only [apartB, Bool.and_eq_true] at ap
    have := List.all_eq_true.mp ap.2 e h1
    rw [← h2, of_decide_eq_true this]
    exact He.glo_ok X N z.1.1
theorem mo_xk (hm : moB M K = true) {e : Xd} (h1 : e ∈ M.xs) : xkB M K e = true := by
  simp only [moB, Bool.and_eq_true] at hm
  exact List.all_eq_true.mp hm.1.1.2 e h1
theorem exf_at {c f : String} (hf : (progOf M).exf c = some f) : ∃ e, xdAt M.xs c = some e ∧ e.f = some f := by
  obtain ⟨e, he, hf'⟩ := Option.bind_eq_some_iff.mp (show (xdAt M.xs c).bind (·.f) = some f from hf)
  exact ⟨e, he, hf'⟩
theorem row_ok (ap : apartB M = true) (X : K.In h) (N : h.Ns mainGlobals mg) (ct : He.SaysT (facts M) (fnsOf M p) (tabsOf M.cs) w K) (hm : moB M K = true) (sm : SM base) : (gdOf M p w K mg base).Ok where
  sm := sm
  fa f a e := by
    show ((dfAt M.ds f).map (·.d)).isSome = true
    have e' : (dfAt M.ds f).map (fun e => He.fAd K e.at_) = some a := e
    cases q : dfAt M.ds f with
    | none => rw [q] at e'; cases e'
    | some _ => rfl
  con g t e := by
    obtain ⟨d, e1, e2⟩ := Option.map_eq_some_iff.mp e
    obtain ⟨h1, h2⟩ := cdAt_some e1
    simp only [moB, Bool.and_eq_true] at hm
    have := List.all_eq_true.mp hm.1.1.1 d h1
    split at this <;> (try (cases this; done))
    rename_i u eu
    have hmg : mg (nmOf M g) = some u := by
      simp only [apartB, Bool.and_eq_true] at ap
      have := List.all_eq_true.mp ap.1.1.2 d h1
      rw [← h2, of_decide_eq_true this]
      exact PySem.W.mg_of X N eu
    split at this
    · rename_i ks vs a et
      have hga : He.ga K d.x = a := by unfold He.ga; rw [eu]
      cases es : strsT ks with
      | none =>
        unfold dictB at this
        rw [es] at this
        split at this
        · rename_i h7; cases h7
        · cases this
      | some xs =>
        have ht : ((fun K => He.ga K d.x, xs) : He.Tab) ∈ tabsOf M.cs := by
          unfold tabsOf
          rw [List.mem_filterMap]
          exact ⟨d, h1, by rw [et]; show (strsT ks).map _ = _; rw [es]; rfl⟩
        obtain ⟨i, hi, ei⟩ := List.mem_iff_getElem.mp ht
        obtain ⟨es', n, D⟩ := He.SaysT.tab ct i (t := (fun K => He.ga K d.x, xs)) (by rw [List.getElem?_eq_getElem hi, ei])
        have D' : L2.KDict K w a es' n := by
          have : L2.KDict K w (He.ga K d.x) es' n := D
          rw [hga] at this
          exact this
        refine ⟨.ref a, .ref a, hmg, rfl, ?_⟩
        rw [← e2, et]
        exact dictB_ok (G := gdOf M p w K mg base) this D'
    · obtain ⟨v, r1, r2⟩ := repB_ok (G := gdOf M p w K mg base) d.t _ this
      exact ⟨_, v, hmg, r1, by rw [← e2]; exact r2⟩
  free b hb := by
    refine He.free_ok X N (He.SaysD.facts (He.SaysT.d ct) (f := .free (Str.ofString b)) ?_)
    simp only [facts, List.mem_append, List.mem_map]
    exact .inr ⟨b, by simpa [bltNames] using hb, rfl⟩
  fld c C f e hf := by
    simp only [moB, Bool.and_eq_true] at hm
    have e' : caOf M K c = some C := e
    have hf' : ((progOf M).flds c).contains f = true := hf
    unfold caOf at e'
    unfold progOf at hf'
    dsimp only at hf'
    cases q : kdAt M.ks c with
    | none => rw [q] at hf'; cases hf'
    | some k =>
      rw [q] at e' hf'
      cases e'
      obtain ⟨h1, _⟩ := kdAt_some q
      have z := List.all_eq_true.mp hm.1.2 k h1
      simp only [kdB, Bool.and_eq_true] at z
      obtain ⟨zk, z⟩ := z
      exact ⟨He.cls_ok z.1.1.1.2, He.noat_ok (List.all_eq_true.mp z.1.1.2 f (by simpa using hf'))⟩
  mth c C m f e hf := by
    simp only [moB, Bool.and_eq_true] at hm
    have e' : caOf M K c = some C := e
    have hf' : ((kdAt M.ks c).bind fun k => k.ms.lookup m) = some f := hf
    unfold caOf at e'
    cases q : kdAt M.ks c with
    | none => rw [q] at hf'; cases hf'
    | some k =>
      rw [q] at e' hf'
      cases e'
      obtain ⟨h1, _⟩ := kdAt_some q
      have z := List.all_eq_true.mp hm.1.2 k h1
      simp only [kdB, Bool.and_eq_true] at z
      obtain ⟨zk, z⟩ := z
      have y := List.all_eq_true.mp z.1.2 (m, f) (lookup_mem hf')
      simp only [Bool.and_eq_true, decide_eq_true_eq] at y
      exact ⟨He.cls_ok z.1.1.1.2, _, y.2, He.meth_ok y.1⟩
  isk c C e hf := by
    simp only [moB, Bool.and_eq_true] at hm
    have e' : caOf M K c = some C := e
    have hf' : ((progOf M).flds c).isEmpty = false := hf
    unfold caOf at e'
    unfold progOf at hf'
    dsimp only at hf'
    cases q : kdAt M.ks c with
    | none => rw [q] at hf'; cases hf'
    | some k =>
      rw [q] at e' hf'
      cases e'
      obtain ⟨h1, _⟩ := kdAt_some q
      have z := List.all_eq_true.mp hm.1.2 k h1
      simp only [kdB, Bool.and_eq_true] at z
      obtain ⟨zk, z⟩ := z
      exact isKB_ok (He.cls_ok z.1.1.1.2) zk
  known t ht := by
    obtain ⟨e, he⟩ := Option.isSome_iff_exists.mp (show (xdAt M.xs t).isSome = true from ht)
    exact ⟨_, (mo_ca ap hm X N he).1, (mo_ca ap hm X N he).2⟩
  xis c C f e hf := by
    obtain ⟨x, he, hx⟩ := exf_at hf
    have e2 := (mo_ca ap hm X N he).1
    rw [show caOf M K c = some C from e] at e2
    cases e2
    have z := mo_xk hm (xdAt_some he).1
    simp only [xkB, hx, Bool.and_eq_true, Bool.or_eq_true] at z
    exact xisB_ok (z.2.elim (fun w => by cases w) fun w => w.1.1)
  xq c C f t D e hf ht eD := by
    obtain ⟨x, he, hx⟩ := exf_at hf
    obtain ⟨y, hy⟩ := Option.isSome_iff_exists.mp (show (xdAt M.xs t).isSome = true from ht)
    have e2 := (mo_ca ap hm X N he).1
    have e3 := (mo_ca ap hm X N hy).1
    rw [show caOf M K c = some C from e] at e2
    rw [show caOf M K t = some D from eD] at e3
    cases e2
    cases e3
    obtain ⟨h1, h2⟩ := xdAt_some he
    obtain ⟨h3, h4⟩ := xdAt_some hy
    have z := mo_xk hm h1
    simp only [xkB, hx, Bool.and_eq_true, Bool.or_eq_true] at z
    have w := of_decide_eq_true (List.all_eq_true.mp (z.2.elim (fun w => by cases w) fun w => w.2) y h3)
    rw [h2, h4] at w
    exact w
  xv c C f e hf := by
    obtain ⟨x, he, hx⟩ := exf_at hf
    have e2 := (mo_ca ap hm X N he).1
    rw [show caOf M K c = some C from e] at e2
    cases e2
    obtain ⟨h1, h2⟩ := xdAt_some he
    have z := mo_xk hm h1
    simp only [xkB, hx, Bool.and_eq_true, Bool.or_eq_true, decide_eq_true_eq] at z
    have w := z.2.elim (fun w => by cases w) fun w => w.1.2
    rw [h2] at w
    exact w
  xd t D ht eD a ha := by
    obtain ⟨y, hy⟩ := Option.isSome_iff_exists.mp (show (xdAt M.xs t).isSome = true from ht)
    have e3 := (mo_ca ap hm X N hy).1
    rw [show caOf M K t = some D from eD] at e3
    cases e3
    have z := mo_xk hm (xdAt_some hy).1
    simp only [xkB, Bool.and_eq_true] at z
    exact of_decide_eq_true (List.all_eq_true.mp z.1 a ha)
  xf c C f e hf := by
    simp only [moB, Bool.and_eq_true] at hm
    obtain ⟨x, he, hf'⟩ := Option.bind_eq_some_iff.mp (show (xdAt M.xs c).bind (·.f) = some f from hf)
    obtain ⟨h1, h2⟩ := xdAt_some he
    have z := List.all_eq_true.mp hm.2 x h1
    simp only [xdB, hf', Bool.and_eq_true, decide_eq_true_eq] at z
    obtain ⟨⟨_, z1⟩, _, ⟨⟨⟨_, y8⟩, y9⟩, _⟩⟩ := z
    have e' : caOf M K c = some C := e
    unfold caOf at e'
    rw [← h2, Option.isNone_iff_eq_none.mp z1, h2, he] at e'
    cases e'
    exact ⟨xfB_ok y8, He.noat_ok y9⟩
  mak c f e := by
    simp only [moB, Bool.and_eq_true] at hm
    have hf' : ((kdAt M.ks c).bind fun k => k.ms.lookup "__init__") = some f := e
    cases q : kdAt M.ks c with
    | none => rw [q] at hf'; cases hf'
    | some k =>
      rw [q] at hf'
      have hf2 : k.ms.lookup "__init__" = some f := hf'
      obtain ⟨h1, h2⟩ := kdAt_some q
      have z := List.all_eq_true.mp hm.1.2 k h1
      simp only [kdB, Bool.and_eq_true, Bool.or_eq_true] at z
      obtain ⟨zk, z⟩ := z
      have y := List.all_eq_true.mp z.1.2 ("__init__", f) (lookup_mem hf2)
      simp only [Bool.and_eq_true, decide_eq_true_eq] at y
      have mk : (He.Fa.mkr k.x).ok K = true := by
        rcases z.2 with w | w
        · rw [hf2] at w; cases w
        · exact w
      refine ⟨He.ga K k.x, _, ?_, y.2, He.mkr_ok mk, ?_⟩
      · show caOf M K c = _
        unfold caOf
        rw [q]
      · show mg (nmOf M c) = _
        simp only [apartB, Bool.and_eq_true] at ap
        have := List.all_eq_true.mp ap.1.2 k h1
        rw [← h2, of_decide_eq_true this]
        exact He.glo_ok X N z.1.1.1.1
theorem row_known (X : K.In h) (N : h.Ns mainGlobals mg) (c : He.SaysD (facts M) (fnsOf M p) K) : KOk (gdOf M p w K mg base) (knsOf M) where
  kn f hf := by
    have hf' : knownOf M f = true := hf
    unfold knownOf at hf'
    split at hf' <;> (try (cases hf'; done))
    rename_i e he
    obtain ⟨h1, _⟩ := dfAt_some he
    have hm0 : e.m = none := by simpa using hf'
    refine ⟨?_, fun a ha => ?_⟩
    · show ((dfAt M.ds f).map (·.d)).isSome = true
      rw [he]
      rfl
    · have ha' : (dfAt M.ds f).map (fun e => He.fAd K e.at_) = some a := ha
      rw [he] at ha'
      cases ha'
      show mg (nmOf M f) = _
      unfold nmOf
      rw [he]
      have : He.fAd K e.at_ = He.ga K e.x := by unfold Df.at_; rw [hm0]; rfl
      show mg e.x = some (.ref (He.fAd K e.at_))
      rw [this]
      exact He.glo_ok X N (He.SaysD.facts c (f := .glo e.x) (by
        simp only [facts, List.mem_append, List.mem_map]
        exact .inl ⟨e, List.mem_filter.mpr ⟨h1, hf'⟩, rfl⟩))
  kc n h := Option.isSome_iff_exists.mp h
  kx n h := h
  kr n h := h
/-- the text of an exception's __init__ -/
def xrB (p : Program) (e : Xd) : Bool := match e.f with
  | none => true
  | some f => paramsB (initDef p e.i).params && scopeB e.N e.N (initDef p e.i).scope && decide ((initDef p e.i).params.args.map (·.arg) = e.N) && xbodyB (match e.b with | none => "Exception" | some b => b) e.N (Str.ofString f) (initDef p e.i).scope (initDef p e.i).body
theorem row_xo (ap : apartB M = true) (hr : M.xs.all (xrB p) = true) (X : K.In h) (N : h.Ns mainGlobals mg) (c : He.SaysD (facts M) (fnsOf M p) K) (hm : moB M K = true) : XOk (gdOf M p w K mg base) := by
  simp only [moB, Bool.and_eq_true] at hm
  have hca : ∀ {d : String} {e : Xd}, xdAt M.xs d = some e → caOf M K d = some (He.ga K e.x) ∧ mg (nmOf M d) = some (.ref (He.ga K e.x)) := fun {d e} q => by
    obtain ⟨h1, h2⟩ := xdAt_some q
    have z := List.all_eq_true.mp hm.2 e h1
    simp only [xdB, Bool.and_eq_true] at z
    refine ⟨?_, ?_⟩
    · unfold caOf
      rw [← h2, Option.isNone_iff_eq_none.mp z.1.2, h2, q]
      rfl
    · simp only [apartB, Bool.and_eq_true] at ap
      have := List.all_eq_true.mp ap.2 e h1
      rw [← h2, of_decide_eq_true this]
      exact He.glo_ok X N z.1.1
  refine ⟨fun d hd => ?_, fun d f hf => ⟨?_⟩, fun a b C D ha hb e1 e2 => ?_⟩
  · obtain ⟨e, he⟩ := Option.isSome_iff_exists.mp (show (xdAt M.xs d).isSome = true from hd)
    obtain ⟨q1, q2⟩ := hca he
    exact ⟨_, q1, q2⟩
  · obtain ⟨e, he, hf'⟩ := Option.bind_eq_some_iff.mp (show (xdAt M.xs d).bind (·.f) = some f from hf)
    obtain ⟨q1, q2⟩ := hca he
    obtain ⟨h1, h2⟩ := xdAt_some he
    have z := List.all_eq_true.mp hm.2 e h1
    simp only [xdB, hf', Bool.and_eq_true, decide_eq_true_eq] at z
    obtain ⟨_, zb, ⟨⟨⟨⟨⟨⟨⟨y1, y4⟩, y5⟩, y6⟩, y7⟩, y8⟩, y9⟩, _⟩⟩ := z
    have r := List.all_eq_true.mp hr e h1
    simp only [xrB, hf', Bool.and_eq_true, decide_eq_true_eq] at r
    obtain ⟨fd, F⟩ := He.SaysD.defs c (d := xdefD p e) (List.mem_append_right _ (List.mem_map.mpr ⟨e, List.mem_filter.mpr ⟨h1, by rw [hf']; rfl⟩, rfl⟩))
    have hpar := r.1.1.1
    simp only [paramsB, Bool.and_eq_true, decide_eq_true_eq, List.isEmpty_iff, Option.isNone_iff_eq_none] at hpar
    have FO : FnOk p w K mg base (L2.CX p w) 1 (He.ma K (He.ga K e.x) "__init__") fd e.N (spX (He.ga K e.x) (Str.ofString f)) ∧ (XcE K (He.ga K e.x) ∨ OexC K (He.ga K e.x)) := by
      have rb := r.2
      cases eb : e.b with
      | none =>
        rw [eb] at rb
        simp only [eb, Bool.and_eq_true] at zb
        exact ⟨init_ok (P := p) (w := w) (mg := mg) (base := base) F (scopeB_ok r.1.1.2) rb (He.free_ok X N zb.1.1) zb.1.2 (xcEB_ok zb.2) (He.noat_ok y9), .inl (xcEB_ok zb.2)⟩
      | some b =>
        rw [eb] at rb
        simp only [eb, Bool.and_eq_true] at zb
        obtain ⟨v1, v2, v3⟩ := vinB_ok zb.1.2
        exact ⟨init_okV (P := p) (w := w) (mg := mg) (base := base) F (scopeB_ok r.1.1.2) rb (He.glo_ok X N zb.1.1) v1 v2 v3 (oexB_ok zb.2) (He.noat_ok y9), .inr (oexB_ok zb.2)⟩
    refine ⟨He.ga K e.x, He.ma K (He.ga K e.x) "__init__", fd, e.N, q1, q2, FO.2, y4, y5, y6, (He.meth_ok y1).at_, y7, ?_, FO.1, xfB_ok y8, He.noat_ok y9⟩
    have hb := L2.FunD.bindsN (ps := e.N) F fun kV doc pm an cdv ct us hl => by
      have := bind_all (x := (xdefD p e).name) (qual := (xdefD p e).qual) (params := (xdefD p e).params) (body := (xdefD p e).body) (scope := (xdefD p e).scope) (kV := kV) (doc := doc) (pm := pm) (cdv := cdv) (ct := ct) (an := an) (us := us) hpar.1.1.1.1 hpar.1.1.1.2 hpar.1.1.2 hpar.1.2 hpar.2 (by rw [hl, ← r.1.2]; rfl)
      rw [← r.1.2]
      exact this
    exact hb
  · obtain ⟨ea, he⟩ := Option.isSome_iff_exists.mp (show ((xdAt M.xs a).bind (·.f)).isSome = true from ha)
    obtain ⟨xa, hxa, hfa⟩ := Option.bind_eq_some_iff.mp he
    obtain ⟨xb, hxb⟩ := Option.isSome_iff_exists.mp (show (xdAt M.xs b).isSome = true from hb)
    obtain ⟨q1, _⟩ := hca hxa
    obtain ⟨q2, _⟩ := hca hxb
    rw [show caOf M K a = some C from e1] at q1
    rw [show caOf M K b = some D from e2] at q2
    cases q1
    cases q2
    obtain ⟨h1, h2⟩ := xdAt_some hxa
    obtain ⟨h3, h4⟩ := xdAt_some hxb
    have z := List.all_eq_true.mp hm.2 xa h1
    simp only [xdB, hfa, Bool.and_eq_true] at z
    have y := List.all_eq_true.mp z.2.2.2 xb h3
    have y' := of_decide_eq_true y
    rw [h2, h4] at y'
    exact y'
theorem row_def (c : He.SaysD (facts M) (fnsOf M p) K) (hd : (M.ds.all fun e => dfB p M e) = true) (f : String) (d : Fn) (e : (progOf M).fn f = some d) : DOk (gdOf M p w K mg base) (knsOf M) f d := by
  obtain ⟨x, e1, e2⟩ := Option.map_eq_some_iff.mp e
  subst e2
  obtain ⟨h1, h2⟩ := dfAt_some e1
  have hb := List.all_eq_true.mp hd x h1
  simp only [dfB, Bool.and_eq_true, decide_eq_true_eq] at hb
  obtain ⟨fd, F⟩ := He.SaysD.defs c (d := defD p x) (List.mem_append_left _ (List.mem_map.mpr ⟨x, h1, rfl⟩))
  obtain ⟨oc, od, dV, kV, doc, pm, an, cdv, ct, osl, rfl, lk, hcd, hD, _⟩ := F.ex
  have hpar := hb.1.1.1.1
  simp only [paramsB, Bool.and_eq_true, decide_eq_true_eq, List.isEmpty_iff, Option.isNone_iff_eq_none] at hpar
  have hdV : dV = .none := by
    rcases hD with ⟨_, z⟩ | ⟨z, _⟩
    · exact z
    · exact absurd rfl z
  subst hdV
  refine ⟨He.fAd K x.at_, _, _, _, _, _, .none, kV, doc, pm, cdv, ct, oc, an, od, osl, x.N, psOf p x, ?_, F.kp, lk, hcd, scopeB_ok hb.1.1.1.2, .all fun us hl => ?_, hb.1.1.2, hb.1.2, hb.2, rfl⟩
  · show faOf M.ds K f = _
    unfold faOf
    rw [e1]
    rfl
  · exact bind_all hpar.1.1.1.1 hpar.1.1.1.2 hpar.1.1.2 hpar.1.2 hpar.2 hl
/-- what the row's top leaves -/
def isDictO : Option Obj → Bool
  | some ⟨_, _, .dict _ _, _⟩ => true
  | _ => false
theorem isDictO_ok {h : PySem.Heap} (e : isDictO (h.get? sysModules) = true) : SM h := by
  unfold isDictO at e
  split at e
  · rename_i c d es n sl q
    exact ⟨_, es, n, q, rfl⟩
  · cases e
/-- the part of the heap that is looked at -/
abbrev kOf (n : Nat) (g : Addr → Option Obj) : PySem.W.Frag := He.frT g (cStatics :: He.asD g n)
abbrev hookL (n : Nat) (M : Mo) (p : Program) : PySem.W.Hook where
  α := (He.AlT × Bool) × Bool
  obs := fun s => ((He.obsT (facts M) (fnsOf M p) (tabsOf M.cs) (kOf n s.heap.get?), moB M (kOf n s.heap.get?)), isDictO (s.heap.get? sysModules))
  val := fun w => ((He.valT (fnsOf M p) (tabsOf M.cs) w, true), true)
  says := fun w h => (∃ K : PySem.W.Frag, K.In h ∧ He.SaysT (facts M) (fnsOf M p) (tabsOf M.cs) w K ∧ moB M K = true) ∧ SM h
  of := fun w s e => ⟨⟨_, He.frT_in, congrArg (fun z : (He.AlT × Bool) × Bool => z.1.1) e, congrArg (fun z : (He.AlT × Bool) × Bool => z.1.2) e⟩, isDictO_ok (congrArg Prod.snd e)⟩
  keeps := fun _ _ _ ⟨⟨K, hK, c⟩, o, es, n, e1, e2⟩ k => ⟨⟨K, PySem.W.Frag.In.keeps hK k, c⟩, o, es, n, k _ _ e1, e2⟩
/-- what is looked at -/
def obL (n : Nat) (M : Mo) (p : Program) (g : Addr → Option Obj) : (He.AlT × Bool) × Bool := ((He.obsT (facts M) (fnsOf M p) (tabsOf M.cs) (kOf n g), moB M (kOf n g)), isDictO (g sysModules))
theorem obL_eq {n : Nat} {M : Mo} {p : Program} {g : Addr → Option Obj} {s : Shared} (h : ∀ a, g a = s.heap.get? a) : obL n M p g = (hookL n M p).obs s := by
  have e : g = s.heap.get? := funext h
  rw [e] <;> rfl
/-- the whole check of a row's defs -/
def rowB (p : Program) (M : Mo) : Bool := apartB M && (M.ds.all fun e => dfB p M e) && M.xs.all (xrB p)
/-- a law row, by the interpreter -/
theorem walk_lite {l : PySem.W.OpenLaw} {n k j : Nat} {q : Program} {loose : List Str} {XP : (Str → Option Value) → PySem.Heap → Prop} {d : DefRec} {x : Str} {f : String} {e : Df}
    (hn : l.most = some n) (hn2 : n ≤ sizeLine) (hdf : d.params.defaults = []) (hr : Room k callerA) (hrow : rowB l.prog M = true) (he : dfAt M.ds f = some e) (hx : e.x = d.name) (hem : e.m = none) (hps : psOf l.prog e = [x])
    (hpure : ∀ ns : List Int, ns.length ≤ n → (∀ z ∈ ns, Builtin.Int.intBits z ≤ 1048576) → ∃ h', call (progOf M) k f [.lst (ns.map T.int)] [] = .ok (.bl true) h') :
    PySem.W.WalkO q loose XP (hookL j M l.prog).says l.row.toRowW d [] (fun f vs => PySem.call f vs) := by
  refine Att.attach_callB hn hdf fun w s₀ s₁ mg mb fa o pm cd doc a vs ns G Y ho hd hcd hmg hobj hints hlen hbits hg => ?_
  obtain ⟨⟨K, KX, Zt, Zm⟩, hsm⟩ := Y
  simp only [rowB, Bool.and_eq_true] at hrow
  have D := fun (b : PySem.Heap) (X : K.In b) (N : b.Ns mainGlobals mg) => row_def (w := w) (mg := mg) (base := b) (He.SaysT.d Zt) hrow.1.2
  have hfn : (progOf M).fn f = some e.d := by
    show (dfAt M.ds f).map (·.d) = _
    rw [he]
    rfl
  have C : ∀ (b : PySem.Heap), SM b → K.In b → b.Ns mainGlobals mg → Calls (gdOf M l.prog w K mg b) k (call (progOf M) k) := fun b sm X N =>
    calls_all (row_ok hrow.1.1 X N Zt Zm sm) (row_known X N (He.SaysT.d Zt)) (row_xo hrow.1.1 hrow.2 X N (He.SaysT.d Zt) Zm) (D b X N) k
  have hfa : fa = He.ga K e.x := by
    obtain ⟨h1, h2⟩ := dfAt_some he
    have hg : mg e.x = some (.ref (He.ga K e.x)) := He.glo_ok KX G.T.g (He.SaysD.facts (He.SaysT.d Zt) (f := .glo e.x) (by
      simp only [facts, List.mem_append, List.mem_map]
      exact .inl ⟨e, List.mem_filter.mpr ⟨h1, by rw [hem]; rfl⟩, rfl⟩))
    rw [hx, hmg] at hg
    rw [hx]
    injection hg with z
    injection z
  obtain ⟨fd, F⟩ := He.SaysD.defs (He.SaysT.d Zt) (d := defD l.prog e) (List.mem_append_left _ (List.mem_map.mpr ⟨e, (dfAt_some he).1, rfl⟩))
  have hb := List.all_eq_true.mp hrow.1.2 e (dfAt_some he).1
  simp only [dfB, Bool.and_eq_true, decide_eq_true_eq] at hb
  have hpar := hb.1.1.1.1
  simp only [paramsB, Bool.and_eq_true, decide_eq_true_eq, List.isEmpty_iff, Option.isNone_iff_eq_none] at hpar
  have hfx := F
  obtain ⟨oc, od, dV, kV, doc', pm', an, cdv, ct, osl, efd, lk, _, hD, _⟩ := hfx.ex
  have hdV : dV = .none := by
    rcases hD with ⟨_, z⟩ | ⟨z, _⟩
    · exact z
    · exact absurd rfl z
  subst hdV
  have hpl := hps
  unfold psOf at hpl
  refine law_end (G := fun b => gdOf M l.prog w K mg b) (fd := fd) (x := x) (pl := progOf M) (f := f) (fun b => ⟨rfl, rfl, rfl, rfl, rfl⟩) hsm KX G.T.g G.T.b G.T.builtins G.T.nolimit hg hobj hints (Nat.le_trans hlen hn2) hr (fun b sm X N => ?_) (fun s u => ?_) (hpure ns hlen hbits)
  · obtain ⟨a', fd', ps', e2, e3, e4, FG, ⟨_, _, _, lk'⟩, eps⟩ := (C b sm X N).fn f e.d hfn
    have hat : He.fAd K e.at_ = He.ga K e.x := by unfold Df.at_; rw [hem]; rfl
    have ha' : a' = fa := by
      have : (dfAt M.ds f).map (fun e => He.fAd K e.at_) = some a' := e2
      rw [he] at this
      rw [hfa, ← hat]
      exact (Option.some.inj this).symm
    subst ha'
    have lk2 : K.lookup a' = some ⟨oc, od, .func fd, osl⟩ := by
      rw [hfa, ← hat]
      exact lk
    have lk3 : K.lookup a' = some ⟨_, _, .func fd', _⟩ := lk'
    rw [lk2] at lk3
    cases lk3
    have : ps' = [x] := by
      rw [eps, efd]
      exact hpl
    subst this
    exact FG
  · rw [efd]
    have z := bind_all (x := (defD l.prog e).name) (qual := (defD l.prog e).qual) (params := (defD l.prog e).params) (body := (defD l.prog e).body) (scope := (defD l.prog e).scope) (kV := kV) (doc := doc') (pm := pm') (cdv := cdv) (ct := ct) (an := an) (us := [u]) hpar.1.1.1.1 hpar.1.1.1.2 hpar.1.1.2 hpar.1.2 hpar.2 (by show _ = ((recOf l.prog e).params.args.map (·.arg)).length; rw [hpl]; rfl)
    refine .of_eq (z.trans ?_)
    show pure (((recOf l.prog e).params.args.map (·.arg)).zip [u]) = _
    rw [hpl]
    rfl
end
end Lite

/-! LITE, 15b: the run's facts, looked for at named places of the heap alone. -/
namespace Lite
open PySem L2 PySem.Spec
open PyProof.Rows hiding St
abbrev hookA (as : List Addr) (M : Mo) (p : Program) : PySem.W.Hook where
  α := (He.AlT × Bool) × Bool
  obs := fun s => ((He.obsT (facts M) (fnsOf M p) (tabsOf M.cs) (He.frT s.heap.get? as), moB M (He.frT s.heap.get? as)), isDictO (s.heap.get? sysModules))
  val := fun w => ((He.valT (fnsOf M p) (tabsOf M.cs) w, true), true)
  says := fun w h => (∃ K : PySem.W.Frag, K.In h ∧ He.SaysT (facts M) (fnsOf M p) (tabsOf M.cs) w K ∧ moB M K = true) ∧ SM h
  of := fun w s e => ⟨⟨_, He.frT_in, congrArg (fun z : (He.AlT × Bool) × Bool => z.1.1) e, congrArg (fun z : (He.AlT × Bool) × Bool => z.1.2) e⟩, isDictO_ok (congrArg Prod.snd e)⟩
  keeps := fun _ _ _ ⟨⟨K, hK, c⟩, o, es, n, e1, e2⟩ k => ⟨⟨K, PySem.W.Frag.In.keeps hK k, c⟩, o, es, n, k _ _ e1, e2⟩
/-- what is looked at -/
def obA (as : List Addr) (M : Mo) (p : Program) (g : Addr → Option Obj) : (He.AlT × Bool) × Bool := ((He.obsT (facts M) (fnsOf M p) (tabsOf M.cs) (He.frT g as), moB M (He.frT g as)), isDictO (g sysModules))
theorem obA_eq {as : List Addr} {M : Mo} {p : Program} {g : Addr → Option Obj} {s : Shared} (h : ∀ a, g a = s.heap.get? a) : obA as M p g = (hookA as M p).obs s := by
  have e : g = s.heap.get? := funext h
  rw [e] <;> rfl
/-- what the run's end shows -/
def RunOb (r : PySem.W.OpenRow) {α : Type} (ob : PySem.W.SharedT → α) (M : Nat) (v : World → α) (w : World) : Prop :=
  ∀ os : OsState, (HandSHeadRun.endF (HandSHeadRun.stepQ (HandSHeadRun.denQ HandSHeadRun.tabQ) r.prog w) M r.prog w os).map ob = some (v w)
/-- the functions, the names -/
def ob1 (as : List Addr) (M : Mo) (p : Program) (s : PySem.W.SharedT) : He.AlT := He.obsT (facts M) (fnsOf M p) (tabsOf M.cs) (He.frT (HandSHeadRun.getT s) as)
/-- constants, classes -/
def ob2 (as : List Addr) (M : Mo) (s : PySem.W.SharedT) : Bool × Bool := (moB M (He.frT (HandSHeadRun.getT s) as), isDictO (HandSHeadRun.getT s sysModules))
theorem run_of {r : PySem.W.OpenRow} {q : Program} {as : List Addr} {mo : Mo} {p : Program} {M : Nat} {loose : List Str} {w : World} {ob : PySem.W.SharedT → (He.AlT × Bool) × Bool} (ho : ob = fun s => obA as mo p (HandSHeadRun.getT s))
    (h0 : HandSHeadRun.RunEq r q PySem.W.Hook.none (fun _ => ()) M loose w) (h1 : RunOb r (ob1 as mo p) M (He.valT (fnsOf mo p) (tabsOf mo.cs)) w) (h2 : RunOb r (ob2 as mo) M (fun _ => (true, true)) w) :
    HandSHeadRun.RunEq r q (hookA as mo p) ob M loose w := by
  subst ho
  intro os
  have a0 := h0 os
  have a1 := h1 os
  have a2 := h2 os
  revert a0 a1 a2
  generalize HandSHeadRun.endF (HandSHeadRun.stepQ (HandSHeadRun.denQ HandSHeadRun.tabQ) r.prog w) M r.prog w os = z
  intro a0 a1 a2
  cases z with
  | none => cases a0
  | some s =>
    have b0 := Option.some.inj a0
    have b1 : ob1 as mo p s = _ := Option.some.inj a1
    have b2 : ob2 as mo s = (true, true) := Option.some.inj a2
    obtain ⟨c1, c2⟩ := Prod.mk.inj b0
    obtain ⟨c2, _⟩ := Prod.mk.inj c2
    obtain ⟨d1, d2⟩ := Prod.mk.inj b2
    refine congrArg some (Prod.ext c1 (Prod.ext c2 ?_))
    exact Prod.ext (Prod.ext b1 d1) d2
end Lite

namespace Lite
def d_law__law_stream : Fn := ⟨2, 5, [
    .set 2 (.bin .add (.int 11) (.var 1)),
    .for (.v 3) "" [(.var 0)] [.set 2 (.bin .add (.bin .mod (.bin .pow (.bin .add (.bin .mul (.var 2) (.int 40127)) (.var 3)) (.int 3)) (.int 2147483629)) (.int 1))],
    .set 4 (.int 0),
    .iff (.and [(.cmp .lt (.var 1) (.bi "len" [(.var 0)])), (.cmp .ge (.idx (.var 0) (.var 1)) (.bin .pow (.int 10) (.int 18)))]) [.set 4 (.bin .sub (.idx (.var 0) (.var 1)) (.bin .pow (.int 10) (.int 18)))] [],
    .ret (.lst true [(.var 4), (.var 2)])], 0⟩
def d_law__law_draw : Fn := ⟨2, 3, [
    .iff (.cmp .ge (.idx (.var 0) (.int 0)) (.var 1)) [.set 2 (.bin .mod (.idx (.var 0) (.int 0)) (.var 1)), .sidx (.var 0) (.int 0) (.bin .fdiv (.idx (.var 0) (.int 0)) (.var 1)), .ret (.var 2)] [],
    .sidx (.var 0) (.int 1) (.bin .mod (.bin .add (.bin .mul (.idx (.var 0) (.int 1)) (.int 48271)) (.int 12345)) (.int 2147483647)),
    .ret (.bin .mod (.bin .fdiv (.bin .mod (.bin .pow (.bin .mod (.bin .pow (.idx (.var 0) (.int 1)) (.int 3)) (.int 2147483629)) (.int 5)) (.int 1000000007)) (.int 7)) (.var 1))], 0⟩
def d_law__law_choose : Fn := ⟨2, 2, [
    .ret (.idx (.var 1) (.call "law._law_draw" [(.var 0), (.bi "len" [(.var 1)])]))], 0⟩
end Lite

/-! LITE, 16a: running, step by step. -/
namespace Lite
section
variable {K : Cn} {ρ : Rho} {h h1 h2 h3 : Heap} {a b c i : LE} {x y z : T}
theorem ev_int {j : Int} : evE K (.int j) ρ h = .ok (.int j) h := by unfold evE; rfl
theorem ev_str {s : List Nat} : evE K (.str s) ρ h = .ok (.str s) h := by unfold evE; rfl
theorem ev_bl {s : Bool} : evE K (.bl s) ρ h = .ok (.bl s) h := by unfold evE; rfl
theorem ev_non : evE K .non ρ h = .ok .non h := by unfold evE; rfl
theorem ev_var {j : Nat} (e : ρ[j]? = some (some x)) : evE K (.var j) ρ h = .ok x h := by unfold evE; rw [e]
theorem ev_glob {g : String} (e : K.P.con g = some x) : evE K (.glob g) ρ h = .ok x h := by unfold evE; rw [e]; rfl
theorem ev_bin {o : BOp} (ha : evE K a ρ h = .ok x h1) (hb : evE K b ρ h1 = .ok y h2) (hz : binop o h2 x y = some z) : evE K (.bin o a b) ρ h = .ok z h2 := by unfold evE; rw [ha, Rs.bind_ok, hb, Rs.bind_ok, hz]; rfl
theorem ev_idx (ha : evE K a ρ h = .ok x h1) (hb : evE K b ρ h1 = .ok y h2) (hz : index h2 x y = some z) : evE K (.idx a b) ρ h = .ok z h2 := by unfold evE; rw [ha, Rs.bind_ok, hb, Rs.bind_ok, hz]; rfl
theorem ev_cmp {o : COp} {r : Bool} (ha : evE K a ρ h = .ok x h1) (hb : evE K b ρ h1 = .ok y h2) (hz : cmpop o h2 x y = some r) : evE K (.cmp o a b) ρ h = .ok (.bl r) h2 := by unfold evE; rw [ha, Rs.bind_ok, hb, Rs.bind_ok, hz]; rfl
theorem ev_not {r : Bool} (ha : evE K a ρ h = .ok x h1) (ht : truth h1 x = some r) : evE K (.not a) ρ h = .ok (.bl (!r)) h1 := by unfold evE; rw [ha, Rs.bind_ok, ht]; rfl
theorem ev_neg {j : Int} (ha : evE K a ρ h = .ok (.int j) h1) : evE K (.neg a) ρ h = .ok (.int (-j)) h1 := by unfold evE; rw [ha, Rs.bind_ok]
theorem ev_ife {r : Bool} {w : Rs T} (hc : evE K c ρ h = .ok x h1) (ht : truth h1 x = some r) (hw : (if r = true then evE K a ρ h1 else evE K b ρ h1) = w) : evE K (.ife c a b) ρ h = w := by
  unfold evE; rw [hc, Rs.bind_ok, ht]
  cases r <;> simpa using hw
theorem es_nil : evEs K [] ρ h = .ok [] h := by unfold evEs; rfl
theorem es_cons {e : LE} {es : List LE} {xs : List T} (ha : evE K e ρ h = .ok x h1) (hb : evEs K es ρ h1 = .ok xs h2) : evEs K (e :: es) ρ h = .ok (x :: xs) h2 := by unfold evEs; rw [ha, Rs.bind_ok, hb, Rs.bind_ok]
theorem es_one {e : LE} (ha : evE K e ρ h = .ok x h1) : evEs K [e] ρ h = .ok [x] h1 := es_cons ha es_nil
theorem es_two {e e' : LE} (ha : evE K e ρ h = .ok x h1) (hb : evE K e' ρ h1 = .ok y h2) : evEs K [e, e'] ρ h = .ok [x, y] h2 := es_cons ha (es_one hb)
theorem ev_call {f : String} {es : List LE} {xs : List T} {w : Rs T} (ha : evEs K es ρ h = .ok xs h1) (hc : K.call f xs h1 = w) : evE K (.call f es) ρ h = w := by unfold evE; rw [ha, Rs.bind_ok, hc]
theorem ev_bi {f : String} {es : List LE} {xs : List T} (ha : evEs K es ρ h = .ok xs h1) (hc : bfun f h1 xs = some z) : evE K (.bi f es) ρ h = .ok z h1 := by unfold evE; rw [ha, Rs.bind_ok, hc]; rfl
theorem ev_tup {es : List LE} {xs : List T} (ha : evEs K es ρ h = .ok xs h1) : evE K (.tup es) ρ h = .ok (.tup xs) h1 := by unfold evE; rw [ha, Rs.bind_ok]
theorem ev_lst {es : List LE} {xs : List T} (ha : evEs K es ρ h = .ok xs h1) : evE K (.lst false es) ρ h = .ok (.lst xs) h1 := by unfold evE; rw [ha, Rs.bind_ok]; rfl
theorem ev_lstM {es : List LE} {xs : List T} (ha : evEs K es ρ h = .ok xs h1) : evE K (.lst true es) ρ h = .ok (.loc h1.length) (h1 ++ [.lst xs]) := by unfold evE; rw [ha, Rs.bind_ok]; rfl
theorem ev_isi {t : String} {r : Bool} (ha : evE K a ρ h = .ok x h1) (ht : isTy h1 K.P x t = some r) : evE K (.isi a [t]) ρ h = .ok (.bl r) h1 := by
  unfold evE; rw [ha, Rs.bind_ok]
  simp [ht, Rs.of]
theorem ev_and {es : List LE} : evE K (.and es) ρ h = evAnd K es ρ h := by unfold evE; rfl
theorem ev_or {es : List LE} : evE K (.or es) ρ h = evOr K es ρ h := by unfold evE; rfl
theorem and_one : evAnd K [a] ρ h = evE K a ρ h := by unfold evAnd; rfl
theorem or_one : evOr K [a] ρ h = evE K a ρ h := by unfold evOr; rfl
theorem and_cons {es : List LE} {r : Bool} (ha : evE K a ρ h = .ok x h1) (ht : truth h1 x = some r) : evAnd K (a :: b :: es) ρ h = if r = true then evAnd K (b :: es) ρ h1 else .ok x h1 := by
  rw [evAnd, ha, Rs.bind_ok, ht]; cases r <;> rfl
theorem or_cons {es : List LE} {r : Bool} (ha : evE K a ρ h = .ok x h1) (ht : truth h1 x = some r) : evOr K (a :: b :: es) ρ h = if r = true then .ok x h1 else evOr K (b :: es) ρ h1 := by
  rw [evOr, ha, Rs.bind_ok, ht]; cases r <;> rfl
theorem ev_chain {o p : COp} {r s : Bool} (ha : evE K a ρ h = .ok x h1) (hb : evE K b ρ h1 = .ok y h2) (h12 : cmpop o h2 x y = some r) (hc : r = true → evE K c ρ h2 = .ok z h3 ∧ cmpop p h3 y z = some s) (hh : r = false → h3 = h2 ∧ s = false) : evE K (.chain o p a b c) ρ h = .ok (.bl s) h3 := by
  unfold evE; rw [ha, Rs.bind_ok, hb, Rs.bind_ok, h12]
  cases r with
  | true =>
    obtain ⟨h4, h5⟩ := hc rfl
    show ((evE K c ρ h2).bind _) = _
    rw [h4, Rs.bind_ok, h5]; rfl
  | false =>
    obtain ⟨rfl, rfl⟩ := hh rfl
    rfl
/-! statements -/
variable {fl : Fl} {w : Rs Fl} {ss ts : List LS}
theorem ss_nil' : exSs K [] ρ h = .ok (.nx ρ) h := by unfold exSs; rfl
theorem ss_step {s : LS} {ρ' : Rho} (hs : exS K s ρ h = .ok (.nx ρ') h1) (hr : exSs K ss ρ' h1 = w) : exSs K (s :: ss) ρ h = w := by rw [exSs, hs, Rs.bind_ok]; exact hr
theorem ss_stop {s : LS} (hs : exS K s ρ h = .ok fl h1) (hf : ∀ ρ', fl ≠ .nx ρ') : exSs K (s :: ss) ρ h = .ok fl h1 := by
  rw [exSs, hs, Rs.bind_ok]
  cases fl with
  | nx ρ' => exact absurd rfl (hf ρ')
  | _ => rfl
theorem ss_ret {s : LS} {v : T} (hs : exS K s ρ h = .ok (.ret v) h1) : exSs K (s :: ss) ρ h = .ok (.ret v) h1 := ss_stop hs fun _ e => by cases e
theorem xs_set {j : Nat} (ha : evE K a ρ h = .ok x h1) : exS K (.set j a) ρ h = .ok (.nx (ρ.set j (some x))) h1 := by unfold exS; rw [ha, Rs.bind_ok]
theorem xs_expr (ha : evE K a ρ h = .ok x h1) : exS K (.expr a) ρ h = .ok (.nx ρ) h1 := by unfold exS; rw [ha, Rs.bind_ok]
theorem xs_ret (ha : evE K a ρ h = .ok x h1) : exS K (.ret a) ρ h = .ok (.ret x) h1 := by unfold exS; rw [ha, Rs.bind_ok]
theorem xs_iff {r : Bool} (ha : evE K a ρ h = .ok x h1) (ht : truth h1 x = some r) (hw : (if r = true then exSs K ss ρ h1 else exSs K ts ρ h1) = w) : exS K (.iff a ss ts) ρ h = w := by
  unfold exS; rw [ha, Rs.bind_ok, ht]
  cases r <;> simpa using hw
theorem xs_sidx {n : Nat} {k : Int} {xs : List T} {j : Nat} (he : evE K c ρ h = .ok z h1) (ho : evE K a ρ h1 = .ok (.loc n) h2) (hi : evE K b ρ h2 = .ok (.int k) h3) (hn : h3[n]? = some (.lst xs)) (hp : place xs.length k = some j) : exS K (.sidx a b c) ρ h = .ok (.nx ρ) (h3.set n (.lst (xs.set j z))) := by
  unfold exS; rw [he, Rs.bind_ok, ho, Rs.bind_ok, hi, Rs.bind_ok]
  simp [hn, hp]
theorem xs_unp {g : Tg} {ρ' : Rho} (ha : evE K a ρ h = .ok x h1) (hb : bindTg g x h1 ρ = some ρ') : exS K (.unp g a) ρ h = .ok (.nx ρ') h1 := by unfold exS; rw [ha, Rs.bind_ok, hb]; rfl
theorem xs_par {is : List Nat} {es : List LE} {xs : List T} (ha : evEs K es ρ h = .ok xs h1) (hl : xs.length = is.length) : exS K (.par is es) ρ h = .ok (.nx ((is.zip xs).foldl (fun r p => r.set p.1 (some p.2)) ρ)) h1 := by unfold exS; rw [ha, Rs.bind_ok, if_pos hl]
theorem xs_for {g : Tg} {k : String} {es : List LE} {xs ys : List T} {gs : List (T × T)} (ha : evEs K es ρ h = .ok xs h1) (hw : walked k h1 xs = some (ys, gs)) : exS K (.for g k es ss) ρ h = loop (still gs) (fun x ρ h => withB (bindTg g x h ρ) fun ρ => exSs K ss ρ h) ys ρ h1 := by unfold exS; rw [ha, Rs.bind_ok, hw]
theorem ev_comp {m : Bool} {own : List Nat} {tg : Tg} {k : String} {es ifs : List LE} {xs ys rs : List T} {gs : List (T × T)} (ha : evEs K es ρ h = .ok xs h1) (hw : walked k h1 xs = some (ys, gs))
    (ht : turns (still gs) (fun x h => withB (bindTg tg x h (wipe ρ own)) fun ρ => ((evIfs K ifs ρ h).bind fun b h => if b then (evE K a ρ h).bind fun y h => .ok (some y) h else .ok none h).calm) ys [] h1 = .ok rs h2) (hl : rs.length ≤ top) :
    evE K (.comp m own a tg k es ifs) ρ h = if m then newO h2 (.lst rs) else .ok (.lst rs) h2 := by unfold evE; rw [ha, Rs.bind_ok, hw]; simp only; rw [ht, Rs.bind_ok, if_pos hl]
theorem ifs_nil' : evIfs K [] ρ h = .ok true h := by unfold evIfs; rfl
theorem ifs_one' {r : Bool} (ha : evE K a ρ h = .ok x h1) (ht : truth h1 x = some r) : evIfs K [a] ρ h = .ok r h1 := by
  unfold evIfs; rw [ha, Rs.bind_ok, ht]
  cases r
  · rfl
  · exact ifs_nil'
theorem run_ret {d : Fn} {xs : List T} {v : T} (hl : xs.length = d.np) (hb : exSs K d.body (xs.map some ++ List.replicate (d.ns - d.np) none) h = .ok (.ret v) h1) (hm : d.mode = 0) : runFn K d xs h = .ok v h1 := by
  rw [runFn, if_pos hl, hb, Rs.bind_ok]
  simp [leave, hm]
end
/-! operations -/
section
variable {h : Heap} {i j : Int} {x y : T}
theorem b_add : binop .add h (.int i) (.int j) = some (.int (i + j)) := rfl
theorem b_sub : binop .sub h (.int i) (.int j) = some (.int (i - j)) := rfl
theorem b_mul (hs : (small64 i || small64 j) = true) : binop .mul h (.int i) (.int j) = some (.int (i * j)) := by
  show (if (small64 i || small64 j) = true then _ else _) = _; rw [if_pos hs]
theorem b_mod (hj : j ≠ 0) : binop .mod h (.int i) (.int j) = some (.int (i.fmod j)) := by show (if j ≠ 0 then _ else _) = _; rw [if_pos hj]
theorem b_fdiv (hj : j ≠ 0) (hl : j.natAbs.log2 < 9000) : binop .fdiv h (.int i) (.int j) = some (.int (i.fdiv j)) := by show (if j ≠ 0 ∧ j.natAbs.log2 < 9000 then _ else _) = _; rw [if_pos ⟨hj, hl⟩]
theorem b_pow {n : Nat} (hl : (i.natAbs.log2 + 1) * n ≤ 134217728) : binop .pow h (.int i) (.int (n : Int)) = some (.int (i ^ n)) := by
  show (if 0 ≤ (n : Int) ∧ ((i.natAbs.log2 + 1 : Nat) : Int) * (n : Int) ≤ 134217728 then some (T.int (i ^ ((n : Int)).toNat)) else none) = _
  rw [if_pos ⟨by omega, by rw [← Int.natCast_mul]; generalize (i.natAbs.log2 + 1) * n = m at hl ⊢; omega⟩, Int.toNat_natCast]
theorem c_lt : cmpop .lt h (.int i) (.int j) = some (decide (i < j)) := rfl
theorem c_le : cmpop .le h (.int i) (.int j) = some (decide (i ≤ j)) := rfl
theorem c_gt : cmpop .gt h (.int i) (.int j) = some (decide (j < i)) := rfl
theorem c_ge : cmpop .ge h (.int i) (.int j) = some (decide (j ≤ i)) := rfl
theorem t_bl {b : Bool} : truth h (.bl b) = some b := rfl
theorem c_isN : cmpop .is h x .non = some (decide (x = T.non)) := by cases x <;> rfl
theorem c_nN : cmpop .isn h x .non = some (!decide (x = T.non)) := by cases x <;> rfl
theorem log2_lt {b : Nat} (h : i.natAbs < 2 ^ b) (hb : 0 < b) : i.natAbs.log2 < b := by
  by_cases h0 : i.natAbs = 0
  · rw [h0, Nat.log2_zero]; exact hb
  · exact (Nat.log2_lt h0).mpr h
end
end Lite

/-! LITE, 16: running: loops, the stream of numbers. -/
namespace Lite

/-- a call of a def -/
theorem call_run {P : Prog} {f : String} {d : Fn} (e : P.fn f = some d) (n : Nat) (xs : List T) (h : Heap) : call P (n + 1) f xs h = runFn (cnOf P n) d xs h := call_up e n xs h
theorem cn_P (P : Prog) (n : Nat) : (cnOf P n).P = P := rfl
theorem cn_call (P : Prog) (n : Nat) : (cnOf P n).call = call P n := rfl

/-- a loop by an invariant -/
theorem loop_inv {ok : Heap → Bool} {f : T → Rho → Heap → Rs Fl} (I : List T → Rho → Heap → Prop)
    (step : ∀ x xs ρ h, I (x :: xs) ρ h → ok h = true ∧ ∃ ρ' h', (f x ρ h = .ok (.nx ρ') h' ∨ f x ρ h = .ok (.cnt ρ') h') ∧ I xs ρ' h') (last : ∀ ρ h, I [] ρ h → ok h = true) :
    ∀ xs ρ h, I xs ρ h → ∃ ρ' h', loop ok f xs ρ h = .ok (.nx ρ') h' ∧ I [] ρ' h'
  | [], ρ, h, i => ⟨ρ, h, by simp [loop, last ρ h i], i⟩
  | x :: xs, ρ, h, i => by
    obtain ⟨o, ρ', h', e, i'⟩ := step x xs ρ h i
    obtain ⟨ρ2, h2, e2, i2⟩ := loop_inv I step last xs ρ' h' i'
    refine ⟨ρ2, h2, ?_, i2⟩
    rcases e with e | e <;> simp [loop, o, e, Rs.bind, e2]
/-- .. that may return -/
theorem loop_ret {ok : Heap → Bool} {f : T → Rho → Heap → Rs Fl} (I : List T → Rho → Heap → Prop) (E : T → Heap → Prop)
    (step : ∀ x xs ρ h, I (x :: xs) ρ h → ok h = true ∧ ∃ fl h', f x ρ h = .ok fl h' ∧ match fl with
      | .nx ρ' => I xs ρ' h'
      | .cnt ρ' => I xs ρ' h'
      | .brk ρ' => I [] ρ' h'
      | .ret v => E v h') (last : ∀ ρ h, I [] ρ h → ok h = true) :
    ∀ xs ρ h, I xs ρ h → (∃ ρ' h', loop ok f xs ρ h = .ok (.nx ρ') h' ∧ I [] ρ' h') ∨ ∃ v h', loop ok f xs ρ h = .ok (.ret v) h' ∧ E v h'
  | [], ρ, h, i => .inl ⟨ρ, h, by simp [loop, last ρ h i], i⟩
  | x :: xs, ρ, h, i => by
    obtain ⟨o, fl, h', e, i'⟩ := step x xs ρ h i
    cases fl with
    | nx ρ' =>
      rcases loop_ret I E step last xs ρ' h' i' with ⟨ρ2, h2, e2, i2⟩ | ⟨v, h2, e2, i2⟩
      · exact .inl ⟨ρ2, h2, by simp [loop, o, e, Rs.bind, e2], i2⟩
      · exact .inr ⟨v, h2, by simp [loop, o, e, Rs.bind, e2], i2⟩
    | cnt ρ' =>
      rcases loop_ret I E step last xs ρ' h' i' with ⟨ρ2, h2, e2, i2⟩ | ⟨v, h2, e2, i2⟩
      · exact .inl ⟨ρ2, h2, by simp [loop, o, e, Rs.bind, e2], i2⟩
      · exact .inr ⟨v, h2, by simp [loop, o, e, Rs.bind, e2], i2⟩
    | brk ρ' => exact .inl ⟨ρ', h', by simp [loop, o, e, Rs.bind], i'⟩
    | ret v => exact .inr ⟨v, h', by simp [loop, o, e, Rs.bind], i'⟩
/-- turns of a pure test and item -/
theorem turns_pure {α : Type} {ok : Heap → Bool} {f : T → Heap → Rs (Option α)} {h : Heap} (g : T → Option α) (hok : ok h = true) : ∀ (xs : List T) (acc : List α), (∀ x ∈ xs, f x h = .ok (g x) h) → turns ok f xs acc h = .ok (acc ++ xs.filterMap g) h
  | [], acc, _ => by simp [turns, hok]
  | x :: xs, acc, e => by
    have e1 := e x (by simp)
    have ih := fun acc => turns_pure (f := f) g hok xs acc fun y hy => e y (by simp [hy])
    cases eg : g x with
    | none => simp [turns, hok, e1, eg, Rs.bind, addO, ih acc]
    | some a => simp [turns, hok, e1, eg, Rs.bind, addO, ih (acc ++ [a])]
/-- turns by an invariant -/
theorem turns_inv {α : Type} {ok : Heap → Bool} {f : T → Heap → Rs (Option α)} (I : List T → List α → Heap → Prop) (step : ∀ x xs acc h, I (x :: xs) acc h → ok h = true ∧ ∃ o h', f x h = .ok o h' ∧ I xs (addO acc o) h') (last : ∀ acc h, I [] acc h → ok h = true) :
    ∀ xs acc h, I xs acc h → ∃ r h', turns ok f xs acc h = .ok r h' ∧ I [] r h'
  | [], acc, h, i => ⟨acc, h, by simp [turns, last acc h i], i⟩
  | x :: xs, acc, h, i => by
    obtain ⟨o, w, h', e, i'⟩ := step x xs acc h i
    obtain ⟨r, h2, e2, i2⟩ := turns_inv I step last xs _ h' i'
    exact ⟨r, h2, by simp only [turns, o, if_true, e, Rs.bind]; exact e2, i2⟩

/-! ### the stream -/
/-- a stream stands at n -/
def StreamAt (h : Heap) (n : Nat) : Prop := ∃ a b : Int, 0 ≤ a ∧ h[n]? = some (.lst [.int a, .int b])
theorem stream_ix {h : Heap} {n : Nat} {a b : Int} (hs : h[n]? = some (.lst [.int a, .int b])) : index h (.loc n) (.int 0) = some (.int a) ∧ index h (.loc n) (.int 1) = some (.int b) := by
  constructor <;> simp [index, view, hs, nth, place]
theorem draw_ok {P : Prog} (hd : P.fn "law._law_draw" = some d_law__law_draw) {h : Heap} {n : Nat} {a b size : Int} (ha : 0 ≤ a) (hs : h[n]? = some (.lst [.int a, .int b])) (h1 : 1 ≤ size) (h2 : size.natAbs.log2 < 9000) (k : Nat) :
    ∃ r a' b' : Int, 0 ≤ r ∧ r < size ∧ 0 ≤ a' ∧ call P (k + 1) "law._law_draw" [.loc n, .int size] h = .ok (.int r) (h.set n (.lst [.int a', .int b'])) := by
  rw [call_run hd]
  have hn : n < h.length := (List.getElem?_eq_some_iff.mp hs).1
  have hz : size ≠ 0 := by omega
  obtain ⟨ρ, eρ⟩ : ∃ ρ : Rho, ρ = [some (T.loc n), some (.int size), none] := ⟨_, rfl⟩
  have v0 : ∀ h K, evE K (.var 0) ρ h = .ok (.loc n) h := fun h K => ev_var (by rw [eρ]; rfl)
  have v1 : ∀ h K, evE K (.var 1) ρ h = .ok (.int size) h := fun h K => ev_var (by rw [eρ]; rfl)
  obtain ⟨i0, i1⟩ := stream_ix hs
  have q0 : ∀ K, evE K (.idx (.var 0) (.int 0)) ρ h = .ok (.int a) h := fun K => ev_idx (v0 h K) ev_int i0
  have q1 : ∀ K, evE K (.idx (.var 0) (.int 1)) ρ h = .ok (.int b) h := fun K => ev_idx (v0 h K) ev_int i1
  have start : [T.loc n, T.int size].map some ++ List.replicate (d_law__law_draw.ns - d_law__law_draw.np) none = ρ := by rw [eρ]; rfl
  by_cases c : size ≤ a
  · refine ⟨a.fmod size, a.fdiv size, b, Int.fmod_nonneg_of_pos _ (by omega), Int.fmod_lt_of_pos _ (by omega), Int.fdiv_nonneg ha (by omega), ?_⟩
    refine run_ret rfl ?_ rfl
    rw [start]
    refine ss_ret (xs_iff (ev_cmp (q0 _) (v1 _ _) c_ge) t_bl ?_)
    rw [if_pos (by simpa using c)]
    have v1' : ∀ h K, evE K (.var 1) (ρ.set 2 (some (.int (a.fmod size)))) h = .ok (.int size) h := fun h K => ev_var (by rw [eρ]; rfl)
    have v0' : ∀ h K, evE K (.var 0) (ρ.set 2 (some (.int (a.fmod size)))) h = .ok (.loc n) h := fun h K => ev_var (by rw [eρ]; rfl)
    refine ss_step (xs_set (ev_bin (q0 _) (v1 _ _) (b_mod hz))) (ss_step (xs_sidx (ev_bin (ev_idx (v0' _ _) ev_int i0) (v1' _ _) (b_fdiv hz h2)) (v0' _ _) ev_int hs (j := 0) rfl) (ss_ret (xs_ret (ev_var (by rw [eρ]; rfl)))))
  · obtain ⟨b1, e1⟩ : ∃ z, z = (b * 48271 + 12345).fmod 2147483647 := ⟨_, rfl⟩
    have l1 : 0 ≤ b1 := by rw [e1]; exact Int.fmod_nonneg_of_pos _ (by omega)
    have u1 : b1 < 2147483647 := by rw [e1]; exact Int.fmod_lt_of_pos _ (by omega)
    obtain ⟨b2, e2⟩ : ∃ z, z = (b1 ^ 3).fmod 2147483629 := ⟨_, rfl⟩
    have l2 : 0 ≤ b2 := by rw [e2]; exact Int.fmod_nonneg_of_pos _ (by omega)
    have u2 : b2 < 2147483629 := by rw [e2]; exact Int.fmod_lt_of_pos _ (by omega)
    have g1 : b1.natAbs.log2 < 31 := log2_lt (by omega) (by omega)
    have g2 : b2.natAbs.log2 < 31 := log2_lt (by omega) (by omega)
    have k7 : (7 : Int).natAbs.log2 < 9000 := by decide +kernel
    refine ⟨(((b2 ^ 5).fmod 1000000007).fdiv 7).fmod size, a, b1, Int.fmod_nonneg_of_pos _ (by omega), Int.fmod_lt_of_pos _ (by omega), ha, ?_⟩
    refine run_ret rfl ?_ rfl
    rw [start]
    refine ss_step (ρ' := ρ) (xs_iff (ev_cmp (q0 _) (v1 _ _) c_ge) t_bl (by rw [if_neg (by simpa using c)]; exact ss_nil')) ?_
    have m48 : (small64 b || small64 48271) = true := by
      have : small64 48271 = true := by decide +kernel
      rw [this, Bool.or_true]
    have s1 := xs_sidx (K := cnOf P k) (ev_bin (ev_bin (ev_bin (q1 _) (ev_int (j := 48271)) (b_mul m48)) (ev_int (j := 12345)) b_add) (ev_int (j := 2147483647)) (b_mod (by omega))) (v0 h (cnOf P k)) (ev_int (j := 1)) hs (j := 1) rfl
    rw [← e1] at s1
    refine ss_step s1 ?_
    have hs2 : (h.set n (O.lst ([T.int a, T.int b].set 1 (.int b1))))[n]? = some (.lst [.int a, .int b1]) := by rw [List.getElem?_set_self hn]; rfl
    obtain ⟨_, i3⟩ := stream_ix hs2
    have p1 := ev_bin (ev_bin (K := cnOf P k) (ev_idx (v0 _ _) ev_int i3) (ev_int (j := 3)) (b_pow (n := 3) (by omega))) (ev_int (j := 2147483629)) (b_mod (by omega))
    rw [← e2] at p1
    exact ss_ret (xs_ret (ev_bin (ev_bin (ev_bin (ev_bin p1 (ev_int (j := 5)) (b_pow (n := 5) (by omega))) ev_int (b_mod (by omega))) ev_int (b_fdiv (by omega) k7)) (v1 _ _) (b_mod hz)))
/-- what a draw leaves -/
structure Drawn (n : Nat) (h h' : Heap) : Prop where
  at_ : StreamAt h' n
  eq : ∃ o, h' = h.set n o
theorem draw_at {P : Prog} (hd : P.fn "law._law_draw" = some d_law__law_draw) {h : Heap} {n : Nat} {size : Int} (hs : StreamAt h n) (h1 : 1 ≤ size) (h2 : size.natAbs.log2 < 9000) (k : Nat) :
    ∃ r h', 0 ≤ r ∧ r < size ∧ Drawn n h h' ∧ call P (k + 1) "law._law_draw" [.loc n, .int size] h = .ok (.int r) h' := by
  obtain ⟨a, b, ha, hs⟩ := hs
  have hn : n < h.length := (List.getElem?_eq_some_iff.mp hs).1
  obtain ⟨r, a', b', r1, r2, a1, e⟩ := draw_ok hd ha hs h1 h2 k
  exact ⟨r, _, r1, r2, ⟨⟨a', b', a1, by simp [hn]⟩, _, rfl⟩, e⟩
theorem Drawn.refl {n : Nat} {h : Heap} (s : StreamAt h n) : Drawn n h h := ⟨s, by
  obtain ⟨a, b, _, e⟩ := s
  obtain ⟨p, q⟩ := List.getElem?_eq_some_iff.mp e
  exact ⟨h[n], by simp⟩⟩
theorem Drawn.trans {n : Nat} {h h1 h2 : Heap} (a : Drawn n h h1) (b : Drawn n h1 h2) : Drawn n h h2 := ⟨b.at_, by
  obtain ⟨o, rfl⟩ := a.eq
  obtain ⟨p, rfl⟩ := b.eq
  exact ⟨p, by simp⟩⟩
theorem Drawn.len {n : Nat} {h h1 : Heap} (a : Drawn n h h1) : h1.length = h.length := by
  obtain ⟨o, rfl⟩ := a.eq
  simp
theorem choose_at {P : Prog} (hd : P.fn "law._law_draw" = some d_law__law_draw) (hc : P.fn "law._law_choose" = some d_law__law_choose) {h : Heap} {n : Nat} {xs : List T} (hs : StreamAt h n) (h1 : xs ≠ []) (h2 : xs.length < 100000) (k : Nat) :
    ∃ x h', x ∈ xs ∧ Drawn n h h' ∧ call P (k + 2) "law._law_choose" [.loc n, .lst xs] h = .ok x h' := by
  have hl : 1 ≤ (xs.length : Int) := by
    have := List.length_pos_iff.mpr h1
    omega
  obtain ⟨r, h', r1, r2, dr, e⟩ := draw_at hd hs hl (Nat.lt_trans (log2_lt (b := 17) (by omega) (by omega)) (by omega)) k
  have hr : r.toNat < xs.length := by omega
  refine ⟨xs[r.toNat], h', by simp, dr, ?_⟩
  rw [call_run hc]
  have hp : place xs.length r = some r.toNat := by simp [place, r1, r2]
  simp [runFn, d_law__law_choose, exSs, exS, evE, evEs, Rs.bind, Rs.of, bfun, fLen, view, cn_call, e, index, nth, hp, hr, leave]
theorem log2_add {x y : Int} {B : Nat} (hx : x.natAbs < 2 ^ B) (hy : y.natAbs < 2 ^ B) : (x + y).natAbs.log2 < B + 1 := log2_lt (by rw [Nat.pow_succ]; omega) (by omega)
theorem still_lst {xs : List T} {h : Heap} : still [(.lst xs, .lst xs)] h = true := by simp [still, view]
theorem walk_lst {xs : List T} {h : Heap} : walked "" h [.lst xs] = some (xs, [(.lst xs, .lst xs)]) := by simp [walked, view]
theorem walk_tup {xs : List T} {h : Heap} : walked "" h [.tup xs] = some (xs, [(.tup xs, .tup xs)]) := by simp [walked, view]
theorem still_tup {xs : List T} {h : Heap} : still [(.tup xs, .tup xs)] h = true := by simp [still, view]
theorem still_nil {h : Heap} : still [] h = true := rfl
theorem bf_len {xs : List T} {h : Heap} : bfun "len" h [.lst xs] = some (.int xs.length) := by simp [bfun, fLen, view]
theorem ix_lst {xs : List T} {h : Heap} {i : Nat} {x : T} (e : xs[i]? = some x) : index h (.lst xs) (.int (i : Int)) = some x := by
  have hi := (List.getElem?_eq_some_iff.mp e).1
  have hp : place xs.length (i : Int) = some i := by
    unfold place
    rw [if_pos (by omega), if_pos (by omega), Int.toNat_natCast]
  show nth xs (i : Int) = _
  unfold nth
  rw [hp]
  exact e
/-- the stream of a script: at a new place -/
theorem stream_at {P : Prog} (hd : P.fn "law._law_stream" = some d_law__law_stream) {h : Heap} {ns : List Int} {start B : Nat} (hB : 64 ≤ B) (hB2 : B ≤ 2000000) (hb : ∀ z ∈ ns, z.natAbs < 2 ^ B) (h9 : start < 100000) (k : Nat) :
    ∃ o, StreamAt (h ++ [o]) h.length ∧ call P (k + 1) "law._law_stream" [.lst (ns.map T.int), .int (start : Int)] h = .ok (.loc h.length) (h ++ [o]) := by
  rw [call_run hd]
  obtain ⟨K, eK⟩ : ∃ K, K = cnOf P k := ⟨_, rfl⟩
  rw [← eK]
  have l1 : ∀ w : List Int, (∀ z ∈ w, z.natAbs < 2 ^ B) → ∀ (ρ : Rho), (∃ s x, ρ = [some (T.lst (ns.map T.int)), some (.int (start : Int)), some (.int s), x, none] ∧ 0 ≤ s ∧ s < 2147483648) →
      ∃ s x, 0 ≤ s ∧ s < 2147483648 ∧ loop (still [(.lst (ns.map T.int), .lst (ns.map T.int))]) (fun x ρ h => withB (bindTg (.v 3) x h ρ) fun ρ => exSs K [.set 2 (.bin .add (.bin .mod (.bin .pow (.bin .add (.bin .mul (.var 2) (.int 40127)) (.var 3)) (.int 3)) (.int 2147483629)) (.int 1))] ρ h) (w.map T.int) ρ h =
        .ok (.nx [some (T.lst (ns.map T.int)), some (.int (start : Int)), some (.int s), x, none]) h := by
    intro w
    induction w with
    | nil =>
      rintro _ ρ ⟨s, x, rfl, h1, h2⟩
      exact ⟨s, x, h1, h2, by simp [loop, still_lst]⟩
    | cons z w ih =>
      rintro hw ρ ⟨s, x, rfl, h1, h2⟩
      have hz := hw z (by simp)
      have p64 : 2 ^ 64 ≤ 2 ^ B := Nat.pow_le_pow_right (by omega) hB
      have hs : (s * 40127).natAbs < 2 ^ B := Nat.lt_of_lt_of_le (by omega) p64
      have hlog := log2_add hs hz
      have e : exSs K [.set 2 (.bin .add (.bin .mod (.bin .pow (.bin .add (.bin .mul (.var 2) (.int 40127)) (.var 3)) (.int 3)) (.int 2147483629)) (.int 1))] [some (T.lst (ns.map T.int)), some (.int (start : Int)), some (.int s), some (.int z), none] h =
          .ok (.nx [some (T.lst (ns.map T.int)), some (.int (start : Int)), some (.int (((s * 40127 + z) ^ 3).fmod 2147483629 + 1)), some (.int z), none]) h := by
        have m4 : (small64 s || small64 40127) = true := by
          have : small64 40127 = true := by decide +kernel
          rw [this, Bool.or_true]
        refine ss_step (xs_set (ev_bin (ev_bin (ev_bin (ev_bin (ev_bin (ev_var rfl) (ev_int (j := 40127)) (b_mul m4)) (ev_var rfl) b_add) (ev_int (j := 3)) (b_pow (n := 3) (by omega))) (ev_int (j := 2147483629)) (b_mod (by omega))) (ev_int (j := 1)) b_add)) ?_
        exact ss_nil'
      have q1 : 0 ≤ ((s * 40127 + z) ^ 3).fmod 2147483629 := Int.fmod_nonneg_of_pos _ (by omega)
      have q2 : ((s * 40127 + z) ^ 3).fmod 2147483629 < 2147483629 := Int.fmod_lt_of_pos _ (by omega)
      obtain ⟨s', x', r1, r2, r3⟩ := ih (fun y hy => hw y (by simp [hy])) [some (T.lst (ns.map T.int)), some (.int (start : Int)), some (.int (((s * 40127 + z) ^ 3).fmod 2147483629 + 1)), some (.int z), none] ⟨_, _, rfl, by omega, by omega⟩
      refine ⟨s', x', r1, r2, ?_⟩
      rw [List.map_cons, loop, if_pos still_lst]
      show ((exSs K _ [some (T.lst (ns.map T.int)), some (.int (start : Int)), some (.int s), some (.int z), none] h).bind _) = _
      rw [e, Rs.bind_ok]
      exact r3
  obtain ⟨s, x, s1, s2, e1⟩ := l1 ns hb [some (T.lst (ns.map T.int)), some (.int (start : Int)), some (.int (11 + (start : Int))), none, none] ⟨_, _, rfl, by omega, by omega⟩
  have fin : ∀ d : Int, 0 ≤ d → exSs K (d_law__law_stream.body.drop 3) [some (T.lst (ns.map T.int)), some (.int (start : Int)), some (.int s), x, some (.int 0)] h = .ok (.ret (.loc h.length)) (h ++ [.lst [.int d, .int s]]) →
      ∃ o, StreamAt (h ++ [o]) h.length ∧ runFn K d_law__law_stream [.lst (ns.map T.int), .int (start : Int)] h = .ok (.loc h.length) (h ++ [o]) := fun d hd e => by
    refine ⟨.lst [.int d, .int s], ⟨d, s, hd, by simp⟩, run_ret rfl ?_ rfl⟩
    refine ss_step (xs_set (ev_bin ev_int (ev_var rfl) b_add)) (ss_step (ρ' := [some (T.lst (ns.map T.int)), some (.int (start : Int)), some (.int s), x, none]) ((xs_for (es_one (ev_var rfl)) walk_lst).trans e1) (ss_step (xs_set ev_int) e))
  have p18 : ∀ ρ, evE K (.bin .pow (.int 10) (.int 18)) ρ h = .ok (.int (10 ^ 18)) h := fun ρ => ev_bin ev_int (ev_int (j := 18)) (b_pow (n := 18) (by decide +kernel))
  have rt : ∀ d : Int, exSs K [.ret (.lst true [(.var 4), (.var 2)])] [some (T.lst (ns.map T.int)), some (.int (start : Int)), some (.int s), x, some (.int d)] h = .ok (.ret (.loc h.length)) (h ++ [.lst [.int d, .int s]]) := fun d => ss_ret (xs_ret (ev_lstM (es_two (ev_var rfl) (ev_var rfl))))
  have c1 : evE K (.cmp .lt (.var 1) (.bi "len" [(.var 0)])) [some (T.lst (ns.map T.int)), some (.int (start : Int)), some (.int s), x, some (.int 0)] h = .ok (.bl (decide ((start : Int) < ((ns.map T.int).length : Int)))) h := ev_cmp (ev_var rfl) (ev_bi (es_one (ev_var rfl)) bf_len) c_lt
  by_cases hl : start < ns.length
  · have hx : (ns.map T.int)[start]? = some (.int ns[start]) := by simp [hl]
    have c2 : evE K (.cmp .ge (.idx (.var 0) (.var 1)) (.bin .pow (.int 10) (.int 18))) [some (T.lst (ns.map T.int)), some (.int (start : Int)), some (.int s), x, some (.int 0)] h = .ok (.bl (decide (10 ^ 18 ≤ ns[start]))) h := ev_cmp (ev_idx (ev_var rfl) (ev_var rfl) (ix_lst hx)) (p18 _) c_ge
    have t1 : decide ((start : Int) < ((ns.map T.int).length : Int)) = true := by simp; omega
    rw [t1] at c1
    have cc : evE K (.and [(.cmp .lt (.var 1) (.bi "len" [(.var 0)])), (.cmp .ge (.idx (.var 0) (.var 1)) (.bin .pow (.int 10) (.int 18)))]) [some (T.lst (ns.map T.int)), some (.int (start : Int)), some (.int s), x, some (.int 0)] h = .ok (.bl (decide (10 ^ 18 ≤ ns[start]))) h := by
      rw [ev_and, and_cons c1 t_bl, if_pos rfl, and_one, c2]
    by_cases hg : (10 : Int) ^ 18 ≤ ns[start]
    · refine fin (ns[start] - 10 ^ 18) (by omega) ?_
      refine ss_step (ρ' := [some (T.lst (ns.map T.int)), some (.int (start : Int)), some (.int s), x, some (.int (ns[start] - 10 ^ 18))]) (xs_iff cc t_bl ?_) (rt _)
      rw [if_pos (by simpa using hg)]
      refine ss_step (xs_set (ev_bin (ev_idx (ev_var rfl) (ev_var rfl) (ix_lst hx)) (p18 _) b_sub)) ss_nil'
    · refine fin 0 (by omega) ?_
      refine ss_step (ρ' := [some (T.lst (ns.map T.int)), some (.int (start : Int)), some (.int s), x, some (.int 0)]) (xs_iff cc t_bl ?_) (rt _)
      rw [if_neg (by simpa using hg)]
      exact ss_nil'
  · have t1 : decide ((start : Int) < ((ns.map T.int).length : Int)) = false := by simp; omega
    rw [t1] at c1
    refine fin 0 (by omega) ?_
    refine ss_step (ρ' := [some (T.lst (ns.map T.int)), some (.int (start : Int)), some (.int s), x, some (.int 0)]) (xs_iff (r := false) (x := .bl false) (h1 := h) ?_ t_bl ?_) (rt _)
    · rw [ev_and, and_cons c1 t_bl, if_neg Bool.false_ne_true]
    · rw [if_neg Bool.false_ne_true]
      exact ss_nil'
theorem place_nat {n i : Nat} (h : i < n) : place n (i : Int) = some i := by
  unfold place
  rw [if_pos (by omega), if_pos (by omega), Int.toNat_natCast]
end Lite

/-! LITE, 17: running, what many laws want. -/
namespace Lite
open PySem
theorem is_ii {h : Heap} {sub} {i : Int} : isTy h sub (.int i) "int" = some true := rfl
theorem is_ib {h : Heap} {sub} {i : Int} : isTy h sub (.int i) "bool" = some false := rfl
theorem is_is {h : Heap} {sub} {i : Int} : isTy h sub (.int i) "str" = some false := rfl
theorem is_ss {h : Heap} {sub} {s : List Nat} : isTy h sub (.str s) "str" = some true := rfl
theorem is_ns {h : Heap} {sub} : isTy h sub .non "str" = some false := rfl
theorem is_bb {h : Heap} {sub} {b : Bool} : isTy h sub (.bl b) "bool" = some true := rfl
theorem ints_map : ∀ ns : List Int, intsOf (ns.map T.int) = some ns
  | [] => rfl
  | n :: ns => by simp [intsOf, ints_map ns]
theorem if_skip {K : Cn} {ρ : Rho} {h h1 : Heap} {c : LE} {a ss : List LS} {x : T} {w : Rs Fl} (hc : evE K c ρ h = .ok x h1) (ht : truth h1 x = some false) (hr : exSs K ss ρ h1 = w) : exSs K (.iff c a [] :: ss) ρ h = w :=
  ss_step (ρ' := ρ) (xs_iff hc ht (by rw [if_neg Bool.false_ne_true]; exact ss_nil')) hr
theorem if_take {K : Cn} {ρ : Rho} {h h1 h2 : Heap} {c e : LE} {ss : List LS} {x v : T} (hc : evE K c ρ h = .ok x h1) (ht : truth h1 x = some true) (hr : evE K e ρ h1 = .ok v h2) : exSs K (.iff c [.ret e] [] :: ss) ρ h = .ok (.ret v) h2 :=
  ss_ret (xs_iff hc ht (by rw [if_pos rfl]; exact ss_ret (xs_ret hr)))
theorem eq_str {h : Heap} {a b : List Nat} : cmpop .eq h (.str a) (.str b) = some (a == b) := rfl
theorem ne_str {h : Heap} {a b : List Nat} : cmpop .ne h (.str a) (.str b) = some (!(a == b)) := rfl
theorem fit_int (i : Int) : (T.int i).fit = true := by simp [T.fit, T.flat, T.depth]
theorem fit_bl (b : Bool) : (T.bl b).fit = true := by simp [T.fit, T.flat, T.depth]
theorem eq_fit {h : Heap} {a b : T} (va : view h a = some a) (vb : view h b = some b) (fa : a.fit = true) (fb : b.fit = true) (hs : ∀ s, a ≠ .str s) : cmpop .eq h a b = some (T.eqv a b) := by
  unfold cmpop
  rw [va, vb]
  cases a <;> simp_all
theorem ne_fit {h : Heap} {a b : T} (va : view h a = some a) (vb : view h b = some b) (fa : a.fit = true) (fb : b.fit = true) (hs : ∀ s, a ≠ .str s) : cmpop .ne h a b = some (!T.eqv a b) := by
  unfold cmpop
  rw [va, vb]
  cases a <;> simp_all
theorem eq_int {h : Heap} {i j : Int} : cmpop .eq h (.int i) (.int j) = some (decide (i = j)) := by
  rw [eq_fit rfl rfl (fit_int i) (fit_int j) (fun s e => by cases e)]
  show some (i == j) = _
  rw [Bool.beq_eq_decide_eq]
theorem eq_bl {h : Heap} {i j : Bool} : cmpop .eq h (.bl i) (.bl j) = some (i == j) := by
  rw [eq_fit rfl rfl (fit_bl i) (fit_bl j) (fun s e => by cases e)]
  rfl
theorem ne_bl {h : Heap} {i j : Bool} : cmpop .ne h (.bl i) (.bl j) = some (!(i == j)) := by
  rw [ne_fit rfl rfl (fit_bl i) (fit_bl j) (fun s e => by cases e)]
  rfl
theorem range1 {h : Heap} {j : Int} (h1 : -(2 ^ 62) ≤ j) (h2 : j < 2 ^ 62) : walked "range" h [.int j] = some (rangeT 0 j, []) := by
  show (if big62 j = true then _ else _) = _
  rw [if_pos (by simp only [big62, decide_eq_true_eq]; exact ⟨h1, h2⟩)]
theorem range2 {h : Heap} {i j : Int} (h1 : -(2 ^ 62) ≤ i) (h2 : i < 2 ^ 62) (h3 : -(2 ^ 62) ≤ j) (h4 : j < 2 ^ 62) : walked "range" h [.int i, .int j] = some (rangeT i j, []) := by
  show (if (big62 i && big62 j) = true then _ else _) = _
  rw [if_pos (by simp only [big62, Bool.and_eq_true, decide_eq_true_eq]; exact ⟨⟨h1, h2⟩, h3, h4⟩)]
theorem in_range {j : Int} {x : T} (h : x ∈ rangeT 0 j) : ∃ m : Nat, x = .int (m : Int) ∧ (m : Int) < j := by
  simp only [rangeT, List.mem_map, List.mem_range] at h
  obtain ⟨m, hm, rfl⟩ := h
  exact ⟨m, by simp, by omega⟩
theorem len_range (j : Int) : (rangeT 0 j).length = j.toNat := by simp [rangeT]
theorem cat_lst {h : Heap} {xs ys : List T} (hl : xs.length + ys.length ≤ top) : binop .add h (.lst xs) (.lst ys) = some (.lst (xs ++ ys)) := by
  show (if xs.length + ys.length ≤ top then some (T.lst (xs ++ ys)) else none) = _
  rw [if_pos hl]
theorem cat_tup {h : Heap} {xs ys : List T} (hl : xs.length + ys.length ≤ top) : binop .add h (.tup xs) (.tup ys) = some (.tup (xs ++ ys)) := by
  show (if xs.length + ys.length ≤ top then some (T.tup (xs ++ ys)) else none) = _
  rw [if_pos hl]
theorem lt_bits {z : Int} {B : Nat} (h : Builtin.Int.intBits z ≤ B) : z.natAbs < 2 ^ B := by
  unfold Builtin.Int.intBits at h
  split at h
  · rename_i e
    have : z = 0 := by simpa using e
    subst this
    simp
    exact Nat.pow_pos (by omega)
  · rename_i e
    have h0 : z.natAbs ≠ 0 := by simp at e; omega
    exact (Nat.log2_lt h0).mp (by omega)
theorem pow109 {K : Cn} {ρ : Rho} {h : Heap} : evE K (.bin .pow (.int 10) (.int 9)) ρ h = .ok (.int 1000000000) h := ev_bin ev_int (ev_int (j := 9)) (b_pow (n := 9) (by decide +kernel))
theorem len_tup {xs : List T} {h : Heap} : bfun "len" h [.tup xs] = some (.int xs.length) := by simp [bfun, fLen, view]
theorem ix_tup {xs : List T} {h : Heap} {i : Nat} {x : T} (e : xs[i]? = some x) : index h (.tup xs) (.int (i : Int)) = some x := by
  have hi := (List.getElem?_eq_some_iff.mp e).1
  have hp : place xs.length (i : Int) = some i := by
    unfold place
    rw [if_pos (by omega), if_pos (by omega), Int.toNat_natCast]
  show nth xs (i : Int) = _
  unfold nth
  rw [hp]
  exact e
theorem withB_of {α : Type} {o : Option Rho} {ρ : Rho} {f : Rho → Rs α} {r : Rs α} (eo : o = some ρ) (e : f ρ = r) : withB o f = r := by subst eo; exact e
theorem loop_nx {ok : Heap → Bool} {f : T → Rho → Heap → Rs Fl} {x : T} {xs : List T} {ρ ρ2 : Rho} {h h2 : Heap} (ho : ok h = true) (e : f x ρ h = .ok (.nx ρ2) h2) : loop ok f (x :: xs) ρ h = loop ok f xs ρ2 h2 := by
  rw [loop, if_pos ho, e, Rs.bind_ok]
/-- a draw, by a level -/
theorem draw_lv {P : Prog} (hd : P.fn "law._law_draw" = some d_law__law_draw) {K : Cn} {k n : Nat} (hK : K.call = call P (k + 1)) {h : Heap} (s : Int) (hs : StreamAt h n) (h1 : 1 ≤ s) (h2 : s < 100000000000) :
    ∃ r h', 0 ≤ r ∧ r < s ∧ Drawn n h h' ∧ K.call "law._law_draw" [.loc n, .int s] h = .ok (.int r) h' := by
  rw [hK]
  exact draw_at hd hs h1 (Nat.lt_trans (log2_lt (b := 40) (by omega) (by omega)) (by omega)) k
theorem choose_lv {P : Prog} (hd : P.fn "law._law_draw" = some d_law__law_draw) (hc : P.fn "law._law_choose" = some d_law__law_choose) {K : Cn} {k n : Nat} (hK : K.call = call P (k + 2)) {h : Heap} {xs : List T} (hs : StreamAt h n) (h1 : xs ≠ []) (h2 : xs.length < 100000) :
    ∃ x h', x ∈ xs ∧ Drawn n h h' ∧ K.call "law._law_choose" [.loc n, .lst xs] h = .ok x h' := by
  rw [hK]
  exact choose_at hd hc hs h1 h2 k
end Lite

/-! LITE, 18: what holds after a run (r ends well with Q, or raises with E). -/
namespace Lite
/-- a truth value that nothing reduces -/
noncomputable def lockB : Bool := Classical.choice ⟨true⟩
def Lk (p : Prop) : Prop := match lockB with
  | true => p
  | false => p
theorem lk {p : Prop} (w : p) : Lk p := by unfold Lk; cases lockB <;> exact w
theorem Lk.un {p : Prop} (w : Lk p) : p := by unfold Lk at w; revert w; cases lockB <;> exact fun w => w
def WpU {α : Type} (r : Rs α) (E : T → Heap → Prop) (Q : α → Heap → Prop) : Prop := match r with
  | .ok a h => Q a h
  | .exc e h => E e h
  | .stuck => False
/-- r ends well with Q, or raises with E -/
def Wp {α : Type} (r : Rs α) (E : T → Heap → Prop) (Q : α → Heap → Prop) : Prop := Lk (WpU r E Q)
def ObU {α : Type} (o : Option α) (P : α → Prop) : Prop := match o with
  | some a => P a
  | none => False
/-- an answer, and what it is -/
def Ob {α : Type} (o : Option α) (P : α → Prop) : Prop := Lk (ObU o P)
def BrU (r : Bool) (A B : Prop) : Prop := match r with
  | true => A
  | false => B
/-- both ways -/
def Br (r : Bool) (A B : Prop) : Prop := Lk (BrU r A B)
abbrev NoX : T → Heap → Prop := fun _ _ => False
theorem Wp.un {α : Type} {r : Rs α} {E : T → Heap → Prop} {Q : α → Heap → Prop} (w : Wp r E Q) : WpU r E Q := Lk.un w
theorem Wp.mk {α : Type} {r : Rs α} {E : T → Heap → Prop} {Q : α → Heap → Prop} (w : WpU r E Q) : Wp r E Q := lk w
theorem Ob.un {α : Type} {o : Option α} {P : α → Prop} (w : Ob o P) : ObU o P := Lk.un w
theorem Ob.mk {α : Type} {o : Option α} {P : α → Prop} (w : ObU o P) : Ob o P := lk w
theorem Br.un {r : Bool} {A B : Prop} (w : Br r A B) : BrU r A B := Lk.un w
theorem Br.mk {r : Bool} {A B : Prop} (w : BrU r A B) : Br r A B := lk w
theorem Wp.ok_ {α : Type} {a : α} {h : Heap} {E : T → Heap → Prop} {Q : α → Heap → Prop} (w : Q a h) : Wp (.ok a h) E Q := Wp.mk w
theorem Wp.unok {α : Type} {a : α} {h : Heap} {E : T → Heap → Prop} {Q : α → Heap → Prop} (w : Wp (.ok a h) E Q) : Q a h := w.un
theorem Wp.unexc {α : Type} {a : T} {h : Heap} {E : T → Heap → Prop} {Q : α → Heap → Prop} (w : Wp (.exc a h) E Q) : E a h := w.un
theorem Wp.unstuck {α : Type} {E : T → Heap → Prop} {Q : α → Heap → Prop} (w : Wp .stuck E Q) : False := w.un
theorem Ob.unnone {α : Type} {P : α → Prop} (w : Ob none P) : False := w.un
theorem Ob.unsome {α : Type} {a : α} {P : α → Prop} (w : Ob (some a) P) : P a := w.un
theorem Wp.bind {α β : Type} {r : Rs α} {f : α → Heap → Rs β} {E : T → Heap → Prop} {Q : β → Heap → Prop} (w : Wp r E fun a h => Wp (f a h) E Q) : Wp (r.bind f) E Q := by
  cases r
  · exact w.unok
  · exact Wp.mk w.unexc
  · exact w.unstuck.elim
theorem Wp.mono {α : Type} {r : Rs α} {E F : T → Heap → Prop} {P Q : α → Heap → Prop} (w : Wp r E P) (hq : ∀ a h, P a h → Q a h) (hE : ∀ e h, E e h → F e h) : Wp r F Q := by
  cases r
  · exact Wp.mk (hq _ _ w.unok)
  · exact Wp.mk (hE _ _ w.unexc)
  · exact w.unstuck.elim
theorem Wp.then_ {α : Type} {r : Rs α} {E : T → Heap → Prop} {P Q : α → Heap → Prop} (w : Wp r NoX P) (hq : ∀ a h, P a h → Q a h) : Wp r E Q := w.mono hq fun _ _ f => False.elim f
theorem Wp.ok {α : Type} {r : Rs α} {a : α} {h : Heap} {E : T → Heap → Prop} {Q : α → Heap → Prop} (e : r = .ok a h) (w : Q a h) : Wp r E Q := by subst e; exact Wp.mk w
theorem Wp.exc {α : Type} {r : Rs α} {a : T} {h : Heap} {E : T → Heap → Prop} {Q : α → Heap → Prop} (e : r = .exc a h) (w : E a h) : Wp r E Q := by subst e; exact Wp.mk w
theorem Wp.bindok {α β : Type} {r : Rs α} {f : α → β} {E : T → Heap → Prop} {Q : β → Heap → Prop} (w : Wp r E fun a h => Q (f a) h) : Wp (r.bind fun a h => .ok (f a) h) E Q := Wp.bind (w.mono (fun _ _ q => Wp.ok_ q) fun _ _ e => e)
theorem Wp.get {α : Type} {r : Rs α} {Q : α → Heap → Prop} (w : Wp r NoX Q) : ∃ a h, r = .ok a h ∧ Q a h := by
  cases r
  · exact ⟨_, _, rfl, w.unok⟩
  · exact (False.elim w.unexc)
  · exact (False.elim w.unstuck)
theorem Ob.of {α : Type} {o : Option α} {P : α → Prop} {a : α} (e : o = some a) (w : P a) : Ob o P := by subst e; exact Ob.mk w
theorem Ob.sat {α : Type} {o : Option α} {h : Heap} {E : T → Heap → Prop} {Q : α → Heap → Prop} (w : Ob o fun a => Q a h) : Wp (Rs.of o h) E Q := by
  cases o
  · exact w.unnone.elim
  · exact Wp.mk w.unsome
theorem Ob.map {α β : Type} {o : Option α} {f : α → β} {P : β → Prop} (w : Ob o fun a => P (f a)) : Ob (o.map f) P := by
  cases o
  · exact w.unnone.elim
  · exact Ob.mk w.unsome
theorem Ob.mono {α : Type} {o : Option α} {P R : α → Prop} (w : Ob o P) (h : ∀ a, P a → R a) : Ob o R := by
  cases o
  · exact w.unnone.elim
  · exact Ob.mk (h _ w.unsome)
theorem br_t {A B : Prop} (w : A) : Br true A B := Br.mk w
theorem br_f {A B : Prop} (w : B) : Br false A B := Br.mk w
theorem br_dec {p : Prop} [Decidable p] {A B : Prop} (wt : p → A) (wf : ¬p → B) : Br (decide p) A B := by
  by_cases c : p
  · rw [decide_eq_true c]; exact br_t (wt c)
  · rw [decide_eq_false c]; exact br_f (wf c)
theorem br_not {r : Bool} {A B : Prop} (w : Br r B A) : Br (!r) A B := by
  cases r
  · exact br_t w.un
  · exact br_f w.un
theorem br_b {r : Bool} {A B : Prop} (wt : r = true → A) (wf : r = false → B) : Br r A B := by
  cases r
  · exact br_f (wf rfl)
  · exact br_t (wt rfl)
theorem br_eqS {a : List Nat} {A B : Prop} (w : A) : Br (a == a) A B := by rw [beq_self_eq_true]; exact br_t w
theorem br_tt {r : Bool} {A B : Prop} (e : r = true) (w : A) : Br r A B := by subst e; exact br_t w
theorem br_ff {r : Bool} {A B : Prop} (e : r = false) (w : B) : Br r A B := by subst e; exact br_f w
theorem br_dT {p : Prop} [Decidable p] {A B : Prop} (c : p) (w : A) : Br (decide p) A B := br_tt (decide_eq_true c) w
theorem br_dF {p : Prop} [Decidable p] {A B : Prop} (c : ¬p) (w : B) : Br (decide p) A B := br_ff (decide_eq_false c) w
theorem br_ite {α : Type} {r : Bool} {a b : Rs α} {E : T → Heap → Prop} {Q : α → Heap → Prop} (w : Br r (Wp a E Q) (Wp b E Q)) : Wp (if r = true then a else b) E Q := by
  cases r
  · exact w.un
  · exact w.un
theorem br_run {α : Type} {r : Bool} {a b : Rs α} {E : T → Heap → Prop} {Q : α → Heap → Prop} (w : Br r (Wp a E Q) (Wp b E Q)) : Wp (match r with | true => a | false => b) E Q := by
  cases r
  · exact w.un
  · exact w.un
section
variable {K : Cn} {ρ : Rho} {h : Heap} {a b c : LE} {x y z : T} {E : T → Heap → Prop} {Q : T → Heap → Prop} {QL : List T → Heap → Prop} {es : List LE}
theorem sv_var {j : Nat} (e : ρ[j]? = some (some x)) (w : Q x h) : Wp (evE K (.var j) ρ h) E Q := Wp.ok (ev_var e) w
theorem sv_int {j : Int} (w : Q (.int j) h) : Wp (evE K (.int j) ρ h) E Q := Wp.ok ev_int w
theorem sv_str {s : List Nat} (w : Q (.str s) h) : Wp (evE K (.str s) ρ h) E Q := Wp.ok ev_str w
theorem sv_bl {s : Bool} (w : Q (.bl s) h) : Wp (evE K (.bl s) ρ h) E Q := Wp.ok ev_bl w
theorem sv_non (w : Q .non h) : Wp (evE K .non ρ h) E Q := Wp.ok ev_non w
theorem sv_glob {g : String} (e : K.P.con g = some x) (w : Q x h) : Wp (evE K (.glob g) ρ h) E Q := Wp.ok (ev_glob e) w
theorem sv_bin {o : BOp} (w : Wp (evE K a ρ h) E fun x h => Wp (evE K b ρ h) E fun y h => Ob (binop o h x y) fun z => Q z h) : Wp (evE K (.bin o a b) ρ h) E Q := by
  unfold evE; exact Wp.bind (w.mono (fun x h w => Wp.bind (w.mono (fun y h w => Ob.sat w) fun _ _ e => e)) fun _ _ e => e)
theorem sv_cmp {o : COp} (w : Wp (evE K a ρ h) E fun x h => Wp (evE K b ρ h) E fun y h => Ob (cmpop o h x y) fun z => Q (.bl z) h) : Wp (evE K (.cmp o a b) ρ h) E Q := by
  unfold evE; exact Wp.bind (w.mono (fun x h w => Wp.bind (w.mono (fun y h w => Ob.sat (Ob.map w)) fun _ _ e => e)) fun _ _ e => e)
theorem sv_idx (w : Wp (evE K a ρ h) E fun x h => Wp (evE K b ρ h) E fun y h => Ob (index h x y) fun z => Q z h) : Wp (evE K (.idx a b) ρ h) E Q := by
  unfold evE; exact Wp.bind (w.mono (fun x h w => Wp.bind (w.mono (fun y h w => Ob.sat w) fun _ _ e => e)) fun _ _ e => e)
theorem sv_not (w : Wp (evE K a ρ h) E fun x h => Ob (truth h x) fun r => Q (.bl (!r)) h) : Wp (evE K (.not a) ρ h) E Q := by
  unfold evE; exact Wp.bind (w.mono (fun x h w => Ob.sat (Ob.map w)) fun _ _ e => e)
theorem sv_neg (w : Wp (evE K a ρ h) E fun x h => ∃ j, x = .int j ∧ Q (.int (-j)) h) : Wp (evE K (.neg a) ρ h) E Q := by
  unfold evE; exact Wp.bind (w.mono (fun x h ⟨j, e, w⟩ => by subst e; (first | exact w | exact Wp.mk w | exact w.un | exact w.unsome | exact w.unsome.un | exact w.unnone.elim | exact w.unstuck.elim | exact w.unok | exact w.unexc | exact False.elim w)) fun _ _ e => e)
def negT : T → Option T
  | .int j => some (.int (-j))
  | _ => none
theorem ob_neg {j : Int} {P : T → Prop} (w : P (.int (-j))) : Ob (negT (.int j)) P := Ob.of rfl w
theorem sv_negO (w : Wp (evE K a ρ h) E fun x h => Ob (negT x) fun z => Q z h) : Wp (evE K (.neg a) ρ h) E Q := by
  refine sv_neg (w.mono (fun x h w => ?_) fun _ _ e => e)
  cases x <;> first | exact ⟨_, rfl, w.unsome⟩ | exact w.unnone.elim
theorem sv_globP {P : Prog} {n : Nat} {g : String} (e : P.con g = some x) (w : Q x h) : Wp (evE (cnOf P n) (.glob g) ρ h) E Q := sv_glob e w
theorem sv_negI {j : Int} (w : Q (.int (-j)) h) : Wp (evE K (.neg (.int j)) ρ h) E Q := sv_neg (sv_int ⟨j, rfl, w⟩)
theorem sv_chain {o p : COp} (w : Wp (evE K a ρ h) E fun x h => Wp (evE K b ρ h) E fun y h => Ob (cmpop o h x y) fun r => Br r (Wp (evE K c ρ h) E fun z h => Ob (cmpop p h y z) fun r => Q (.bl r) h) (Q (.bl false) h)) : Wp (evE K (.chain o p a b c) ρ h) E Q := by
  unfold evE
  exact Wp.bind (w.mono (fun x h w => Wp.bind (w.mono (fun y h w => by
    cases e : cmpop o h x y with
    | none => rw [e] at w; (first | exact w | exact Wp.mk w | exact w.un | exact w.unsome | exact w.unsome.un | exact w.unnone.elim | exact w.unstuck.elim | exact w.unok | exact w.unexc | (first | exact w | exact Wp.mk w | exact w.un | exact w.unsome | exact w.unsome.un | exact w.unnone.elim | exact w.unstuck.elim | exact w.unok | exact w.unexc | exact False.elim w))
    | some r =>
      rw [e] at w
      cases r
      · (first | exact w | exact Wp.mk w | exact w.un | exact w.unsome | exact w.unsome.un | exact w.unnone.elim | exact w.unstuck.elim | exact w.unok | exact w.unexc | exact False.elim w)
      · exact Wp.bind (Wp.mono w.unsome.un (fun z h w => Ob.sat (Ob.map w)) fun _ _ e => e)) fun _ _ e => e)) fun _ _ e => e)
theorem tr_br {x : T} {r1 r2 : Rs T} {r3 : Rs T} {Q1 : T → Heap → Prop} (w : Ob (truth h x) fun r => Br r (Wp r1 E Q1) (Wp r2 E Q1)) : Wp (match truth h x with | some true => r1 | some false => r2 | none => .stuck) E Q1 := by
  cases e : truth h x with
  | none => rw [e] at w; (first | exact w | exact Wp.mk w | exact w.un | exact w.unsome | exact w.unsome.un | exact w.unnone.elim | exact w.unstuck.elim | exact w.unok | exact w.unexc | (first | exact w | exact Wp.mk w | exact w.un | exact w.unsome | exact w.unsome.un | exact w.unnone.elim | exact w.unstuck.elim | exact w.unok | exact w.unexc | exact False.elim w))
  | some r =>
    rw [e] at w
    cases r <;> (first | exact w | exact Wp.mk w | exact w.un | exact w.unsome | exact w.unsome.un | exact w.unnone.elim | exact w.unstuck.elim | exact w.unok | exact w.unexc | exact False.elim w)
theorem sv_ife (w : Wp (evE K c ρ h) E fun x h => Ob (truth h x) fun r => Br r (Wp (evE K a ρ h) E Q) (Wp (evE K b ρ h) E Q)) : Wp (evE K (.ife c a b) ρ h) E Q := by
  unfold evE; exact Wp.bind (w.mono (fun x h w => tr_br (r3 := .stuck) w) fun _ _ e => e)
theorem sv_and (w : Wp (evAnd K es ρ h) E Q) : Wp (evE K (.and es) ρ h) E Q := by rw [ev_and]; (first | exact w | exact Wp.mk w | exact w.un | exact w.unsome | exact w.unsome.un | exact w.unnone.elim | exact w.unstuck.elim | exact w.unok | exact w.unexc | exact False.elim w)
theorem sv_or (w : Wp (evOr K es ρ h) E Q) : Wp (evE K (.or es) ρ h) E Q := by rw [ev_or]; (first | exact w | exact Wp.mk w | exact w.un | exact w.unsome | exact w.unsome.un | exact w.unnone.elim | exact w.unstuck.elim | exact w.unok | exact w.unexc | exact False.elim w)
theorem sv_and1 (w : Wp (evE K a ρ h) E Q) : Wp (evAnd K [a] ρ h) E Q := by rw [and_one]; (first | exact w | exact Wp.mk w | exact w.un | exact w.unsome | exact w.unsome.un | exact w.unnone.elim | exact w.unstuck.elim | exact w.unok | exact w.unexc | exact False.elim w)
theorem sv_or1 (w : Wp (evE K a ρ h) E Q) : Wp (evOr K [a] ρ h) E Q := by rw [or_one]; (first | exact w | exact Wp.mk w | exact w.un | exact w.unsome | exact w.unsome.un | exact w.unnone.elim | exact w.unstuck.elim | exact w.unok | exact w.unexc | exact False.elim w)
theorem sv_andC (w : Wp (evE K a ρ h) E fun x h => Ob (truth h x) fun r => Br r (Wp (evAnd K (b :: es) ρ h) E Q) (Q x h)) : Wp (evAnd K (a :: b :: es) ρ h) E Q := by
  rw [evAnd]; exact Wp.bind (w.mono (fun x h w => by
    cases e : truth h x with
    | none => rw [e] at w; (first | exact w | exact Wp.mk w | exact w.un | exact w.unsome | exact w.unsome.un | exact w.unnone.elim | exact w.unstuck.elim | exact w.unok | exact w.unexc | (first | exact w | exact Wp.mk w | exact w.un | exact w.unsome | exact w.unsome.un | exact w.unnone.elim | exact w.unstuck.elim | exact w.unok | exact w.unexc | exact False.elim w))
    | some r => rw [e] at w; cases r <;> (first | exact w | exact Wp.mk w | exact w.un | exact w.unsome | exact w.unsome.un | exact w.unnone.elim | exact w.unstuck.elim | exact w.unok | exact w.unexc | exact False.elim w)) fun _ _ e => e)
theorem sv_orC (w : Wp (evE K a ρ h) E fun x h => Ob (truth h x) fun r => Br r (Q x h) (Wp (evOr K (b :: es) ρ h) E Q)) : Wp (evOr K (a :: b :: es) ρ h) E Q := by
  rw [evOr]; exact Wp.bind (w.mono (fun x h w => by
    cases e : truth h x with
    | none => rw [e] at w; (first | exact w | exact Wp.mk w | exact w.un | exact w.unsome | exact w.unsome.un | exact w.unnone.elim | exact w.unstuck.elim | exact w.unok | exact w.unexc | (first | exact w | exact Wp.mk w | exact w.un | exact w.unsome | exact w.unsome.un | exact w.unnone.elim | exact w.unstuck.elim | exact w.unok | exact w.unexc | exact False.elim w))
    | some r => rw [e] at w; cases r <;> (first | exact w | exact Wp.mk w | exact w.un | exact w.unsome | exact w.unsome.un | exact w.unnone.elim | exact w.unstuck.elim | exact w.unok | exact w.unexc | exact False.elim w)) fun _ _ e => e)
theorem sv_esN (w : QL [] h) : Wp (evEs K [] ρ h) E QL := Wp.ok es_nil w
theorem sv_esC (w : Wp (evE K a ρ h) E fun x h => Wp (evEs K es ρ h) E fun xs h => QL (x :: xs) h) : Wp (evEs K (a :: es) ρ h) E QL := by
  unfold evEs; exact Wp.bind (w.mono (fun x h w => Wp.bind (w.mono (fun xs h w => Wp.ok_ w) fun _ _ e => e)) fun _ _ e => e)
theorem sv_call {f : String} (w : Wp (evEs K es ρ h) E fun xs h => Wp (K.call f xs h) E Q) : Wp (evE K (.call f es) ρ h) E Q := by
  unfold evE; exact Wp.bind w
theorem sv_callP {P : Prog} {n : Nat} {f : String} (w : Wp (evEs (cnOf P n) es ρ h) E fun xs h => Wp (call P n f xs h) E Q) : Wp (evE (cnOf P n) (.call f es) ρ h) E Q := sv_call w
/-- a value that is called is a def -/
def Fv (g : T) (A : String → Prop) : Prop := ∃ f, g = .fn f ∧ A f
theorem fv_mk {f : String} {A : String → Prop} (w : A f) : Fv (.fn f) A := ⟨f, rfl, w⟩
theorem sv_callV (w : Wp (evE K a ρ h) E fun g h => Fv g fun f => Wp (evEs K es ρ h) E fun xs h => Wp (K.call f xs h) E Q) : Wp (evE K (.callV a es) ρ h) E Q := by
  unfold evE; exact Wp.bind (w.mono (fun g h ⟨f, e, w⟩ => by subst e; exact Wp.bind w) fun _ _ e => e)
theorem sv_callVP {P : Prog} {n : Nat} (w : Wp (evE (cnOf P n) a ρ h) E fun g h => Fv g fun f => Wp (evEs (cnOf P n) es ρ h) E fun xs h => Wp (call P n f xs h) E Q) : Wp (evE (cnOf P n) (.callV a es) ρ h) E Q := sv_callV w
theorem sv_bi {f : String} (w : Wp (evEs K es ρ h) E fun xs h => Ob (bfun f h xs) fun z => Q z h) : Wp (evE K (.bi f es) ρ h) E Q := by
  unfold evE; exact Wp.bind (w.mono (fun xs h w => Ob.sat w) fun _ _ e => e)
theorem sv_attr {f : String} (w : Wp (evE K a ρ h) E fun x h => Ob (attrOf K.P h x f) fun z => Q z h) : Wp (evE K (.attr a f) ρ h) E Q := by
  unfold evE; exact Wp.bind (w.mono (fun x h w => Ob.sat w) fun _ _ e => e)
theorem sv_attrP {P : Prog} {n : Nat} {f : String} (w : Wp (evE (cnOf P n) a ρ h) E fun x h => Ob (attrOf P h x f) fun z => Q z h) : Wp (evE (cnOf P n) (.attr a f) ρ h) E Q := sv_attr w
theorem ob_attrI {P : Prog} {c f : String} {n : Nat} {fs : List (String × T)} {A : T → Prop} (e : h[n]? = some (.ins c fs)) (e1 : (P.flds c).contains f = true) (e2 : fs.lookup f = some x) (w : A x) : Ob (attrOf P h (.loc n) f) A := by
  refine Ob.of ?_ w
  simp only [attrOf, e, e1, e2, if_true]
theorem ob_attrX {P : Prog} {c f : String} {A : T → Prop} (e : P.exf c = some f) (w : A x) : Ob (attrOf P h (.exn c [x]) f) A := by
  refine Ob.of ?_ w
  simp only [attrOf, e, if_true]
theorem ob_setI {P : Prog} {c f : String} {n : Nat} {fs : List (String × T)} {A : Heap → Prop} (e : h[n]? = some (.ins c fs)) (e1 : (P.flds c).contains f = true) (e2 : fs.length < 1000) (w : A (h.set n (.ins c (putF f x fs)))) : Ob (setA P h (.loc n) f x) A := by
  refine Ob.of ?_ w
  simp only [setA, e]
  rw [if_pos ⟨e1, e2⟩]
theorem sv_methP {P : Prog} {n : Nat} {m : String} (w : Wp (evE (cnOf P n) a ρ h) E fun x h => Ob (methOf P h x m) fun f => Wp (evEs (cnOf P n) es ρ h) E fun xs h => Wp (call P n f (x :: xs) h) E Q) : Wp (evE (cnOf P n) (.meth a m es) ρ h) E Q := by
  unfold evE
  refine Wp.bind (w.mono (fun x h w => ?_) fun _ _ e => e)
  show Wp (match methOf P h x m with | some f => _ | none => _) E Q
  cases e : methOf P h x m with
  | none => rw [e] at w; (first | exact w | exact Wp.mk w | exact w.un | exact w.unsome | exact w.unsome.un | exact w.unnone.elim | exact w.unstuck.elim | exact w.unok | exact w.unexc | (first | exact w | exact Wp.mk w | exact w.un | exact w.unsome | exact w.unsome.un | exact w.unnone.elim | exact w.unstuck.elim | exact w.unok | exact w.unexc | exact False.elim w))
  | some f => rw [e] at w; exact Wp.bind w.unsome
theorem ob_methI {P : Prog} {c m f : String} {n : Nat} {fs : List (String × T)} {A : String → Prop} (e : h[n]? = some (.ins c fs)) (e1 : fs.lookup m = none) (e2 : P.meth c m = some f) (w : A f) : Ob (methOf P h (.loc n) m) A := by
  refine Ob.of ?_ w
  simp only [methOf, e, e1, Option.isNone_none, if_true, e2]
theorem sv_makeP {P : Prog} {n : Nat} {c : String} (w : Wp (evEs (cnOf P (n + 1)) es ρ h) E fun xs h => Ob (P.meth c "__init__") fun f => Wp (call P n f (.loc h.length :: xs) (h ++ [.ins c []])) E fun v h2 => v = .non ∧ Q (.loc h.length) h2) : Wp (evE (cnOf P (n + 1)) (.make c es) ρ h) E Q := by
  unfold evE
  refine Wp.bind (w.mono (fun xs h w => ?_) fun _ _ e => e)
  show Wp (match P.meth c "__init__" with | some f => _ | none => _) E Q
  cases e : P.meth c "__init__" with
  | none => rw [e] at w; (first | exact w | exact Wp.mk w | exact w.un | exact w.unsome | exact w.unsome.un | exact w.unnone.elim | exact w.unstuck.elim | exact w.unok | exact w.unexc | (first | exact w | exact Wp.mk w | exact w.un | exact w.unsome | exact w.unsome.un | exact w.unnone.elim | exact w.unstuck.elim | exact w.unok | exact w.unexc | exact False.elim w))
  | some f =>
    rw [e] at w
    exact Wp.bind (Wp.mono w.unsome (fun v h2 ⟨ev, q⟩ => by rw [if_pos ev]; exact Wp.ok_ q) fun _ _ e => e)
/-- a method's receiver is right -/
def Rc (m : String) (v : Option T) (A : Prop) : Prop := recv m v = true ∧ A
theorem rc_mk {m : String} {v : Option T} {A : Prop} (e : recv m v = true) (w : A) : Rc m v A := ⟨e, w⟩
theorem sv_bm {m : String} (w : Wp (evE K a ρ h) E fun x h => Rc m (view h x) (Wp (evEs K es ρ h) E fun xs h => Wp (bmeth m x xs h) E Q)) : Wp (evE K (.bm a m es) ρ h) E Q := by
  unfold evE; exact Wp.bind (w.mono (fun x h ⟨e, w⟩ => by rw [if_pos e]; exact Wp.bind w) fun _ _ e => e)
theorem sv_tup (w : Wp (evEs K es ρ h) E fun xs h => Q (.tup xs) h) : Wp (evE K (.tup es) ρ h) E Q := by
  unfold evE; exact Wp.bindok w
theorem sv_lst (w : Wp (evEs K es ρ h) E fun xs h => Q (.lst xs) h) : Wp (evE K (.lst false es) ρ h) E Q := by
  unfold evE; exact Wp.bindok w
theorem sv_lstM (w : Wp (evEs K es ρ h) E fun xs h => Q (.loc h.length) (h ++ [.lst xs])) : Wp (evE K (.lst true es) ρ h) E Q := by
  unfold evE; exact Wp.bind (w.mono (fun _ _ q => Wp.ok_ q) fun _ _ e => e)
theorem sv_dct (w : Wp (evEs K es ρ h) E fun xs h => Ob (dictOf xs) fun d => Q (.dct d.1 d.2) h) : Wp (evE K (.dct false es) ρ h) E Q := by
  unfold evE; exact Wp.bind (w.mono (fun xs h w => by
    revert w
    cases dictOf xs <;> exact fun w => w) fun _ _ e => e)
theorem sv_isi {t : String} (w : Wp (evE K a ρ h) E fun x h => Ob (isTy h K.P x t) fun r => Q (.bl r) h) : Wp (evE K (.isi a [t]) ρ h) E Q := by
  unfold evE; exact Wp.bind (w.mono (fun x h w => by
    cases e : isTy h K.P x t with
    | none => rw [e] at w; (first | exact w | exact Wp.mk w | exact w.un | exact w.unsome | exact w.unsome.un | exact w.unnone.elim | exact w.unstuck.elim | exact w.unok | exact w.unexc | (first | exact w | exact Wp.mk w | exact w.un | exact w.unsome | exact w.unsome.un | exact w.unnone.elim | exact w.unstuck.elim | exact w.unok | exact w.unexc | exact False.elim w))
    | some r =>
      rw [e] at w
      simp [e, Rs.of]
      (first | exact w | exact Wp.mk w | exact w.un | exact w.unsome | exact w.unsome.un | exact w.unnone.elim | exact w.unstuck.elim | exact w.unok | exact w.unexc | exact False.elim w)) fun _ _ e => e)
theorem sv_isxP {P : Prog} {n : Nat} {t : String} (w : Wp (evE (cnOf P n) a ρ h) E fun x h => Ob (isxT h P x t) fun r => Q (.bl r) h) : Wp (evE (cnOf P n) (.isx a t) ρ h) E Q := by
  unfold evE; exact Wp.bind (w.mono (fun x h w => Ob.sat (Ob.map w)) fun _ _ e => e)
theorem ob_isx {P : Prog} {t : String} {r : Bool} {R : Bool → Prop} (e : isxT h P x t = some r) (w : R r) : Ob (isxT h P x t) R := Ob.of e w
theorem sv_slc {lo hi : List LE} (w : Wp (evE K a ρ h) E fun x h => Wp (evEs K lo ρ h) E fun us h => Ob (partOf us) fun l => Wp (evEs K hi ρ h) E fun vs h => Ob (partOf vs) fun u => Ob (slice h x l u) fun z => Q z h) : Wp (evE K (.slc a lo hi) ρ h) E Q := by
  unfold evE; exact Wp.bind (w.mono (fun x h w => Wp.bind (w.mono (fun us h w => by
    cases e : partOf us with
    | none => rw [e] at w; (first | exact w | exact Wp.mk w | exact w.un | exact w.unsome | exact w.unsome.un | exact w.unnone.elim | exact w.unstuck.elim | exact w.unok | exact w.unexc | (first | exact w | exact Wp.mk w | exact w.un | exact w.unsome | exact w.unsome.un | exact w.unnone.elim | exact w.unstuck.elim | exact w.unok | exact w.unexc | exact False.elim w))
    | some l =>
      rw [e] at w
      exact Wp.bind (Wp.mono w.unsome (fun vs h w => by
        cases e : partOf vs with
        | none => rw [e] at w; exact w.unnone.elim
        | some u => rw [e] at w; exact Ob.sat w.unsome) fun _ _ e => e)) fun _ _ e => e)) fun _ _ e => e)
end
section
variable {K : Cn} {ρ : Rho} {h : Heap} {a b c : LE} {x y z : T} {E : T → Heap → Prop} {Q : Fl → Heap → Prop} {es : List LE} {ss ts us : List LS}
/-- what follows a statement -/
def Nxt (K : Cn) (ss : List LS) (E : T → Heap → Prop) (Q : Fl → Heap → Prop) (fl : Fl) (h : Heap) : Prop := match fl with
  | .nx ρ => Wp (exSs K ss ρ h) E Q
  | fl => Q fl h
theorem nxt_nx (w : Wp (exSs K ss ρ h) E Q) : Nxt K ss E Q (.nx ρ) h := w
theorem nxt_ret (w : Q (.ret x) h) : Nxt K ss E Q (.ret x) h := w
theorem nxt_brk (w : Q (.brk ρ) h) : Nxt K ss E Q (.brk ρ) h := w
theorem nxt_cnt (w : Q (.cnt ρ) h) : Nxt K ss E Q (.cnt ρ) h := w
theorem sw_step {s : LS} (w : Wp (exS K s ρ h) E (Nxt K ss E Q)) : Wp (exSs K (s :: ss) ρ h) E Q := by
  rw [exSs]; exact Wp.bind (w.mono (fun fl h w => by cases fl <;> (first | exact w | exact Wp.mk w | exact w.un | exact w.unsome | exact w.unsome.un | exact w.unnone.elim | exact w.unstuck.elim | exact w.unok | exact w.unexc | exact False.elim w)) fun _ _ e => e)
/-- a statement, what it leaves -/
theorem sw_cut {s : LS} {P : Rho → Heap → Prop} (w : Wp (exS K s ρ h) E fun fl h => ∃ ρ, fl = .nx ρ ∧ P ρ h) (k : ∀ ρ h, P ρ h → Wp (exSs K ss ρ h) E Q) : Wp (exSs K (s :: ss) ρ h) E Q :=
  sw_step (w.mono (fun fl h ⟨ρ, e, p⟩ => by subst e; exact k ρ h p) fun _ _ e => e)
theorem sw_one {s : LS} (w : Wp (exSs K [s] ρ h) E Q) : Wp (exS K s ρ h) E Q := by
  rw [exSs] at w
  cases e : exS K s ρ h with
  | ok fl h1 => rw [e] at w; cases fl <;> (first | exact w | (rw [Rs.bind_ok] at w; simp only [exSs] at w; (first | exact w | exact Wp.mk w | exact w.un | exact w.unsome | exact w.unsome.un | exact w.unnone.elim | exact w.unstuck.elim | exact w.unok | exact w.unexc | exact False.elim w)))
  | exc x h1 => rw [e] at w; (first | exact w | exact Wp.mk w | exact w.un | exact w.unsome | exact w.unsome.un | exact w.unnone.elim | exact w.unstuck.elim | exact w.unok | exact w.unexc | exact False.elim w)
  | stuck => rw [e] at w; (first | exact w | exact Wp.mk w | exact w.un | exact w.unsome | exact w.unsome.un | exact w.unnone.elim | exact w.unstuck.elim | exact w.unok | exact w.unexc | exact False.elim w)
theorem sw_nil (w : Q (.nx ρ) h) : Wp (exSs K [] ρ h) E Q := Wp.ok ss_nil' w
theorem sw_expr (w : Wp (evE K a ρ h) E fun _ h => Wp (exSs K ss ρ h) E Q) : Wp (exSs K (.expr a :: ss) ρ h) E Q := by
  refine sw_step ?_; unfold exS; exact Wp.bindok w
theorem sw_set {j : Nat} (w : Wp (evE K a ρ h) E fun x h => Wp (exSs K ss (ρ.set j (some x)) h) E Q) : Wp (exSs K (.set j a :: ss) ρ h) E Q := by
  refine sw_step ?_; unfold exS; exact Wp.bindok w
theorem sw_ret (w : Wp (evE K a ρ h) E fun x h => Q (.ret x) h) : Wp (exSs K (.ret a :: ss) ρ h) E Q := by
  refine sw_step ?_; unfold exS; exact Wp.bindok w
theorem sw_retN (w : Q (.ret .non) h) : Wp (exSs K (.retN :: ss) ρ h) E Q := by
  refine sw_step ?_; unfold exS; (first | exact w | exact Wp.mk w | exact w.un | exact w.unsome | exact w.unsome.un | exact w.unnone.elim | exact w.unstuck.elim | exact w.unok | exact w.unexc | exact False.elim w)
theorem sw_pass (w : Wp (exSs K ss ρ h) E Q) : Wp (exSs K (.pass :: ss) ρ h) E Q := by
  refine sw_step ?_; unfold exS; (first | exact w | exact Wp.mk w | exact w.un | exact w.unsome | exact w.unsome.un | exact w.unnone.elim | exact w.unstuck.elim | exact w.unok | exact w.unexc | exact False.elim w)
theorem sw_brk (w : Q (.brk ρ) h) : Wp (exSs K (.brk :: ss) ρ h) E Q := by
  refine sw_step ?_; unfold exS; (first | exact w | exact Wp.mk w | exact w.un | exact w.unsome | exact w.unsome.un | exact w.unnone.elim | exact w.unstuck.elim | exact w.unok | exact w.unexc | exact False.elim w)
theorem sw_cnt (w : Q (.cnt ρ) h) : Wp (exSs K (.cnt :: ss) ρ h) E Q := by
  refine sw_step ?_; unfold exS; (first | exact w | exact Wp.mk w | exact w.un | exact w.unsome | exact w.unsome.un | exact w.unnone.elim | exact w.unstuck.elim | exact w.unok | exact w.unexc | exact False.elim w)
theorem sw_raise {c : String} (hl : 2 ≤ K.lvl) (w : Wp (evEs K es ρ h) E fun xs h => E (.exn c xs) h) : Wp (exSs K (.raise c es :: ss) ρ h) E Q := by
  refine sw_step ?_; unfold exS; rw [if_pos hl]; exact Wp.bind (w.mono (fun _ _ q => Wp.mk q) fun _ _ e => e)
theorem sw_raiseP {P : Prog} {n : Nat} {c : String} (w : Wp (evE (cnOf P (n + 2)) a ρ h) E fun x h => E (.exn c [x]) h) : Wp (exSs (cnOf P (n + 2)) (.raise c [a] :: ss) ρ h) E Q :=
  sw_raise (Nat.le_add_left 2 n) (sv_esC (w.mono (fun x h w => sv_esN w) fun _ _ e => e))
theorem sw_sattr {f : String} (w : Wp (evE K b ρ h) E fun v h => Wp (evE K a ρ h) E fun x h => Ob (setA K.P h x f v) fun h2 => Wp (exSs K ss ρ h2) E Q) : Wp (exSs K (.sattr a f b :: ss) ρ h) E Q := by
  refine sw_step ?_; unfold exS
  exact Wp.bind (w.mono (fun v h w => Wp.bind (w.mono (fun x h w => Wp.bind (Ob.sat (h := h) (Q := fun h2 _ => Wp (.ok (.nx ρ) h2) E (Nxt K ss E Q)) (w.mono fun _ q => Wp.ok_ (nxt_nx q)))) fun _ _ e => e)) fun _ _ e => e)
theorem sw_sattrP {P : Prog} {n : Nat} {f : String} (w : Wp (evE (cnOf P n) b ρ h) E fun v h => Wp (evE (cnOf P n) a ρ h) E fun x h => Ob (setA P h x f v) fun h2 => Wp (exSs (cnOf P n) ss ρ h2) E Q) : Wp (exSs (cnOf P n) (.sattr a f b :: ss) ρ h) E Q := sw_sattr w
theorem sw_try {bs hs : List LS} (w : Wp (exSs K bs ρ h) (fun e h => ∃ c vs, e = .exn c vs ∧ Wp (exH K hs c vs ρ h) E (Nxt K ss E Q)) (Nxt K ss E Q)) : Wp (exSs K (.try bs hs :: ss) ρ h) E Q := by
  refine sw_step ?_; unfold exS
  cases e : exSs K bs ρ h with
  | ok fl h1 => rw [e] at w; (first | exact w | exact Wp.mk w | exact w.un | exact w.unsome | exact w.unsome.un | exact w.unnone.elim | exact w.unstuck.elim | exact w.unok | exact w.unexc | exact False.elim w)
  | exc x h1 =>
    rw [e] at w
    obtain ⟨c, vs, rfl, w2⟩ := w.unexc
    exact w2
  | stuck => rw [e] at w; (first | exact w | exact Wp.mk w | exact w.un | exact w.unsome | exact w.unsome.un | exact w.unnone.elim | exact w.unstuck.elim | exact w.unok | exact w.unexc | exact False.elim w)
theorem sw_hnd {c : String} {vs : List T} {cs : List String} {i : Option Nat} {bs hs : List LS} (w : Br (caughtBy K.P c cs) (Wp (exSs K bs (bindX i (.exn c vs) ρ) h) NoX fun fl h => Q (mapFl (unbindX i) fl) h) (Wp (exH K hs c vs ρ h) E Q)) : Wp (exH K (.hnd cs i bs :: hs) c vs ρ h) E Q := by
  unfold exH
  cases e : caughtBy K.P c cs with
  | false => rw [e] at w; rw [if_neg Bool.false_ne_true]; (first | exact w | exact Wp.mk w | exact w.un | exact w.unsome | exact w.unsome.un | exact w.unnone.elim | exact w.unstuck.elim | exact w.unok | exact w.unexc | exact False.elim w)
  | true =>
    rw [e] at w
    rw [if_pos rfl]
    have w' : Wp (exSs K bs (bindX i (.exn c vs) ρ) h) NoX fun fl h => Q (mapFl (unbindX i) fl) h := w.un
    obtain ⟨fl, h2, e2, q⟩ := w'.get
    rw [e2]
    exact Wp.ok_ q
theorem sw_hnil {c : String} {vs : List T} (w : E (.exn c vs) h) : Wp (exH K [] c vs ρ h) E Q := by
  unfold exH; (first | exact w | exact Wp.mk w | exact w.un | exact w.unsome | exact w.unsome.un | exact w.unnone.elim | exact w.unstuck.elim | exact w.unok | exact w.unexc | exact False.elim w)
theorem sw_iff (w : Wp (evE K c ρ h) E fun x h => Ob (truth h x) fun r => Br r (Wp (exSs K ts ρ h) E (Nxt K ss E Q)) (Wp (exSs K us ρ h) E (Nxt K ss E Q))) : Wp (exSs K (.iff c ts us :: ss) ρ h) E Q := by
  refine sw_step ?_; unfold exS; exact Wp.bind (w.mono (fun x h w => by
    cases e : truth h x with
    | none => rw [e] at w; (first | exact w | exact Wp.mk w | exact w.un | exact w.unsome | exact w.unsome.un | exact w.unnone.elim | exact w.unstuck.elim | exact w.unok | exact w.unexc | (first | exact w | exact Wp.mk w | exact w.un | exact w.unsome | exact w.unsome.un | exact w.unnone.elim | exact w.unstuck.elim | exact w.unok | exact w.unexc | exact False.elim w))
    | some r => rw [e] at w; cases r <;> (first | exact w | exact Wp.mk w | exact w.un | exact w.unsome | exact w.unsome.un | exact w.unnone.elim | exact w.unstuck.elim | exact w.unok | exact w.unexc | exact False.elim w)) fun _ _ e => e)
/-- an if without else, at the end of which all goes on -/
theorem sw_if1 (w : Wp (evE K c ρ h) E fun x h => Ob (truth h x) fun r => Br r (Wp (exSs K ts ρ h) E (Nxt K ss E Q)) (Wp (exSs K ss ρ h) E Q)) : Wp (exSs K (.iff c ts [] :: ss) ρ h) E Q :=
  sw_iff (w.mono (fun x h w => Ob.mono w fun r w => by
    cases r
    · exact br_f (show Wp (exSs K [] ρ h) E (Nxt K ss E Q) from sw_nil (nxt_nx w.un))
    · (first | exact w | exact Wp.mk w | exact w.un | exact w.unsome | exact w.unsome.un | exact w.unnone.elim | exact w.unstuck.elim | exact w.unok | exact w.unexc | exact False.elim w)) fun _ _ e => e)
theorem sw_unp {g : Tg} (w : Wp (evE K a ρ h) E fun x h => Ob (bindTg g x h ρ) fun ρ => Wp (exSs K ss ρ h) E Q) : Wp (exSs K (.unp g a :: ss) ρ h) E Q := by
  refine sw_step ?_; unfold exS; exact Wp.bind (w.mono (fun x h w => Ob.sat (Ob.map w)) fun _ _ e => e)
theorem sw_par {is : List Nat} (w : Wp (evEs K es ρ h) E fun xs h => xs.length = is.length ∧ Wp (exSs K ss ((is.zip xs).foldl (fun r p => r.set p.1 (some p.2)) ρ) h) E Q) : Wp (exSs K (.par is es :: ss) ρ h) E Q := by
  refine sw_step ?_; unfold exS; exact Wp.bind (w.mono (fun x h ⟨e, w⟩ => by rw [if_pos e]; (first | exact w | exact Wp.mk w | exact w.un | exact w.unsome | exact w.unsome.un | exact w.unnone.elim | exact w.unstuck.elim | exact w.unok | exact w.unexc | exact False.elim w)) fun _ _ e => e)
theorem sw_par2 {i j : Nat} (w : Wp (evE K a ρ h) E fun x h => Wp (evE K b ρ h) E fun y h => Wp (exSs K ss ((ρ.set i (some x)).set j (some y)) h) E Q) : Wp (exSs K (.par [i, j] [a, b] :: ss) ρ h) E Q :=
  sw_par (sv_esC (w.mono (fun x h w => sv_esC (w.mono (fun y h w => sv_esN ⟨rfl, w⟩) fun _ _ e => e)) fun _ _ e => e))
theorem sw_par3 {i j k : Nat} (w : Wp (evE K a ρ h) E fun x h => Wp (evE K b ρ h) E fun y h => Wp (evE K c ρ h) E fun z h => Wp (exSs K ss (((ρ.set i (some x)).set j (some y)).set k (some z)) h) E Q) : Wp (exSs K (.par [i, j, k] [a, b, c] :: ss) ρ h) E Q :=
  sw_par (sv_esC (w.mono (fun x h w => sv_esC (w.mono (fun y h w => sv_esC (w.mono (fun z h w => sv_esN ⟨rfl, w⟩) fun _ _ e => e)) fun _ _ e => e)) fun _ _ e => e))
theorem ob_st1 {i j : Nat} {xs : List T} {P : Rho → Prop} (w : P ((ρ.set i (some x)).set j (some (.lst xs)))) : Ob (bindTg (.st [i] j) (.tup (x :: xs)) h ρ) P := by
  refine Ob.of (show (if 1 ≤ (x :: xs).length then some ((ρ.set i (some x)).set j (some (.lst xs))) else none) = _ from ?_) w
  rw [if_pos (by simp)]
theorem ob_tg2 {i j : Nat} {P : Rho → Prop} (w : P ((ρ.set i (some x)).set j (some y))) : Ob (bindTg (.t [i, j]) (.tup [x, y]) h ρ) P := Ob.of rfl w
theorem ob_tgL2 {i j : Nat} {P : Rho → Prop} (w : P ((ρ.set i (some x)).set j (some y))) : Ob (bindTg (.t [i, j]) (.lst [x, y]) h ρ) P := Ob.of rfl w
theorem ob_tgL3 {i j k : Nat} {P : Rho → Prop} (w : P (((ρ.set i (some x)).set j (some y)).set k (some z))) : Ob (bindTg (.t [i, j, k]) (.lst [x, y, z]) h ρ) P := Ob.of rfl w
theorem ob_tg3 {i j k : Nat} {P : Rho → Prop} (w : P (((ρ.set i (some x)).set j (some y)).set k (some z))) : Ob (bindTg (.t [i, j, k]) (.tup [x, y, z]) h ρ) P := Ob.of rfl w
theorem ob_tg4 {i j k l : Nat} {v : T} {P : Rho → Prop} (w : P ((((ρ.set i (some x)).set j (some y)).set k (some z)).set l (some v))) : Ob (bindTg (.t [i, j, k, l]) (.tup [x, y, z, v]) h ρ) P := Ob.of rfl w
theorem sw_aug {j : Nat} {o : BOp} (e : ρ[j]? = some (some x)) (w : Wp (evE K a ρ h) E fun y h => Ob (augop o x y) fun z => Wp (exSs K ss (ρ.set j (some z)) h) E Q) : Wp (exSs K (.aug j o a :: ss) ρ h) E Q := by
  refine sw_step ?_; unfold exS; rw [e]; exact Wp.bind (w.mono (fun x h w => Ob.sat (Ob.map w)) fun _ _ e => e)
theorem sw_sidx (w : Wp (evE K c ρ h) E fun z h => Wp (evE K a ρ h) E fun o h => Wp (evE K b ρ h) E fun i h => ∃ n k xs j, o = .loc n ∧ i = .int k ∧ h[n]? = some (.lst xs) ∧ place xs.length k = some j ∧ Wp (exSs K ss ρ (h.set n (.lst (xs.set j z)))) E Q) : Wp (exSs K (.sidx a b c :: ss) ρ h) E Q := by
  refine sw_step ?_; unfold exS
  exact Wp.bind (w.mono (fun z h w => Wp.bind (w.mono (fun o h w => Wp.bind (w.mono (fun i h ⟨n, k, xs, j, e1, e2, e3, e4, w2⟩ => by
    subst e1; subst e2
    simp only [e3, e4]
    exact Wp.ok_ w2) fun _ _ e => e)) fun _ _ e => e)) fun _ _ e => e)
theorem sw_sidxD (w : Wp (evE K c ρ h) E fun z h => Wp (evE K a ρ h) E fun o h => Wp (evE K b ρ h) E fun i h => ∃ n ks vs, o = .loc n ∧ h[n]? = some (.dct ks vs) ∧ okKey ks i = true ∧ ks.length < top ∧ Wp (exSs K ss ρ (h.set n (.dct (kput ks vs i z).1 (kput ks vs i z).2))) E Q) : Wp (exSs K (.sidx a b c :: ss) ρ h) E Q := by
  refine sw_step ?_; unfold exS
  exact Wp.bind (w.mono (fun z h w => Wp.bind (w.mono (fun o h w => Wp.bind (w.mono (fun i h ⟨n, ks, vs, e1, e3, e4, e5, w2⟩ => by
    subst e1
    simp only [e3]
    rw [if_pos ⟨e4, e5⟩]
    exact Wp.ok_ w2) fun _ _ e => e)) fun _ _ e => e)) fun _ _ e => e)
/-- where a turn of a loop ends -/
def Lp (N B : Rho → Heap → Prop) (R : T → Heap → Prop) (fl : Fl) (h : Heap) : Prop := match fl with
  | .nx ρ => N ρ h
  | .cnt ρ => N ρ h
  | .brk ρ => B ρ h
  | .ret v => R v h
theorem lp_nx {N B : Rho → Heap → Prop} {R : T → Heap → Prop} (w : N ρ h) : Lp N B R (.nx ρ) h := w
theorem lp_cnt {N B : Rho → Heap → Prop} {R : T → Heap → Prop} (w : N ρ h) : Lp N B R (.cnt ρ) h := w
theorem lp_brk {N B : Rho → Heap → Prop} {R : T → Heap → Prop} (w : B ρ h) : Lp N B R (.brk ρ) h := w
theorem lp_ret {N B : Rho → Heap → Prop} {R : T → Heap → Prop} (w : R x h) : Lp N B R (.ret x) h := w
theorem loop_sat {ok : Heap → Bool} {f : T → Rho → Heap → Rs Fl} (I : List T → Rho → Heap → Prop) (B : Rho → Heap → Prop) (R : T → Heap → Prop)
    (step : ∀ x w ρ h, I (x :: w) ρ h → ok h = true ∧ Wp (f x ρ h) E (Lp (I w) B R)) (fin : ∀ ρ h, I [] ρ h → ok h = true ∧ B ρ h) : ∀ (w : List T) (ρ : Rho) (h : Heap), I w ρ h → Wp (loop ok f w ρ h) E fun fl h => match fl with | .nx ρ => B ρ h | .ret v => R v h | _ => False
  | [], ρ, h, i => by
    obtain ⟨o, b⟩ := fin ρ h i
    rw [loop, if_pos o]; exact Wp.ok_ b
  | x :: w, ρ, h, i => by
    obtain ⟨o, s⟩ := step x w ρ h i
    rw [loop, if_pos o]
    exact Wp.bind (s.mono (fun fl h p => by
      cases fl with
      | nx ρ => exact loop_sat I B R step fin w ρ h p
      | cnt ρ => exact loop_sat I B R step fin w ρ h p
      | brk ρ => exact Wp.ok_ p
      | ret v => exact Wp.ok_ p) fun _ _ e => e)
theorem sw_for {g : Tg} {k : String} (I : List T → Rho → Heap → Prop) (B : Rho → Heap → Prop) (w : Wp (evEs K es ρ h) E fun xs h => ∃ ys gs, walked k h xs = some (ys, gs) ∧ I ys ρ h ∧
      (∀ x w ρ h, I (x :: w) ρ h → still gs h = true ∧ Wp (withB (bindTg g x h ρ) fun ρ => exSs K ts ρ h) E (Lp (I w) B fun v h => Q (.ret v) h)) ∧
      (∀ ρ h, I [] ρ h → still gs h = true ∧ B ρ h)) (k2 : ∀ ρ h, B ρ h → Wp (exSs K ss ρ h) E Q) : Wp (exSs K (.for g k es ts :: ss) ρ h) E Q := by
  refine sw_step ?_; unfold exS
  exact Wp.bind (w.mono (fun xs h ⟨ys, gs, e, i, st, fi⟩ => by
    rw [e]
    exact (loop_sat I B (fun v h => Q (.ret v) h) st fi ys ρ h i).mono (fun fl h w => by
      cases fl with
      | nx ρ => exact k2 ρ h w
      | ret v => (first | exact w | exact Wp.mk w | exact w.un | exact w.unsome | exact w.unsome.un | exact w.unnone.elim | exact w.unstuck.elim | exact w.unok | exact w.unexc | exact False.elim w)
      | brk ρ => (first | exact w | exact Wp.mk w | exact w.un | exact w.unsome | exact w.unsome.un | exact w.unnone.elim | exact w.unstuck.elim | exact w.unok | exact w.unexc | (first | exact w | exact Wp.mk w | exact w.un | exact w.unsome | exact w.unsome.un | exact w.unnone.elim | exact w.unstuck.elim | exact w.unok | exact w.unexc | exact False.elim w))
      | cnt ρ => (first | exact w | exact Wp.mk w | exact w.un | exact w.unsome | exact w.unsome.un | exact w.unnone.elim | exact w.unstuck.elim | exact w.unok | exact w.unexc | (first | exact w | exact Wp.mk w | exact w.un | exact w.unsome | exact w.unsome.un | exact w.unnone.elim | exact w.unstuck.elim | exact w.unok | exact w.unexc | exact False.elim w))) fun _ _ e => e) fun _ _ e => e)
/-- over a range: what holds between two turns -/
theorem sw_forR {g : Tg} (N : Int) (I : Rho → Heap → Prop) (hN : N ≤ 1000000000000) (w : Wp (evEs K es ρ h) E fun xs h => ∃ j, xs = [.int j] ∧ -1000000000000 ≤ j ∧ j ≤ N ∧ I ρ h)
      (st : ∀ (m : Nat) ρ h, (m : Int) < N → I ρ h → Wp (withB (bindTg g (.int (m : Int)) h ρ) fun ρ => exSs K ts ρ h) E (Lp I I fun v h => Q (.ret v) h)) (k2 : ∀ ρ h, I ρ h → Wp (exSs K ss ρ h) E Q) : Wp (exSs K (.for g "range" es ts :: ss) ρ h) E Q := by
  refine sw_for (fun w ρ h => (∀ x ∈ w, ∃ m : Nat, x = .int (m : Int) ∧ (m : Int) < N) ∧ I ρ h) I (w.mono (fun xs h ⟨j, e, h1, h2, i⟩ => ?_) fun _ _ e => e) k2
  subst e
  refine ⟨_, _, range1 (by omega) (by omega), ⟨fun x hx => ?_, i⟩, fun x w ρ h ⟨hm, i⟩ => ⟨rfl, ?_⟩, fun ρ h ⟨_, i⟩ => ⟨rfl, i⟩⟩
  · obtain ⟨m, e, l⟩ := in_range hx
    exact ⟨m, e, by omega⟩
  · obtain ⟨m, rfl, l⟩ := hm x (by simp)
    exact (st m ρ h l i).mono (fun fl h p => by
      cases fl with
      | nx ρ => exact ⟨fun y hy => hm y (by simp [hy]), p⟩
      | cnt ρ => exact ⟨fun y hy => hm y (by simp [hy]), p⟩
      | brk ρ => exact p
      | ret v => exact p) fun _ _ e => e
/-- over a list that stays: what holds between two turns -/
theorem sw_forL {g : Tg} (I : Rho → Heap → Prop) {xs : List T} (w : Wp (evEs K es ρ h) E fun zs h => (zs = [.lst xs] ∨ zs = [.tup xs]) ∧ I ρ h)
      (st : ∀ x ρ h, x ∈ xs → I ρ h → Wp (withB (bindTg g x h ρ) fun ρ => exSs K ts ρ h) E (Lp I I fun v h => Q (.ret v) h)) (k2 : ∀ ρ h, I ρ h → Wp (exSs K ss ρ h) E Q) : Wp (exSs K (.for g "" es ts :: ss) ρ h) E Q := by
  refine sw_for (fun w ρ h => (∀ x ∈ w, x ∈ xs) ∧ I ρ h) I (w.mono (fun zs h ⟨hz, i⟩ => ?_) fun _ _ e => e) k2
  obtain ⟨z, rfl, hy⟩ : ∃ z, zs = [z] ∧ (z = .lst xs ∨ z = .tup xs) := by
    rcases hz with rfl | rfl
    · exact ⟨_, rfl, .inl rfl⟩
    · exact ⟨_, rfl, .inr rfl⟩
  refine ⟨xs, [(z, z)], ?_, ⟨fun x hx => hx, i⟩, fun x w ρ h ⟨hm, i⟩ => ⟨?_, ?_⟩, fun ρ h ⟨_, i⟩ => ⟨?_, i⟩⟩
  · rcases hy with rfl | rfl <;> rfl
  · rcases hy with rfl | rfl
    · exact still_lst
    · exact still_tup
  · exact (st x ρ h (hm x (by simp)) i).mono (fun fl h p => by
      cases fl with
      | nx ρ => exact ⟨fun y hy => hm y (by simp [hy]), p⟩
      | cnt ρ => exact ⟨fun y hy => hm y (by simp [hy]), p⟩
      | brk ρ => exact p
      | ret v => exact p) fun _ _ e => e
  · rcases hy with rfl | rfl
    · exact still_lst
    · exact still_tup
theorem sw_for0 {g : Tg} {k : String} (w : Wp (evEs K es ρ h) E fun xs h => Ob (walked k h xs) fun p => Wp (loop (still p.2) (fun x ρ h => withB (bindTg g x h ρ) fun ρ => exSs K ts ρ h) p.1 ρ h) E (Nxt K ss E Q)) : Wp (exSs K (.for g k es ts :: ss) ρ h) E Q := by
  refine sw_step ?_; unfold exS
  exact Wp.bind (w.mono (fun xs h w => by
    cases e : walked k h xs with
    | none => rw [e] at w; (first | exact w | exact Wp.mk w | exact w.un | exact w.unsome | exact w.unsome.un | exact w.unnone.elim | exact w.unstuck.elim | exact w.unok | exact w.unexc | (first | exact w | exact Wp.mk w | exact w.un | exact w.unsome | exact w.unsome.un | exact w.unnone.elim | exact w.unstuck.elim | exact w.unok | exact w.unexc | exact False.elim w))
    | some p => rw [e] at w; (first | exact w | exact Wp.mk w | exact w.un | exact w.unsome | exact w.unsome.un | exact w.unnone.elim | exact w.unstuck.elim | exact w.unok | exact w.unexc | exact False.elim w)) fun _ _ e => e)
theorem lw_nil {ok : Heap → Bool} {f : T → Rho → Heap → Rs Fl} (s : ok h = true) (w : Q (.nx ρ) h) : Wp (loop ok f [] ρ h) E Q := by
  rw [loop, if_pos s]; (first | exact w | exact Wp.mk w | exact w.un | exact w.unsome | exact w.unsome.un | exact w.unnone.elim | exact w.unstuck.elim | exact w.unok | exact w.unexc | exact False.elim w)
theorem lw_cons {ok : Heap → Bool} {g : Tg} {xs : List T} (s : ok h = true) (w : Wp (withB (bindTg g x h ρ) fun ρ => exSs K ts ρ h) E (Lp (fun ρ h => Wp (loop ok (fun x ρ h => withB (bindTg g x h ρ) fun ρ => exSs K ts ρ h) xs ρ h) E Q) (fun ρ h => Q (.nx ρ) h) fun v h => Q (.ret v) h)) : Wp (loop ok (fun x ρ h => withB (bindTg g x h ρ) fun ρ => exSs K ts ρ h) (x :: xs) ρ h) E Q := by
  rw [loop, if_pos s]
  exact Wp.bind (w.mono (fun fl h p => by cases fl <;> first | exact p | exact Wp.ok_ p) fun _ _ e => e)
/-- what a def gives -/
def Fp (Q : T → Heap → Prop) (fl : Fl) (h : Heap) : Prop := match fl with
  | .ret v => Q v h
  | .nx _ => Q .non h
  | _ => False
theorem fp_ret {Q : T → Heap → Prop} (w : Q x h) : Fp Q (.ret x) h := w
theorem fp_nx {Q : T → Heap → Prop} (w : Q .non h) : Fp Q (.nx ρ) h := w
theorem sw_run {P : Prog} {f : String} {d : Fn} {n : Nat} {xs : List T} {Q : T → Heap → Prop} (e : P.fn f = some d) (hl : xs.length = d.np) (hm : d.mode = 0) (w : Wp (exSs (cnOf P n) d.body (xs.map some ++ List.replicate (d.ns - d.np) none) h) E (Fp Q)) : Wp (call P (n + 1) f xs h) E Q := by
  rw [call_run e, runFn, if_pos hl]
  exact Wp.bind (w.mono (fun fl h w => by
    cases fl with
    | nx ρ => simp only [leave, hm]; (first | exact w | exact Wp.mk w | exact w.un | exact w.unsome | exact w.unsome.un | exact w.unnone.elim | exact w.unstuck.elim | exact w.unok | exact w.unexc | exact False.elim w)
    | ret v => simp only [leave, hm]; (first | exact w | exact Wp.mk w | exact w.un | exact w.unsome | exact w.unsome.un | exact w.unnone.elim | exact w.unstuck.elim | exact w.unok | exact w.unexc | exact False.elim w)
    | brk ρ => (first | exact w | exact Wp.mk w | exact w.un | exact w.unsome | exact w.unsome.un | exact w.unnone.elim | exact w.unstuck.elim | exact w.unok | exact w.unexc | (first | exact w | exact Wp.mk w | exact w.un | exact w.unsome | exact w.unsome.un | exact w.unnone.elim | exact w.unstuck.elim | exact w.unok | exact w.unexc | exact False.elim w))
    | cnt ρ => (first | exact w | exact Wp.mk w | exact w.un | exact w.unsome | exact w.unsome.un | exact w.unnone.elim | exact w.unstuck.elim | exact w.unok | exact w.unexc | (first | exact w | exact Wp.mk w | exact w.un | exact w.unsome | exact w.unsome.un | exact w.unnone.elim | exact w.unstuck.elim | exact w.unok | exact w.unexc | exact False.elim w))) fun _ _ e => e)
/-- what a def of mode 1 gives: the heap as it was -/
def Fq (h0 : Heap) (Q : T → Heap → Prop) (v : T) (h : Heap) : Prop := h.take h0.length = h0 ∧ v.within h0.length = true ∧ Q v h0
theorem sw_run1 {P : Prog} {f : String} {d : Fn} {n : Nat} {xs : List T} {Q : T → Heap → Prop} (e : P.fn f = some d) (hl : xs.length = d.np) (hm : d.mode = 1) (w : Wp (exSs (cnOf P n) d.body (xs.map some ++ List.replicate (d.ns - d.np) none) h) E (Fp (Fq h Q))) : Wp (call P (n + 1) f xs h) E Q := by
  rw [call_run e, runFn, if_pos hl]
  have key : ∀ v h', Fq h Q v h' → Wp (leave d.mode h h' v) E Q := fun v h' ⟨a, b, q⟩ => by
    rw [hm]
    show Wp (if 1 = 1 then (if h'.take h.length = h ∧ v.within h.length = true then .ok v h else .stuck) else _) E Q
    rw [if_pos rfl, if_pos ⟨a, b⟩]
    exact Wp.ok_ q
  exact Wp.bind (w.mono (fun fl h' w => by
    cases fl with
    | nx ρ => exact key _ _ w
    | ret v => exact key _ _ w
    | brk ρ => (first | exact w | exact Wp.mk w | exact w.un | exact w.unsome | exact w.unsome.un | exact w.unnone.elim | exact w.unstuck.elim | exact w.unok | exact w.unexc | (first | exact w | exact Wp.mk w | exact w.un | exact w.unsome | exact w.unsome.un | exact w.unnone.elim | exact w.unstuck.elim | exact w.unok | exact w.unexc | exact False.elim w))
    | cnt ρ => (first | exact w | exact Wp.mk w | exact w.un | exact w.unsome | exact w.unsome.un | exact w.unnone.elim | exact w.unstuck.elim | exact w.unok | exact w.unexc | (first | exact w | exact Wp.mk w | exact w.un | exact w.unsome | exact w.unsome.un | exact w.unnone.elim | exact w.unstuck.elim | exact w.unok | exact w.unexc | exact False.elim w))) fun _ _ e => e)
/-! comprehensions -/
theorem turns_sat {α : Type} {ok : Heap → Bool} {f : T → Heap → Rs (Option α)} (I : List T → List α → Heap → Prop) {QT : List α → Heap → Prop}
    (step : ∀ x w acc h, I (x :: w) acc h → ok h = true ∧ Wp (f x h) E fun o h => I w (addO acc o) h) (fin : ∀ acc h, I [] acc h → ok h = true ∧ QT acc h) : ∀ (w : List T) (acc : List α) (h : Heap), I w acc h → Wp (turns ok f w acc h) E QT
  | [], acc, h, i => by
    obtain ⟨o, b⟩ := fin acc h i
    rw [turns, if_pos o]; exact Wp.ok_ b
  | x :: w, acc, h, i => by
    obtain ⟨o, s⟩ := step x w acc h i
    rw [turns, if_pos o]
    exact Wp.bind (s.mono (fun y h p => turns_sat I step fin w _ h p) fun _ _ e => e)
theorem calm_sat {α : Type} {r : Rs α} {QT : α → Heap → Prop} (w : Wp r NoX QT) : Wp r.calm E QT := by
  cases r
  · (first | exact w | exact Wp.mk w | exact w.un | exact w.unsome | exact w.unsome.un | exact w.unnone.elim | exact w.unstuck.elim | exact w.unok | exact w.unexc | exact False.elim w)
  · (first | exact w | exact Wp.mk w | exact w.un | exact w.unsome | exact w.unsome.un | exact w.unnone.elim | exact w.unstuck.elim | exact w.unok | exact w.unexc | (first | exact w | exact Wp.mk w | exact w.un | exact w.unsome | exact w.unsome.un | exact w.unnone.elim | exact w.unstuck.elim | exact w.unok | exact w.unexc | exact False.elim w))
  · (first | exact w | exact Wp.mk w | exact w.un | exact w.unsome | exact w.unsome.un | exact w.unnone.elim | exact w.unstuck.elim | exact w.unok | exact w.unexc | (first | exact w | exact Wp.mk w | exact w.un | exact w.unsome | exact w.unsome.un | exact w.unnone.elim | exact w.unstuck.elim | exact w.unok | exact w.unexc | exact False.elim w))
theorem ifs_nil_ {QB : Bool → Heap → Prop} (w : QB true h) : Wp (evIfs K [] ρ h) E QB := Wp.ok ifs_nil' w
theorem ifs_one_ {QB : Bool → Heap → Prop} (w : Wp (evE K a ρ h) E fun x h => Ob (truth h x) fun r => QB r h) : Wp (evIfs K [a] ρ h) E QB := by
  unfold evIfs; exact Wp.bind (w.mono (fun x h w => by
    cases e : truth h x with
    | none => rw [e] at w; (first | exact w | exact Wp.mk w | exact w.un | exact w.unsome | exact w.unsome.un | exact w.unnone.elim | exact w.unstuck.elim | exact w.unok | exact w.unexc | (first | exact w | exact Wp.mk w | exact w.un | exact w.unsome | exact w.unsome.un | exact w.unnone.elim | exact w.unstuck.elim | exact w.unok | exact w.unexc | exact False.elim w))
    | some r =>
      rw [e] at w
      cases r
      · (first | exact w | exact Wp.mk w | exact w.un | exact w.unsome | exact w.unsome.un | exact w.unnone.elim | exact w.unstuck.elim | exact w.unok | exact w.unexc | exact False.elim w)
      · exact ifs_nil_ w.unsome) fun _ _ e => e)
/-- a turn of a comprehension: kept or not -/
theorem sv_comp {m : Bool} {own : List Nat} {tg : Tg} {k : String} {ifs : List LE} {Q : T → Heap → Prop}
    (w : Wp (evEs K es ρ h) E fun xs h => ∃ ys gs, ∃ I : List T → List T → Heap → Prop, walked k h xs = some (ys, gs) ∧ I ys [] h ∧
      (∀ x w acc h, I (x :: w) acc h → still gs h = true ∧ Wp (withB (bindTg tg x h (wipe ρ own)) fun ρ => evIfs K ifs ρ h) NoX fun r h => Br r (Wp (withB (bindTg tg x h (wipe ρ own)) fun ρ => evE K a ρ h) NoX fun y h => I w (acc ++ [y]) h) (I w acc h)) ∧
      (∀ acc h, I [] acc h → still gs h = true ∧ acc.length ≤ top ∧ Wp (if m then newO h (.lst acc) else .ok (.lst acc) h) E Q))
    (hb : ∀ x h h', bindTg tg x h (wipe ρ own) = bindTg tg x h' (wipe ρ own)) :
    Wp (evE K (.comp m own a tg k es ifs) ρ h) E Q := by
  unfold evE
  refine Wp.bind (w.mono (fun xs h ⟨ys, gs, I, e, i, st, fi⟩ => ?_) fun _ _ e => e)
  rw [e]
  refine Wp.bind (turns_sat I (fun x w acc h i => ?_) (fun acc h i => ?_) ys [] h i)
  · obtain ⟨s, t⟩ := st x w acc h i
    refine ⟨s, ?_⟩
    cases eb : bindTg tg x h (wipe ρ own) with
    | none => rw [eb] at t; exact t.unstuck.elim
    | some ρ1 =>
      rw [eb] at t
      refine calm_sat (Wp.bind (Wp.mono t (fun r h2 t => ?_) fun _ _ e => e))
      cases r
      · exact t
      · exact Wp.bind (Wp.mono (by replace t := t.un; rw [hb x h2 h, eb] at t; exact t) (fun y h t => Wp.ok_ t) fun _ _ e => e)
  · obtain ⟨s, l, t⟩ := fi acc h i
    refine ⟨s, ?_⟩
    rw [if_pos l]
    exact t
end
section
variable {K : Cn} {ρ : Rho} {h : Heap} {a : LE} {E : T → Heap → Prop} {Q : T → Heap → Prop} {es : List LE}
/-- a comprehension whose turns leave the heap as it is -/
theorem sv_compF {own : List Nat} {i : Nat} {k : String} {ifs : List LE} (g : T → Option T)
    (w : Wp (evEs K es ρ h) E fun xs h => ∃ ys gs, walked k h xs = some (ys, gs) ∧ still gs h = true ∧
      (∀ x ∈ ys, Wp (evIfs K ifs ((wipe ρ own).set i (some x)) h) NoX fun r h' => h' = h ∧ Br r (Wp (evE K a ((wipe ρ own).set i (some x)) h) NoX fun y h' => h' = h ∧ g x = some y) (g x = none)) ∧
      (ys.filterMap g).length ≤ top ∧ Q (.lst (ys.filterMap g)) h) :
    Wp (evE K (.comp false own a (.v i) k es ifs) ρ h) E Q := by
  refine sv_comp (w.mono (fun xs h1 ⟨ys, gs, e, s, st, l, q⟩ => ⟨ys, gs, fun w acc h' => h' = h1 ∧ acc ++ w.filterMap g = ys.filterMap g ∧ ∀ x ∈ w, x ∈ ys, e, ⟨rfl, rfl, fun _ hx => hx⟩, fun x w acc h' ⟨eh, ea, hw⟩ => ?_, fun acc h' ⟨eh, ea, _⟩ => ?_⟩) fun _ _ e => e) (fun _ _ _ => rfl)
  · subst eh
    refine ⟨s, (st x (hw x (by simp))).mono (fun r h2 ⟨eh, b⟩ => ?_) fun _ _ e => e⟩
    subst eh
    cases r with
    | true => exact br_t (Wp.mono b.un (fun y h3 ⟨eh, eg⟩ => ⟨eh, by rw [← ea, List.filterMap_cons_some eg, List.append_assoc]; rfl, fun z hz => hw z (by simp [hz])⟩) fun _ _ e => e)
    | false => exact br_f ⟨rfl, by rw [← ea, List.filterMap_cons_none b.un], fun z hz => hw z (by simp [hz])⟩
  · subst eh
    rw [List.filterMap_nil, List.append_nil] at ea
    subst ea
    exact ⟨s, l, Wp.ok_ q⟩
/-- a comprehension without conditions, by what holds of its items -/
theorem sv_compD {own : List Nat} {i : Nat} {k : String} (R : T → Prop) (J : Heap → Prop)
    (w : Wp (evEs K es ρ h) E fun xs h => ∃ ys gs, walked k h xs = some (ys, gs) ∧ ys.length ≤ top ∧ J h ∧ (∀ h, J h → still gs h = true) ∧
      (∀ x ∈ ys, ∀ h, J h → Wp (evE K a ((wipe ρ own).set i (some x)) h) NoX fun y h' => R y ∧ J h') ∧
      (∀ zs h, zs.length = ys.length → (∀ z ∈ zs, R z) → J h → Q (.lst zs) h)) :
    Wp (evE K (.comp false own a (.v i) k es []) ρ h) E Q := by
  refine sv_comp (w.mono (fun xs h1 ⟨ys, gs, e, l, j, s, st, q⟩ => ⟨ys, gs, fun w acc h' => J h' ∧ acc.length + w.length = ys.length ∧ (∀ z ∈ acc, R z) ∧ ∀ x ∈ w, x ∈ ys, e, ⟨j, by simp, by simp, fun _ hx => hx⟩, fun x w acc h' ⟨jh, ea, ra, hw⟩ => ?_, fun acc h' ⟨jh, ea, ra, _⟩ => ?_⟩) fun _ _ e => e) (fun _ _ _ => rfl)
  · refine ⟨s _ jh, show Wp (evIfs K [] ((wipe ρ own).set i (some x)) h') NoX _ from ifs_nil_ ?_⟩
    refine br_t ((st x (hw x (by simp)) _ jh).mono (fun y h2 ⟨ry, jy⟩ => ⟨jy, by simp at ea ⊢; omega, fun z hz => ?_, fun z hz => hw z (by simp [hz])⟩) fun _ _ e => e)
    rcases List.mem_append.mp hz with hz | hz
    · exact ra z hz
    · rw [List.mem_singleton.mp hz]; exact ry
  · simp at ea
    exact ⟨s _ jh, by omega, Wp.ok_ (q acc h' ea ra jh)⟩
end
/-! guards: what kind of goal it is -/
theorem gd_ob {α : Type} {o : Option α} {P : α → Prop} (w : Ob o P) : Ob o P := w
theorem gd_ev {K : Cn} {a : LE} {ρ : Rho} {h : Heap} {E Q : T → Heap → Prop} (w : Wp (evE K a ρ h) E Q) : Wp (evE K a ρ h) E Q := w
theorem gd_es {K : Cn} {a : List LE} {ρ : Rho} {h : Heap} {E : T → Heap → Prop} {Q : List T → Heap → Prop} (w : Wp (evEs K a ρ h) E Q) : Wp (evEs K a ρ h) E Q := w
theorem gd_xs {K : Cn} {a : List LS} {ρ : Rho} {h : Heap} {E : T → Heap → Prop} {Q : Fl → Heap → Prop} (w : Wp (exSs K a ρ h) E Q) : Wp (exSs K a ρ h) E Q := w
theorem gd_set {K : Cn} {j : Nat} {e : LE} {a : List LS} {ρ : Rho} {h : Heap} {E : T → Heap → Prop} {Q : Fl → Heap → Prop} (w : Wp (exSs K (.set j e :: a) ρ h) E Q) : Wp (exSs K (.set j e :: a) ρ h) E Q := w
theorem gd_bin {o : BOp} {h : Heap} {x y : T} {P : T → Prop} (w : Ob (binop o h x y) P) : Ob (binop o h x y) P := w
theorem gd_cmp {o : COp} {h : Heap} {x y : T} {P : Bool → Prop} (w : Ob (cmpop o h x y) P) : Ob (cmpop o h x y) P := w
theorem gd_tr {h : Heap} {x : T} {P : Bool → Prop} (w : Ob (truth h x) P) : Ob (truth h x) P := w
theorem gd_bf {b : String} {h : Heap} {x : List T} {P : T → Prop} (w : Ob (bfun b h x) P) : Ob (bfun b h x) P := w
/-! operations -/
section
variable {h : Heap} {i j : Int} {x y : T} {P : T → Prop} {R : Bool → Prop}
theorem ob_add (w : P (.int (i + j))) : Ob (binop .add h (.int i) (.int j)) P := Ob.of rfl w
theorem ob_sub (w : P (.int (i - j))) : Ob (binop .sub h (.int i) (.int j)) P := Ob.of rfl w
theorem ob_mulL (hs : -(2 ^ 64) < i ∧ i < 2 ^ 64) (w : P (.int (i * j))) : Ob (binop .mul h (.int i) (.int j)) P := Ob.of (b_mul (by rw [show small64 i = true from decide_eq_true hs, Bool.true_or])) w
theorem ob_mulR (hs : -(2 ^ 64) < j ∧ j < 2 ^ 64) (w : P (.int (i * j))) : Ob (binop .mul h (.int i) (.int j)) P := Ob.of (b_mul (by rw [show small64 j = true from decide_eq_true hs, Bool.or_true])) w
theorem ob_mod (hj : j ≠ 0) (w : P (.int (i.fmod j))) : Ob (binop .mod h (.int i) (.int j)) P := Ob.of (b_mod hj) w
theorem ob_fdiv (hj : j ≠ 0) (hl : j.natAbs.log2 < 9000) (w : P (.int (i.fdiv j))) : Ob (binop .fdiv h (.int i) (.int j)) P := Ob.of (b_fdiv hj hl) w
theorem ob_pow109 (w : P (.int 1000000000)) : Ob (binop .pow h (.int 10) (.int 9)) P := Ob.of (b_pow (n := 9) (by decide +kernel)) w
theorem ob_powI (hj : 0 ≤ j) (hl : (i.natAbs.log2 + 1) * j.toNat ≤ 134217728) (w : P (.int (i ^ j.toNat))) : Ob (binop .pow h (.int i) (.int j)) P := by
  obtain ⟨n, rfl⟩ := Int.eq_ofNat_of_zero_le hj
  exact Ob.of (b_pow (n := n) (by simpa using hl)) (by simpa using w)
theorem ob_addL {xs ys : List T} (hl : xs.length + ys.length ≤ top) (w : P (.lst (xs ++ ys))) : Ob (binop .add h (.lst xs) (.lst ys)) P := Ob.of (cat_lst hl) w
theorem ob_addT {xs ys : List T} (hl : xs.length + ys.length ≤ top) (w : P (.tup (xs ++ ys))) : Ob (binop .add h (.tup xs) (.tup ys)) P := Ob.of (cat_tup hl) w
theorem ob_addS {xs ys : List Nat} (hl : xs.length + ys.length ≤ top) (w : P (.str (xs ++ ys))) : Ob (binop .add h (.str xs) (.str ys)) P := Ob.of (show (if xs.length + ys.length ≤ top then some (T.str (xs ++ ys)) else none) = _ by rw [if_pos hl]) w
theorem oc_lt (w : R (decide (i < j))) : Ob (cmpop .lt h (.int i) (.int j)) R := Ob.of rfl w
theorem oc_le (w : R (decide (i ≤ j))) : Ob (cmpop .le h (.int i) (.int j)) R := Ob.of rfl w
theorem oc_gt (w : R (decide (j < i))) : Ob (cmpop .gt h (.int i) (.int j)) R := Ob.of rfl w
theorem oc_ge (w : R (decide (j ≤ i))) : Ob (cmpop .ge h (.int i) (.int j)) R := Ob.of rfl w
theorem oc_eq (w : R (decide (i = j))) : Ob (cmpop .eq h (.int i) (.int j)) R := Ob.of eq_int w
theorem ne_int {h : Heap} {i j : Int} : cmpop .ne h (.int i) (.int j) = some (!decide (i = j)) := by
  rw [ne_fit rfl rfl (fit_int i) (fit_int j) (fun s e => by cases e)]
  show some (!(i == j)) = _
  rw [Bool.beq_eq_decide_eq]
theorem oc_ne (w : R (!decide (i = j))) : Ob (cmpop .ne h (.int i) (.int j)) R := Ob.of ne_int w
theorem oc_eqS {a b : List Nat} (w : R (a == b)) : Ob (cmpop .eq h (.str a) (.str b)) R := Ob.of eq_str w
theorem oc_neS {a b : List Nat} (w : R (!(a == b))) : Ob (cmpop .ne h (.str a) (.str b)) R := Ob.of ne_str w
theorem oc_eqB {a b : Bool} (w : R (a == b)) : Ob (cmpop .eq h (.bl a) (.bl b)) R := Ob.of eq_bl w
theorem oc_neB {a b : Bool} (w : R (!(a == b))) : Ob (cmpop .ne h (.bl a) (.bl b)) R := Ob.of ne_bl w
theorem oc_is (w : R (decide (x = T.non))) : Ob (cmpop .is h x .non) R := Ob.of c_isN w
theorem oc_isn (w : R (!decide (x = T.non))) : Ob (cmpop .isn h x .non) R := Ob.of c_nN w
theorem ot_bl {b : Bool} (w : R b) : Ob (truth h (.bl b)) R := Ob.of rfl w
theorem ot_non (w : R false) : Ob (truth h .non) R := Ob.of rfl w
theorem ot_int (w : R (!decide (i = 0))) : Ob (truth h (.int i)) R := Ob.of (show some (i != 0) = _ by rw [bne, Bool.beq_eq_decide_eq]) w
theorem ot_str {s : List Nat} (hl : s.length ≤ top) (w : R (!s.isEmpty)) : Ob (truth h (.str s)) R := Ob.of (show (if s.length ≤ top then some (!s.isEmpty) else none) = _ by rw [if_pos hl]) w
theorem ot_lst {xs : List T} (w : R (!xs.isEmpty)) : Ob (truth h (.lst xs)) R := Ob.of rfl w
theorem ot_tup {xs : List T} (w : R (!xs.isEmpty)) : Ob (truth h (.tup xs)) R := Ob.of rfl w
theorem ow_lst {xs : List T} {P : List T × List (T × T) → Prop} (w : P (xs, [(.lst xs, .lst xs)])) : Ob (walked "" h [.lst xs]) P := Ob.of walk_lst w
theorem ow_tup {xs : List T} {P : List T × List (T × T) → Prop} (w : P (xs, [(.tup xs, .tup xs)])) : Ob (walked "" h [.tup xs]) P := Ob.of walk_tup w
theorem ow_range {P : List T × List (T × T) → Prop} (hj : -(2 ^ 62) ≤ j ∧ j < 2 ^ 62) (w : P (rangeT 0 j, [])) : Ob (walked "range" h [.int j]) P := Ob.of (range1 hj.1 hj.2) w
theorem isin_tup {ys : List T} : cmpop .isin h x (.tup ys) = if x.fit && T.fits ys then some (memT x ys) else none := by
  unfold cmpop
  cases view h x with
  | none => rfl
  | some v => cases v <;> rfl
theorem isin_lst {ys : List T} : cmpop .isin h x (.lst ys) = if x.fit && T.fits ys then some (memT x ys) else none := by
  unfold cmpop
  cases view h x with
  | none => rfl
  | some v => cases v <;> rfl
theorem nin_tup {ys : List T} : cmpop .nin h x (.tup ys) = if x.fit && T.fits ys then some (!memT x ys) else none := by
  unfold cmpop
  cases view h x with
  | none => rfl
  | some v => cases v <;> rfl
theorem nin_lst {ys : List T} : cmpop .nin h x (.lst ys) = if x.fit && T.fits ys then some (!memT x ys) else none := by
  unfold cmpop
  cases view h x with
  | none => rfl
  | some v => cases v <;> rfl
theorem isin_dct {ks vs : List T} : cmpop .isin h x (.dct ks vs) = if okKey ks x then some (memT x ks) else none := by
  unfold cmpop
  cases view h x with
  | none => rfl
  | some v => cases v <;> rfl
theorem nin_dct {ks vs : List T} : cmpop .nin h x (.dct ks vs) = if okKey ks x then some (!memT x ks) else none := by
  unfold cmpop
  cases view h x with
  | none => rfl
  | some v => cases v <;> rfl
theorem oc_inT {ys : List T} (hx : x.fit = true) (hy : T.fits ys = true) (w : R (memT x ys)) : Ob (cmpop .isin h x (.tup ys)) R := Ob.of (by rw [isin_tup, hx, hy]; rfl) w
theorem oc_inL {ys : List T} (hx : x.fit = true) (hy : T.fits ys = true) (w : R (memT x ys)) : Ob (cmpop .isin h x (.lst ys)) R := Ob.of (by rw [isin_lst, hx, hy]; rfl) w
theorem oc_ninT {ys : List T} (hx : x.fit = true) (hy : T.fits ys = true) (w : R (!memT x ys)) : Ob (cmpop .nin h x (.tup ys)) R := Ob.of (by rw [nin_tup, hx, hy]; rfl) w
theorem oc_ninL {ys : List T} (hx : x.fit = true) (hy : T.fits ys = true) (w : R (!memT x ys)) : Ob (cmpop .nin h x (.lst ys)) R := Ob.of (by rw [nin_lst, hx, hy]; rfl) w
theorem oc_inD {ks vs : List T} (hx : okKey ks x = true) (w : R (memT x ks)) : Ob (cmpop .isin h x (.dct ks vs)) R := Ob.of (by rw [isin_dct, hx]; rfl) w
theorem oc_ninD {ks vs : List T} (hx : okKey ks x = true) (w : R (!memT x ks)) : Ob (cmpop .nin h x (.dct ks vs)) R := Ob.of (by rw [nin_dct, hx]; rfl) w
theorem nth_at {α : Type} {xs : List α} {i : Nat} {x : α} (e : xs[i]? = some x) : nth xs (i : Int) = some x := by
  have hi := (List.getElem?_eq_some_iff.mp e).1
  have hp : place xs.length (i : Int) = some i := place_nat hi
  unfold nth
  rw [hp]
  exact e
theorem nth0 {α : Type} {xs : List α} {a : α} : nth (a :: xs) 0 = some a := nth_at (i := 0) rfl
theorem nth1 {α : Type} {xs : List α} {a b : α} : nth (a :: b :: xs) 1 = some b := nth_at (i := 1) rfl
theorem nth2 {α : Type} {xs : List α} {a b c : α} : nth (a :: b :: c :: xs) 2 = some c := nth_at (i := 2) rfl
theorem nth3 {α : Type} {xs : List α} {a b c d : α} : nth (a :: b :: c :: d :: xs) 3 = some d := nth_at (i := 3) rfl
theorem ob_ixL {xs : List T} (e : nth xs i = some x) (w : P x) : Ob (index h (.lst xs) (.int i)) P := Ob.of (show nth xs i = _ from e) w
theorem ob_ixT {xs : List T} (e : nth xs i = some x) (w : P x) : Ob (index h (.tup xs) (.int i)) P := Ob.of (show nth xs i = _ from e) w
theorem ob_ixD {ks vs : List T} {k : T} (hk : okKey ks k = true) (e : kget ks vs k = some x) (w : P x) : Ob (index h (.dct ks vs) k) P := by
  refine Ob.of (a := x) ?_ w
  show (if okKey ks k then kget ks vs k else none) = _
  rw [if_pos hk, e]
theorem op_nil {S : Option Int → Prop} (w : S none) : Ob (partOf []) S := Ob.of rfl w
theorem op_one {S : Option Int → Prop} (w : S (some i)) : Ob (partOf [.int i]) S := Ob.of rfl w
theorem ob_slcL {xs : List T} {l u : Option Int} (w : P (.lst (cut xs l u))) : Ob (slice h (.lst xs) l u) P := Ob.of rfl w
theorem ob_slcT {xs : List T} {l u : Option Int} (w : P (.tup (cut xs l u))) : Ob (slice h (.tup xs) l u) P := Ob.of rfl w
theorem ob_slcS {xs : List Nat} {l u : Option Int} (hl : xs.length ≤ top) (w : P (.str (cut xs l u))) : Ob (slice h (.str xs) l u) P := by
  refine Ob.of (show (if xs.length ≤ top then some (T.str (cut xs l u)) else none) = _ from ?_) w
  rw [if_pos hl]
theorem bm_lower {s : List Nat} {E : T → Heap → Prop} {Q : T → Heap → Prop} (hl : s.length ≤ 5592405) (w : Q (.str (lowered s)) h) : Wp (bmeth "lower" (.str s) [] h) E Q := by
  refine Wp.ok (show Rs.of (if s.length ≤ 5592405 then some (T.str (lowered s)) else none) h = _ from ?_) w
  rw [if_pos hl]; rfl
theorem bm_str {m : String} {s : List Nat} {xs : List T} {z : T} {E : T → Heap → Prop} {Q : T → Heap → Prop} (hm : strMs.contains m = true) (ho : view h x = some (.str s)) (e : smeth m h s xs = some z) (w : Q z h) : Wp (bmeth m x xs h) E Q := by
  refine Wp.ok (a := z) (h := h) ?_ w
  unfold bmeth
  rw [if_pos hm, ho]
  simp only [e]
  rfl
theorem bm_append {n : Nat} {ys : List T} {E : T → Heap → Prop} {Q : T → Heap → Prop} (e : h[n]? = some (.lst ys)) (hl : ys.length < top) (w : Q .non (h.set n (.lst (ys ++ [x])))) : Wp (bmeth "append" (.loc n) [x] h) E Q := by
  refine Wp.ok (show (match h[n]? with | some (.lst ys) => if ys.length < top then Rs.ok T.non (h.set n (.lst (ys ++ [x]))) else .stuck | _ => .stuck) = _ from ?_) w
  rw [e]; simp only [if_pos hl]
theorem bm_extend {n : Nat} {ys zs : List T} {E : T → Heap → Prop} {Q : T → Heap → Prop} (e : h[n]? = some (.lst ys)) (e2 : view h x = some (.lst zs)) (hx : x ≠ .loc n) (hl : ys.length + zs.length ≤ top) (w : Q .non (h.set n (.lst (ys ++ zs)))) : Wp (bmeth "extend" (.loc n) [x] h) E Q := by
  refine Wp.ok (show (match h[n]?, view h x with | some (.lst ys), some (.lst zs) => if x ≠ T.loc n ∧ ys.length + zs.length ≤ top then Rs.ok T.non (h.set n (.lst (ys ++ zs))) else .stuck | _, _ => .stuck) = _ from ?_) w
  rw [e, e2]; simp only; rw [if_pos ⟨hx, hl⟩]
theorem bm_get2 {ks vs : List T} {k y : T} {E : T → Heap → Prop} {Q : T → Heap → Prop} (hk : okKey ks k = true) (w : Q ((kget ks vs k).getD y) h) : Wp (bmeth "get" (.dct ks vs) [k, y] h) E Q := by
  refine Wp.ok (show (if okKey ks k then Rs.ok ((kget ks vs k).getD y) h else .stuck) = _ from ?_) w
  rw [if_pos hk]
theorem bm_get1 {ks vs : List T} {k : T} {E : T → Heap → Prop} {Q : T → Heap → Prop} (hk : okKey ks k = true) (w : Q ((kget ks vs k).getD .non) h) : Wp (bmeth "get" (.dct ks vs) [k] h) E Q := by
  refine Wp.ok (show (if okKey ks k then Rs.ok ((kget ks vs k).getD .non) h else .stuck) = _ from ?_) w
  rw [if_pos hk]
theorem od_mk {xs ks vs : List T} {S : List T × List T → Prop} (e : dictOf xs = some (ks, vs)) (w : S (ks, vs)) : Ob (dictOf xs) S := Ob.of e w
theorem ob_len {xs : List T} (w : P (.int xs.length)) : Ob (bfun "len" h [.lst xs]) P := Ob.of bf_len w
theorem ob_lenT {xs : List T} (w : P (.int xs.length)) : Ob (bfun "len" h [.tup xs]) P := Ob.of len_tup w
theorem ob_abs (w : P (.int (if i < 0 then -i else i))) : Ob (bfun "abs" h [.int i]) P := Ob.of rfl w
theorem ob_max2 (w : P (.int (if j > i then j else i))) : Ob (bfun "max" h [.int i, .int j]) P := Ob.of rfl w
theorem ob_min2 (w : P (.int (if j < i then j else i))) : Ob (bfun "min" h [.int i, .int j]) P := Ob.of rfl w
theorem ob_int (w : P (.int i)) : Ob (bfun "int" h [.int i]) P := Ob.of rfl w
theorem ob_intB {b : Bool} (w : P (.int (if b then 1 else 0))) : Ob (bfun "int" h [.bl b]) P := Ob.of rfl w
theorem ob_tupL {xs : List T} (w : P (.tup xs)) : Ob (bfun "tuple" h [.lst xs]) P := Ob.of rfl w
theorem ob_tupT {xs : List T} (w : P (.tup xs)) : Ob (bfun "tuple" h [.tup xs]) P := Ob.of rfl w
theorem ob_lstT {xs : List T} (w : P (.lst xs)) : Ob (bfun "list" h [.tup xs]) P := Ob.of rfl w
theorem ob_lstL {xs : List T} (w : P (.lst xs)) : Ob (bfun "list" h [.lst xs]) P := Ob.of rfl w
/-- what repr may be asked of -/
def T.tell (t : T) : Bool := t.pln && decide (t.depth ≤ 100) && t.showy && decide (t.rlen ≤ top)
theorem tell_bl (b : Bool) : (T.bl b).tell = true := by cases b <;> decide
theorem optAll_id {f : T → Option T} : ∀ {xs : List T}, (∀ x ∈ xs, f x = some x) → optAll f xs = some xs
  | [], _ => rfl
  | x :: xs, h => by
    show (f x).bind (fun y => (optAll f xs).map (y :: ·)) = _
    rw [h x (by simp), optAll_id fun y hy => h y (by simp [hy])]
    rfl
theorem plns_mem : ∀ {xs : List T} {x : T}, T.plns xs = true → x ∈ xs → x.pln = true ∧ x.depth ≤ T.depths xs
  | [], _, _, h => by simp at h
  | y :: ys, x, p, h => by
    simp only [T.plns, Bool.and_eq_true] at p
    simp only [T.depths]
    rcases List.mem_cons.mp h with rfl | h
    · exact ⟨p.1, by omega⟩
    · obtain ⟨a, b⟩ := plns_mem p.2 h
      exact ⟨a, by omega⟩
theorem deep_pln : ∀ (n : Nat) {t : T}, t.pln = true → t.depth < n → deep h n t = some t
  | 0, _, _, e => by omega
  | n + 1, t, p, e => by
    have all : ∀ {xs : List T}, T.plns xs = true → T.depths xs < n → optAll (deep h n) xs = some xs := fun p e => optAll_id fun x hx => by
      obtain ⟨a, b⟩ := plns_mem p hx
      exact deep_pln n a (by omega)
    cases t with
    | tup xs =>
      simp only [T.depth] at e
      show (optAll (deep h n) xs).map T.tup = _
      rw [all p (by omega)]; rfl
    | lst xs =>
      simp only [T.depth] at e
      show (optAll (deep h n) xs).map T.lst = _
      rw [all p (by omega)]; rfl
    | dct ks vs =>
      simp only [T.depth] at e
      simp only [T.pln, Bool.and_eq_true] at p
      show (optAll (deep h n) ks).bind (fun ks => (optAll (deep h n) vs).map fun vs => T.dct ks vs) = _
      rw [all p.1 (by omega), all p.2 (by omega)]; rfl
    | loc _ => cases p
    | fn _ => cases p
    | cls _ => cases p
    | exn _ _ => cases p
    | non => rfl
    | bl _ => rfl
    | int _ => rfl
    | str _ => rfl
theorem deep_view {x y : T} (hv : view h x = some y) (p : y.pln = true) (hd : y.depth ≤ 100) : deep h 200 x = some y := by
  have all : ∀ {xs : List T}, T.plns xs = true → T.depths xs < 199 → optAll (deep h 199) xs = some xs := fun p e => optAll_id fun x hx => by
    obtain ⟨a, b⟩ := plns_mem p hx
    exact deep_pln 199 a (by omega)
  cases x with
  | loc k =>
    simp only [view] at hv
    show (match h[k]? with
      | some (.lst xs) => (optAll (deep h 199) xs).map T.lst
      | some (.dct ks vs) => (optAll (deep h 199) ks).bind fun ks => (optAll (deep h 199) vs).map fun vs => T.dct ks vs
      | _ => none) = _
    cases e : h[k]? with
    | none => rw [e] at hv; cases hv
    | some o =>
      rw [e] at hv
      cases o with
      | lst xs =>
        cases hv
        simp only [T.depth] at hd
        show (optAll (deep h 199) xs).map T.lst = _
        rw [all p (by omega)]; rfl
      | dct ks vs =>
        cases hv
        simp only [T.depth] at hd
        simp only [T.pln, Bool.and_eq_true] at p
        show (optAll (deep h 199) ks).bind (fun ks => (optAll (deep h 199) vs).map fun vs => T.dct ks vs) = _
        rw [all p.1 (by omega), all p.2 (by omega)]; rfl
      | ins _ _ => cases hv
      | dead => cases hv
  | _ => cases hv; exact deep_pln 200 p (by omega)
theorem ob_reprD {x y : T} (hv : deep h 200 x = some y) (ht : y.tell = true) (w : P (.str y.shown)) : Ob (bfun "repr" h [x]) P := by
  refine Ob.of (show (match deep h 200 x with | some y => if y.tell then some (T.str y.shown) else none | none => none) = _ from ?_) w
  rw [hv]; simp only [ht]; rfl
theorem ob_repr {x y : T} (hv : view h x = some y) (ht : y.tell = true) (w : P (.str y.shown)) : Ob (bfun "repr" h [x]) P := by
  have t2 := ht
  simp only [T.tell, Bool.and_eq_true, decide_eq_true_eq] at t2
  exact ob_reprD (deep_view hv t2.1.1.1 t2.1.1.2) ht w
theorem ob_isiT {sub} {t : String} (e : isTy h sub x t = some true) (w : R true) : Ob (isTy h sub x t) R := Ob.of e w
theorem ob_isiF {sub} {t : String} (e : isTy h sub x t = some false) (w : R false) : Ob (isTy h sub x t) R := Ob.of e w
theorem ob_isi {sub} {t : String} {r : Bool} (e : isTy h sub x t = some r) (w : R r) : Ob (isTy h sub x t) R := Ob.of e w
end
section
variable {K : Cn} {h : Heap} {E : T → Heap → Prop} {Q : Fl → Heap → Prop} {ss : List LS}
theorem sw_set0 {e : LE} {r : Rho} {y : Option T} (w : Wp (evE K e (y :: r) h) E fun x h => Wp (exSs K ss (some x :: r) h) E Q) : Wp (exSs K (.set 0 e :: ss) (y :: r) h) E Q := sw_set w
theorem wb_0 {α : Type} {f : Rho → Rs α} {P : α → Heap → Prop} {x : T} {r : Rho} {y : Option T} (w : Wp (f (some x :: r)) E P) : Wp (withB (bindTg (.v 0) x h (y :: r)) f) E P := w
theorem sw_set1 {e : LE} {r : Rho} {y0 : Option T} {y : Option T} (w : Wp (evE K e (y0 :: y :: r) h) E fun x h => Wp (exSs K ss (y0 :: some x :: r) h) E Q) : Wp (exSs K (.set 1 e :: ss) (y0 :: y :: r) h) E Q := sw_set w
theorem wb_1 {α : Type} {f : Rho → Rs α} {P : α → Heap → Prop} {x : T} {r : Rho} {y0 : Option T} {y : Option T} (w : Wp (f (y0 :: some x :: r)) E P) : Wp (withB (bindTg (.v 1) x h (y0 :: y :: r)) f) E P := w
theorem sw_set2 {e : LE} {r : Rho} {y0 y1 : Option T} {y : Option T} (w : Wp (evE K e (y0 :: y1 :: y :: r) h) E fun x h => Wp (exSs K ss (y0 :: y1 :: some x :: r) h) E Q) : Wp (exSs K (.set 2 e :: ss) (y0 :: y1 :: y :: r) h) E Q := sw_set w
theorem wb_2 {α : Type} {f : Rho → Rs α} {P : α → Heap → Prop} {x : T} {r : Rho} {y0 y1 : Option T} {y : Option T} (w : Wp (f (y0 :: y1 :: some x :: r)) E P) : Wp (withB (bindTg (.v 2) x h (y0 :: y1 :: y :: r)) f) E P := w
theorem sw_set3 {e : LE} {r : Rho} {y0 y1 y2 : Option T} {y : Option T} (w : Wp (evE K e (y0 :: y1 :: y2 :: y :: r) h) E fun x h => Wp (exSs K ss (y0 :: y1 :: y2 :: some x :: r) h) E Q) : Wp (exSs K (.set 3 e :: ss) (y0 :: y1 :: y2 :: y :: r) h) E Q := sw_set w
theorem wb_3 {α : Type} {f : Rho → Rs α} {P : α → Heap → Prop} {x : T} {r : Rho} {y0 y1 y2 : Option T} {y : Option T} (w : Wp (f (y0 :: y1 :: y2 :: some x :: r)) E P) : Wp (withB (bindTg (.v 3) x h (y0 :: y1 :: y2 :: y :: r)) f) E P := w
theorem sw_set4 {e : LE} {r : Rho} {y0 y1 y2 y3 : Option T} {y : Option T} (w : Wp (evE K e (y0 :: y1 :: y2 :: y3 :: y :: r) h) E fun x h => Wp (exSs K ss (y0 :: y1 :: y2 :: y3 :: some x :: r) h) E Q) : Wp (exSs K (.set 4 e :: ss) (y0 :: y1 :: y2 :: y3 :: y :: r) h) E Q := sw_set w
theorem wb_4 {α : Type} {f : Rho → Rs α} {P : α → Heap → Prop} {x : T} {r : Rho} {y0 y1 y2 y3 : Option T} {y : Option T} (w : Wp (f (y0 :: y1 :: y2 :: y3 :: some x :: r)) E P) : Wp (withB (bindTg (.v 4) x h (y0 :: y1 :: y2 :: y3 :: y :: r)) f) E P := w
theorem sw_set5 {e : LE} {r : Rho} {y0 y1 y2 y3 y4 : Option T} {y : Option T} (w : Wp (evE K e (y0 :: y1 :: y2 :: y3 :: y4 :: y :: r) h) E fun x h => Wp (exSs K ss (y0 :: y1 :: y2 :: y3 :: y4 :: some x :: r) h) E Q) : Wp (exSs K (.set 5 e :: ss) (y0 :: y1 :: y2 :: y3 :: y4 :: y :: r) h) E Q := sw_set w
theorem wb_5 {α : Type} {f : Rho → Rs α} {P : α → Heap → Prop} {x : T} {r : Rho} {y0 y1 y2 y3 y4 : Option T} {y : Option T} (w : Wp (f (y0 :: y1 :: y2 :: y3 :: y4 :: some x :: r)) E P) : Wp (withB (bindTg (.v 5) x h (y0 :: y1 :: y2 :: y3 :: y4 :: y :: r)) f) E P := w
theorem sw_set6 {e : LE} {r : Rho} {y0 y1 y2 y3 y4 y5 : Option T} {y : Option T} (w : Wp (evE K e (y0 :: y1 :: y2 :: y3 :: y4 :: y5 :: y :: r) h) E fun x h => Wp (exSs K ss (y0 :: y1 :: y2 :: y3 :: y4 :: y5 :: some x :: r) h) E Q) : Wp (exSs K (.set 6 e :: ss) (y0 :: y1 :: y2 :: y3 :: y4 :: y5 :: y :: r) h) E Q := sw_set w
theorem wb_6 {α : Type} {f : Rho → Rs α} {P : α → Heap → Prop} {x : T} {r : Rho} {y0 y1 y2 y3 y4 y5 : Option T} {y : Option T} (w : Wp (f (y0 :: y1 :: y2 :: y3 :: y4 :: y5 :: some x :: r)) E P) : Wp (withB (bindTg (.v 6) x h (y0 :: y1 :: y2 :: y3 :: y4 :: y5 :: y :: r)) f) E P := w
theorem sw_set7 {e : LE} {r : Rho} {y0 y1 y2 y3 y4 y5 y6 : Option T} {y : Option T} (w : Wp (evE K e (y0 :: y1 :: y2 :: y3 :: y4 :: y5 :: y6 :: y :: r) h) E fun x h => Wp (exSs K ss (y0 :: y1 :: y2 :: y3 :: y4 :: y5 :: y6 :: some x :: r) h) E Q) : Wp (exSs K (.set 7 e :: ss) (y0 :: y1 :: y2 :: y3 :: y4 :: y5 :: y6 :: y :: r) h) E Q := sw_set w
theorem wb_7 {α : Type} {f : Rho → Rs α} {P : α → Heap → Prop} {x : T} {r : Rho} {y0 y1 y2 y3 y4 y5 y6 : Option T} {y : Option T} (w : Wp (f (y0 :: y1 :: y2 :: y3 :: y4 :: y5 :: y6 :: some x :: r)) E P) : Wp (withB (bindTg (.v 7) x h (y0 :: y1 :: y2 :: y3 :: y4 :: y5 :: y6 :: y :: r)) f) E P := w
theorem sw_set8 {e : LE} {r : Rho} {y0 y1 y2 y3 y4 y5 y6 y7 : Option T} {y : Option T} (w : Wp (evE K e (y0 :: y1 :: y2 :: y3 :: y4 :: y5 :: y6 :: y7 :: y :: r) h) E fun x h => Wp (exSs K ss (y0 :: y1 :: y2 :: y3 :: y4 :: y5 :: y6 :: y7 :: some x :: r) h) E Q) : Wp (exSs K (.set 8 e :: ss) (y0 :: y1 :: y2 :: y3 :: y4 :: y5 :: y6 :: y7 :: y :: r) h) E Q := sw_set w
theorem wb_8 {α : Type} {f : Rho → Rs α} {P : α → Heap → Prop} {x : T} {r : Rho} {y0 y1 y2 y3 y4 y5 y6 y7 : Option T} {y : Option T} (w : Wp (f (y0 :: y1 :: y2 :: y3 :: y4 :: y5 :: y6 :: y7 :: some x :: r)) E P) : Wp (withB (bindTg (.v 8) x h (y0 :: y1 :: y2 :: y3 :: y4 :: y5 :: y6 :: y7 :: y :: r)) f) E P := w
theorem sw_set9 {e : LE} {r : Rho} {y0 y1 y2 y3 y4 y5 y6 y7 y8 : Option T} {y : Option T} (w : Wp (evE K e (y0 :: y1 :: y2 :: y3 :: y4 :: y5 :: y6 :: y7 :: y8 :: y :: r) h) E fun x h => Wp (exSs K ss (y0 :: y1 :: y2 :: y3 :: y4 :: y5 :: y6 :: y7 :: y8 :: some x :: r) h) E Q) : Wp (exSs K (.set 9 e :: ss) (y0 :: y1 :: y2 :: y3 :: y4 :: y5 :: y6 :: y7 :: y8 :: y :: r) h) E Q := sw_set w
theorem wb_9 {α : Type} {f : Rho → Rs α} {P : α → Heap → Prop} {x : T} {r : Rho} {y0 y1 y2 y3 y4 y5 y6 y7 y8 : Option T} {y : Option T} (w : Wp (f (y0 :: y1 :: y2 :: y3 :: y4 :: y5 :: y6 :: y7 :: y8 :: some x :: r)) E P) : Wp (withB (bindTg (.v 9) x h (y0 :: y1 :: y2 :: y3 :: y4 :: y5 :: y6 :: y7 :: y8 :: y :: r)) f) E P := w
theorem sw_set10 {e : LE} {r : Rho} {y0 y1 y2 y3 y4 y5 y6 y7 y8 y9 : Option T} {y : Option T} (w : Wp (evE K e (y0 :: y1 :: y2 :: y3 :: y4 :: y5 :: y6 :: y7 :: y8 :: y9 :: y :: r) h) E fun x h => Wp (exSs K ss (y0 :: y1 :: y2 :: y3 :: y4 :: y5 :: y6 :: y7 :: y8 :: y9 :: some x :: r) h) E Q) : Wp (exSs K (.set 10 e :: ss) (y0 :: y1 :: y2 :: y3 :: y4 :: y5 :: y6 :: y7 :: y8 :: y9 :: y :: r) h) E Q := sw_set w
theorem wb_10 {α : Type} {f : Rho → Rs α} {P : α → Heap → Prop} {x : T} {r : Rho} {y0 y1 y2 y3 y4 y5 y6 y7 y8 y9 : Option T} {y : Option T} (w : Wp (f (y0 :: y1 :: y2 :: y3 :: y4 :: y5 :: y6 :: y7 :: y8 :: y9 :: some x :: r)) E P) : Wp (withB (bindTg (.v 10) x h (y0 :: y1 :: y2 :: y3 :: y4 :: y5 :: y6 :: y7 :: y8 :: y9 :: y :: r)) f) E P := w
theorem sw_set11 {e : LE} {r : Rho} {y0 y1 y2 y3 y4 y5 y6 y7 y8 y9 y10 : Option T} {y : Option T} (w : Wp (evE K e (y0 :: y1 :: y2 :: y3 :: y4 :: y5 :: y6 :: y7 :: y8 :: y9 :: y10 :: y :: r) h) E fun x h => Wp (exSs K ss (y0 :: y1 :: y2 :: y3 :: y4 :: y5 :: y6 :: y7 :: y8 :: y9 :: y10 :: some x :: r) h) E Q) : Wp (exSs K (.set 11 e :: ss) (y0 :: y1 :: y2 :: y3 :: y4 :: y5 :: y6 :: y7 :: y8 :: y9 :: y10 :: y :: r) h) E Q := sw_set w
theorem wb_11 {α : Type} {f : Rho → Rs α} {P : α → Heap → Prop} {x : T} {r : Rho} {y0 y1 y2 y3 y4 y5 y6 y7 y8 y9 y10 : Option T} {y : Option T} (w : Wp (f (y0 :: y1 :: y2 :: y3 :: y4 :: y5 :: y6 :: y7 :: y8 :: y9 :: y10 :: some x :: r)) E P) : Wp (withB (bindTg (.v 11) x h (y0 :: y1 :: y2 :: y3 :: y4 :: y5 :: y6 :: y7 :: y8 :: y9 :: y10 :: y :: r)) f) E P := w
theorem sw_set12 {e : LE} {r : Rho} {y0 y1 y2 y3 y4 y5 y6 y7 y8 y9 y10 y11 : Option T} {y : Option T} (w : Wp (evE K e (y0 :: y1 :: y2 :: y3 :: y4 :: y5 :: y6 :: y7 :: y8 :: y9 :: y10 :: y11 :: y :: r) h) E fun x h => Wp (exSs K ss (y0 :: y1 :: y2 :: y3 :: y4 :: y5 :: y6 :: y7 :: y8 :: y9 :: y10 :: y11 :: some x :: r) h) E Q) : Wp (exSs K (.set 12 e :: ss) (y0 :: y1 :: y2 :: y3 :: y4 :: y5 :: y6 :: y7 :: y8 :: y9 :: y10 :: y11 :: y :: r) h) E Q := sw_set w
theorem wb_12 {α : Type} {f : Rho → Rs α} {P : α → Heap → Prop} {x : T} {r : Rho} {y0 y1 y2 y3 y4 y5 y6 y7 y8 y9 y10 y11 : Option T} {y : Option T} (w : Wp (f (y0 :: y1 :: y2 :: y3 :: y4 :: y5 :: y6 :: y7 :: y8 :: y9 :: y10 :: y11 :: some x :: r)) E P) : Wp (withB (bindTg (.v 12) x h (y0 :: y1 :: y2 :: y3 :: y4 :: y5 :: y6 :: y7 :: y8 :: y9 :: y10 :: y11 :: y :: r)) f) E P := w
theorem sw_set13 {e : LE} {r : Rho} {y0 y1 y2 y3 y4 y5 y6 y7 y8 y9 y10 y11 y12 : Option T} {y : Option T} (w : Wp (evE K e (y0 :: y1 :: y2 :: y3 :: y4 :: y5 :: y6 :: y7 :: y8 :: y9 :: y10 :: y11 :: y12 :: y :: r) h) E fun x h => Wp (exSs K ss (y0 :: y1 :: y2 :: y3 :: y4 :: y5 :: y6 :: y7 :: y8 :: y9 :: y10 :: y11 :: y12 :: some x :: r) h) E Q) : Wp (exSs K (.set 13 e :: ss) (y0 :: y1 :: y2 :: y3 :: y4 :: y5 :: y6 :: y7 :: y8 :: y9 :: y10 :: y11 :: y12 :: y :: r) h) E Q := sw_set w
theorem wb_13 {α : Type} {f : Rho → Rs α} {P : α → Heap → Prop} {x : T} {r : Rho} {y0 y1 y2 y3 y4 y5 y6 y7 y8 y9 y10 y11 y12 : Option T} {y : Option T} (w : Wp (f (y0 :: y1 :: y2 :: y3 :: y4 :: y5 :: y6 :: y7 :: y8 :: y9 :: y10 :: y11 :: y12 :: some x :: r)) E P) : Wp (withB (bindTg (.v 13) x h (y0 :: y1 :: y2 :: y3 :: y4 :: y5 :: y6 :: y7 :: y8 :: y9 :: y10 :: y11 :: y12 :: y :: r)) f) E P := w
theorem sw_set14 {e : LE} {r : Rho} {y0 y1 y2 y3 y4 y5 y6 y7 y8 y9 y10 y11 y12 y13 : Option T} {y : Option T} (w : Wp (evE K e (y0 :: y1 :: y2 :: y3 :: y4 :: y5 :: y6 :: y7 :: y8 :: y9 :: y10 :: y11 :: y12 :: y13 :: y :: r) h) E fun x h => Wp (exSs K ss (y0 :: y1 :: y2 :: y3 :: y4 :: y5 :: y6 :: y7 :: y8 :: y9 :: y10 :: y11 :: y12 :: y13 :: some x :: r) h) E Q) : Wp (exSs K (.set 14 e :: ss) (y0 :: y1 :: y2 :: y3 :: y4 :: y5 :: y6 :: y7 :: y8 :: y9 :: y10 :: y11 :: y12 :: y13 :: y :: r) h) E Q := sw_set w
theorem wb_14 {α : Type} {f : Rho → Rs α} {P : α → Heap → Prop} {x : T} {r : Rho} {y0 y1 y2 y3 y4 y5 y6 y7 y8 y9 y10 y11 y12 y13 : Option T} {y : Option T} (w : Wp (f (y0 :: y1 :: y2 :: y3 :: y4 :: y5 :: y6 :: y7 :: y8 :: y9 :: y10 :: y11 :: y12 :: y13 :: some x :: r)) E P) : Wp (withB (bindTg (.v 14) x h (y0 :: y1 :: y2 :: y3 :: y4 :: y5 :: y6 :: y7 :: y8 :: y9 :: y10 :: y11 :: y12 :: y13 :: y :: r)) f) E P := w
theorem sw_set15 {e : LE} {r : Rho} {y0 y1 y2 y3 y4 y5 y6 y7 y8 y9 y10 y11 y12 y13 y14 : Option T} {y : Option T} (w : Wp (evE K e (y0 :: y1 :: y2 :: y3 :: y4 :: y5 :: y6 :: y7 :: y8 :: y9 :: y10 :: y11 :: y12 :: y13 :: y14 :: y :: r) h) E fun x h => Wp (exSs K ss (y0 :: y1 :: y2 :: y3 :: y4 :: y5 :: y6 :: y7 :: y8 :: y9 :: y10 :: y11 :: y12 :: y13 :: y14 :: some x :: r) h) E Q) : Wp (exSs K (.set 15 e :: ss) (y0 :: y1 :: y2 :: y3 :: y4 :: y5 :: y6 :: y7 :: y8 :: y9 :: y10 :: y11 :: y12 :: y13 :: y14 :: y :: r) h) E Q := sw_set w
theorem wb_15 {α : Type} {f : Rho → Rs α} {P : α → Heap → Prop} {x : T} {r : Rho} {y0 y1 y2 y3 y4 y5 y6 y7 y8 y9 y10 y11 y12 y13 y14 : Option T} {y : Option T} (w : Wp (f (y0 :: y1 :: y2 :: y3 :: y4 :: y5 :: y6 :: y7 :: y8 :: y9 :: y10 :: y11 :: y12 :: y13 :: y14 :: some x :: r)) E P) : Wp (withB (bindTg (.v 15) x h (y0 :: y1 :: y2 :: y3 :: y4 :: y5 :: y6 :: y7 :: y8 :: y9 :: y10 :: y11 :: y12 :: y13 :: y14 :: y :: r)) f) E P := w
theorem sw_set16 {e : LE} {r : Rho} {y0 y1 y2 y3 y4 y5 y6 y7 y8 y9 y10 y11 y12 y13 y14 y15 : Option T} {y : Option T} (w : Wp (evE K e (y0 :: y1 :: y2 :: y3 :: y4 :: y5 :: y6 :: y7 :: y8 :: y9 :: y10 :: y11 :: y12 :: y13 :: y14 :: y15 :: y :: r) h) E fun x h => Wp (exSs K ss (y0 :: y1 :: y2 :: y3 :: y4 :: y5 :: y6 :: y7 :: y8 :: y9 :: y10 :: y11 :: y12 :: y13 :: y14 :: y15 :: some x :: r) h) E Q) : Wp (exSs K (.set 16 e :: ss) (y0 :: y1 :: y2 :: y3 :: y4 :: y5 :: y6 :: y7 :: y8 :: y9 :: y10 :: y11 :: y12 :: y13 :: y14 :: y15 :: y :: r) h) E Q := sw_set w
theorem wb_16 {α : Type} {f : Rho → Rs α} {P : α → Heap → Prop} {x : T} {r : Rho} {y0 y1 y2 y3 y4 y5 y6 y7 y8 y9 y10 y11 y12 y13 y14 y15 : Option T} {y : Option T} (w : Wp (f (y0 :: y1 :: y2 :: y3 :: y4 :: y5 :: y6 :: y7 :: y8 :: y9 :: y10 :: y11 :: y12 :: y13 :: y14 :: y15 :: some x :: r)) E P) : Wp (withB (bindTg (.v 16) x h (y0 :: y1 :: y2 :: y3 :: y4 :: y5 :: y6 :: y7 :: y8 :: y9 :: y10 :: y11 :: y12 :: y13 :: y14 :: y15 :: y :: r)) f) E P := w
theorem sw_set17 {e : LE} {r : Rho} {y0 y1 y2 y3 y4 y5 y6 y7 y8 y9 y10 y11 y12 y13 y14 y15 y16 : Option T} {y : Option T} (w : Wp (evE K e (y0 :: y1 :: y2 :: y3 :: y4 :: y5 :: y6 :: y7 :: y8 :: y9 :: y10 :: y11 :: y12 :: y13 :: y14 :: y15 :: y16 :: y :: r) h) E fun x h => Wp (exSs K ss (y0 :: y1 :: y2 :: y3 :: y4 :: y5 :: y6 :: y7 :: y8 :: y9 :: y10 :: y11 :: y12 :: y13 :: y14 :: y15 :: y16 :: some x :: r) h) E Q) : Wp (exSs K (.set 17 e :: ss) (y0 :: y1 :: y2 :: y3 :: y4 :: y5 :: y6 :: y7 :: y8 :: y9 :: y10 :: y11 :: y12 :: y13 :: y14 :: y15 :: y16 :: y :: r) h) E Q := sw_set w
theorem wb_17 {α : Type} {f : Rho → Rs α} {P : α → Heap → Prop} {x : T} {r : Rho} {y0 y1 y2 y3 y4 y5 y6 y7 y8 y9 y10 y11 y12 y13 y14 y15 y16 : Option T} {y : Option T} (w : Wp (f (y0 :: y1 :: y2 :: y3 :: y4 :: y5 :: y6 :: y7 :: y8 :: y9 :: y10 :: y11 :: y12 :: y13 :: y14 :: y15 :: y16 :: some x :: r)) E P) : Wp (withB (bindTg (.v 17) x h (y0 :: y1 :: y2 :: y3 :: y4 :: y5 :: y6 :: y7 :: y8 :: y9 :: y10 :: y11 :: y12 :: y13 :: y14 :: y15 :: y16 :: y :: r)) f) E P := w
theorem sw_set18 {e : LE} {r : Rho} {y0 y1 y2 y3 y4 y5 y6 y7 y8 y9 y10 y11 y12 y13 y14 y15 y16 y17 : Option T} {y : Option T} (w : Wp (evE K e (y0 :: y1 :: y2 :: y3 :: y4 :: y5 :: y6 :: y7 :: y8 :: y9 :: y10 :: y11 :: y12 :: y13 :: y14 :: y15 :: y16 :: y17 :: y :: r) h) E fun x h => Wp (exSs K ss (y0 :: y1 :: y2 :: y3 :: y4 :: y5 :: y6 :: y7 :: y8 :: y9 :: y10 :: y11 :: y12 :: y13 :: y14 :: y15 :: y16 :: y17 :: some x :: r) h) E Q) : Wp (exSs K (.set 18 e :: ss) (y0 :: y1 :: y2 :: y3 :: y4 :: y5 :: y6 :: y7 :: y8 :: y9 :: y10 :: y11 :: y12 :: y13 :: y14 :: y15 :: y16 :: y17 :: y :: r) h) E Q := sw_set w
theorem wb_18 {α : Type} {f : Rho → Rs α} {P : α → Heap → Prop} {x : T} {r : Rho} {y0 y1 y2 y3 y4 y5 y6 y7 y8 y9 y10 y11 y12 y13 y14 y15 y16 y17 : Option T} {y : Option T} (w : Wp (f (y0 :: y1 :: y2 :: y3 :: y4 :: y5 :: y6 :: y7 :: y8 :: y9 :: y10 :: y11 :: y12 :: y13 :: y14 :: y15 :: y16 :: y17 :: some x :: r)) E P) : Wp (withB (bindTg (.v 18) x h (y0 :: y1 :: y2 :: y3 :: y4 :: y5 :: y6 :: y7 :: y8 :: y9 :: y10 :: y11 :: y12 :: y13 :: y14 :: y15 :: y16 :: y17 :: y :: r)) f) E P := w
theorem sw_set19 {e : LE} {r : Rho} {y0 y1 y2 y3 y4 y5 y6 y7 y8 y9 y10 y11 y12 y13 y14 y15 y16 y17 y18 : Option T} {y : Option T} (w : Wp (evE K e (y0 :: y1 :: y2 :: y3 :: y4 :: y5 :: y6 :: y7 :: y8 :: y9 :: y10 :: y11 :: y12 :: y13 :: y14 :: y15 :: y16 :: y17 :: y18 :: y :: r) h) E fun x h => Wp (exSs K ss (y0 :: y1 :: y2 :: y3 :: y4 :: y5 :: y6 :: y7 :: y8 :: y9 :: y10 :: y11 :: y12 :: y13 :: y14 :: y15 :: y16 :: y17 :: y18 :: some x :: r) h) E Q) : Wp (exSs K (.set 19 e :: ss) (y0 :: y1 :: y2 :: y3 :: y4 :: y5 :: y6 :: y7 :: y8 :: y9 :: y10 :: y11 :: y12 :: y13 :: y14 :: y15 :: y16 :: y17 :: y18 :: y :: r) h) E Q := sw_set w
theorem wb_19 {α : Type} {f : Rho → Rs α} {P : α → Heap → Prop} {x : T} {r : Rho} {y0 y1 y2 y3 y4 y5 y6 y7 y8 y9 y10 y11 y12 y13 y14 y15 y16 y17 y18 : Option T} {y : Option T} (w : Wp (f (y0 :: y1 :: y2 :: y3 :: y4 :: y5 :: y6 :: y7 :: y8 :: y9 :: y10 :: y11 :: y12 :: y13 :: y14 :: y15 :: y16 :: y17 :: y18 :: some x :: r)) E P) : Wp (withB (bindTg (.v 19) x h (y0 :: y1 :: y2 :: y3 :: y4 :: y5 :: y6 :: y7 :: y8 :: y9 :: y10 :: y11 :: y12 :: y13 :: y14 :: y15 :: y16 :: y17 :: y18 :: y :: r)) f) E P := w
theorem sw_set20 {e : LE} {r : Rho} {y0 y1 y2 y3 y4 y5 y6 y7 y8 y9 y10 y11 y12 y13 y14 y15 y16 y17 y18 y19 : Option T} {y : Option T} (w : Wp (evE K e (y0 :: y1 :: y2 :: y3 :: y4 :: y5 :: y6 :: y7 :: y8 :: y9 :: y10 :: y11 :: y12 :: y13 :: y14 :: y15 :: y16 :: y17 :: y18 :: y19 :: y :: r) h) E fun x h => Wp (exSs K ss (y0 :: y1 :: y2 :: y3 :: y4 :: y5 :: y6 :: y7 :: y8 :: y9 :: y10 :: y11 :: y12 :: y13 :: y14 :: y15 :: y16 :: y17 :: y18 :: y19 :: some x :: r) h) E Q) : Wp (exSs K (.set 20 e :: ss) (y0 :: y1 :: y2 :: y3 :: y4 :: y5 :: y6 :: y7 :: y8 :: y9 :: y10 :: y11 :: y12 :: y13 :: y14 :: y15 :: y16 :: y17 :: y18 :: y19 :: y :: r) h) E Q := sw_set w
theorem wb_20 {α : Type} {f : Rho → Rs α} {P : α → Heap → Prop} {x : T} {r : Rho} {y0 y1 y2 y3 y4 y5 y6 y7 y8 y9 y10 y11 y12 y13 y14 y15 y16 y17 y18 y19 : Option T} {y : Option T} (w : Wp (f (y0 :: y1 :: y2 :: y3 :: y4 :: y5 :: y6 :: y7 :: y8 :: y9 :: y10 :: y11 :: y12 :: y13 :: y14 :: y15 :: y16 :: y17 :: y18 :: y19 :: some x :: r)) E P) : Wp (withB (bindTg (.v 20) x h (y0 :: y1 :: y2 :: y3 :: y4 :: y5 :: y6 :: y7 :: y8 :: y9 :: y10 :: y11 :: y12 :: y13 :: y14 :: y15 :: y16 :: y17 :: y18 :: y19 :: y :: r)) f) E P := w
theorem sw_set21 {e : LE} {r : Rho} {y0 y1 y2 y3 y4 y5 y6 y7 y8 y9 y10 y11 y12 y13 y14 y15 y16 y17 y18 y19 y20 : Option T} {y : Option T} (w : Wp (evE K e (y0 :: y1 :: y2 :: y3 :: y4 :: y5 :: y6 :: y7 :: y8 :: y9 :: y10 :: y11 :: y12 :: y13 :: y14 :: y15 :: y16 :: y17 :: y18 :: y19 :: y20 :: y :: r) h) E fun x h => Wp (exSs K ss (y0 :: y1 :: y2 :: y3 :: y4 :: y5 :: y6 :: y7 :: y8 :: y9 :: y10 :: y11 :: y12 :: y13 :: y14 :: y15 :: y16 :: y17 :: y18 :: y19 :: y20 :: some x :: r) h) E Q) : Wp (exSs K (.set 21 e :: ss) (y0 :: y1 :: y2 :: y3 :: y4 :: y5 :: y6 :: y7 :: y8 :: y9 :: y10 :: y11 :: y12 :: y13 :: y14 :: y15 :: y16 :: y17 :: y18 :: y19 :: y20 :: y :: r) h) E Q := sw_set w
theorem wb_21 {α : Type} {f : Rho → Rs α} {P : α → Heap → Prop} {x : T} {r : Rho} {y0 y1 y2 y3 y4 y5 y6 y7 y8 y9 y10 y11 y12 y13 y14 y15 y16 y17 y18 y19 y20 : Option T} {y : Option T} (w : Wp (f (y0 :: y1 :: y2 :: y3 :: y4 :: y5 :: y6 :: y7 :: y8 :: y9 :: y10 :: y11 :: y12 :: y13 :: y14 :: y15 :: y16 :: y17 :: y18 :: y19 :: y20 :: some x :: r)) E P) : Wp (withB (bindTg (.v 21) x h (y0 :: y1 :: y2 :: y3 :: y4 :: y5 :: y6 :: y7 :: y8 :: y9 :: y10 :: y11 :: y12 :: y13 :: y14 :: y15 :: y16 :: y17 :: y18 :: y19 :: y20 :: y :: r)) f) E P := w
theorem sw_set22 {e : LE} {r : Rho} {y0 y1 y2 y3 y4 y5 y6 y7 y8 y9 y10 y11 y12 y13 y14 y15 y16 y17 y18 y19 y20 y21 : Option T} {y : Option T} (w : Wp (evE K e (y0 :: y1 :: y2 :: y3 :: y4 :: y5 :: y6 :: y7 :: y8 :: y9 :: y10 :: y11 :: y12 :: y13 :: y14 :: y15 :: y16 :: y17 :: y18 :: y19 :: y20 :: y21 :: y :: r) h) E fun x h => Wp (exSs K ss (y0 :: y1 :: y2 :: y3 :: y4 :: y5 :: y6 :: y7 :: y8 :: y9 :: y10 :: y11 :: y12 :: y13 :: y14 :: y15 :: y16 :: y17 :: y18 :: y19 :: y20 :: y21 :: some x :: r) h) E Q) : Wp (exSs K (.set 22 e :: ss) (y0 :: y1 :: y2 :: y3 :: y4 :: y5 :: y6 :: y7 :: y8 :: y9 :: y10 :: y11 :: y12 :: y13 :: y14 :: y15 :: y16 :: y17 :: y18 :: y19 :: y20 :: y21 :: y :: r) h) E Q := sw_set w
theorem wb_22 {α : Type} {f : Rho → Rs α} {P : α → Heap → Prop} {x : T} {r : Rho} {y0 y1 y2 y3 y4 y5 y6 y7 y8 y9 y10 y11 y12 y13 y14 y15 y16 y17 y18 y19 y20 y21 : Option T} {y : Option T} (w : Wp (f (y0 :: y1 :: y2 :: y3 :: y4 :: y5 :: y6 :: y7 :: y8 :: y9 :: y10 :: y11 :: y12 :: y13 :: y14 :: y15 :: y16 :: y17 :: y18 :: y19 :: y20 :: y21 :: some x :: r)) E P) : Wp (withB (bindTg (.v 22) x h (y0 :: y1 :: y2 :: y3 :: y4 :: y5 :: y6 :: y7 :: y8 :: y9 :: y10 :: y11 :: y12 :: y13 :: y14 :: y15 :: y16 :: y17 :: y18 :: y19 :: y20 :: y21 :: y :: r)) f) E P := w
theorem sw_set23 {e : LE} {r : Rho} {y0 y1 y2 y3 y4 y5 y6 y7 y8 y9 y10 y11 y12 y13 y14 y15 y16 y17 y18 y19 y20 y21 y22 : Option T} {y : Option T} (w : Wp (evE K e (y0 :: y1 :: y2 :: y3 :: y4 :: y5 :: y6 :: y7 :: y8 :: y9 :: y10 :: y11 :: y12 :: y13 :: y14 :: y15 :: y16 :: y17 :: y18 :: y19 :: y20 :: y21 :: y22 :: y :: r) h) E fun x h => Wp (exSs K ss (y0 :: y1 :: y2 :: y3 :: y4 :: y5 :: y6 :: y7 :: y8 :: y9 :: y10 :: y11 :: y12 :: y13 :: y14 :: y15 :: y16 :: y17 :: y18 :: y19 :: y20 :: y21 :: y22 :: some x :: r) h) E Q) : Wp (exSs K (.set 23 e :: ss) (y0 :: y1 :: y2 :: y3 :: y4 :: y5 :: y6 :: y7 :: y8 :: y9 :: y10 :: y11 :: y12 :: y13 :: y14 :: y15 :: y16 :: y17 :: y18 :: y19 :: y20 :: y21 :: y22 :: y :: r) h) E Q := sw_set w
theorem wb_23 {α : Type} {f : Rho → Rs α} {P : α → Heap → Prop} {x : T} {r : Rho} {y0 y1 y2 y3 y4 y5 y6 y7 y8 y9 y10 y11 y12 y13 y14 y15 y16 y17 y18 y19 y20 y21 y22 : Option T} {y : Option T} (w : Wp (f (y0 :: y1 :: y2 :: y3 :: y4 :: y5 :: y6 :: y7 :: y8 :: y9 :: y10 :: y11 :: y12 :: y13 :: y14 :: y15 :: y16 :: y17 :: y18 :: y19 :: y20 :: y21 :: y22 :: some x :: r)) E P) : Wp (withB (bindTg (.v 23) x h (y0 :: y1 :: y2 :: y3 :: y4 :: y5 :: y6 :: y7 :: y8 :: y9 :: y10 :: y11 :: y12 :: y13 :: y14 :: y15 :: y16 :: y17 :: y18 :: y19 :: y20 :: y21 :: y22 :: y :: r)) f) E P := w
end
section
variable {h h0 : Heap} {E : T → Heap → Prop} {Q : T → Heap → Prop} {P : Prog} {n k : Nat}
structure DrawFn (P : Prog) : Prop where
  draw : P.fn "law._law_draw" = some d_law__law_draw
  choose : P.fn "law._law_choose" = some d_law__law_choose
  stream : P.fn "law._law_stream" = some d_law__law_stream
theorem wp_draw (hd : P.fn "law._law_draw" = some d_law__law_draw) (d : Drawn n h0 h) {s : Int} (h1 : 1 ≤ s) (h2 : s < 100000000000) (w : ∀ r h', 0 ≤ r → r < s → Drawn n h0 h' → Q (.int r) h') : Wp (call P (k + 1) "law._law_draw" [.loc n, .int s] h) E Q := by
  obtain ⟨r, h', a, b, d', e⟩ := draw_at hd d.at_ h1 (Nat.lt_trans (log2_lt (b := 40) (by omega) (by omega)) (by omega)) k
  exact Wp.ok e (w r h' a b (d.trans d'))
theorem wp_choose (hd : P.fn "law._law_draw" = some d_law__law_draw) (hc : P.fn "law._law_choose" = some d_law__law_choose) (d : Drawn n h0 h) {xs : List T} (h1 : xs ≠ []) (h2 : xs.length < 100000) (w : ∀ x h', x ∈ xs → Drawn n h0 h' → Q x h') : Wp (call P (k + 2) "law._law_choose" [.loc n, .lst xs] h) E Q := by
  obtain ⟨x, h', a, d', e⟩ := choose_at hd hc d.at_ h1 h2 k
  exact Wp.ok e (w x h' a (d.trans d'))
end
end Lite
namespace Lite
theorem wp_stream {P : Prog} (D : DrawFn P) {h : Heap} {ns : List Int} {start k : Nat} {E : T → Heap → Prop} {Q : T → Heap → Prop} (hb : ∀ z ∈ ns, PySem.Builtin.Int.intBits z ≤ 1048576) (h9 : start < 100000) (w : ∀ n h', Drawn n h' h' → h'.length = h.length + 1 → n = h.length → (∀ m, m < h.length → h'[m]? = h[m]?) → Q (.loc n) h') : Wp (call P (k + 1) "law._law_stream" [.lst (ns.map T.int), .int (start : Int)] h) E Q := by
  obtain ⟨o, so, e⟩ := stream_at D.stream (h := h) (ns := ns) (start := start) (B := 1048577) (by omega) (by omega) (fun z hz => lt_bits (Nat.le_succ_of_le (hb z hz))) h9 k
  refine Wp.ok e (w _ _ (Drawn.refl so) (by simp) rfl fun m hm => ?_)
  rw [List.getElem?_append_left hm]
end Lite

namespace Lite
def d_grid_is_integer : Fn := ⟨1, 1, [
    .ret (.and [(.isi (.var 0) ["int"]), (.not (.isi (.var 0) ["bool"]))])], 0⟩
def d_scalars_is_number : Fn := ⟨1, 1, [
    .ret (.and [(.call "grid.is_integer" [(.var 0)]), (.chain .le .le (.neg (.glob "scalars.LIMIT")) (.var 0) (.glob "scalars.LIMIT"))])], 0⟩
def d_scalars_is_scalar : Fn := ⟨1, 1, [
    .ret (.or [(.cmp .is (.var 0) .non), (.call "scalars.is_number" [(.var 0)]), (.and [(.isi (.var 0) ["str"]), (.cmp .isin (.var 0) (.glob "scalars.ERROR_CODES"))])])], 0⟩
def d_scalars_is_error : Fn := ⟨1, 1, [
    .ret (.isi (.var 0) ["str"])], 0⟩
def d_scalars_as_number : Fn := ⟨1, 1, [
    .ret (.ife (.cmp .is (.var 0) .non) (.int 0) (.var 0))], 0⟩
def d_scalars_within_limit : Fn := ⟨1, 1, [
    .ret (.ife (.call "scalars.is_number" [(.var 0)]) (.var 0) (.str [35, 78, 85, 77]))], 0⟩
def d_scalars_add : Fn := ⟨2, 2, [
    .ret (.call "scalars.within_limit" [(.bin .add (.var 0) (.var 1))])], 0⟩
def d_scalars_subtract : Fn := ⟨2, 2, [
    .ret (.call "scalars.within_limit" [(.bin .sub (.var 0) (.var 1))])], 0⟩
def d_scalars_multiply : Fn := ⟨2, 2, [
    .ret (.call "scalars.within_limit" [(.bin .mul (.var 0) (.var 1))])], 0⟩
def d_scalars_divide : Fn := ⟨2, 2, [
    .ret (.ife (.cmp .eq (.var 1) (.int 0)) (.str [35, 68, 73, 86]) (.call "scalars.within_limit" [(.bin .fdiv (.var 0) (.var 1))]))], 0⟩
def d_scalars_less : Fn := ⟨2, 2, [
    .ret (.bi "int" [(.cmp .lt (.var 0) (.var 1))])], 0⟩
def d_scalars_at_most : Fn := ⟨2, 2, [
    .ret (.bi "int" [(.cmp .le (.var 0) (.var 1))])], 0⟩
def d_scalars_equal : Fn := ⟨2, 2, [
    .ret (.bi "int" [(.cmp .eq (.var 0) (.var 1))])], 0⟩
def d_scalars_apply_operator : Fn := ⟨3, 5, [
    .for (.v 3) "" [(.tup [(.var 1), (.var 2)])] [.iff (.call "scalars.is_error" [(.var 3)]) [.ret (.var 3)] []],
    .set 4 (.idx (.glob "scalars.OPERATORS") (.var 0)),
    .ret (.callV (.var 4) [(.call "scalars.as_number" [(.var 1)]), (.call "scalars.as_number" [(.var 2)])])], 0⟩
def d_scalars_negate : Fn := ⟨1, 1, [
    .ret (.ife (.call "scalars.is_error" [(.var 0)]) (.var 0) (.bin .sub (.int 0) (.call "scalars.as_number" [(.var 0)])))], 0⟩
def d_scalars_aggregate : Fn := ⟨2, 5, [
    .set 2 (.comp false [3] (.var 3) (.v 3) "" [(.var 1)] [(.and [(.not (.call "scalars.is_error" [(.var 3)])), (.cmp .isn (.var 3) .non)])]),
    .iff (.cmp .eq (.var 0) (.str [67, 79, 85, 78, 84])) [.ret (.bi "len" [(.var 2)])] [],
    .set 4 (.comp false [3] (.var 3) (.v 3) "" [(.var 1)] [(.call "scalars.is_error" [(.var 3)])]),
    .iff (.cmp .ne (.var 4) (.lst false [])) [.ret (.idx (.var 4) (.int 0))] [],
    .iff (.cmp .eq (.var 0) (.str [83, 85, 77])) [.ret (.call "scalars.within_limit" [(.bi "sum" [(.var 2)])])] [],
    .iff (.cmp .eq (.var 2) (.lst false [])) [.ret (.str [35, 69, 77, 80, 84, 89])] [],
    .ret (.ife (.cmp .eq (.var 0) (.str [77, 65, 88])) (.bi "max" [(.var 2)]) (.bi "min" [(.var 2)]))], 0⟩
def d_law__law_scalar_drawn : Fn := ⟨1, 4, [
    .set 1 (.bin .pow (.int 10) (.int 9)),
    .set 2 (.lst false [(.int 0), (.int 1), (.int 2), (.int 3), (.neg (.int 1)), (.neg (.int 2)), (.int 5), (.var 1), (.bin .sub (.int 0) (.var 1)), (.bin .sub (.var 1) (.call "law._law_draw" [(.var 0), (.int 9)])), (.bin .sub (.call "law._law_draw" [(.var 0), (.int 9)]) (.var 1)), .non]),
    .set 2 (.bin .add (.var 2) (.lst false [(.bin .sub (.call "law._law_draw" [(.var 0), (.bin .mul (.int 2) (.var 1))]) (.var 1)), (.bin .sub (.call "law._law_draw" [(.var 0), (.int 60000)]) (.int 30000)), .non])),
    .set 3 (.lst false [(.str [35, 68, 73, 86]), (.str [35, 69, 77, 80, 84, 89]), (.str [35, 78, 85, 77]), (.str [35, 82, 69, 70]), (.str [35, 83, 72, 65, 80, 69]), (.str [35, 83, 73, 90, 69]), (.str [35, 83, 80, 73, 76, 76])]),
    .iff (.cmp .eq (.call "law._law_draw" [(.var 0), (.int 5)]) (.int 0)) [.ret (.call "law._law_choose" [(.var 0), (.var 3)])] [],
    .ret (.call "law._law_choose" [(.var 0), (.var 2)])], 0⟩
end Lite

namespace Lite
def d_sheets_formulas_of : Fn := ⟨1, 3, [
    .ret (.bi "sorted" [(.comp false [1, 2] (.var 1) (.t [1, 2]) "items" [(.idx (.var 0) (.int 2))] [(.isi (.var 2) ["tuple"])])])], 0⟩
def d_sheets_grid_cells : Fn := ⟨1, 3, [
    .ret (.comp2 false [1, 2] (.tup [(.var 1), (.var 2)]) (.v 1) "range" [(.idx (.var 0) (.int 0))] [] [2] (.v 2) "range" [(.idx (.var 0) (.int 1))] [])], 0⟩
def d_law__law_formulas : Fn := ⟨1, 2, [
    .ret (.bi "sorted" [(.comp false [1] (.var 1) (.v 1) "" [(.idx (.var 0) (.int 2))] [(.isi (.idx (.idx (.var 0) (.int 2)) (.var 1)) ["tuple"])])])], 0⟩
def d_rules_size_of : Fn := ⟨2, 2, [
    .ret (.tup [(.bm (.var 0) "get" [(.tup [(.str [114, 111, 119, 115]), (.var 1)])]), (.bm (.var 0) "get" [(.tup [(.str [99, 111, 108, 117, 109, 110, 115]), (.var 1)])])])], 0⟩
def d_rules_elements_of : Fn := ⟨2, 6, [
    .unp (.t [2, 3]) (.call "rules.size_of" [(.var 0), (.var 1)]),
    .iff (.or [(.cmp .is (.var 2) .non), (.cmp .is (.var 3) .non)]) [.ret (.lst false [])] [],
    .ret (.comp2 false [4, 5] (.tup [(.str [101, 108, 101, 109, 101, 110, 116]), (.var 1), (.var 4), (.var 5)]) (.v 4) "range" [(.var 2)] [] [5] (.v 5) "range" [(.var 3)] [])], 0⟩
def d_rules_questions_of : Fn := ⟨2, 4, [
    .set 2 (.comp true [3] (.tup [(.str [115, 104, 111, 119, 110]), (.var 3)]) (.v 3) "" [(.call "sheets.grid_cells" [(.var 0)])] []),
    .for (.v 3) "" [(.call "sheets.formulas_of" [(.var 0)])] [.expr (.bm (.var 2) "extend" [(.lst false [(.tup [(.str [114, 111, 119, 115]), (.var 3)]), (.tup [(.str [99, 111, 108, 117, 109, 110, 115]), (.var 3)]), (.tup [(.str [115, 116, 97, 116, 117, 115]), (.var 3)])])]), .expr (.bm (.var 2) "extend" [(.call "rules.elements_of" [(.var 1), (.var 3)])])],
    .ret (.biM "sorted" [(.var 2)])], 0⟩
end Lite

namespace Lite
def d_law__law_cell : Fn := ⟨3, 3, [
    .ret (.tup [(.call "law._law_draw" [(.var 0), (.var 1)]), (.call "law._law_draw" [(.var 0), (.var 2)])])], 0⟩
def d_law__law_area : Fn := ⟨3, 5, [
    .unp (.t [3, 4]) (.call "law._law_cell" [(.var 0), (.var 1), (.var 2)]),
    .ret (.tup [(.var 3), (.var 4), (.bi "min" [(.int 11), (.bin .add (.var 3) (.call "law._law_draw" [(.var 0), (.int 3)]))]), (.bi "min" [(.int 11), (.bin .add (.var 4) (.call "law._law_draw" [(.var 0), (.int 3)]))])])], 0⟩
def d_law__law_reference : Fn := ⟨3, 4, [
    .iff (.cmp .eq (.call "law._law_draw" [(.var 0), (.int 12)]) (.int 0)) [.unp (.t [1, 2]) (.tup [(.int 12), (.int 12)])] [],
    .set 3 (.call "law._law_draw" [(.var 0), (.int 12)]),
    .iff (.cmp .lt (.var 3) (.int 5)) [.ret (.bin .add (.tup [(.str [99, 101, 108, 108])]) (.call "law._law_cell" [(.var 0), (.var 1), (.var 2)]))] [],
    .iff (.cmp .lt (.var 3) (.int 9)) [.ret (.bin .add (.tup [(.str [114, 97, 110, 103, 101])]) (.call "law._law_area" [(.var 0), (.var 1), (.var 2)]))] [],
    .ret (.ife (.cmp .lt (.var 3) (.int 11)) (.bin .add (.tup [(.str [115, 112, 105, 108, 108])]) (.call "law._law_cell" [(.var 0), (.var 1), (.var 2)])) (.tup [(.str [98, 97, 100, 114, 101, 102])]))], 0⟩
def d_law__law_array : Fn := ⟨4, 9, [
    .set 4 (.call "law._law_draw" [(.var 0), (.int 12)]),
    .iff (.or [(.cmp .eq (.var 3) (.int 0)), (.cmp .lt (.var 4) (.int 3))]) [.ret (.call "law._law_reference" [(.var 0), (.var 1), (.var 2)])] [],
    .iff (.cmp .lt (.var 4) (.int 5)) [.set 5 (.tup [(.call "law._law_scalar" [(.var 0), (.var 1), (.var 2), (.bin .sub (.var 3) (.int 1))]), (.call "law._law_scalar" [(.var 0), (.var 1), (.var 2), (.bin .sub (.var 3) (.int 1))])]), .ret (.tup [(.str [99, 97, 108, 108]), (.str [83, 69, 81]), (.slc (.var 5) [] [(.bin .add (.int 1) (.call "law._law_draw" [(.var 0), (.int 2)]))])])] [],
    .set 6 (.call "law._law_array" [(.var 0), (.var 1), (.var 2), (.bin .sub (.var 3) (.int 1))]),
    .iff (.cmp .lt (.var 4) (.int 7)) [.ret (.tup [(.str [99, 97, 108, 108]), (.call "law._law_choose" [(.var 0), (.lst false [(.str [84, 82, 65, 78, 83, 80, 79, 83, 69]), (.str [83, 79, 82, 84])])]), (.tup [(.var 6)])])] [],
    .iff (.cmp .lt (.var 4) (.int 9)) [.set 7 (.call "law._law_choose" [(.var 0), (.lst false [(.str [43]), (.str [42]), (.str [45]), (.str [60])])]), .ret (.tup [(.str [98, 105, 110, 97, 114, 121]), (.var 7), (.var 6), (.call "law._law_array" [(.var 0), (.var 1), (.var 2), (.bin .sub (.var 3) (.int 1))])])] [],
    .iff (.cmp .eq (.var 4) (.int 9)) [.ret (.tup [(.str [99, 97, 108, 108]), (.call "law._law_choose" [(.var 0), (.lst false [(.str [84, 65, 75, 69]), (.str [68, 82, 79, 80])])]), (.tup [(.var 6), (.call "law._law_scalar" [(.var 0), (.var 1), (.var 2), (.bin .sub (.var 3) (.int 1))])])])] [],
    .set 8 (.call "law._law_array" [(.var 0), (.var 1), (.var 2), (.bin .sub (.var 3) (.int 1))]),
    .iff (.cmp .eq (.var 4) (.int 10)) [.ret (.tup [(.str [99, 97, 108, 108]), (.call "law._law_choose" [(.var 0), (.lst false [(.str [83, 84, 65, 67, 75]), (.str [66, 69, 83, 73, 68, 69]), (.str [70, 73, 76, 84, 69, 82]), (.str [73, 70, 69, 82, 82, 79, 82])])]), (.tup [(.var 6), (.var 8)])])] [],
    .ret (.tup [(.str [99, 97, 108, 108]), (.str [73, 70]), (.tup [(.call "law._law_scalar" [(.var 0), (.var 1), (.var 2), (.bin .sub (.var 3) (.int 1))]), (.var 6), (.var 8)])])], 0⟩
def d_law__law_scalar : Fn := ⟨4, 9, [
    .set 4 (.call "law._law_draw" [(.var 0), (.int 12)]),
    .iff (.or [(.cmp .lt (.var 4) (.int 4)), (.and [(.cmp .eq (.var 3) (.int 0)), (.cmp .lt (.var 4) (.int 7))])]) [.ret (.tup [(.str [110, 117, 109, 98, 101, 114]), (.call "law._law_choose" [(.var 0), (.lst false [(.int 0), (.int 1), (.int 2), (.int 3), (.int 1), (.int 2), (.int 4), (.int 13)])])])] [],
    .iff (.or [(.cmp .lt (.var 4) (.int 7)), (.cmp .eq (.var 3) (.int 0))]) [.ret (.bin .add (.tup [(.str [99, 101, 108, 108])]) (.call "law._law_cell" [(.var 0), (.var 1), (.var 2)]))] [],
    .iff (.cmp .lt (.var 4) (.int 9)) [.set 5 (.call "law._law_scalar" [(.var 0), (.var 1), (.var 2), (.bin .sub (.var 3) (.int 1))]), .set 6 (.call "law._law_choose" [(.var 0), (.lst false [(.str [43]), (.str [45]), (.str [42]), (.str [47]), (.str [60]), (.str [60, 61]), (.str [61])])]), .ret (.tup [(.str [98, 105, 110, 97, 114, 121]), (.var 6), (.var 5), (.call "law._law_scalar" [(.var 0), (.var 1), (.var 2), (.bin .sub (.var 3) (.int 1))])])] [],
    .iff (.cmp .eq (.var 4) (.int 9)) [.ret (.tup [(.str [110, 101, 103, 97, 116, 101]), (.call "law._law_scalar" [(.var 0), (.var 1), (.var 2), (.bin .sub (.var 3) (.int 1))])])] [],
    .iff (.cmp .eq (.var 4) (.int 10)) [.set 7 (.call "law._law_choose" [(.var 0), (.lst false [(.str [83, 85, 77]), (.str [67, 79, 85, 78, 84]), (.str [77, 65, 88]), (.str [77, 73, 78]), (.str [82, 79, 87, 83]), (.str [67, 79, 76, 85, 77, 78, 83])])]), .ret (.tup [(.str [99, 97, 108, 108]), (.var 7), (.tup [(.call "law._law_array" [(.var 0), (.var 1), (.var 2), (.bin .sub (.var 3) (.int 1))])])])] [],
    .set 8 (.tup [(.tup [(.str [110, 117, 109, 98, 101, 114]), (.bin .add (.int 1) (.call "law._law_draw" [(.var 0), (.int 3)]))]), (.tup [(.str [110, 117, 109, 98, 101, 114]), (.bin .add (.int 1) (.call "law._law_draw" [(.var 0), (.int 2)]))])]),
    .ret (.tup [(.str [99, 97, 108, 108]), (.str [73, 78, 68, 69, 88]), (.bin .add (.tup [(.call "law._law_array" [(.var 0), (.var 1), (.var 2), (.bin .sub (.var 3) (.int 1))])]) (.var 8))])], 0⟩
def d_law__law_formula : Fn := ⟨4, 4, [
    .iff (.cmp .eq (.call "law._law_draw" [(.var 0), (.int 3)]) (.int 0)) [.ret (.call "law._law_scalar" [(.var 0), (.var 1), (.var 2), (.var 3)])] [],
    .ret (.call "law._law_array" [(.var 0), (.var 1), (.var 2), (.var 3)])], 0⟩
def d_law__law_content : Fn := ⟨4, 4, [
    .iff (.cmp .eq (.call "law._law_draw" [(.var 0), (.int 4)]) (.int 0)) [.ret (.call "law._law_choose" [(.var 0), (.lst false [(.int 0), (.int 1), (.int 2), (.int 3), (.bin .sub (.int 0) (.int 1)), (.int 5), (.int 6), (.bin .pow (.int 10) (.int 9)), (.bin .sub (.int 0) (.bin .pow (.int 10) (.int 9)))])])] [],
    .ret (.call "law._law_formula" [(.var 0), (.var 1), (.var 2), (.var 3)])], 0⟩
def d_law__law_sheet : Fn := ⟨5, 7, [
    .set 5 (.dct true []),
    .for (.v 6) "range" [(.var 3)] [.sidx (.var 5) (.call "law._law_cell" [(.var 0), (.var 1), (.var 2)]) (.call "law._law_content" [(.var 0), (.var 1), (.var 2), (.var 4)])],
    .frz 5,
    .ret (.tup [(.var 1), (.var 2), (.var 5)])], 2⟩
end Lite

namespace Lite.K29
open PySem L2 PySem.Spec
open PyProof.Rows hiding St

def d_grid_area_at : Fn := ⟨3, 5, [
    .unp (.t [3, 4]) (.var 0),
    .ret (.tup [(.var 3), (.var 4), (.bin .sub (.bin .add (.var 3) (.var 1)) (.int 1)), (.bin .sub (.bin .add (.var 4) (.var 2)) (.int 1))])], 0⟩
def d_grid_contains : Fn := ⟨2, 6, [
    .unp (.t [2, 3, 4, 5]) (.var 0),
    .ret (.and [(.chain .le .le (.var 2) (.idx (.var 1) (.int 0)) (.var 4)), (.chain .le .le (.var 3) (.idx (.var 1) (.int 1)) (.var 5))])], 0⟩
def d_grid_cells_of : Fn := ⟨1, 7, [
    .unp (.t [1, 2, 3, 4]) (.var 0),
    .ret (.comp2 false [5, 6] (.tup [(.var 5), (.var 6)]) (.v 5) "range" [(.var 1), (.bin .add (.var 3) (.int 1))] [] [6] (.v 6) "range" [(.var 2), (.bin .add (.var 4) (.int 1))] [])], 0⟩
def d_rules_is_free : Fn := ⟨3, 4, [
    .ret (.cmp .eq (.comp false [3] (.var 3) (.v 3) "" [(.call "grid.cells_of" [(.var 1)])] [(.and [(.cmp .ne (.var 3) (.var 2)), (.cmp .isin (.var 3) (.idx (.var 0) (.int 2)))])]) (.lst false []))], 0⟩
def d_rules_can_reach : Fn := ⟨3, 3, [
    .iff (.or [(.cmp .gt (.idx (.var 1) (.int 0)) (.idx (.var 2) (.int 0))), (.cmp .gt (.idx (.var 1) (.int 1)) (.idx (.var 2) (.int 1)))]) [.ret (.bl false)] [],
    .ret (.call "rules.is_free" [(.var 0), (.bin .add (.var 1) (.var 2)), (.var 1)])], 0⟩
def d_rules_rivals_for : Fn := ⟨3, 5, [
    .set 3 (.comp false [4] (.var 4) (.v 4) "" [(.call "sheets.formulas_of" [(.var 0)])] [(.and [(.cmp .lt (.idx (.var 4) (.int 0)) (.idx (.var 1) (.int 0))), (.chain .lt .le (.idx (.var 1) (.int 1)) (.idx (.var 4) (.int 1)) (.idx (.var 2) (.int 3)))])]),
    .ret (.comp false [4] (.var 4) (.v 4) "" [(.var 3)] [(.call "rules.can_reach" [(.var 0), (.var 4), (.tup [(.idx (.var 1) (.int 0)), (.idx (.var 4) (.int 1))])])])], 0⟩
def d_rules_ends_before : Fn := ⟨3, 5, [
    .unp (.t [3, 4]) (.call "rules.size_of" [(.var 0), (.var 1)]),
    .iff (.and [(.cmp .isn (.var 3) .non), (.cmp .le (.bin .add (.idx (.var 1) (.int 0)) (.var 3)) (.idx (.var 2) (.int 0)))]) [.ret (.bl true)] [],
    .ret (.and [(.cmp .isn (.var 4) .non), (.cmp .le (.bin .add (.idx (.var 1) (.int 1)) (.var 4)) (.idx (.var 2) (.int 1)))])], 0⟩
def d_rules_stays_away : Fn := ⟨3, 3, [
    .ret (.or [(.cmp .isin (.bm (.var 0) "get" [(.tup [(.str [115, 116, 97, 116, 117, 115]), (.var 1)])]) (.tup [(.glob "rules.SINGLE"), (.glob "rules.BLOCKED")])), (.call "rules.ends_before" [(.var 0), (.var 1), (.var 2)])])], 0⟩
def d_rules_covers : Fn := ⟨3, 5, [
    .iff (.cmp .ne (.bm (.var 0) "get" [(.tup [(.str [115, 116, 97, 116, 117, 115]), (.var 1)])]) (.glob "rules.SPILLED")) [.ret (.bl false)] [],
    .unp (.t [3, 4]) (.call "rules.size_of" [(.var 0), (.var 1)]),
    .ret (.call "grid.contains" [(.call "grid.area_at" [(.var 1), (.var 3), (.var 4)]), (.var 2)])], 0⟩
def d_rules_unanswered : Fn := ⟨3, 4, [
    .ret (.comp false [3] (.tup [(.var 3), (.var 1)]) (.v 3) "" [(.var 2)] [(.cmp .nin (.tup [(.var 3), (.var 1)]) (.var 0))])], 0⟩
def d_rules_room_result : Fn := ⟨3, 6, [
    .set 3 (.lst true []),
    .for (.v 4) "" [(.var 2)] [.set 5 (.tup [(.idx (.var 1) (.int 0)), (.idx (.var 4) (.int 1))]), .iff (.call "rules.covers" [(.var 0), (.var 4), (.var 5)]) [.ret (.tup [(.str [97, 110, 115, 119, 101, 114]), (.glob "rules.BLOCKED")])] [], .iff (.not (.call "rules.stays_away" [(.var 0), (.var 4), (.var 5)])) [.expr (.bm (.var 3) "extend" [(.call "rules.unanswered" [(.var 0), (.var 4), (.tup [(.str [114, 111, 119, 115]), (.str [115, 116, 97, 116, 117, 115])])])])] []],
    .ret (.ife (.cmp .ne (.var 3) (.lst false [])) (.tup [(.str [109, 105, 115, 115, 105, 110, 103]), (.var 3)]) (.tup [(.str [97, 110, 115, 119, 101, 114]), (.glob "rules.SPILLED")]))], 0⟩
def d_rules_status_rule : Fn := ⟨3, 6, [
    .unp (.t [3, 4]) (.call "rules.size_of" [(.var 1), (.var 2)]),
    .iff (.cmp .is (.var 3) .non) [.ret (.tup [(.str [109, 105, 115, 115, 105, 110, 103]), (.lst true [(.tup [(.str [114, 111, 119, 115]), (.var 2)])])])] [],
    .iff (.cmp .is (.var 4) .non) [.ret (.tup [(.str [109, 105, 115, 115, 105, 110, 103]), (.lst true [(.tup [(.str [99, 111, 108, 117, 109, 110, 115]), (.var 2)])])])] [],
    .iff (.and [(.cmp .eq (.var 3) (.int 1)), (.cmp .eq (.var 4) (.int 1))]) [.ret (.tup [(.str [97, 110, 115, 119, 101, 114]), (.glob "rules.SINGLE")])] [],
    .set 5 (.call "grid.area_at" [(.var 2), (.var 3), (.var 4)]),
    .iff (.or [(.cmp .ge (.idx (.var 5) (.int 2)) (.idx (.var 0) (.int 0))), (.cmp .ge (.idx (.var 5) (.int 3)) (.idx (.var 0) (.int 1))), (.not (.call "rules.is_free" [(.var 0), (.var 5), (.var 2)]))]) [.ret (.tup [(.str [97, 110, 115, 119, 101, 114]), (.glob "rules.BLOCKED")])] [],
    .ret (.call "rules.room_result" [(.var 1), (.var 2), (.call "rules.rivals_for" [(.var 0), (.var 2), (.var 5)])])], 0⟩
def d_rules_apply_rule : Fn := ⟨3, 6, [
    .unp (.st [3, 4] 5) (.var 2),
    .iff (.cmp .eq (.var 3) (.str [115, 116, 97, 116, 117, 115])) [.ret (.call "rules.status_rule" [(.var 0), (.var 1), (.var 4)])] [],
    .iff (.cmp .eq (.var 3) (.str [115, 104, 111, 119, 110])) [.ret .bad] [],
    .ret .bad], 0⟩
def d_law__law_content : Fn := ⟨4, 4, [
    .iff (.cmp .eq (.call "law._law_draw" [(.var 0), (.int 4)]) (.int 0)) [.ret (.call "law._law_choose" [(.var 0), (.lst false [(.int 0), (.int 1), (.int 2), (.int 3), (.bin .sub (.int 0) (.int 1)), (.int 5), (.int 12), (.bin .pow (.int 10) (.int 9)), (.bin .sub (.int 0) (.bin .pow (.int 10) (.int 9)))])])] [],
    .ret (.call "law._law_formula" [(.var 0), (.var 1), (.var 2), (.var 3)])], 0⟩
def d_law__law_answers : Fn := ⟨2, 9, [
    .set 2 (.dct true []),
    .for (.v 3) "" [(.call "law._law_formulas" [(.var 1)])] [.set 4 (.comp false [5] (.bin .add (.int 1) (.call "law._law_draw" [(.var 0), (.call "law._law_choose" [(.var 0), (.lst false [(.int 1), (.int 2), (.int 3), (.int 12)])])])) (.v 5) "range" [(.int 2)] []), .set 6 (.call "law._law_draw" [(.var 0), (.int 8)]), .iff (.cmp .nin (.var 6) (.tup [(.int 0), (.int 1)])) [.sidx (.var 2) (.tup [(.str [114, 111, 119, 115]), (.var 3)]) (.idx (.var 4) (.int 0))] [], .iff (.cmp .nin (.var 6) (.tup [(.int 0), (.int 2)])) [.sidx (.var 2) (.tup [(.str [99, 111, 108, 117, 109, 110, 115]), (.var 3)]) (.idx (.var 4) (.int 1))] [], .iff (.cmp .gt (.var 6) (.int 3)) [.sidx (.var 2) (.tup [(.str [115, 116, 97, 116, 117, 115]), (.var 3)]) (.call "law._law_choose" [(.var 0), (.lst false [(.str [115, 105, 110, 103, 108, 101]), (.str [115, 112, 105, 108, 108, 101, 100]), (.str [115, 112, 105, 108, 108, 101, 100]), (.str [98, 108, 111, 99, 107, 101, 100])])])] [], .iff (.and [(.cmp .lt (.var 6) (.int 4)), (.cmp .eq (.call "law._law_draw" [(.var 0), (.int 3)]) (.int 0))]) [.sidx (.var 2) (.tup [(.str [115, 116, 97, 116, 117, 115]), (.var 3)]) (.call "law._law_choose" [(.var 0), (.lst false [(.str [115, 105, 110, 103, 108, 101]), (.str [98, 108, 111, 99, 107, 101, 100])])])] [], .iff (.cmp .gt (.var 6) (.int 2)) [.for (.v 7) "range" [(.idx (.var 4) (.int 0))] [.for (.v 8) "range" [(.idx (.var 4) (.int 1))] [.iff (.cmp .gt (.call "law._law_draw" [(.var 0), (.int 4)]) (.int 0)) [.sidx (.var 2) (.tup [(.str [101, 108, 101, 109, 101, 110, 116]), (.var 3), (.var 7), (.var 8)]) (.bin .add (.bin .mul (.int 10) (.var 7)) (.var 8))] []]]] []],
    .ret (.var 2)], 0⟩
def d_law__law_reaches : Fn := ⟨3, 5, [
    .iff (.or [(.cmp .gt (.idx (.var 1) (.int 0)) (.idx (.var 2) (.int 0))), (.cmp .gt (.idx (.var 1) (.int 1)) (.idx (.var 2) (.int 1)))]) [.ret (.bl false)] [],
    .for (.t [3, 4]) "" [(.idx (.var 0) (.int 2))] [.iff (.and [(.chain .le .le (.idx (.var 1) (.int 0)) (.var 3) (.idx (.var 2) (.int 0))), (.chain .le .le (.idx (.var 1) (.int 1)) (.var 4) (.idx (.var 2) (.int 1))), (.cmp .ne (.tup [(.var 3), (.var 4)]) (.var 1))]) [.ret (.bl false)] []],
    .ret (.bl true)], 0⟩
def d_law__law_covers : Fn := ⟨3, 3, [
    .iff (.cmp .ne (.bm (.var 0) "get" [(.tup [(.str [115, 116, 97, 116, 117, 115]), (.var 1)])]) (.str [115, 112, 105, 108, 108, 101, 100])) [.ret (.bl false)] [],
    .ret (.and [(.cmp .gt (.bin .add (.idx (.var 1) (.int 0)) (.idx (.var 0) (.tup [(.str [114, 111, 119, 115]), (.var 1)]))) (.idx (.var 2) (.int 0))), (.cmp .gt (.bin .add (.idx (.var 1) (.int 1)) (.idx (.var 0) (.tup [(.str [99, 111, 108, 117, 109, 110, 115]), (.var 1)]))) (.idx (.var 2) (.int 1)))])], 0⟩
def d_law__law_open : Fn := ⟨3, 4, [
    .ret (.comp false [3] (.tup [(.var 3), (.var 1)]) (.v 3) "" [(.var 2)] [(.cmp .nin (.tup [(.var 3), (.var 1)]) (.var 0))])], 0⟩
def d_law__law_status : Fn := ⟨3, 13, [
    .for (.v 3) "" [(.lst false [(.str [114, 111, 119, 115]), (.str [99, 111, 108, 117, 109, 110, 115])])] [.iff (.cmp .nin (.tup [(.var 3), (.var 2)]) (.var 1)) [.ret (.tup [(.str [109, 105, 115, 115, 105, 110, 103]), (.lst false [(.tup [(.var 3), (.var 2)])])])] []],
    .par [4, 5] [(.idx (.var 1) (.tup [(.str [114, 111, 119, 115]), (.var 2)])), (.idx (.var 1) (.tup [(.str [99, 111, 108, 117, 109, 110, 115]), (.var 2)]))],
    .iff (.and [(.cmp .eq (.var 4) (.int 1)), (.cmp .eq (.var 5) (.int 1))]) [.ret (.tup [(.str [97, 110, 115, 119, 101, 114]), (.str [115, 105, 110, 103, 108, 101])])] [],
    .par [6, 7] [(.bin .sub (.bin .add (.idx (.var 2) (.int 0)) (.var 4)) (.int 1)), (.bin .sub (.bin .add (.idx (.var 2) (.int 1)) (.var 5)) (.int 1))],
    .iff (.or [(.cmp .ge (.var 6) (.idx (.var 0) (.int 0))), (.cmp .ge (.var 7) (.idx (.var 0) (.int 1)))]) [.ret (.tup [(.str [97, 110, 115, 119, 101, 114]), (.str [98, 108, 111, 99, 107, 101, 100])])] [],
    .for (.v 8) "" [(.idx (.var 0) (.int 2))] [.iff (.and [(.cmp .ne (.var 8) (.var 2)), (.chain .le .le (.idx (.var 2) (.int 0)) (.idx (.var 8) (.int 0)) (.var 6)), (.chain .le .le (.idx (.var 2) (.int 1)) (.idx (.var 8) (.int 1)) (.var 7))]) [.ret (.tup [(.str [97, 110, 115, 119, 101, 114]), (.str [98, 108, 111, 99, 107, 101, 100])])] []],
    .set 9 (.lst false []),
    .for (.v 8) "" [(.call "law._law_formulas" [(.var 0)])] [.set 10 (.tup [(.idx (.var 2) (.int 0)), (.idx (.var 8) (.int 1))]), .iff (.or [(.cmp .ge (.idx (.var 8) (.int 0)) (.idx (.var 2) (.int 0))), (.not (.chain .lt .le (.idx (.var 2) (.int 1)) (.idx (.var 8) (.int 1)) (.var 7))), (.not (.call "law._law_reaches" [(.var 0), (.var 8), (.var 10)]))]) [.cnt] [], .set 11 (.cmp .le (.bin .add (.idx (.var 8) (.int 0)) (.bm (.var 1) "get" [(.tup [(.str [114, 111, 119, 115]), (.var 8)]), (.int 99)])) (.idx (.var 2) (.int 0))), .set 12 (.bm (.var 1) "get" [(.tup [(.str [115, 116, 97, 116, 117, 115]), (.var 8)])]), .iff (.and [(.cmp .eq (.var 12) (.str [115, 112, 105, 108, 108, 101, 100])), (.not (.var 11))]) [.ret (.tup [(.str [97, 110, 115, 119, 101, 114]), (.str [98, 108, 111, 99, 107, 101, 100])])] [], .iff (.and [(.cmp .nin (.var 12) (.tup [(.str [115, 105, 110, 103, 108, 101]), (.str [98, 108, 111, 99, 107, 101, 100])])), (.not (.var 11))]) [.set 9 (.bin .add (.var 9) (.call "law._law_open" [(.var 1), (.var 8), (.lst false [(.str [114, 111, 119, 115]), (.str [115, 116, 97, 116, 117, 115])])]))] []],
    .ret (.ife (.cmp .ne (.var 9) (.lst false [])) (.tup [(.str [109, 105, 115, 115, 105, 110, 103]), (.var 9)]) (.tup [(.str [97, 110, 115, 119, 101, 114]), (.str [115, 112, 105, 108, 108, 101, 100])]))], 0⟩
def d_law_law : Fn := ⟨1, 14, [
    .for (.v 1) "range" [(.bi "max" [(.int 2), (.bi "min" [(.int 3), (.bi "len" [(.var 0)])])])] [.set 2 (.call "law._law_stream" [(.var 0), (.var 1)]), .for (.v 3) "range" [(.int 3)] [.set 4 (.idx (.lst false [(.int 7), (.int 7), (.int 11)]) (.var 3)), .par [5, 6] [(.bin .add (.int 2) (.call "law._law_draw" [(.var 2), (.var 4)])), (.bin .add (.int 2) (.call "law._law_draw" [(.var 2), (.var 4)]))], .set 7 (.call "law._law_sheet" [(.var 2), (.var 5), (.var 6), (.bin .add (.int 4) (.call "law._law_draw" [(.var 2), (.int 8)])), (.int 1)]), .set 8 (.call "law._law_answers" [(.var 2), (.var 7)]), .set 9 (.bi "repr" [(.tup [(.var 7), (.var 8)])]), .for (.v 10) "" [(.call "law._law_formulas" [(.var 7)])] [.set 11 (.call "law._law_status" [(.var 7), (.var 8), (.var 10)]), .for (.v 12) "range" [(.int 2)] [.set 13 (.call "rules.apply_rule" [(.var 7), (.var 8), (.tup [(.str [115, 116, 97, 116, 117, 115]), (.var 10)])]), .iff (.cmp .ne (.bi "repr" [(.var 13)]) (.bi "repr" [(.var 11)])) [.ret (.bl false)] [], .iff (.cmp .eq (.idx (.var 13) (.int 0)) (.str [109, 105, 115, 115, 105, 110, 103])) [.expr (.bm (.idx (.var 13) (.int 1)) "clear" [])] []]], .iff (.cmp .ne (.bi "repr" [(.tup [(.var 7), (.var 8)])]) (.var 9)) [.ret (.bl false)] []]],
    .ret (.bl true)], 0⟩
def dfs : List Df := [
  ⟨"grid.is_integer", "is_integer", 3, d_grid_is_integer, ["value"], none⟩,
  ⟨"grid.area_at", "area_at", 4, d_grid_area_at, ["cell", "rows", "columns", "row", "column"], none⟩,
  ⟨"grid.contains", "contains", 5, d_grid_contains, ["area", "cell", "top", "left", "bottom", "right"], none⟩,
  ⟨"grid.cells_of", "cells_of", 6, d_grid_cells_of, ["area", "top", "left", "bottom", "right", "row", "column"], none⟩,
  ⟨"sheets.formulas_of", "formulas_of", 86, d_sheets_formulas_of, ["sheet", "cell", "content"], none⟩,
  ⟨"rules.size_of", "size_of", 92, d_rules_size_of, ["answers", "cell"], none⟩,
  ⟨"rules.is_free", "is_free", 93, d_rules_is_free, ["sheet", "area", "cell", "other"], none⟩,
  ⟨"rules.can_reach", "can_reach", 94, d_rules_can_reach, ["sheet", "formula", "cell"], none⟩,
  ⟨"rules.rivals_for", "rivals_for", 95, d_rules_rivals_for, ["sheet", "cell", "area", "above", "other"], none⟩,
  ⟨"rules.ends_before", "ends_before", 96, d_rules_ends_before, ["answers", "formula", "cell", "rows", "columns"], none⟩,
  ⟨"rules.stays_away", "stays_away", 97, d_rules_stays_away, ["answers", "formula", "cell"], none⟩,
  ⟨"rules.covers", "covers", 98, d_rules_covers, ["answers", "formula", "cell", "rows", "columns"], none⟩,
  ⟨"rules.unanswered", "unanswered", 99, d_rules_unanswered, ["answers", "formula", "kinds", "kind"], none⟩,
  ⟨"rules.room_result", "room_result", 100, d_rules_room_result, ["answers", "cell", "rivals", "missing", "other", "place"], none⟩,
  ⟨"rules.status_rule", "status_rule", 101, d_rules_status_rule, ["sheet", "answers", "cell", "rows", "columns", "area"], none⟩,
  ⟨"rules.apply_rule", "apply_rule", 106, d_rules_apply_rule, ["sheet", "answers", "question", "kind", "cell", "position"], none⟩,
  ⟨"law._law_stream", "_law_stream", 108, d_law__law_stream, ["script", "start", "seed", "number", "digits"], none⟩,
  ⟨"law._law_draw", "_law_draw", 109, d_law__law_draw, ["stream", "size", "found"], none⟩,
  ⟨"law._law_choose", "_law_choose", 110, d_law__law_choose, ["stream", "items"], none⟩,
  ⟨"law._law_cell", "_law_cell", 111, d_law__law_cell, ["stream", "rows", "columns"], none⟩,
  ⟨"law._law_area", "_law_area", 112, d_law__law_area, ["stream", "rows", "columns", "top", "left"], none⟩,
  ⟨"law._law_reference", "_law_reference", 113, d_law__law_reference, ["stream", "rows", "columns", "kind"], none⟩,
  ⟨"law._law_array", "_law_array", 114, d_law__law_array, ["stream", "rows", "columns", "depth", "kind", "sizes", "first", "operator", "second"], none⟩,
  ⟨"law._law_scalar", "_law_scalar", 115, d_law__law_scalar, ["stream", "rows", "columns", "depth", "kind", "first", "operator", "name", "places"], none⟩,
  ⟨"law._law_formula", "_law_formula", 116, d_law__law_formula, ["stream", "rows", "columns", "depth"], none⟩,
  ⟨"law._law_content", "_law_content", 117, d_law__law_content, ["stream", "rows", "columns", "depth"], none⟩,
  ⟨"law._law_sheet", "_law_sheet", 118, d_law__law_sheet, ["stream", "rows", "columns", "count", "depth", "contents", "turn"], none⟩,
  ⟨"law._law_formulas", "_law_formulas", 119, d_law__law_formulas, ["sheet", "cell"], none⟩,
  ⟨"law._law_answers", "_law_answers", 120, d_law__law_answers, ["stream", "sheet", "found", "cell", "size", "k", "way", "i", "j"], none⟩,
  ⟨"law._law_reaches", "_law_reaches", 121, d_law__law_reaches, ["sheet", "other", "cell", "row", "column"], none⟩,
  ⟨"law._law_covers", "_law_covers", 122, d_law__law_covers, ["answers", "other", "cell"], none⟩,
  ⟨"law._law_open", "_law_open", 123, d_law__law_open, ["answers", "other", "kinds", "kind"], none⟩,
  ⟨"law._law_status", "_law_status", 124, d_law__law_status, ["sheet", "answers", "cell", "kind", "rows", "columns", "bottom", "right", "other", "missing", "place", "short", "status"], none⟩,
  ⟨"law.law", "law", 125, d_law_law, ["script", "start", "stream", "turn", "most", "rows", "columns", "sheet", "answers", "kept", "cell", "due", "again", "found"], none⟩]
def cds : List Cd := [⟨"grid.MAX_ROWS", "MAX_ROWS", (.int (12))⟩,
  ⟨"grid.MAX_COLUMNS", "MAX_COLUMNS", (.int (12))⟩,
  ⟨"rules.SINGLE", "SINGLE", (.str [115, 105, 110, 103, 108, 101])⟩,
  ⟨"rules.SPILLED", "SPILLED", (.str [115, 112, 105, 108, 108, 101, 100])⟩,
  ⟨"rules.BLOCKED", "BLOCKED", (.str [98, 108, 111, 99, 107, 101, 100])⟩,
  ⟨"rules.SPILL_ERROR", "SPILL_ERROR", (.str [35, 83, 80, 73, 76, 76])⟩]
def kds : List Kd := []
def xds : List Xd := []
def mo : Mo := ⟨dfs, cds, kds, xds⟩
abbrev RL : PySem.W.OpenLaw := PySem.Challenge.rw_spillsheet_k29_status_rule
abbrev RR : PySem.W.OpenRow := PySem.W.OpenLaw.row RL
def ads : List Addr := [3, 21, 28, 35, 40, 691, 698, 703, 710, 715, 722, 729, 736, 741, 748, 755, 790, 797, 804, 811, 818, 825, 832, 839, 846, 853, 860, 867, 872, 877, 884, 891, 896, 903, 910, 20, 27, 34, 39, 690, 697, 702, 709, 714, 721, 728, 735, 740, 747, 754, 789, 796, 803, 810, 817, 824, 831, 838, 845, 852, 859, 866, 871, 876, 883, 890, 895, 902, 909]
abbrev hk : PySem.W.Hook := hookA ads mo RL.prog
def ob (s : PySem.W.SharedT) : (He.AlT × Bool) × Bool := obA ads mo RL.prog (HandSHeadRun.getT s)
theorem ob_eq (s : PySem.W.SharedT) : ob s = hk.obs s.abs := obA_eq (HandSHeadRun.getT_eq s)
theorem row : rowB RL.prog mo = true := by decide +kernel
abbrev Run0 (w : World) : Prop := HandSHeadRun.RunEq RR (PySem.W.view RL.prog [125]) PySem.W.Hook.none (fun _ => ()) 5534 ((["MAX_ROWS", "MAX_COLUMNS", "is_integer", "area_at", "contains", "cells_of", "subexpressions", "LIMIT", "is_number", "is_error", "as_number", "is_true", "within_limit", "add", "subtract", "multiply", "divide", "less", "at_most", "equal", "OPERATORS", "apply_operator", "negate", "aggregate", "unit_size", "no_failure", "number_element", "cell_element", "lost_element", "range_size"] : List Str) ++ (["range_element", "spill_size", "spill_failure", "spill_element", "first_size", "first_failure", "negate_element", "binary_size", "binary_failure", "fitted_element", "binary_element", "aggregate_element", "rows_element", "columns_element", "ACROSS", "LONGEST", "index_element", "seq_count", "seq_size", "seq_failure", "seq_element", "transpose_size", "transpose_element", "sort_element", "selection", "filter_size", "filter_failure", "filter_element", "take_size", "take_failure"] : List Str) ++ (["take_element", "drop_size", "drop_failure", "drop_element", "joined_word", "join_size", "join_failure", "join_element", "chosen", "branch_size", "branch_failure", "branch_element", "RULES", "Waiting", "merged_questions", "Node", "Evaluation", "evaluate", "holds_formula", "formulas_of", "SINGLE", "SPILLED", "BLOCKED", "SPILL_ERROR", "size_of", "is_free", "can_reach", "rivals_for", "ends_before", "stays_away"] : List Str) ++ (["covers", "unanswered", "room_result", "status_rule", "element_answer", "formula_shown", "empty_shown", "shown_rule", "apply_rule", "_law_stream", "_law_draw", "_law_choose", "_law_cell", "_law_area", "_law_reference", "_law_array", "_law_scalar", "_law_formula", "_law_content", "_law_sheet", "_law_formulas", "_law_answers", "_law_reaches", "_law_covers", "_law_open", "_law_status"] : List Str)) w
abbrev Run1 (w : World) : Prop := RunOb RR (ob1 ads mo RL.prog) 5534 (He.valT (fnsOf mo RL.prog) (tabsOf mo.cs)) w
abbrev Run2 (w : World) : Prop := RunOb RR (ob2 ads mo) 5534 (fun _ => (true, true)) w
theorem run0F (w : World) : Run0 (w.withFollow "special-get-raises" false) := by
  intro os
  kernel_rfl
theorem run0T (w : World) : Run0 (w.withFollow "special-get-raises" true) := by
  intro os
  kernel_rfl
theorem run1F (w : World) : Run1 (w.withFollow "special-get-raises" false) := by
  intro os
  kernel_rfl
theorem run1T (w : World) : Run1 (w.withFollow "special-get-raises" true) := by
  intro os
  kernel_rfl
theorem run2F (w : World) : Run2 (w.withFollow "special-get-raises" false) := by
  intro os
  kernel_rfl
theorem run2T (w : World) : Run2 (w.withFollow "special-get-raises" true) := by
  intro os
  kernel_rfl
theorem run (w : World) : HandSHeadRun.RunEq RR (PySem.W.view RL.prog [125]) hk ob 5534 ((["MAX_ROWS", "MAX_COLUMNS", "is_integer", "area_at", "contains", "cells_of", "subexpressions", "LIMIT", "is_number", "is_error", "as_number", "is_true", "within_limit", "add", "subtract", "multiply", "divide", "less", "at_most", "equal", "OPERATORS", "apply_operator", "negate", "aggregate", "unit_size", "no_failure", "number_element", "cell_element", "lost_element", "range_size"] : List Str) ++ (["range_element", "spill_size", "spill_failure", "spill_element", "first_size", "first_failure", "negate_element", "binary_size", "binary_failure", "fitted_element", "binary_element", "aggregate_element", "rows_element", "columns_element", "ACROSS", "LONGEST", "index_element", "seq_count", "seq_size", "seq_failure", "seq_element", "transpose_size", "transpose_element", "sort_element", "selection", "filter_size", "filter_failure", "filter_element", "take_size", "take_failure"] : List Str) ++ (["take_element", "drop_size", "drop_failure", "drop_element", "joined_word", "join_size", "join_failure", "join_element", "chosen", "branch_size", "branch_failure", "branch_element", "RULES", "Waiting", "merged_questions", "Node", "Evaluation", "evaluate", "holds_formula", "formulas_of", "SINGLE", "SPILLED", "BLOCKED", "SPILL_ERROR", "size_of", "is_free", "can_reach", "rivals_for", "ends_before", "stays_away"] : List Str) ++ (["covers", "unanswered", "room_result", "status_rule", "element_answer", "formula_shown", "empty_shown", "shown_rule", "apply_rule", "_law_stream", "_law_draw", "_law_choose", "_law_cell", "_law_area", "_law_reference", "_law_array", "_law_scalar", "_law_formula", "_law_content", "_law_sheet", "_law_formulas", "_law_answers", "_law_reaches", "_law_covers", "_law_open", "_law_status"] : List Str)) w := run_of rfl (PySem.W.byRow2 "special-get-raises" (P := Run0) run0F run0T w) (PySem.W.byRow2 "special-get-raises" (P := Run1) run1F run1T w) (PySem.W.byRow2 "special-get-raises" (P := Run2) run2F run2T w)
abbrev PP : Prog := progOf mo
end Lite.K29

-- go begin
local macro_rules | `(tactic| walk_at "bin") => `(tactic| first | with_reducible apply Lite.ob_add | with_reducible apply Lite.ob_sub | with_reducible apply Lite.ob_pow109 | ((with_reducible apply Lite.ob_powI); (· decide); (· decide +kernel)) | ((with_reducible apply Lite.ob_addL); (· first | decide | (simp only [List.length_append, List.length_cons, List.length_nil]; decide) | assumption)) | ((with_reducible apply Lite.ob_addT); (· first | decide | (simp only [List.length_append, List.length_cons, List.length_nil]; decide) | assumption)) | ((with_reducible apply Lite.ob_addS); (· first | decide | (simp only [List.length_append, List.length_cons, List.length_nil]; decide) | assumption)) | ((with_reducible apply Lite.ob_mod); (· first | omega | decide)) | ((with_reducible apply Lite.ob_mulL); (· first | omega | decide)) | ((with_reducible apply Lite.ob_mulR); (· first | omega | decide)))
local macro_rules | `(tactic| walk_at "cmp") => `(tactic| first | with_reducible apply Lite.oc_eq | with_reducible apply Lite.oc_lt | with_reducible apply Lite.oc_le | with_reducible apply Lite.oc_gt | with_reducible apply Lite.oc_ge | with_reducible apply Lite.oc_ne | with_reducible apply Lite.oc_is | with_reducible apply Lite.oc_isn | with_reducible apply Lite.oc_eqS | with_reducible apply Lite.oc_neS | with_reducible apply Lite.oc_eqB | with_reducible apply Lite.oc_neB | ((with_reducible apply Lite.oc_inT); (· first | assumption | rfl); (· first | assumption | rfl)) | ((with_reducible apply Lite.oc_inL); (· first | assumption | rfl); (· first | assumption | rfl)) | ((with_reducible apply Lite.oc_ninT); (· first | assumption | rfl); (· first | assumption | rfl)) | ((with_reducible apply Lite.oc_ninL); (· first | assumption | rfl); (· first | assumption | rfl)) | ((with_reducible apply Lite.oc_inD); (· first | assumption | rfl)) | ((with_reducible apply Lite.oc_ninD); (· first | assumption | rfl)))
local macro_rules | `(tactic| walk_at "tr") => `(tactic| first | with_reducible apply Lite.ot_bl | with_reducible apply Lite.ot_non | with_reducible apply Lite.ot_lst | with_reducible apply Lite.ot_tup | with_reducible apply Lite.ot_int | ((with_reducible apply Lite.ot_str); (· first | decide | assumption)))
local macro_rules | `(tactic| walk_at "bf") => `(tactic| first | with_reducible apply Lite.ob_len | with_reducible apply Lite.ob_lenT | with_reducible apply Lite.ob_abs | with_reducible apply Lite.ob_max2 | with_reducible apply Lite.ob_min2 | with_reducible apply Lite.ob_int | with_reducible apply Lite.ob_intB | with_reducible apply Lite.ob_tupL | with_reducible apply Lite.ob_tupT | with_reducible apply Lite.ob_lstT | with_reducible apply Lite.ob_lstL | ((with_reducible apply Lite.ob_repr); (· rfl); (· first | assumption | exact Lite.tell_bl _ | rfl)))
local macro_rules | `(tactic| walk_at "ob") => `(tactic| first | ((with_reducible refine Lite.gd_tr ?_); walk_at "tr") | ((with_reducible refine Lite.gd_cmp ?_); walk_at "cmp") | ((with_reducible refine Lite.gd_bin ?_); walk_at "bin") | ((with_reducible apply Lite.ob_isiT); (· rfl)) | ((with_reducible apply Lite.ob_isiF); (· rfl)) | ((with_reducible apply Lite.ob_ixT); (· first | exact Lite.nth0 | exact Lite.nth1 | exact Lite.nth2 | exact Lite.nth3 | assumption | rfl)) | ((with_reducible apply Lite.ob_ixL); (· first | exact Lite.nth0 | exact Lite.nth1 | exact Lite.nth2 | exact Lite.nth3 | assumption | rfl)) | ((with_reducible refine Lite.gd_bf ?_); walk_at "bf") | ((with_reducible apply Lite.ob_isx); (· rfl)) | ((with_reducible apply Lite.ob_attrX); (· rfl)) | ((with_reducible apply Lite.ob_attrI); (· assumption); (· rfl); (· rfl)) | ((with_reducible apply Lite.ob_methI); (· assumption); (· rfl); (· rfl)) | ((with_reducible apply Lite.ob_setI); (· assumption); (· rfl); (· decide)) | with_reducible apply Lite.ob_neg | with_reducible apply Lite.ob_tg2 | with_reducible apply Lite.ob_tgL2 | with_reducible apply Lite.ob_tgL3 | with_reducible apply Lite.ob_tg3 | with_reducible apply Lite.ob_tg4 | with_reducible apply Lite.ob_st1 | ((with_reducible apply Lite.ob_ixD); (· first | assumption | rfl); (· first | assumption | rfl)) | with_reducible apply Lite.op_nil | with_reducible apply Lite.op_one | with_reducible apply Lite.ob_slcT | with_reducible apply Lite.ob_slcL | ((with_reducible apply Lite.ob_slcS); (· first | decide | assumption)) | ((with_reducible apply Lite.od_mk); (· rfl)) | with_reducible apply Lite.ob_tg2 | with_reducible apply Lite.ob_tg3 | with_reducible apply Lite.ob_tg4)
local macro_rules | `(tactic| walk_at "evE") => `(tactic| first | ((with_reducible apply Lite.sv_var); (· rfl)) | with_reducible apply Lite.sv_int | with_reducible apply Lite.sv_callP | with_reducible apply Lite.sv_bin | with_reducible apply Lite.sv_cmp | with_reducible apply Lite.sv_idx | with_reducible apply Lite.sv_str | with_reducible apply Lite.sv_tup | with_reducible apply Lite.sv_lst | with_reducible apply Lite.sv_and | with_reducible apply Lite.sv_or | with_reducible apply Lite.sv_not | with_reducible apply Lite.sv_isi | with_reducible apply Lite.sv_bi | with_reducible apply Lite.sv_non | with_reducible apply Lite.sv_bl | with_reducible apply Lite.sv_ife | with_reducible apply Lite.sv_slc | with_reducible apply Lite.sv_negI | with_reducible apply Lite.sv_negO | ((with_reducible apply Lite.sv_globP); (· first | assumption | rfl)) | with_reducible apply Lite.sv_chain | with_reducible apply Lite.sv_lstM | with_reducible apply Lite.sv_bm | with_reducible apply Lite.sv_callVP | with_reducible apply Lite.sv_dct | with_reducible apply Lite.sv_isxP | with_reducible apply Lite.sv_attrP | with_reducible apply Lite.sv_methP | with_reducible apply Lite.sv_makeP)
local macro_rules | `(tactic| walk_at "evA") => `(tactic| first | with_reducible apply Lite.sv_andC | with_reducible apply Lite.sv_and1 | with_reducible apply Lite.sv_orC | with_reducible apply Lite.sv_or1)
local macro_rules | `(tactic| walk_at "evs") => `(tactic| first | with_reducible apply Lite.sv_esC | with_reducible apply Lite.sv_esN)
local macro_rules | `(tactic| walk_at "set") => `(tactic| first | with_reducible apply Lite.sw_set0 | with_reducible apply Lite.sw_set1 | with_reducible apply Lite.sw_set2 | with_reducible apply Lite.sw_set3 | with_reducible apply Lite.sw_set4 | with_reducible apply Lite.sw_set5 | with_reducible apply Lite.sw_set6 | with_reducible apply Lite.sw_set7 | with_reducible apply Lite.sw_set8 | with_reducible apply Lite.sw_set9 | with_reducible apply Lite.sw_set10 | with_reducible apply Lite.sw_set11 | with_reducible apply Lite.sw_set12 | with_reducible apply Lite.sw_set13 | with_reducible apply Lite.sw_set14 | with_reducible apply Lite.sw_set15)
local macro_rules | `(tactic| walk_at "xs") => `(tactic| first | ((with_reducible refine Lite.gd_set ?_); walk_at "set") | with_reducible apply Lite.sw_ret | with_reducible apply Lite.sw_if1 | with_reducible apply Lite.sw_iff | with_reducible apply Lite.sw_nil | with_reducible apply Lite.sw_expr | with_reducible apply Lite.sw_par2 | with_reducible apply Lite.sw_unp | with_reducible apply Lite.sw_par3 | with_reducible apply Lite.sw_retN | with_reducible apply Lite.sw_pass | with_reducible apply Lite.sw_brk | with_reducible apply Lite.sw_cnt | with_reducible apply Lite.sw_raiseP | with_reducible apply Lite.sw_sattrP | with_reducible apply Lite.sw_try | dsimp only [List.set_cons_succ, List.set_cons_zero])
local macro_rules | `(tactic| walk_at "wb") => `(tactic| first | with_reducible apply Lite.wb_0 | with_reducible apply Lite.wb_1 | with_reducible apply Lite.wb_2 | with_reducible apply Lite.wb_3 | with_reducible apply Lite.wb_4 | with_reducible apply Lite.wb_5 | with_reducible apply Lite.wb_6 | with_reducible apply Lite.wb_7 | with_reducible apply Lite.wb_8 | with_reducible apply Lite.wb_9 | with_reducible apply Lite.wb_10 | with_reducible apply Lite.wb_11 | with_reducible apply Lite.wb_12 | with_reducible apply Lite.wb_13 | with_reducible apply Lite.wb_14 | with_reducible apply Lite.wb_15)
local macro_rules | `(tactic| walk_at "ends") => `(tactic| first | with_reducible apply Lite.br_t | with_reducible apply Lite.br_f | with_reducible apply Lite.nxt_nx | with_reducible apply Lite.nxt_ret | with_reducible apply Lite.nxt_brk | with_reducible apply Lite.nxt_cnt | with_reducible apply Lite.fp_ret | with_reducible apply Lite.fp_nx | with_reducible apply Lite.lp_nx | with_reducible apply Lite.lp_cnt | with_reducible apply Lite.lp_brk | with_reducible apply Lite.lp_ret | with_reducible apply Lite.br_not | with_reducible apply Lite.br_eqS | ((with_reducible apply Lite.br_tt); (· rfl)) | ((with_reducible apply Lite.br_ff); (· rfl)) | ((with_reducible apply Lite.br_dT); (· first | assumption | omega)) | ((with_reducible apply Lite.br_dF); (· first | assumption | omega)) | ((with_reducible apply Lite.br_tt); (· assumption)) | ((with_reducible apply Lite.br_ff); (· assumption)) | ((with_reducible apply Lite.rc_mk); (· rfl)) | with_reducible apply Lite.fv_mk | ((with_reducible apply Lite.bm_lower); (· first | decide | assumption)) | ((with_reducible apply Lite.bm_get2); (· first | assumption | rfl)) | ((with_reducible apply Lite.bm_get1); (· first | assumption | rfl)) | walk_at "wb")
local macro_rules | `(tactic| walk_at "draw") => `(tactic| (((with_reducible apply Lite.wp_draw); (· first | assumption | exact Lite.DrawFn.draw (by assumption)); (· assumption); (· omega); (· omega)); intro _ _ _ _ _))
local macro_rules | `(tactic| walk_at "choose") => `(tactic| (((with_reducible apply Lite.wp_choose); (· exact Lite.DrawFn.draw (by assumption)); (· exact Lite.DrawFn.choose (by assumption)); (· assumption); (· first | simp | assumption); (· first | decide | simp | assumption)); intro _ _ _ _))
local macro_rules | `(tactic| walk_at "calls") => `(tactic| first | walk_at "draw" | walk_at "choose")
local macro_rules | `(tactic| walk_at "unroll") => `(tactic| first | with_reducible apply Lite.sw_for0 | with_reducible apply Lite.ow_lst | with_reducible apply Lite.ow_tup | ((with_reducible apply Lite.lw_cons); (· first | exact Lite.still_lst | exact Lite.still_tup | exact Lite.still_nil)) | ((with_reducible apply Lite.lw_nil); (· first | exact Lite.still_lst | exact Lite.still_tup | exact Lite.still_nil)))
local macro_rules | `(tactic| walk_at "go1") => `(tactic| first | ((with_reducible refine Lite.gd_ev ?_); walk_at "evE") | ((with_reducible refine Lite.gd_ob ?_); walk_at "ob") | ((with_reducible refine Lite.gd_es ?_); walk_at "evs") | ((with_reducible refine Lite.gd_xs ?_); walk_at "xs") | walk_at "ends" | walk_at "evA" | walk_at "calls")
local macro_rules | `(tactic| walk_at "go") => `(tactic| repeat (walk_at "go1"))
local macro_rules | `(tactic| walk_at "goU") => `(tactic| repeat (first | walk_at "go1" | walk_at "unroll"))
local macro_rules | `(tactic| walk_at "open") => `(tactic| dsimp only [List.map, List.replicate, Nat.reduceSub, List.cons_append, List.nil_append, List.append])
-- go end
/-! expressions drawn -/
namespace Lite
abbrev kNumber : List Nat := [110, 117, 109, 98, 101, 114]
abbrev kCell : List Nat := [99, 101, 108, 108]
abbrev kSpill : List Nat := [115, 112, 105, 108, 108]
abbrev kRange : List Nat := [114, 97, 110, 103, 101]
abbrev kBadref : List Nat := [98, 97, 100, 114, 101, 102]
abbrev kNegate : List Nat := [110, 101, 103, 97, 116, 101]
abbrev kBinary : List Nat := [98, 105, 110, 97, 114, 121]
abbrev kCall : List Nat := [99, 97, 108, 108]
/-- a place of the grid -/
abbrev inG (i : Int) : Prop := 0 ≤ i ∧ i ≤ 11
abbrev opsN : List (List Nat) := [[43], [45], [42], [47], [60], [60, 61], [61]]
/-- the functions and how many arguments they take -/
abbrev arities : List (List Nat × Nat) := [([83, 85, 77], 1), ([67, 79, 85, 78, 84], 1), ([77, 65, 88], 1), ([77, 73, 78], 1), ([82, 79, 87, 83], 1), ([67, 79, 76, 85, 77, 78, 83], 1), ([84, 82, 65, 78, 83, 80, 79, 83, 69], 1), ([83, 79, 82, 84], 1), ([83, 69, 81], 1), ([83, 69, 81], 2),
  ([73, 70, 69, 82, 82, 79, 82], 2), ([70, 73, 76, 84, 69, 82], 2), ([84, 65, 75, 69], 2), ([68, 82, 79, 80], 2), ([83, 84, 65, 67, 75], 2), ([66, 69, 83, 73, 68, 69], 2), ([73, 70], 3), ([73, 78, 68, 69, 88], 3)]
/-- an expression with at most d levels below -/
inductive IsE : Nat → T → Prop
  | num {d : Nat} {i : Int} (h0 : 0 ≤ i) (h1 : i ≤ 1000000000) : IsE d (.tup [.str kNumber, .int i])
  | cell {d : Nat} {r c : Int} (hr : inG r) (hc : inG c) : IsE d (.tup [.str kCell, .int r, .int c])
  | spill {d : Nat} {r c : Int} (hr : inG r) (hc : inG c) : IsE d (.tup [.str kSpill, .int r, .int c])
  | range {d : Nat} {r c u v : Int} (hr : inG r) (hc : inG c) (hu : inG u) (hv : inG v) (h1 : r ≤ u) (h2 : c ≤ v) : IsE d (.tup [.str kRange, .int r, .int c, .int u, .int v])
  | badref {d : Nat} : IsE d (.tup [.str kBadref])
  | neg {d : Nat} {x : T} (hx : IsE d x) : IsE (d + 1) (.tup [.str kNegate, x])
  | bin {d : Nat} {op : List Nat} {x y : T} (ho : op ∈ opsN) (hx : IsE d x) (hy : IsE d y) : IsE (d + 1) (.tup [.str kBinary, .str op, x, y])
  | call {d : Nat} {f : List Nat} {xs : List T} (hf : (f, xs.length) ∈ arities) (hx : ∀ x ∈ xs, IsE d x) : IsE (d + 1) (.tup [.str kCall, .str f, .tup xs])
theorem IsE.up {d : Nat} {x : T} (h : IsE d x) : ∀ {e : Nat}, d ≤ e → IsE e x := by
  induction h with
  | num a b => exact fun _ => .num a b
  | cell a b => exact fun _ => .cell a b
  | spill a b => exact fun _ => .spill a b
  | range a b c d e f => exact fun _ => .range a b c d e f
  | badref => exact fun _ => .badref
  | neg _ ih =>
    intro e he
    obtain ⟨k, rfl⟩ : ∃ k, e = k + 1 := ⟨e - 1, by omega⟩
    exact .neg (ih (by omega))
  | bin ho _ _ i1 i2 =>
    intro e he
    obtain ⟨k, rfl⟩ : ∃ k, e = k + 1 := ⟨e - 1, by omega⟩
    exact .bin ho (i1 (by omega)) (i2 (by omega))
  | call hf _ ih =>
    intro e he
    obtain ⟨k, rfl⟩ : ∃ k, e = k + 1 := ⟨e - 1, by omega⟩
    exact .call hf fun x hx => ih x hx (by omega)
structure ExprFn (P : Prog) : Prop where
  D : DrawFn P
  cell : P.fn "law._law_cell" = some d_law__law_cell
  area : P.fn "law._law_area" = some d_law__law_area
  ref : P.fn "law._law_reference" = some d_law__law_reference
  array : P.fn "law._law_array" = some d_law__law_array
  scalar : P.fn "law._law_scalar" = some d_law__law_scalar
section
variable {P : Prog} {n m : Nat} {h0 h : Heap} {E : T → Heap → Prop} {Q : T → Heap → Prop} {rows cols : Int}
theorem cell_wp (F : ExprFn P) (d : Drawn m h0 h) (r0 : 1 ≤ rows) (r1 : rows ≤ 12) (c0 : 1 ≤ cols) (c1 : cols ≤ 12) (w : ∀ r c h', inG r → inG c → r < rows → c < cols → Drawn m h0 h' → Q (.tup [.int r, .int c]) h') : Wp (call P (n + 2) "law._law_cell" [.loc m, .int rows, .int cols] h) E Q := by
  have D := F.D
  refine sw_run F.cell rfl rfl ?_
  dsimp only [d_law__law_cell]
  walk_at "open"
  walk_at "go"
  rename_i r h1 a1 b1 _ c h2 a2 b2 d2
  exact w r c h2 ⟨a1, by omega⟩ ⟨a2, by omega⟩ b1 b2 d2
theorem area_wp (F : ExprFn P) (d : Drawn m h0 h) (r0 : 1 ≤ rows) (r1 : rows ≤ 12) (c0 : 1 ≤ cols) (c1 : cols ≤ 12) (w : ∀ r c u v h', inG r → inG c → inG u → inG v → r ≤ u → c ≤ v → Drawn m h0 h' → Q (.tup [.int r, .int c, .int u, .int v]) h') : Wp (call P (n + 3) "law._law_area" [.loc m, .int rows, .int cols] h) E Q := by
  have D := F.D
  refine sw_run F.area rfl rfl ?_
  dsimp only [d_law__law_area]
  walk_at "open"
  walk_at "go"
  refine cell_wp F d r0 r1 c0 c1 (fun r c h1 hr hc _ _ d1 => ?_)
  walk_at "go"
  rename_i u h2 a2 b2 _ v h3 a3 b3 d3
  unfold inG at hr hc
  refine w _ _ _ _ h3 hr hc ?_ ?_ ?_ ?_ d3 <;> (try unfold inG) <;> split <;> omega
theorem ref_wp (F : ExprFn P) (d : Drawn m h0 h) (r0 : 1 ≤ rows) (r1 : rows ≤ 12) (c0 : 1 ≤ cols) (c1 : cols ≤ 12) (w : ∀ x h', IsE 0 x → Drawn m h0 h' → Q x h') : Wp (call P (n + 4) "law._law_reference" [.loc m, .int rows, .int cols] h) E Q := by
  have D := F.D
  refine sw_run F.ref rfl rfl ?_
  dsimp only [d_law__law_reference]
  walk_at "open"
  have rest : ∀ {rows cols : Int} {h : Heap}, 1 ≤ rows → rows ≤ 12 → 1 ≤ cols → cols ≤ 12 → Drawn m h0 h → Wp (exSs (cnOf P (n + 3)) (d_law__law_reference.body.drop 1) [some (.loc m), some (.int rows), some (.int cols), none] h) E (Fp Q) := by
    intro rows cols h r0 r1 c0 c1 d
    dsimp only [d_law__law_reference, List.drop]
    walk_at "go"
    refine br_dec (fun c => ?_) (fun c => ?_)
    · walk_at "go"
      refine cell_wp F (by assumption) r0 r1 c0 c1 (fun r c h1 hr hc _ _ d1 => ?_)
      walk_at "go"
      exact w _ _ (.cell hr hc) d1
    walk_at "go"
    refine br_dec (fun c => ?_) (fun c => ?_)
    · walk_at "go"
      refine area_wp F (by assumption) r0 r1 c0 c1 (fun r c u v h1 hr hc hu hv h1 h2 d1 => ?_)
      walk_at "go"
      exact w _ _ (.range hr hc hu hv h1 h2) d1
    walk_at "go"
    refine br_dec (fun c => ?_) (fun c => ?_)
    · walk_at "go"
      refine cell_wp F (by assumption) r0 r1 c0 c1 (fun r c h1 hr hc _ _ d1 => ?_)
      walk_at "go"
      exact w _ _ (.spill hr hc) d1
    · walk_at "go"
      exact w _ _ .badref (by assumption)
  refine sw_if1 ?_
  walk_at "go"
  refine br_dec (fun c => ?_) (fun c => ?_)
  · refine sw_unp (sv_tup (sv_esC (sv_int (sv_esC (sv_int (sv_esN ?_))))))
    refine ob_tg2 ?_
    refine sw_nil (nxt_nx ?_)
    exact rest (by decide) (by decide) (by decide) (by decide) (by assumption)
  · exact rest r0 r1 c0 c1 (by assumption)
/-- what the drawing of arrays and scalars gives, at a depth -/
def GenA (P : Prog) (f : String) (D : Nat) : Prop := ∀ {n m : Nat} {h0 h : Heap} {E : T → Heap → Prop} {Q : T → Heap → Prop} {rows cols j : Int}, Drawn m h0 h → 1 ≤ rows → rows ≤ 12 → 1 ≤ cols → cols ≤ 12 → j = (D : Int) → (∀ x h', IsE D x → Drawn m h0 h' → Q x h') → Wp (call P (n + D + 5) f [.loc m, .int rows, .int cols, .int j] h) E Q
theorem genA_use {f : String} {D : Nat} {j : Int} (g : GenA P f D) (d : Drawn m h0 h) (r0 : 1 ≤ rows) (r1 : rows ≤ 12) (c0 : 1 ≤ cols) (c1 : cols ≤ 12) (hj : j = (D : Int)) (w : ∀ x h', IsE D x → Drawn m h0 h' → Q x h') : Wp (call P (n + D + 5) f [.loc m, .int rows, .int cols, .int j] h) E Q := g d r0 r1 c0 c1 hj w
end
end Lite
local macro_rules | `(tactic| walk_at "calls") => `(tactic| (((with_reducible apply Lite.genA_use); (· assumption); (· assumption); (· assumption); (· assumption); (· assumption); (· assumption); (· omega)); intro _ _ _ _))
local macro_rules | `(tactic| walk_at "calls") => `(tactic| (((with_reducible apply Lite.ref_wp); (· assumption); (· assumption); (· assumption); (· assumption); (· assumption); (· assumption)); intro _ _ _ _))
local macro_rules | `(tactic| walk_at "calls") => `(tactic| (((with_reducible apply Lite.cell_wp); (· assumption); (· assumption); (· assumption); (· assumption); (· assumption); (· assumption)); intro _ _ _ _ _ _ _ _))
namespace Lite
section
variable {P : Prog}
theorem arr_zero (F : ExprFn P) : GenA P "law._law_array" 0 := by
  intro n m h0 h E Q rows cols j d r0 r1 c0 c1 hj w
  have D := F.D
  refine sw_run F.array rfl rfl ?_
  dsimp only [d_law__law_array]
  walk_at "open"
  walk_at "go"
  exact w _ _ (by assumption) (by assumption)
theorem num_mem {x : T} {d : Nat} (h : x ∈ ([.int 0, .int 1, .int 2, .int 3, .int 1, .int 2, .int 4, .int 13] : List T)) : IsE d (.tup [.str kNumber, x]) := by
  simp only [List.mem_cons, List.not_mem_nil, or_false] at h
  rcases h with rfl | rfl | rfl | rfl | rfl | rfl | rfl | rfl <;> exact .num (by decide) (by decide)
theorem sca_zero (F : ExprFn P) : GenA P "law._law_scalar" 0 := by
  intro n m h0 h E Q rows cols j d r0 r1 c0 c1 hj w
  have D := F.D
  refine sw_run F.scalar rfl rfl ?_
  dsimp only [d_law__law_scalar]
  walk_at "open"
  walk_at "go"
  rename_i k h1 k0 k1 d1
  refine br_dec (fun c => ?_) (fun c => ?_)
  · walk_at "go"
    exact w _ _ (num_mem (by assumption)) (by assumption)
  walk_at "go"
  refine br_dec (fun c => ?_) (fun c => ?_)
  · walk_at "go"
    exact w _ _ (num_mem (by assumption)) (by assumption)
  · walk_at "go"
    exact w _ _ (.cell (by assumption) (by assumption)) (by assumption)
theorem arr_succ (F : ExprFn P) {d : Nat} (A : GenA P "law._law_array" d) (S : GenA P "law._law_scalar" d) : GenA P "law._law_array" (d + 1) := by
  intro n m h0 h E Q rows cols j dr r0 r1 c0 c1 hj w
  have D := F.D
  rw [show n + (d + 1) + 5 = (n + d + 5) + 1 by omega]
  refine sw_run F.array rfl rfl ?_
  dsimp only [d_law__law_array]
  walk_at "open"
  walk_at "go"
  refine br_dec (fun c => ?_) (fun c => ?_)
  · walk_at "go"
    exact w _ _ (IsE.up (by assumption) (Nat.zero_le _)) (by assumption)
  walk_at "go"
  refine br_dec (fun c => ?_) (fun c => ?_)
  · walk_at "go"
    rename_i x1 _ e1 _ x2 _ e2 _ k _ k0 k1 d3
    have : k = 0 ∨ k = 1 := by omega
    rcases this with rfl | rfl
    · rw [show cut [x1, x2] none (some (1 + 0)) = [x1] from rfl]
      exact w _ _ (.call (f := [83, 69, 81]) (xs := [x1]) (by simp) (by simpa using e1)) d3
    · rw [show cut [x1, x2] none (some (1 + 1)) = [x1, x2] from rfl]
      exact w _ _ (.call (f := [83, 69, 81]) (xs := [x1, x2]) (by simp) (by simp [e1, e2])) d3
  walk_at "go"
  rename_i x1 _ e1 _
  refine br_dec (fun c => ?_) (fun c => ?_)
  · walk_at "go"
    rename_i o _ ho d3
    simp only [List.mem_cons, List.not_mem_nil, or_false] at ho
    rcases ho with rfl | rfl <;> exact w _ _ (.call (xs := [x1]) (by simp) (by simpa using e1)) d3
  walk_at "go"
  refine br_dec (fun c => ?_) (fun c => ?_)
  · walk_at "go"
    rename_i o _ ho _ x2 _ e2 d3
    simp only [List.mem_cons, List.not_mem_nil, or_false] at ho
    rcases ho with rfl | rfl | rfl | rfl <;> exact w _ _ (.bin (by simp) e1 e2) d3
  walk_at "go"
  refine br_dec (fun c => ?_) (fun c => ?_)
  · walk_at "go"
    rename_i o _ ho _ x2 _ e2 d3
    simp only [List.mem_cons, List.not_mem_nil, or_false] at ho
    rcases ho with rfl | rfl <;> exact w _ _ (.call (xs := [x1, x2]) (by simp) (by simp [e1, e2])) d3
  walk_at "go"
  rename_i x2 _ e2 _
  refine br_dec (fun c => ?_) (fun c => ?_)
  · walk_at "go"
    rename_i o _ ho d3
    simp only [List.mem_cons, List.not_mem_nil, or_false] at ho
    rcases ho with rfl | rfl | rfl | rfl <;> exact w _ _ (.call (xs := [x1, x2]) (by simp) (by simp [e1, e2])) d3
  · walk_at "go"
    rename_i x3 _ e3 d3
    exact w _ _ (.call (f := [73, 70]) (xs := [x3, x1, x2]) (by simp) (by simp [e1, e2, e3])) d3
theorem sca_succ (F : ExprFn P) {d : Nat} (A : GenA P "law._law_array" d) (S : GenA P "law._law_scalar" d) : GenA P "law._law_scalar" (d + 1) := by
  intro n m h0 h E Q rows cols j dr r0 r1 c0 c1 hj w
  have D := F.D
  rw [show n + (d + 1) + 5 = (n + d + 5) + 1 by omega]
  refine sw_run F.scalar rfl rfl ?_
  dsimp only [d_law__law_scalar]
  walk_at "open"
  walk_at "go"
  refine br_dec (fun c => ?_) (fun c => ?_)
  · walk_at "go"
    exact w _ _ (num_mem (by assumption)) (by assumption)
  walk_at "go"
  refine br_dec (fun c => ?_) (fun c => ?_)
  · walk_at "go"
    exact w _ _ (.cell (by assumption) (by assumption)) (by assumption)
  walk_at "go"
  refine br_dec (fun c => ?_) (fun c => ?_)
  · walk_at "go"
    rename_i x1 _ e1 _ o _ ho _ x2 _ e2 d3
    simp only [List.mem_cons, List.not_mem_nil, or_false] at ho
    rcases ho with rfl | rfl | rfl | rfl | rfl | rfl | rfl <;> exact w _ _ (.bin (by simp) e1 e2) d3
  walk_at "go"
  refine br_dec (fun c => ?_) (fun c => ?_)
  · walk_at "go"
    exact w _ _ (.neg (by assumption)) (by assumption)
  walk_at "go"
  refine br_dec (fun c => ?_) (fun c => ?_)
  · walk_at "go"
    rename_i o _ ho _ x2 _ e2 d3
    simp only [List.mem_cons, List.not_mem_nil, or_false] at ho
    rcases ho with rfl | rfl | rfl | rfl | rfl | rfl <;> exact w _ _ (.call (xs := [x2]) (by simp) (by simpa using e2)) d3
  · walk_at "go"
    rename_i k1 _ a1 b1 _ k2 _ a2 b2 _ x2 _ e2 d3
    refine w _ _ (.call (f := [73, 78, 68, 69, 88]) (xs := [x2] ++ [.tup [.str kNumber, .int (1 + k1)], .tup [.str kNumber, .int (1 + k2)]]) (by simp) ?_) d3
    intro x hx
    simp only [List.cons_append, List.nil_append, List.mem_cons, List.not_mem_nil, or_false] at hx
    rcases hx with rfl | rfl | rfl
    · exact e2
    · exact .num (by omega) (by omega)
    · exact .num (by omega) (by omega)
theorem gen_all (F : ExprFn P) : ∀ d : Nat, GenA P "law._law_array" d ∧ GenA P "law._law_scalar" d
  | 0 => ⟨arr_zero F, sca_zero F⟩
  | d + 1 => ⟨arr_succ F (gen_all F d).1 (gen_all F d).2, sca_succ F (gen_all F d).1 (gen_all F d).2⟩
/-- a formula drawn -/
theorem formula_wp (F : ExprFn P) (G : P.fn "law._law_formula" = some d_law__law_formula) {n m : Nat} {h0 h : Heap} {E : T → Heap → Prop} {Q : T → Heap → Prop} {rows cols j : Int} (D : Nat) (d : Drawn m h0 h) (r0 : 1 ≤ rows) (r1 : rows ≤ 12) (c0 : 1 ≤ cols) (c1 : cols ≤ 12) (hj : j = (D : Int)) (w : ∀ x h', IsE D x → Drawn m h0 h' → Q x h') : Wp (call P (n + D + 6) "law._law_formula" [.loc m, .int rows, .int cols, .int j] h) E Q := by
  have DF := F.D
  have A : GenA P "law._law_array" D := (gen_all F D).1
  have S : GenA P "law._law_scalar" D := (gen_all F D).2
  refine sw_run G rfl rfl ?_
  dsimp only [d_law__law_formula]
  walk_at "open"
  walk_at "go"
  refine br_dec (fun c => ?_) (fun c => ?_)
  · walk_at "go"
    exact w _ _ (by assumption) (by assumption)
  · walk_at "go"
    exact w _ _ (by assumption) (by assumption)
end
end Lite

/-! what repr may be asked of; parts of tuples -/
namespace Lite
open PySem
theorem log_small {i : Int} (h0 : 0 ≤ i) (h1 : i ≤ 1000000000) : i.natAbs.log2 ≤ 30 := by
  have := log2_lt (i := i) (b := 31) (by omega) (by omega)
  omega
theorem log_grid {i : Int} (h : inG i) : i.natAbs.log2 ≤ 30 := log_small h.1 (by have := h.2; omega)
theorem plns_all : ∀ {xs : List T}, (∀ x ∈ xs, x.pln = true) → T.plns xs = true
  | [], _ => rfl
  | x :: xs, h => by rw [T.plns, h x (by simp), plns_all fun y hy => h y (List.mem_cons_of_mem _ hy)]; rfl
theorem showys_all : ∀ {xs : List T}, (∀ x ∈ xs, x.showy = true) → T.showys xs = true
  | [], _ => rfl
  | x :: xs, h => by rw [T.showys, h x (by simp), showys_all fun y hy => h y (List.mem_cons_of_mem _ hy)]; rfl
theorem depths_all {b : Nat} : ∀ {xs : List T}, (∀ x ∈ xs, x.depth ≤ b) → T.depths xs ≤ b
  | [], _ => Nat.zero_le _
  | x :: xs, h => by
    have h1 := h x (by simp)
    have ih := depths_all fun y hy => h y (List.mem_cons_of_mem x hy)
    rw [T.depths]
    omega
theorem rlens_all {b : Nat} : ∀ {xs : List T}, (∀ x ∈ xs, x.rlen ≤ b) → T.rlens xs ≤ xs.length * (b + 2)
  | [], _ => Nat.zero_le _
  | x :: xs, h => by
    have h1 := h x (by simp)
    have ih := rlens_all fun y hy => h y (List.mem_cons_of_mem x hy)
    rw [T.rlens, List.length_cons, Nat.succ_mul]
    omega
theorem told_int {i : Int} (h : i.natAbs.log2 ≤ 30) : (T.int i).showy = true ∧ (T.int i).rlen ≤ 33 := by
  refine ⟨?_, ?_⟩
  · simp only [T.showy, decide_eq_true_eq]; omega
  · simp only [T.rlen]; omega
theorem fn_told {f : List Nat} {k : Nat} (h : (f, k) ∈ arities) : (T.str f).pln = true ∧ f.length ≤ 9 ∧ k ≤ 3 := by
  have : ∀ p ∈ arities, (T.str p.1).pln = true ∧ p.1.length ≤ 9 ∧ p.2 ≤ 3 := by decide
  exact this _ h
theorem op_told {f : List Nat} (h : f ∈ opsN) : (T.str f).pln = true ∧ f.length ≤ 2 := by
  have : ∀ p ∈ opsN, (T.str p).pln = true ∧ p.length ≤ 2 := by decide
  exact this _ h
theorem told_E {d : Nat} {x : T} (hx : IsE d x) : x.pln = true ∧ x.showy = true ∧ x.depth ≤ 2 * d + 1 ∧ x.rlen ≤ 300 * 4 ^ d := by
  induction hx with
  | @num d i h0 h1 =>
    obtain ⟨a, b⟩ := told_int (log_small h0 h1)
    have p : 1 ≤ 4 ^ d := Nat.pow_pos (by omega)
    refine ⟨rfl, by simp [T.showy, T.showys] at a ⊢; exact a, by simp [T.depth, T.depths], ?_⟩
    simp only [T.rlen, T.rlens, List.length_cons, List.length_nil] at b ⊢
    omega
  | @cell d r c hr hc =>
    obtain ⟨a, b⟩ := told_int (log_grid hr)
    obtain ⟨a2, b2⟩ := told_int (log_grid hc)
    have p : 1 ≤ 4 ^ d := Nat.pow_pos (by omega)
    refine ⟨rfl, by simp [T.showy, T.showys] at a a2 ⊢; exact ⟨a, a2⟩, by simp [T.depth, T.depths], ?_⟩
    simp only [T.rlen, T.rlens, List.length_cons, List.length_nil] at b b2 ⊢
    omega
  | @spill d r c hr hc =>
    obtain ⟨a, b⟩ := told_int (log_grid hr)
    obtain ⟨a2, b2⟩ := told_int (log_grid hc)
    have p : 1 ≤ 4 ^ d := Nat.pow_pos (by omega)
    refine ⟨rfl, by simp [T.showy, T.showys] at a a2 ⊢; exact ⟨a, a2⟩, by simp [T.depth, T.depths], ?_⟩
    simp only [T.rlen, T.rlens, List.length_cons, List.length_nil] at b b2 ⊢
    omega
  | @range d r c u v hr hc hu hv h1 h2 =>
    obtain ⟨a, b⟩ := told_int (log_grid hr)
    obtain ⟨a2, b2⟩ := told_int (log_grid hc)
    obtain ⟨a3, b3⟩ := told_int (log_grid hu)
    obtain ⟨a4, b4⟩ := told_int (log_grid hv)
    have p : 1 ≤ 4 ^ d := Nat.pow_pos (by omega)
    refine ⟨rfl, by simp [T.showy, T.showys] at a a2 a3 a4 ⊢; exact ⟨a, a2, a3, a4⟩, by simp [T.depth, T.depths], ?_⟩
    simp only [T.rlen, T.rlens, List.length_cons, List.length_nil] at b b2 b3 b4 ⊢
    omega
  | @badref d =>
    have p : 1 ≤ 4 ^ d := Nat.pow_pos (by omega)
    refine ⟨rfl, rfl, by simp [T.depth, T.depths], ?_⟩
    simp only [T.rlen, T.rlens, List.length_cons, List.length_nil]
    omega
  | @neg d x hx ih =>
    obtain ⟨a, b, c, e⟩ := ih
    have p : 1 ≤ 4 ^ d := Nat.pow_pos (by omega)
    refine ⟨by simp [T.pln, T.plns, a], by simp [T.showy, T.showys, b], by simp [T.depth, T.depths]; omega, ?_⟩
    simp only [T.rlen, T.rlens, List.length_cons, List.length_nil, Nat.pow_succ]
    omega
  | @bin d op x y ho hx hy i1 i2 =>
    obtain ⟨a, b, c, e⟩ := i1
    obtain ⟨a2, b2, c2, e2⟩ := i2
    obtain ⟨o1, o2⟩ := op_told ho
    have p : 1 ≤ 4 ^ d := Nat.pow_pos (by omega)
    simp only [T.pln] at o1
    refine ⟨by simp [T.pln, T.plns, a, a2]; simpa using o1, by simp [T.showy, T.showys, b, b2], by simp [T.depth, T.depths]; omega, ?_⟩
    simp only [T.rlen, T.rlens, List.length_cons, List.length_nil, Nat.pow_succ]
    omega
  | @call d f xs hf hx ih =>
    obtain ⟨o1, o2, o3⟩ := fn_told hf
    have p : 1 ≤ 4 ^ d := Nat.pow_pos (by omega)
    have a := plns_all fun x hx => (ih x hx).1
    have b := showys_all fun x hx => (ih x hx).2.1
    have c := depths_all fun x hx => (ih x hx).2.2.1
    have e := rlens_all fun x hx => (ih x hx).2.2.2
    have e3 : xs.length * (300 * 4 ^ d + 2) ≤ 3 * (300 * 4 ^ d + 2) := Nat.mul_le_mul_right _ o3
    simp only [T.pln] at o1
    refine ⟨by simp [T.pln, T.plns, a]; simpa using o1, by simp [T.showy, T.showys, b], by simp [T.depth, T.depths]; omega, ?_⟩
    simp only [T.rlen, T.rlens, List.length_cons, List.length_nil, Nat.pow_succ]
    omega
theorem tell_E {d : Nat} {x : T} (hx : IsE d x) (hd : d ≤ 6) : x.tell = true := by
  obtain ⟨a, b, c, e⟩ := told_E hx
  have p : 4 ^ d ≤ 4 ^ 6 := Nat.pow_le_pow_right (by omega) hd
  have q : 4 ^ 6 = 4096 := rfl
  have h1 : x.depth ≤ 100 := by omega
  have h2 : x.rlen ≤ top := by unfold top; omega
  simp [T.tell, a, b, h1, h2]

/-- data, so deep, so long -/
structure Fin (D R : Nat) (x : T) : Prop where
  pln : x.pln = true
  showy : x.showy = true
  deep : x.depth ≤ D
  len : x.rlen ≤ R
structure Fins (D R : Nat) (xs : List T) : Prop where
  pln : T.plns xs = true
  showy : T.showys xs = true
  deep : T.depths xs ≤ D
  len : T.rlens xs ≤ R
theorem Fin.up {D R D' R' : Nat} {x : T} (f : Fin D R x) (h1 : D ≤ D') (h2 : R ≤ R') : Fin D' R' x := ⟨f.pln, f.showy, Nat.le_trans f.deep h1, Nat.le_trans f.len h2⟩
theorem Fins.up {D R D' R' : Nat} {x : List T} (f : Fins D R x) (h1 : D ≤ D') (h2 : R ≤ R') : Fins D' R' x := ⟨f.pln, f.showy, Nat.le_trans f.deep h1, Nat.le_trans f.len h2⟩
theorem Fin.tell {D R : Nat} {x : T} (f : Fin D R x) (hd : D ≤ 100) (hr : R ≤ top) : x.tell = true := by
  have h1 : x.depth ≤ 100 := Nat.le_trans f.deep hd
  have h2 : x.rlen ≤ top := Nat.le_trans f.len hr
  simp [T.tell, f.pln, f.showy, h1, h2]
theorem fin_E {d : Nat} {x : T} (hx : IsE d x) : Fin (2 * d + 1) (300 * 4 ^ d) x := let ⟨a, b, c, e⟩ := told_E hx; ⟨a, b, c, e⟩
theorem Fin.of_tup {D R : Nat} {xs : List T} (f : Fin (D + 1) R (.tup xs)) : Fins D (R - 4) xs := by
  obtain ⟨a, b, c, e⟩ := f
  simp only [T.pln, T.showy, T.depth, T.rlen] at a b c e
  exact ⟨a, b, by omega, by omega⟩
theorem Fin.tup {D R : Nat} {xs : List T} (f : Fins D R xs) : Fin (D + 1) (R + 4) (.tup xs) := by
  obtain ⟨a, b, c, e⟩ := f
  refine ⟨by simpa [T.pln] using a, by simpa [T.showy] using b, ?_, ?_⟩
  · simp only [T.depth]; omega
  · simp only [T.rlen]; omega
theorem Fin.lst {D R : Nat} {xs : List T} (f : Fins D R xs) : Fin (D + 1) (R + 4) (.lst xs) := by
  obtain ⟨a, b, c, e⟩ := f
  refine ⟨by simpa [T.pln] using a, by simpa [T.showy] using b, ?_, ?_⟩
  · simp only [T.depth]; omega
  · simp only [T.rlen]; omega
theorem plns_app : ∀ (a b : List T), T.plns (a ++ b) = (T.plns a && T.plns b)
  | [], b => rfl
  | x :: a, b => by simp [T.plns, plns_app a b, Bool.and_assoc]
theorem showys_app : ∀ (a b : List T), T.showys (a ++ b) = (T.showys a && T.showys b)
  | [], b => rfl
  | x :: a, b => by simp [T.showys, showys_app a b, Bool.and_assoc]
theorem depths_app : ∀ (a b : List T), T.depths (a ++ b) = max (T.depths a) (T.depths b)
  | [], b => by simp [T.depths]
  | x :: a, b => by simp [T.depths, depths_app a b, Nat.max_assoc]
theorem rlens_app : ∀ (a b : List T), T.rlens (a ++ b) = T.rlens a + T.rlens b
  | [], b => by simp [T.rlens]
  | x :: a, b => by simp [T.rlens, rlens_app a b]; omega
theorem Fins.app {D R D' R' : Nat} {xs ys : List T} (f : Fins D R xs) (g : Fins D' R' ys) : Fins (max D D') (R + R') (xs ++ ys) := by
  obtain ⟨a, b, c, e⟩ := f
  obtain ⟨a', b', c', e'⟩ := g
  refine ⟨by rw [plns_app, a, a']; rfl, by rw [showys_app, b, b']; rfl, by rw [depths_app]; omega, by rw [rlens_app]; omega⟩
theorem Fins.nil {D R : Nat} : Fins D R [] := ⟨rfl, rfl, Nat.zero_le _, Nat.zero_le _⟩
theorem Fins.cons {D R D' R' : Nat} {x : T} {xs : List T} (f : Fin D R x) (g : Fins D' R' xs) : Fins (max D D') (R + 2 + R') (x :: xs) := by
  obtain ⟨a, b, c, e⟩ := f
  obtain ⟨a', b', c', e'⟩ := g
  refine ⟨by rw [T.plns, a, a']; rfl, by rw [T.showys, b, b']; rfl, by rw [T.depths]; omega, by rw [T.rlens]; omega⟩
theorem Fins.at {D R : Nat} : ∀ {xs : List T}, Fins D R xs → ∀ x ∈ xs, Fin D R x
  | x :: xs, f, y, hy => by
    obtain ⟨a, b, c, e⟩ := f
    simp only [T.plns, T.showys, T.depths, T.rlens, Bool.and_eq_true] at a b c e
    rcases List.mem_cons.mp hy with rfl | hy
    · exact ⟨a.1, b.1, by omega, by omega⟩
    · exact Fins.at (xs := xs) ⟨a.2, b.2, by omega, by omega⟩ y hy
/-- a part taken out: what is left of it, and the two sides -/
theorem Fins.parts {D R : Nat} {xs : List T} (f : Fins D R xs) {i : Nat} {x : T} (hx : xs[i]? = some x) : ∃ a b c, Fins D a (xs.take i) ∧ Fin D b x ∧ Fins D c (xs.drop (i + 1)) ∧ a + (b + 2) + c ≤ R := by
  have hi := (List.getElem?_eq_some_iff.mp hx).1
  have e : xs = xs.take i ++ x :: xs.drop (i + 1) := by
    obtain ⟨h, rfl⟩ := List.getElem?_eq_some_iff.mp hx
    exact (List.take_append_drop i xs).symm.trans (by rw [List.drop_eq_getElem_cons h])
  obtain ⟨p, q, r, s⟩ := f
  rw [e, plns_app, T.plns] at p
  rw [e, showys_app, T.showys] at q
  rw [e, depths_app, T.depths] at r
  rw [e, rlens_app, T.rlens] at s
  simp only [Bool.and_eq_true] at p q
  exact ⟨_, _, _, ⟨p.1, q.1, by omega, Nat.le_refl _⟩, ⟨p.2.1, q.2.1, by omega, Nat.le_refl _⟩, ⟨p.2.2, q.2.2, by omega, Nat.le_refl _⟩, by omega⟩
theorem rlens_length : ∀ (xs : List T), 2 * xs.length ≤ T.rlens xs
  | [] => Nat.zero_le _
  | x :: xs => by
    have := rlens_length xs
    rw [T.rlens, List.length_cons]
    omega
theorem cut_to {α : Type} {xs : List α} {m : Nat} (h : m ≤ xs.length) : cut xs none (some (m : Int)) = xs.take m := by
  unfold cut six
  simp only
  rw [if_neg (by omega), Int.toNat_natCast, Nat.min_eq_left h, List.drop_zero, Nat.sub_zero]
theorem cut_from {α : Type} {xs : List α} {m : Nat} (h : m ≤ xs.length) : cut xs (some (m : Int)) none = xs.drop m := by
  unfold cut six
  simp only
  rw [if_neg (by omega), Int.toNat_natCast, Nat.min_eq_left h]
  exact List.take_of_length_le (by rw [List.length_drop]; exact Nat.le_refl _)
section
variable {h0 h : Heap} {E : T → Heap → Prop} {Q : T → Heap → Prop} {P : Prog} {n k : Nat}
theorem wp_chooseT (D : DrawFn P) (d : Drawn n h0 h) {xs : List T} (h1 : xs ≠ []) (h2 : xs.length < 1000000000) (w : ∀ x h', x ∈ xs → Drawn n h0 h' → Q x h') : Wp (call P (k + 2) "law._law_choose" [.loc n, .tup xs] h) E Q := by
  have hl := List.length_pos_iff.mpr h1
  have hl1 : 1 ≤ (xs.length : Int) := by omega
  have hl2 : (xs.length : Int) < 100000000000 := by omega
  refine sw_run D.choose rfl rfl ?_
  dsimp only [d_law__law_choose]
  walk_at "open"
  walk_at "go"
  rename_i r h' a b d'
  have e : nth xs r = some (xs[r.toNat]'(by omega)) := by
    unfold nth place
    rw [if_pos a, if_pos b]
    simp
  refine ob_ixT e ?_
  exact w _ _ (List.getElem_mem _) d'
end
theorem Fins.both {D R : Nat} {xs ys : List T} (f : Fins D R (xs ++ ys)) : Fins D R xs ∧ Fins D R ys := by
  obtain ⟨a, b, c, e⟩ := f
  rw [plns_app, Bool.and_eq_true] at a
  rw [showys_app, Bool.and_eq_true] at b
  rw [depths_app] at c
  rw [rlens_app] at e
  exact ⟨⟨a.1, b.1, by omega, by omega⟩, a.2, b.2, by omega, by omega⟩
theorem Fins.take {D R : Nat} {xs : List T} (f : Fins D R xs) (i : Nat) : Fins D R (xs.take i) := (Fins.both (ys := xs.drop i) (by rw [List.take_append_drop]; exact f)).1
theorem Fins.drop {D R : Nat} {xs : List T} (f : Fins D R xs) (i : Nat) : Fins D R (xs.drop i) := (Fins.both (xs := xs.take i) (by rw [List.take_append_drop]; exact f)).2
theorem Fins.one {D R : Nat} {x : T} (f : Fin D R x) : Fins D (R + 2) [x] := by
  obtain ⟨a, b, c, e⟩ := f
  refine ⟨by simp [T.plns, a], by simp [T.showys, b], by simp [T.depths]; exact c, by simp [T.rlens]; omega⟩
theorem Drawn.keep {n m : Nat} {h h' : Heap} (d : Drawn n h h') (e : m ≠ n) : h'[m]? = h[m]? := by
  obtain ⟨o, rfl⟩ := d.eq
  exact List.getElem?_set_ne (Ne.symm e)
theorem range_nil {i j : Int} (h : j ≤ i) : rangeT i j = [] := by
  unfold rangeT
  rw [show (j - i).toNat = 0 by omega]
  rfl
theorem range_cons {i j : Int} (h : i < j) : rangeT i j = .int i :: rangeT (i + 1) j := by
  unfold rangeT
  rw [show (j - i).toNat = (j - (i + 1)).toNat + 1 by omega, List.range_succ_eq_map]
  simp only [List.map_cons, List.map_map]
  congr 1
  · simp
  · refine List.map_congr_left fun k _ => ?_
    simp only [Function.comp_apply]
    congr 1
    omega
section
variable {K : Cn} {ρ : Rho} {h : Heap} {E : T → Heap → Prop} {Q : Fl → Heap → Prop} {es : List LE} {ss ts : List LS}
/-- over a range: what holds before each turn -/
theorem sw_forRN {g : Tg} (N : Nat) (I : Nat → Rho → Heap → Prop) (hN : N ≤ 1000000000) (w : Wp (evEs K es ρ h) E fun xs h => ∃ j : Int, xs = [.int j] ∧ 0 ≤ j ∧ j ≤ N ∧ I 0 ρ h)
      (st : ∀ (m : Nat) ρ h, m < N → I m ρ h → Wp (withB (bindTg g (.int (m : Int)) h ρ) fun ρ => exSs K ts ρ h) E (Lp (I (m + 1)) (I N) fun v h => Q (.ret v) h)) (k2 : ∀ m ρ h, m ≤ N → I m ρ h → Wp (exSs K ss ρ h) E Q) : Wp (exSs K (.for g "range" es ts :: ss) ρ h) E Q := by
  refine sw_for (fun w ρ h => ∃ (m : Nat) (j : Int), w = rangeT (m : Int) j ∧ (m : Int) ≤ j ∧ j ≤ N ∧ I m ρ h) (fun ρ h => ∃ m, m ≤ N ∧ I m ρ h) (w.mono (fun xs h ⟨j, e, h1, h2, i⟩ => ?_) fun _ _ e => e) (fun ρ h ⟨m, hm, i⟩ => k2 m ρ h hm i)
  subst e
  refine ⟨_, _, range1 (by omega) (by omega), ⟨0, j, rfl, by simpa using h1, h2, i⟩, fun x w ρ h ⟨m, j, e, l1, l2, i⟩ => ⟨rfl, ?_⟩, fun ρ h ⟨m, j, e, l1, l2, i⟩ => ⟨rfl, m, by omega, i⟩⟩
  by_cases c : (m : Int) < j
  · rw [range_cons c] at e
    cases e
    exact (st m ρ h (by omega) i).mono (fun fl h p => by
      cases fl with
      | nx ρ => exact ⟨m + 1, j, by simp, by omega, l2, p⟩
      | cnt ρ => exact ⟨m + 1, j, by simp, by omega, l2, p⟩
      | brk ρ => exact ⟨N, Nat.le_refl _, p⟩
      | ret v => exact p) fun _ _ e => e
  · rw [range_nil (by omega)] at e
    cases e
end
theorem kput_leaf {k v : T} (hk : leafT k = true) : ∀ {ks vs : List T}, ks.all leafT = true → (kput ks vs k v).1.all leafT = true
  | [], _, _ => by simp [kput, hk]
  | x :: ks, [], h => by simp [kput, hk]
  | x :: ks, y :: vs, h => by
    simp only [List.all_cons, Bool.and_eq_true] at h
    simp only [kput]
    split
    · simp [h.1, h.2]
    · simp [h.1, kput_leaf hk h.2]
theorem kput_len {k v : T} : ∀ {ks vs : List T}, ks.length = vs.length → (kput ks vs k v).1.length ≤ ks.length + 1
  | [], _, _ => by simp [kput]
  | x :: ks, [], h => by simp at h
  | x :: ks, y :: vs, h => by
    simp only [kput]
    split
    · simp
    · simp
      exact kput_len (by simpa using h)
theorem kput_len2 {k v : T} : ∀ {ks vs : List T}, ks.length = vs.length → (kput ks vs k v).1.length = (kput ks vs k v).2.length
  | [], [], _ => by simp [kput]
  | [], _ :: _, h => by simp at h
  | x :: ks, [], h => by simp at h
  | x :: ks, y :: vs, h => by
    simp only [kput]
    split
    · simpa using h
    · simp
      exact kput_len2 (by simpa using h)
end Lite

/-! dicts with tuple keys, sorted lists: plain facts; the rules of a dict at a place -/
namespace Lite
/-- a key: a tuple without truth values -/
def NK (k : T) : Prop := k.nob = true ∧ nestT k = true
theorem nk_eqv {x y : T} (hx : NK x) (hy : NK y) : T.eqv x y = decide (x = y) := T.nob_eq x y hx.1 hy.1
structure DKs (ks vs : List T) : Prop where
  len : ks.length = vs.length
  nk : ∀ k ∈ ks, NK k
  nd : ks.Nodup
theorem DKs.nil : DKs [] [] := ⟨rfl, fun k h => absurd h (by simp), List.nodup_nil⟩
theorem DKs.tail {k v : T} {ks vs : List T} (d : DKs (k :: ks) (v :: vs)) : DKs ks vs := ⟨by have := d.len; simpa using this, fun x h => d.nk x (by simp [h]), (List.nodup_cons.mp d.nd).2⟩
theorem ok_key {ks vs : List T} {k : T} (d : DKs ks vs) (hk : NK k) : okKey ks k = true := by
  unfold okKey
  have : ks.all nestT = true := List.all_eq_true.mpr fun x hx => (d.nk x hx).2
  rw [this, hk.2]
  simp
theorem kput_nil {vs : List T} {k v : T} (h : vs = []) : kput [] vs k v = ([k], [v]) := by subst h; rfl
theorem kput_cons {ks vs : List T} {x y k v : T} : kput (x :: ks) (y :: vs) k v = if T.eqv x k then (x :: ks, v :: vs) else (x :: (kput ks vs k v).1, y :: (kput ks vs k v).2) := rfl
theorem mem_put : ∀ {ks vs : List T} {k v x : T}, DKs ks vs → NK k → (x ∈ (kput ks vs k v).1 ↔ x ∈ ks ∨ x = k)
  | [], vs, k, v, x, d, hk => by
    rw [kput_nil (by have := d.len; cases vs <;> simp at this; rfl)]
    simp
  | y :: ks, [], k, v, x, d, hk => by have := d.len; simp at this
  | y :: ks, z :: vs, k, v, x, d, hk => by
    rw [kput_cons, nk_eqv (d.nk y (by simp)) hk]
    by_cases e : y = k
    · subst e
      simp only [decide_true, if_true, List.mem_cons]
      exact ⟨fun h => .inl h, fun h => h.elim id fun h => .inl h⟩
    · simp only [e, decide_false, Bool.false_eq_true, if_false, List.mem_cons, mem_put d.tail hk, or_assoc]
theorem vals_put : ∀ {ks vs : List T} {k v y : T}, y ∈ (kput ks vs k v).2 → y ∈ vs ∨ y = v
  | [], _, _, _, _, h => by
    simp [kput] at h
    exact .inr h
  | _ :: _, [], _, _, _, h => by simp [kput] at h; exact .inr h
  | x :: ks, z :: vs, k, v, y, h => by
    rw [kput_cons] at h
    split at h
    · rcases List.mem_cons.mp h with h | h
      · exact .inr h
      · exact .inl (by simp [h])
    · rcases List.mem_cons.mp h with h | h
      · exact .inl (by simp [h])
      · rcases vals_put h with h | h
        · exact .inl (by simp [h])
        · exact .inr h
theorem put_len : ∀ {ks vs : List T} {k v : T}, ks.length = vs.length → (kput ks vs k v).1.length = (kput ks vs k v).2.length ∧ (kput ks vs k v).1.length ≤ ks.length + 1
  | [], [], _, _, _ => by simp [kput]
  | [], _ :: _, _, _, h => by simp at h
  | _ :: _, [], _, _, h => by simp at h
  | x :: ks, z :: vs, k, v, h => by
    rw [kput_cons]
    have hl : ks.length = vs.length := by simpa using h
    obtain ⟨a, b⟩ := put_len (k := k) (v := v) hl
    split
    · simp [hl]
    · simp [a]; omega
theorem DKs.put {ks vs : List T} {k v : T} (d : DKs ks vs) (hk : NK k) : DKs (kput ks vs k v).1 (kput ks vs k v).2 := by
  refine ⟨(put_len d.len).1, fun x hx => ?_, ?_⟩
  · rcases (mem_put d hk).mp hx with h | rfl
    · exact d.nk x h
    · exact hk
  · induction ks generalizing vs with
    | nil =>
      rw [kput_nil (by have := d.len; cases vs <;> simp at this; rfl)]
      simp
    | cons y ks ih =>
      cases vs with
      | nil => have := d.len; simp at this
      | cons z vs =>
        rw [kput_cons, nk_eqv (d.nk y (by simp)) hk]
        by_cases e : y = k
        · subst e
          simpa using d.nd
        · simp only [e, decide_false, Bool.false_eq_true, if_false]
          refine List.nodup_cons.mpr ⟨fun h => ?_, ih d.tail⟩
          rcases (mem_put d.tail hk).mp h with h | h
          · exact (List.nodup_cons.mp d.nd).1 h
          · exact e h
theorem kget_put : ∀ {ks vs : List T} {k v x : T}, DKs ks vs → NK k → NK x → kget (kput ks vs k v).1 (kput ks vs k v).2 x = if x = k then some v else kget ks vs x
  | [], vs, k, v, x, d, hk, hx => by
    rw [kput_nil (by have := d.len; cases vs <;> simp at this; rfl)]
    simp only [kget]
    rw [nk_eqv hk hx]
    by_cases e : k = x
    · subst e; simp
    · have e2 : ¬ x = k := fun z => e z.symm
      simp [e, e2]
  | y :: ks, [], k, v, x, d, hk, hx => by have := d.len; simp at this
  | y :: ks, z :: vs, k, v, x, d, hk, hx => by
    have hy := d.nk y (by simp)
    rw [kput_cons, nk_eqv hy hk]
    by_cases e : y = k
    · subst e
      simp only [decide_true, if_true, kget, nk_eqv hy hx]
      by_cases e2 : y = x
      · subst e2; simp
      · have e3 : ¬ x = y := fun z => e2 z.symm
        simp [e2, e3]
    · simp only [e, decide_false, Bool.false_eq_true, if_false, kget, nk_eqv hy hx, kget_put d.tail hk hx]
      by_cases e2 : y = x
      · subst e2; simp [e]
      · simp [e2]
theorem kget_at : ∀ {ks vs : List T} {x y : T}, DKs ks vs → NK x → (kget ks vs x = some y ↔ ∃ i : Nat, ks[i]? = some x ∧ vs[i]? = some y)
  | [], vs, x, y, d, hx => by simp [kget]
  | k :: ks, [], x, y, d, hx => by have := d.len; simp at this
  | k :: ks, v :: vs, x, y, d, hx => by
    simp only [kget]
    rw [nk_eqv (d.nk k (by simp)) hx]
    by_cases e : k = x
    · subst e
      simp only [decide_true, if_true, Option.some.injEq]
      constructor
      · rintro rfl
        exact ⟨0, rfl, rfl⟩
      · rintro ⟨i, h1, h2⟩
        cases i with
        | zero => simpa using h2
        | succ i =>
          simp at h1
          exact absurd (List.mem_of_getElem? h1) (List.nodup_cons.mp d.nd).1
    · simp only [e, decide_false, Bool.false_eq_true, if_false, kget_at d.tail hx]
      constructor
      · rintro ⟨i, h1, h2⟩
        exact ⟨i + 1, by simpa using h1, by simpa using h2⟩
      · rintro ⟨i, h1, h2⟩
        cases i with
        | zero => simp at h1; exact absurd h1 e
        | succ i => exact ⟨i, by simpa using h1, by simpa using h2⟩
theorem kget_val {ks vs : List T} {x y : T} (d : DKs ks vs) (hx : NK x) (h : kget ks vs x = some y) : y ∈ vs := by
  obtain ⟨i, _, h2⟩ := (kget_at d hx).mp h
  exact List.mem_of_getElem? h2
theorem kget_key {ks vs : List T} {x y : T} (d : DKs ks vs) (hx : NK x) (h : kget ks vs x = some y) : x ∈ ks := by
  obtain ⟨i, h1, _⟩ := (kget_at d hx).mp h
  exact List.mem_of_getElem? h1
theorem memT_kget {x : T} : ∀ {ks vs : List T}, ks.length = vs.length → memT x ks = (kget ks vs x).isSome
  | [], [], _ => rfl
  | k :: ks, v :: vs, hl => by
    unfold memT kget
    cases e : T.eqv k x with
    | true => simp
    | false =>
      simp only [Bool.false_or, Bool.false_eq_true, if_false]
      exact memT_kget (by simpa using hl)
  | [], _ :: _, hl => by simp at hl
  | _ :: _, [], hl => by simp at hl
theorem kget_none {ks vs : List T} {x : T} (d : DKs ks vs) (hx : NK x) : kget ks vs x = none ↔ x ∉ ks := by
  constructor
  · intro h hm
    obtain ⟨i, hi⟩ := List.getElem?_of_mem hm
    have : i < vs.length := by rw [← d.len]; exact (List.getElem?_eq_some_iff.mp hi).1
    have := (kget_at d hx).mpr ⟨i, hi, List.getElem?_eq_getElem this⟩
    rw [h] at this
    cases this
  · intro h
    cases e : kget ks vs x with
    | none => rfl
    | some y => exact absurd (kget_key d hx e) h
/-! rules for what stands at a place -/
section
variable {h : Heap} {x y k : T} {ks vs : List T} {P : T → Prop} {R : Bool → Prop} {E : T → Heap → Prop} {Q : T → Heap → Prop}
theorem view_nk (hk : NK k) : view h k = some k := by
  have := hk.2
  cases k <;> first | (cases this; done) | rfl
theorem bm_getV1 (hv : view h y = some (.dct ks vs)) (ok : okKey ks k = true) (w : Q ((kget ks vs k).getD .non) h) : Wp (bmeth "get" y [k] h) E Q := by
  refine Wp.ok ?_ w
  unfold bmeth
  simp (config := { decide := true }) only [if_false, if_true]
  rw [hv]
  simp only [ok, if_true]
theorem bm_getV2 {z : T} (hv : view h y = some (.dct ks vs)) (ok : okKey ks k = true) (w : Q ((kget ks vs k).getD z) h) : Wp (bmeth "get" y [k, z] h) E Q := by
  refine Wp.ok ?_ w
  unfold bmeth
  simp (config := { decide := true }) only [if_false, if_true]
  rw [hv]
  simp only [ok, if_true]
theorem oc_inV (hv : view h y = some (.dct ks vs)) (ok : okKey ks x = true) (w : R (memT x ks)) : Ob (cmpop .isin h x y) R := by
  refine Ob.of ?_ w
  unfold cmpop
  rw [hv]
  cases view h x with
  | none => simp only [ok, if_true]
  | some v => cases v <;> simp only [ok, if_true]
theorem oc_ninV (hv : view h y = some (.dct ks vs)) (ok : okKey ks x = true) (w : R (!memT x ks)) : Ob (cmpop .nin h x y) R := by
  refine Ob.of ?_ w
  unfold cmpop
  rw [hv]
  cases view h x with
  | none => simp only [ok, if_true]
  | some v => cases v <;> simp only [ok, if_true]
theorem ob_ixV (hv : view h y = some (.dct ks vs)) (ok : okKey ks k = true) (e : kget ks vs k = some x) (w : P x) : Ob (index h y k) P := by
  refine Ob.of (a := x) ?_ w
  unfold index
  rw [hv]
  cases k <;> simp only [ok, if_true, e]
theorem ob_sorted {xs : List T} (hv : view h x = some (.lst xs)) (hs : sortable xs = true) (w : P (.lst (isort xs))) : Ob (bfun "sorted" h [x]) P := by
  refine Ob.of (show fSorted h [x] = some (.lst (isort xs)) from ?_) w
  unfold fSorted
  simp only [hv, hs, if_true]
theorem walk_dct {ks vs : List T} : walked "" h [.dct ks vs] = some (ks, []) := rfl
theorem walk_itm {ks vs : List T} : walked "items" h [.dct ks vs] = some (zipT ks vs, []) := rfl
theorem still_none : still [] h = true := rfl
end
section
variable {K : Cn} {ρ : Rho} {h : Heap} {E : T → Heap → Prop} {Q : T → Heap → Prop} {es : List LE}
theorem sv_biM {f : String} (w : Wp (evEs K es ρ h) E fun xs h => ∃ ys, bfun f h xs = some (.lst ys) ∧ Q (.loc h.length) (h ++ [.lst ys])) : Wp (evE K (.biM f es) ρ h) E Q := by
  unfold evE
  exact Wp.bind (w.mono (fun xs h ⟨ys, e, q⟩ => by rw [e]; exact Wp.ok_ q) fun _ _ e => e)
end
/-! a def of mode 2 -/
section
variable {h : Heap} {E : T → Heap → Prop}
def Fq2 (h0 : Heap) (Q : T → Heap → Prop) (v : T) (h : Heap) : Prop := v.within h0.length = true ∧ keeps h0 h = true ∧ Q v (h.take h0.length)
theorem sw_run2 {P : Prog} {f : String} {d : Fn} {n : Nat} {xs : List T} {Q : T → Heap → Prop} (e : P.fn f = some d) (hl : xs.length = d.np) (hm : d.mode = 2) (w : Wp (exSs (cnOf P n) d.body (xs.map some ++ List.replicate (d.ns - d.np) none) h) E (Fp (Fq2 h Q))) : Wp (call P (n + 1) f xs h) E Q := by
  rw [call_run e, runFn, if_pos hl]
  have key : ∀ v h', Fq2 h Q v h' → Wp (leave d.mode h h' v) E Q := fun v h' ⟨a, b, q⟩ => by
    rw [hm]
    show Wp (if 2 = 1 then _ else if 2 = 2 then (if v.within h.length = true ∧ keeps h h' = true then .ok v (h'.take h.length) else .stuck) else _) E Q
    rw [if_neg (by decide), if_pos rfl, if_pos ⟨a, b⟩]
    exact Wp.ok_ q
  exact Wp.bind (w.mono (fun fl h' w => by
    cases fl with
    | nx ρ => exact key _ _ w
    | ret v => exact key _ _ w
    | brk ρ => exact (False.elim w)
    | cnt ρ => exact (False.elim w)) fun _ _ e => e)
theorem keeps_refl : ∀ h t : Heap, keeps h (h ++ t) = true
  | [], _ => rfl
  | o :: h, t => by simp [keeps, keeps_refl h t]
theorem keeps_set : ∀ (h t : Heap) (n : Nat) (xs : List T), T.withins 0 xs = true → keeps h (h.set n (.lst xs) ++ t) = true
  | [], _, _, _, _ => rfl
  | o :: h, t, 0, xs, w => by simp [keeps, keeps_refl h t, w]
  | o :: h, t, n + 1, xs, w => by simp [keeps, keeps_set h t n xs w]
end
/-! sorted lists -/
theorem insO_mem {x y : T} : ∀ {l : List T}, y ∈ insO x l ↔ y = x ∨ y ∈ l
  | [] => by simp [insO]
  | z :: l => by
    unfold insO
    split
    · simp only [List.mem_cons, insO_mem]
      constructor
      · rintro (h | h | h)
        · exact .inr (.inl h)
        · exact .inl h
        · exact .inr (.inr h)
      · rintro (h | h | h)
        · exact .inr (.inl h)
        · exact .inl h
        · exact .inr (.inr h)
    · simp
theorem isort_mem {y : T} : ∀ {l : List T}, y ∈ isort l ↔ y ∈ l
  | [] => Iff.rfl
  | x :: l => by
    show y ∈ insO x (isort l) ↔ _
    rw [insO_mem, isort_mem]
    simp
theorem insO_len {x : T} : ∀ {l : List T}, (insO x l).length = l.length + 1
  | [] => rfl
  | z :: l => by
    unfold insO
    split
    · simp [insO_len]
    · simp
theorem isort_len : ∀ {l : List T}, (isort l).length = l.length
  | [] => rfl
  | x :: l => by
    show (insO x (isort l)).length = _
    rw [insO_len, isort_len]
    simp
theorem insO_nodup {x : T} : ∀ {l : List T}, x ∉ l → l.Nodup → (insO x l).Nodup
  | [], _, _ => by simp [insO]
  | z :: l, hx, hn => by
    unfold insO
    split
    · refine List.nodup_cons.mpr ⟨fun h => ?_, insO_nodup (fun h => hx (by simp [h])) (List.nodup_cons.mp hn).2⟩
      rcases insO_mem.mp h with h | h
      · exact hx (by simp [h])
      · exact (List.nodup_cons.mp hn).1 h
    · exact List.nodup_cons.mpr ⟨hx, hn⟩
theorem isort_nodup : ∀ {l : List T}, l.Nodup → (isort l).Nodup
  | [], _ => List.nodup_nil
  | x :: l, h => insO_nodup (fun z => (List.nodup_cons.mp h).1 (isort_mem.mp z)) (isort_nodup (List.nodup_cons.mp h).2)
/-! what a def with a stream leaves -/
structure Frame (m : Nat) (h h' : Heap) : Prop where
  at_ : StreamAt h' m
  low : m < h.length
  len : h.length ≤ h'.length
  eq : ∀ i, i < h.length → i ≠ m → h'[i]? = h[i]?
theorem Drawn.frame {m : Nat} {h h' : Heap} (d : Drawn m h h') : Frame m h h' := by
  obtain ⟨o, rfl⟩ := d.eq
  refine ⟨d.at_, ?_, by simp, fun i hi e => by rw [List.getElem?_set_ne (fun z => e z.symm)]⟩
  obtain ⟨a, b, _, e⟩ := d.at_
  simpa using (List.getElem?_eq_some_iff.mp e).1
theorem Frame.refl {m : Nat} {h : Heap} (s : StreamAt h m) : Frame m h h := (Drawn.refl s).frame
theorem Frame.trans {m : Nat} {h h1 h2 : Heap} (a : Frame m h h1) (b : Frame m h1 h2) : Frame m h h2 :=
  ⟨b.at_, a.low, Nat.le_trans a.len b.len, fun i hi e => (b.eq i (Nat.lt_of_lt_of_le hi a.len) e).trans (a.eq i hi e)⟩
/-- a place behind is written -/
theorem Frame.put {m n : Nat} {h h1 : Heap} {o : O} (a : Frame m h h1) (hn : h.length ≤ n) : Frame m h (h1.set n o) := by
  have := a.low
  refine ⟨?_, a.low, by simp [a.len], fun i hi e => by rw [List.getElem?_set_ne (by omega)]; exact a.eq i hi e⟩
  obtain ⟨x, y, x0, e⟩ := a.at_
  exact ⟨x, y, x0, by rw [List.getElem?_set_ne (by omega)]; exact e⟩
theorem Frame.push {m : Nat} {h h1 t : Heap} (a : Frame m h h1) : Frame m h (h1 ++ t) := by
  have := a.low
  have := a.len
  refine ⟨?_, a.low, by simp; omega, fun i hi e => by rw [List.getElem?_append_left (by omega)]; exact a.eq i hi e⟩
  obtain ⟨x, y, x0, e⟩ := a.at_
  exact ⟨x, y, x0, by rw [List.getElem?_append_left (by omega)]; exact e⟩
theorem keeps_of : ∀ {h h' : Heap} {m : Nat}, h.length ≤ h'.length → (∀ i, i < h.length → i ≠ m → h'[i]? = h[i]?) → (∀ o, h'[m]? = some o → ∃ xs, o = .lst xs ∧ T.withins 0 xs = true) → keeps h h' = true
  | [], _, _, _, _, _ => rfl
  | o :: h, [], _, l, _, _ => by simp at l
  | o :: h, p :: h', 0, l, e, s => by
    obtain ⟨xs, rfl, w⟩ := s p rfl
    simp only [keeps, w, Bool.or_true, Bool.true_and]
    have : h' = h ++ h'.drop h.length := by
      refine List.ext_getElem? fun i => ?_
      by_cases c : i < h.length
      · rw [List.getElem?_append_left c]
        have := e (i + 1) (by simp; omega) (by omega)
        simpa using this
      · rw [List.getElem?_append_right (by omega), List.getElem?_drop]
        congr 1
        omega
    rw [this]
    exact keeps_refl h _
  | o :: h, p :: h', m + 1, l, e, s => by
    have e0 : p = o := by
      have := e 0 (by simp) (by omega)
      simpa using this
    subst e0
    simp only [keeps, decide_true, Bool.true_or, Bool.true_and]
    refine keeps_of (m := m) (by simpa using l) (fun i hi ne => ?_) (fun q hq => s q (by simpa using hq))
    have := e (i + 1) (by simp; omega) (by omega)
    simpa using this
theorem Frame.keeps {m : Nat} {h h' : Heap} (a : Frame m h h') : Lite.keeps h h' = true :=
  keeps_of a.len a.eq fun o ho => by
    obtain ⟨x, y, _, e⟩ := a.at_
    rw [ho] at e
    cases e
    exact ⟨_, rfl, rfl⟩
theorem Frame.drawn {m : Nat} {h h' : Heap} (a : Frame m h h') : Drawn m h (h'.take h.length) := by
  have hm := a.low
  have hl := a.len
  obtain ⟨x, y, x0, e⟩ := a.at_
  refine ⟨⟨x, y, x0, by rw [List.getElem?_take_of_lt hm]; exact e⟩, .lst [.int x, .int y], ?_⟩
  refine List.ext_getElem? fun i => ?_
  by_cases c : i < h.length
  · rw [List.getElem?_take_of_lt c]
    by_cases c2 : i = m
    · subst c2
      rw [e, List.getElem?_set_self c]
    · rw [a.eq i c c2, List.getElem?_set_ne (fun z => c2 z.symm)]
  · rw [List.getElem?_eq_none (by simp; omega), List.getElem?_eq_none (by simp; omega)]
mutual
theorem pln_within {n : Nat} : ∀ {t : T}, t.pln = true → t.within n = true
  | .non, _ => rfl
  | .bl _, _ => rfl
  | .int _, _ => rfl
  | .str _, _ => rfl
  | .tup xs, h => by simp only [T.within]; exact plns_within h
  | .lst xs, h => by simp only [T.within]; exact plns_within h
  | .dct ks vs, h => by
    simp only [T.pln, Bool.and_eq_true] at h
    simp only [T.within, Bool.and_eq_true]
    exact ⟨plns_within h.1, plns_within h.2⟩
  | .loc _, h => by cases h
  | .fn _, _ => rfl
  | .cls _, _ => rfl
  | .exn _ _, h => by cases h
theorem plns_within {n : Nat} : ∀ {xs : List T}, T.plns xs = true → T.withins n xs = true
  | [], _ => rfl
  | x :: xs, h => by
    simp only [T.plns, Bool.and_eq_true] at h
    simp only [T.withins, Bool.and_eq_true]
    exact ⟨pln_within h.1, plns_within h.2⟩
end
mutual
theorem nob_pln : ∀ {t : T}, t.nob = true → t.pln = true
  | .non, _ => rfl
  | .bl _, h => by cases h
  | .int _, _ => rfl
  | .str _, h => h
  | .tup xs, h => nobs_pln h
  | .lst xs, h => nobs_pln h
  | .dct _ _, h => by cases h
  | .loc _, h => by cases h
  | .fn _, h => by cases h
  | .cls _, h => by cases h
  | .exn _ _, h => by cases h
theorem nobs_pln : ∀ {xs : List T}, T.nobs xs = true → T.plns xs = true
  | [], _ => rfl
  | x :: xs, h => by
    simp only [T.nobs, Bool.and_eq_true] at h
    simp only [T.plns, Bool.and_eq_true]
    exact ⟨nob_pln h.1, nobs_pln h.2⟩
end
section
variable {K : Cn} {ρ : Rho} {h : Heap} {E : T → Heap → Prop} {Q : Fl → Heap → Prop} {ss : List LS} {es : List LE}
theorem sv_dctM {Q : T → Heap → Prop} (w : Wp (evEs K es ρ h) E fun xs h => Ob (dictOf xs) fun d => Q (.loc h.length) (h ++ [.dct d.1 d.2])) : Wp (evE K (.dct true es) ρ h) E Q := by
  unfold evE
  refine Wp.bind (w.mono (fun xs h w => ?_) fun _ _ e => e)
  cases e : dictOf xs with
  | none => rw [e] at w; exact w.unnone.elim
  | some d => rw [e] at w; exact Wp.ok_ w.unsome
theorem sw_frzD {i n : Nat} {ks vs : List T} (e1 : ρ[i]? = some (some (.loc n))) (e2 : h[n]? = some (.dct ks vs)) (w : Wp (exSs K ss (ρ.set i (some (.dct ks vs))) (h.set n .dead)) E Q) : Wp (exSs K (.frz i :: ss) ρ h) E Q := by
  refine sw_step ?_
  unfold exS
  simp only [e1, e2]
  exact Wp.ok_ w
theorem sw_frzL {i n : Nat} {xs : List T} (e1 : ρ[i]? = some (some (.loc n))) (e2 : h[n]? = some (.lst xs)) (w : Wp (exSs K ss (ρ.set i (some (.lst xs))) (h.set n .dead)) E Q) : Wp (exSs K (.frz i :: ss) ρ h) E Q := by
  refine sw_step ?_
  unfold exS
  simp only [e1, e2]
  exact Wp.ok_ w
end
end Lite

/-! drawn sheets, their formulas -/
namespace Lite
/-- the content of a cell -/
def IsCon (D : Nat) (v : T) : Prop := (∃ i : Int, v = .int i ∧ -1000000000 ≤ i ∧ i ≤ 1000000000) ∨ IsE D v
abbrev cT (i j : Int) : T := .tup [.int i, .int j]
structure SheetOk (D : Nat) (r c : Int) (ks vs : List T) : Prop where
  d : DKs ks vs
  key : ∀ k ∈ ks, ∃ i j : Int, k = cT i j ∧ 0 ≤ i ∧ i < r ∧ 0 ≤ j ∧ j < c
  val : ∀ v ∈ vs, IsCon D v
theorem nk_cell (i j : Int) : NK (cT i j) := ⟨rfl, rfl⟩
theorem SheetOk.nil {D : Nat} {r c : Int} : SheetOk D r c [] [] := ⟨.nil, fun k h => absurd h (by simp), fun k h => absurd h (by simp)⟩
theorem SheetOk.put {D : Nat} {r c i j : Int} {ks vs : List T} {v : T} (s : SheetOk D r c ks vs) (hi : 0 ≤ i ∧ i < r) (hj : 0 ≤ j ∧ j < c) (hv : IsCon D v) : SheetOk D r c (kput ks vs (cT i j) v).1 (kput ks vs (cT i j) v).2 := by
  refine ⟨s.d.put (nk_cell i j), fun k hk => ?_, fun x hx => ?_⟩
  · rcases (mem_put s.d (nk_cell i j)).mp hk with h | rfl
    · exact s.key k h
    · exact ⟨i, j, rfl, hi.1, hi.2, hj.1, hj.2⟩
  · rcases vals_put hx with h | rfl
    · exact s.val x h
    · exact hv
def ConSpec (P : Prog) : Prop := ∀ {n m : Nat} {h0 h : Heap} {E : T → Heap → Prop} {Q : T → Heap → Prop} {rows cols j : Int} (D : Nat), Drawn m h0 h → 1 ≤ rows → rows ≤ 12 → 1 ≤ cols → cols ≤ 12 → j = (D : Int) → (∀ x h', IsCon D x → Drawn m h0 h' → Q x h') → Wp (call P (n + D + 7) "law._law_content" [.loc m, .int rows, .int cols, .int j] h) E Q
structure SheetFn (P : Prog) : Prop where
  F : ExprFn P
  con : ConSpec P
  sheet : P.fn "law._law_sheet" = some d_law__law_sheet
section
variable {P : Prog} {n m k : Nat} {h0 h : Heap} {E : T → Heap → Prop} {Q : T → Heap → Prop} {rows cols j : Int}
theorem con_mem {x : T} {D : Nat} (h : x ∈ ([.int 0, .int 1, .int 2, .int 3, .int (0 - 1), .int 5, .int 6, .int 1000000000, .int (0 - 1000000000)] : List T)) : IsCon D x := by
  simp only [List.mem_cons, List.not_mem_nil, or_false] at h
  rcases h with rfl | rfl | rfl | rfl | rfl | rfl | rfl | rfl | rfl <;> exact .inl ⟨_, rfl, by omega, by omega⟩
theorem con_spec (F : ExprFn P) (G : P.fn "law._law_formula" = some d_law__law_formula) (C : P.fn "law._law_content" = some d_law__law_content) : ConSpec P := by
  intro n m h0 h E Q rows cols j D d r0 r1 c0 c1 hj w
  have DD := F.D
  refine sw_run C rfl rfl ?_
  dsimp only [d_law__law_content]
  walk_at "open"
  walk_at "go"
  refine br_dec (fun c => ?_) (fun c => ?_)
  · walk_at "go"
    rename_i hx d2
    exact w _ _ (con_mem hx) d2
  · walk_at "go"
    rename_i d1
    exact formula_wp F G D d1 r0 r1 c0 c1 hj fun x h' hx d' => w x h' (.inr hx) d'
theorem con_pln {D : Nat} {v : T} (hd : D ≤ 30) (c : IsCon D v) : v.pln = true := by
  rcases c with ⟨i, rfl, _⟩ | c
  · rfl
  · exact (told_E c).1
theorem plns_of {xs : List T} (h : ∀ x ∈ xs, x.pln = true) : T.plns xs = true := by
  induction xs with
  | nil => rfl
  | cons x xs ih =>
    simp only [T.plns, Bool.and_eq_true]
    exact ⟨h x (by simp), ih fun y hy => h y (by simp [hy])⟩
theorem SheetOk.pln {D : Nat} {r c : Int} {ks vs : List T} (hd : D ≤ 30) (s : SheetOk D r c ks vs) : (T.dct ks vs).pln = true := by
  simp only [T.pln, Bool.and_eq_true]
  exact ⟨plns_of fun k hk => nob_pln (s.d.nk k hk).1, plns_of fun v hv => con_pln hd (s.val v hv)⟩
theorem sheet_wp (F : SheetFn P) (D N : Nat) (hD : D ≤ 30) (hN : N ≤ 1000) (d : Drawn m h0 h) (r0 : 1 ≤ rows) (r1 : rows ≤ 12) (c0 : 1 ≤ cols) (c1 : cols ≤ 12) (hj : j = (D : Int))
    (w : ∀ ks vs h', SheetOk D rows cols ks vs → ks.length ≤ N → Drawn m h0 h' → Q (.tup [.int rows, .int cols, .dct ks vs]) h') : Wp (call P (n + D + 8) "law._law_sheet" [.loc m, .int rows, .int cols, .int (N : Int), .int j] h) E Q := by
  have DD := F.F.D
  refine sw_run2 F.sheet rfl rfl ?_
  dsimp only [d_law__law_sheet]
  walk_at "open"
  refine sw_set5 (sv_dctM (sv_esN (od_mk rfl ?_)))
  obtain ⟨L, eL⟩ : ∃ L, L = h.length := ⟨_, rfl⟩
  rw [← eL]
  have fr0 : Frame m h (h ++ [.dct [] []]) := (Frame.refl d.at_).push
  have hm : m < L := by rw [eL]; exact fr0.low
  refine sw_forRN N (fun k ρ g => ∃ ks vs z6, ρ = [some (.loc m), some (.int rows), some (.int cols), some (.int (N : Int)), some (.int j), some (.loc L), z6] ∧ Frame m h g ∧ g[L]? = some (.dct ks vs) ∧ SheetOk D rows cols ks vs ∧ ks.length ≤ k) (by omega) ?_ (fun k ρ g hk hI => ?_) (fun k ρ g hk hI => ?_)
  · walk_at "go"
    exact ⟨_, rfl, by omega, by omega, [], [], _, rfl, fr0, by rw [eL]; simp, .nil, Nat.le_refl _⟩
  · obtain ⟨ks, vs, z6, rfl, fr, gl, so, hl⟩ := hI
    refine wb_6 ?_
    refine sw_sidxD ?_
    walk_at "go"
    refine F.con D (Drawn.refl fr.at_) r0 r1 c0 c1 hj fun x g1 hx d1 => ?_
    walk_at "go"
    refine cell_wp F.F (n := n + D + 5) d1 r0 r1 c0 c1 fun i c g2 hi hc ri cj d2 => ?_
    have fr2 := fr.trans d2.frame
    have gl2 : g2[L]? = some (.dct ks vs) := by
      rw [d2.frame.eq L (List.getElem?_eq_some_iff.mp gl).1 (by omega)]
      exact gl
    refine ⟨L, ks, vs, rfl, gl2, ok_key so.d (nk_cell i c), by show _ < 16777216; omega, ?_⟩
    walk_at "go"
    refine ⟨_, _, _, rfl, fr2.put (by omega), List.getElem?_set_self (List.getElem?_eq_some_iff.mp gl2).1, so.put ⟨hi.1, ri⟩ ⟨hc.1, cj⟩ hx, ?_⟩
    exact Nat.le_trans (put_len (k := cT i c) (v := x) so.d.len).2 (by omega)
  · obtain ⟨ks, vs, z6, rfl, fr, gl, so, hl⟩ := hI
    refine sw_frzD rfl gl ?_
    dsimp only [List.set_cons_succ, List.set_cons_zero]
    have fr3 : Frame m h (g.set L .dead) := fr.put (by omega)
    walk_at "go"
    refine ⟨?_, fr3.keeps, w ks vs _ so (by omega) (d.trans fr3.drawn)⟩
    have := pln_within (n := h.length) (so.pln hD)
    simp only [T.within, T.withins, Bool.and_true, Bool.true_and]
    simpa [T.within] using this
end
end Lite

/-! questions of a sheet -/
namespace Lite
section
variable {K : Cn} {ρ : Rho} {h : Heap} {a : LE} {E : T → Heap → Prop} {Q : T → Heap → Prop} {es : List LE}
theorem sv_comp2F {own own1 : List Nat} {i i1 : Nat} {k k1 : String} {it1 : List LE} (f : T → List T)
    (w : Wp (evEs K es ρ h) E fun xs h => ∃ ys gs, walked k h xs = some (ys, gs) ∧ still gs h = true ∧
      (∀ x ∈ ys, Wp (evEs K it1 ((wipe ρ own).set i (some x)) h) NoX fun x1 h' => h' = h ∧ ∃ zs gs1, ∃ g : T → T, walked k1 h x1 = some (zs, gs1) ∧ still gs1 h = true ∧ zs.map g = f x ∧
        ∀ z ∈ zs, Wp (evE K a ((wipe ((wipe ρ own).set i (some x)) own1).set i1 (some z)) h) NoX fun y h' => h' = h ∧ y = g z) ∧
      (ys.flatMap f).length ≤ top ∧ Q (.lst (ys.flatMap f)) h) :
    Wp (evE K (.comp2 false own a (.v i) k es [] own1 (.v i1) k1 it1 []) ρ h) E Q := by
  unfold evE
  refine Wp.bind (w.mono (fun xs h1 ⟨ys, gs, e, s, st, l, q⟩ => ?_) fun _ _ e => e)
  rw [e]
  refine Wp.bind (turns_sat (fun w (acc : List (List T)) h' => h' = h1 ∧ acc.flatten ++ w.flatMap f = ys.flatMap f ∧ ∀ x ∈ w, x ∈ ys) (fun x w acc h' ⟨eh, ea, hw⟩ => ⟨by subst eh; exact s, ?_⟩) (fun acc h' ⟨eh, ea, _⟩ => ⟨by subst eh; exact s, ?_⟩) ys [] h1 ⟨rfl, rfl, fun _ h => h⟩)
  · subst eh
    refine calm_sat (Wp.bind (ifs_nil_ ?_))
    rw [if_pos rfl]
    refine Wp.bind ((st x (hw x (by simp))).mono (fun x1 h2 ⟨eh, zs, gs1, g, e1, s1, eg, st1⟩ => ?_) fun _ _ e => e)
    subst eh
    rw [e1]
    refine Wp.bind (turns_sat (fun w (acc1 : List T) h' => h' = h2 ∧ acc1 ++ w.map g = f x ∧ ∀ z ∈ w, z ∈ zs) (fun z w1 acc1 h' ⟨eh, ea1, hw1⟩ => ⟨by subst eh; exact s1, ?_⟩) (fun acc1 h' ⟨eh, ea1, _⟩ => ⟨by subst eh; exact s1, ?_⟩) zs [] h2 ⟨rfl, eg, fun _ h => h⟩)
    · subst eh
      rw [show bindTg (.v i1) z h' (wipe ((wipe ρ own).set i (some x)) own1) = some ((wipe ((wipe ρ own).set i (some x)) own1).set i1 (some z)) from rfl, withB_some]
      refine Wp.bind (ifs_nil_ ?_)
      rw [if_pos rfl]
      refine Wp.bind ((st1 z (hw1 z (by simp))).mono (fun y h3 ⟨eh, ey⟩ => ?_) fun _ _ e => e)
      subst eh ey
      refine Wp.ok_ ⟨rfl, ?_, fun z hz => hw1 z (by simp [hz])⟩
      rw [← ea1]
      simp [addO]
    · subst eh
      refine Wp.ok_ ⟨rfl, ?_, fun z hz => hw z (by simp [hz])⟩
      rw [List.map_nil, List.append_nil] at ea1
      subst ea1
      rw [← ea]
      simp [addO]
  · subst eh
    rw [List.flatMap_nil, List.append_nil] at ea
    unfold fin2
    rw [ea, if_pos l]
    exact Wp.ok_ q
/-- pairs walked -/
theorem sv_compFT {own : List Nat} {i j : Nat} {k : String} {ifs : List LE} (g : T → Option T)
    (w : Wp (evEs K es ρ h) E fun xs h => ∃ ys gs, walked k h xs = some (ys, gs) ∧ still gs h = true ∧
      (∀ x ∈ ys, ∃ u v, x = .tup [u, v] ∧ Wp (evIfs K ifs (((wipe ρ own).set i (some u)).set j (some v)) h) NoX fun r h' => h' = h ∧ Br r (Wp (evE K a (((wipe ρ own).set i (some u)).set j (some v)) h) NoX fun y h' => h' = h ∧ g x = some y) (g x = none)) ∧
      (ys.filterMap g).length ≤ top ∧ Q (.lst (ys.filterMap g)) h) :
    Wp (evE K (.comp false own a (.t [i, j]) k es ifs) ρ h) E Q := by
  unfold evE
  refine Wp.bind (w.mono (fun xs h1 ⟨ys, gs, e, s, st, l, q⟩ => ?_) fun _ _ e => e)
  rw [e]
  refine Wp.bind (turns_sat (fun w (acc : List T) h' => h' = h1 ∧ acc ++ w.filterMap g = ys.filterMap g ∧ ∀ x ∈ w, x ∈ ys) (fun x w acc h' ⟨eh, ea, hw⟩ => ⟨by subst eh; exact s, ?_⟩) (fun acc h' ⟨eh, ea, _⟩ => ⟨by subst eh; exact s, ?_⟩) ys [] h1 ⟨rfl, rfl, fun _ h => h⟩)
  · subst eh
    obtain ⟨u, v, rfl, t⟩ := st x (hw x (by simp))
    rw [show bindTg (.t [i, j]) (.tup [u, v]) h' (wipe ρ own) = some (((wipe ρ own).set i (some u)).set j (some v)) from rfl]
    refine calm_sat (Wp.bind (t.mono (fun r h2 ⟨eh, b⟩ => ?_) fun _ _ e => e))
    subst eh
    cases r with
    | true => exact Wp.bind (Wp.mono b.un (fun y h3 ⟨eh, eg⟩ => Wp.ok_ ⟨eh, by rw [← ea, List.filterMap_cons_some eg]; simp [addO], fun z hz => hw z (by simp [hz])⟩) fun _ _ e => e)
    | false => exact Wp.ok_ ⟨rfl, by rw [← ea, List.filterMap_cons_none b.un]; rfl, fun z hz => hw z (by simp [hz])⟩
  · subst eh
    rw [List.filterMap_nil, List.append_nil] at ea
    subst ea
    rw [if_pos l]
    exact Wp.ok_ q
/-- a new list -/
theorem sv_compFM {own : List Nat} {i : Nat} {k : String} {ifs : List LE} (g : T → Option T)
    (w : Wp (evEs K es ρ h) E fun xs h => ∃ ys gs, walked k h xs = some (ys, gs) ∧ still gs h = true ∧
      (∀ x ∈ ys, Wp (evIfs K ifs ((wipe ρ own).set i (some x)) h) NoX fun r h' => h' = h ∧ Br r (Wp (evE K a ((wipe ρ own).set i (some x)) h) NoX fun y h' => h' = h ∧ g x = some y) (g x = none)) ∧
      (ys.filterMap g).length ≤ top ∧ Q (.loc h.length) (h ++ [.lst (ys.filterMap g)])) :
    Wp (evE K (.comp true own a (.v i) k es ifs) ρ h) E Q := by
  refine sv_comp (w.mono (fun xs h1 ⟨ys, gs, e, s, st, l, q⟩ => ⟨ys, gs, fun w acc h' => h' = h1 ∧ acc ++ w.filterMap g = ys.filterMap g ∧ ∀ x ∈ w, x ∈ ys, e, ⟨rfl, rfl, fun _ hx => hx⟩, fun x w acc h' ⟨eh, ea, hw⟩ => ?_, fun acc h' ⟨eh, ea, _⟩ => ?_⟩) fun _ _ e => e) (fun _ _ _ => rfl)
  · subst eh
    refine ⟨s, (st x (hw x (by simp))).mono (fun r h2 ⟨eh, b⟩ => ?_) fun _ _ e => e⟩
    subst eh
    cases r with
    | true => exact br_t (Wp.mono b.un (fun y h3 ⟨eh, eg⟩ => ⟨eh, by rw [← ea, List.filterMap_cons_some eg, List.append_assoc]; rfl, fun z hz => hw z (by simp [hz])⟩) fun _ _ e => e)
    | false => exact br_f ⟨rfl, by rw [← ea, List.filterMap_cons_none b.un], fun z hz => hw z (by simp [hz])⟩
  · subst eh
    rw [List.filterMap_nil, List.append_nil] at ea
    subst ea
    exact ⟨s, l, Wp.ok_ q⟩
end
/-! the formulas of a sheet -/
def isTupT : T → Bool
  | .tup _ => true
  | _ => false
def fkG : T → Option T
  | .tup [k, v] => if isTupT v then some k else none
  | _ => none
/-- the cells with formulas -/
def fks (ks vs : List T) : List T := (zipT ks vs).filterMap fkG
def fls (ks vs : List T) : List T := isort (fks ks vs)
theorem fks_nil {vs : List T} : fks [] vs = [] := by cases vs <;> rfl
theorem fks_cons {k v : T} {ks vs : List T} : fks (k :: ks) (v :: vs) = if isTupT v then k :: fks ks vs else fks ks vs := by
  unfold fks
  rw [show zipT (k :: ks) (v :: vs) = .tup [k, v] :: zipT ks vs from rfl]
  cases e : isTupT v with
  | true => rw [List.filterMap_cons_some (b := k) (by simp [fkG, e]), if_pos rfl]
  | false => rw [List.filterMap_cons_none (by simp [fkG, e]), if_neg (by decide)]
theorem fks_sub : ∀ {ks vs : List T}, (fks ks vs).Sublist ks
  | [], vs => by rw [fks_nil]; exact .refl _
  | k :: ks, [] => by
    rw [show fks (k :: ks) [] = [] from rfl]
    exact List.nil_sublist _
  | k :: ks, v :: vs => by
    rw [fks_cons]
    split
    · exact fks_sub.cons_cons _
    · exact fks_sub.cons _
theorem fls_mem {ks vs : List T} {x : T} (h : x ∈ fls ks vs) : x ∈ ks := fks_sub.subset (isort_mem.mp h)
theorem fls_len {ks vs : List T} : (fls ks vs).length ≤ ks.length := by
  unfold fls
  rw [isort_len]
  exact fks_sub.length_le
def keyG (ks vs : List T) (x : T) : Option T := if isTupT ((kget ks vs x).getD .non) then some x else none
theorem fm_congr {f g : T → Option T} : ∀ {l : List T}, (∀ x ∈ l, f x = g x) → l.filterMap f = l.filterMap g
  | [], _ => rfl
  | x :: l, h => by rw [List.filterMap_cons, List.filterMap_cons, h x (by simp), fm_congr fun y hy => h y (by simp [hy])]
theorem fks_keys : ∀ {ks vs : List T}, DKs ks vs → ks.filterMap (keyG ks vs) = fks ks vs
  | [], vs, d => by rw [fks_nil]; rfl
  | k :: ks, [], d => by have := d.len; simp at this
  | k :: ks, v :: vs, d => by
    have e1 : kget (k :: ks) (v :: vs) k = some v := (kget_at d (d.nk k (by simp))).mpr ⟨0, rfl, rfl⟩
    have e2 : ks.filterMap (keyG (k :: ks) (v :: vs)) = fks ks vs := by
      rw [← fks_keys d.tail]
      refine fm_congr fun x hx => ?_
      have hk := d.nk k (by simp)
      have hxk := d.nk x (by simp [hx])
      have ne : ¬ k = x := fun e => (List.nodup_cons.mp d.nd).1 (e ▸ hx)
      unfold keyG
      rw [show kget (k :: ks) (v :: vs) x = if T.eqv k x then some v else kget ks vs x from rfl, nk_eqv hk hxk]
      simp [ne]
    rw [fks_cons, List.filterMap_cons]
    unfold keyG at e2 ⊢
    rw [e1, Option.getD_some]
    cases isTupT v
    · simpa using e2
    · simpa using e2
theorem nth_all {p : T → Prop} {l : List T} (h : ∀ x ∈ l, p x) : ∀ {y : T}, y ∈ l → p y := fun {y} hy => h y hy
theorem nobs_of {l : List T} (h : ∀ x ∈ l, x.nob = true) : T.nobs l = true := by
  induction l with
  | nil => rfl
  | cons x l ih =>
    simp only [T.nobs, Bool.and_eq_true]
    exact ⟨h x (by simp), ih fun y hy => h y (by simp [hy])⟩
theorem sortable_tups {l : List T} {d : Nat} (hn : ∀ x ∈ l, x.nob = true) (hd : ∀ x ∈ l, x.depth ≤ 40) (hk : (∀ x ∈ l, headK x = 1) ∨ (∀ x ∈ l, headK x = 2) ∨ (∀ x ∈ l, headK x = 3))
    (hc : ∀ x ∈ l, ∀ y ∈ l, ∃ us ws, x = .tup us ∧ y = .tup ws ∧ cmpTop us ws = true) : sortable l = true := by
  unfold sortable
  rw [Bool.or_eq_true]
  refine .inr ?_
  simp only [Bool.and_eq_true, Bool.or_eq_true, decide_eq_true_eq, List.all_eq_true, beq_iff_eq]
  refine ⟨⟨⟨nobs_of hn, depths_all hd⟩, ?_⟩, fun x hx y hy => ?_⟩
  · rcases hk with h | h | h
    · exact .inl (.inl h)
    · exact .inl (.inr h)
    · exact .inr h
  · obtain ⟨us, ws, rfl, rfl, h⟩ := hc x hx y hy
    exact h
theorem cmp_ints : ∀ {us ws : List T}, (∀ x ∈ us, ∃ i : Int, x = .int i) → (∀ x ∈ ws, ∃ i : Int, x = .int i) → cmpTop us ws = true
  | [], _, _, _ => by unfold cmpTop; rfl
  | _ :: _, [], _, _ => by unfold cmpTop; rfl
  | x :: us, y :: ws, h1, h2 => by
    obtain ⟨i, rfl⟩ := h1 x (by simp)
    obtain ⟨j, rfl⟩ := h2 y (by simp)
    unfold cmpTop
    split
    · exact cmp_ints (fun x hx => h1 x (by simp [hx])) (fun x hx => h2 x (by simp [hx]))
    · rfl
theorem sortable_cells {l : List T} (h : ∀ x ∈ l, ∃ i j : Int, x = cT i j) : sortable l = true := by
  refine sortable_tups (d := 0) (fun x hx => ?_) (fun x hx => ?_) (.inl fun x hx => ?_) (fun x hx y hy => ?_)
  · obtain ⟨i, j, rfl⟩ := h x hx; rfl
  · obtain ⟨i, j, rfl⟩ := h x hx; simp [T.depth, T.depths]
  · obtain ⟨i, j, rfl⟩ := h x hx; rfl
  · obtain ⟨i, j, rfl⟩ := h x hx
    obtain ⟨i2, j2, rfl⟩ := h y hy
    refine ⟨_, _, rfl, rfl, cmp_ints ?_ ?_⟩ <;> simp
/-- a question -/
def IsQ (x : T) : Prop := ∃ s i j rest, x = .tup (.str s :: cT i j :: rest) ∧ (s.all fun c => decide (c < 1114112)) = true ∧ s.length ≤ 7 ∧ (∀ y ∈ rest, ∃ k : Int, y = .int k) ∧ (0 ≤ i ∧ i ≤ 1000) ∧ (0 ≤ j ∧ j ≤ 1000) ∧ Fins 0 30 rest
theorem nobs_ints {l : List T} (h : ∀ x ∈ l, ∃ i : Int, x = .int i) : T.nobs l = true := nobs_of fun x hx => by obtain ⟨i, rfl⟩ := h x hx; rfl
theorem sortable_q {l : List T} (h : ∀ x ∈ l, IsQ x) : sortable l = true := by
  refine sortable_tups (d := 0) (fun x hx => ?_) (fun x hx => ?_) (.inr (.inl fun x hx => ?_)) (fun x hx y hy => ?_)
  · obtain ⟨s, i, j, rest, rfl, hs, _, hr, _⟩ := h x hx
    simp only [T.nob, T.nobs, nobs_ints hr, hs, Bool.and_self]
  · obtain ⟨s, i, j, rest, rfl, hs, _, hr, _, _, f⟩ := h x hx
    have := f.deep
    simp only [T.depth, T.depths]
    omega
  · obtain ⟨s, i, j, rest, rfl, hs, _, hr, _⟩ := h x hx; rfl
  · obtain ⟨s, i, j, rest, rfl, hs, _, hr, _⟩ := h x hx
    obtain ⟨s2, i2, j2, rest2, rfl, hs2, _, hr2, _⟩ := h y hy
    refine ⟨_, _, rfl, rfl, ?_⟩
    unfold cmpTop
    split
    · unfold cmpTop
      split
      · exact cmp_ints hr hr2
      · simp [T.cmpA, T.cmpAs]
    · rfl
/-! the questions -/
abbrev kRows : List Nat := [114, 111, 119, 115]
abbrev kCols : List Nat := [99, 111, 108, 117, 109, 110, 115]
abbrev kStat : List Nat := [115, 116, 97, 116, 117, 115]
abbrev kElem : List Nat := [101, 108, 101, 109, 101, 110, 116]
abbrev kShow : List Nat := [115, 104, 111, 119, 110]
/-- drawn answers -/
structure AnsOk (ks vs : List T) : Prop where
  d : DKs ks vs
  siz : ∀ k i j a, k = kRows ∨ k = kCols → kget ks vs (.tup [.str k, cT i j]) = some a → ∃ i, a = .int i ∧ 1 ≤ i ∧ i ≤ 12
  fk : ∀ k ∈ ks, Fin 3 300 k
  fv : ∀ v ∈ vs, Fin 1 300 v
theorem nk_rows (i j : Int) : NK (.tup [.str kRows, cT i j]) := ⟨rfl, rfl⟩
theorem nk_cols (i j : Int) : NK (.tup [.str kCols, cT i j]) := ⟨rfl, rfl⟩
theorem nk_stat (i j : Int) : NK (.tup [.str kStat, cT i j]) := ⟨rfl, rfl⟩
theorem nk_show (i j : Int) : NK (.tup [.str kShow, cT i j]) := ⟨rfl, rfl⟩
theorem nk_elem (i j u v : Int) : NK (.tup [.str kElem, cT i j, .int u, .int v]) := ⟨rfl, rfl⟩
def elsQ (ks vs : List T) (x : T) : List T := match kget ks vs (.tup [.str kRows, x]), kget ks vs (.tup [.str kCols, x]) with
  | some (.int a), some (.int b) => (rangeT 0 a).flatMap fun i => (rangeT 0 b).map fun j => .tup [.str kElem, x, i, j]
  | _, _ => []
def perF (ks vs : List T) (x : T) : List T := [.tup [.str kRows, x], .tup [.str kCols, x], .tup [.str kStat, x]] ++ elsQ ks vs x
def cellsQ (r c : Int) : List T := (rangeT 0 r).flatMap fun i => (rangeT 0 c).map fun j => .tup [i, j]
def shownQ (r c : Int) : List T := (rangeT 0 r).flatMap fun i => (rangeT 0 c).map fun j => .tup [.str kShow, .tup [i, j]]
theorem shown_map {r c : Int} : (cellsQ r c).map (fun p => T.tup [.str kShow, p]) = shownQ r c := by
  unfold cellsQ shownQ
  rw [List.map_flatMap]
  simp only [List.map_map]
  rfl
structure QuestFn (P : Prog) : Prop where
  S : SheetFn P
  fo : P.fn "sheets.formulas_of" = some d_sheets_formulas_of
  gc : P.fn "sheets.grid_cells" = some d_sheets_grid_cells
  lf : P.fn "law._law_formulas" = some d_law__law_formulas
  so : P.fn "rules.size_of" = some d_rules_size_of
  eo : P.fn "rules.elements_of" = some d_rules_elements_of
  qo : P.fn "rules.questions_of" = some d_rules_questions_of
section
variable {P : Prog} {n D : Nat} {h : Heap} {E : T → Heap → Prop} {Q : T → Heap → Prop} {r c : Int} {ks vs as bs : List T}
theorem con_tup {D : Nat} {v : T} (c : IsCon D v) : isTy h P v "tuple" = some (isTupT v) := by
  rcases c with ⟨i, rfl, _⟩ | c
  · rfl
  · cases c <;> rfl
theorem key_ex (so : SheetOk D r c ks vs) {k : T} (hk : k ∈ ks) : ∃ v, kget ks vs k = some v ∧ IsCon D v := by
  cases e : kget ks vs k with
  | none => exact absurd hk ((kget_none so.d (so.d.nk k hk)).mp e)
  | some v => exact ⟨v, rfl, so.val v (kget_val so.d (so.d.nk k hk) e)⟩
theorem fls_cell (so : SheetOk D r c ks vs) {x : T} (hx : x ∈ fls ks vs) : ∃ i j : Int, x = cT i j := by
  obtain ⟨i, j, e, _⟩ := so.key x (fls_mem hx)
  exact ⟨i, j, e⟩
theorem fks_cell (so : SheetOk D r c ks vs) : sortable (fks ks vs) = true := sortable_cells fun x hx => by
  obtain ⟨i, j, e, _⟩ := so.key x (fks_sub.subset hx)
  exact ⟨i, j, e⟩
theorem zip_mem {x : T} : ∀ {ks vs : List T}, x ∈ zipT ks vs → ∃ k v, x = .tup [k, v] ∧ k ∈ ks ∧ v ∈ vs
  | [], _, h => by cases h
  | _ :: _, [], h => by cases h
  | k :: ks, v :: vs, h => by
    rw [show zipT (k :: ks) (v :: vs) = .tup [k, v] :: zipT ks vs from rfl] at h
    rcases List.mem_cons.mp h with h | h
    · exact ⟨k, v, h, by simp, by simp⟩
    · obtain ⟨a, b, e, h1, h2⟩ := zip_mem h
      exact ⟨a, b, e, by simp [h1], by simp [h2]⟩
theorem lf_wp (F : P.fn "law._law_formulas" = some d_law__law_formulas) (so : SheetOk D r c ks vs) (hl : ks.length ≤ 1000) (w : Q (.lst (fls ks vs)) h) : Wp (call P (n + 1) "law._law_formulas" [.tup [.int r, .int c, .dct ks vs]] h) E Q := by
  refine sw_run F rfl rfl ?_
  dsimp only [d_law__law_formulas]
  walk_at "open"
  walk_at "go"
  refine sv_compF (keyG ks vs) ?_
  walk_at "go"
  refine ⟨_, _, walk_dct, still_none, fun x hx => ?_, ?_, ?_⟩
  · dsimp only [wipe, List.foldr, List.set_cons_succ, List.set_cons_zero]
    obtain ⟨v, ev, cv⟩ := key_ex so hx
    refine ifs_one_ ?_
    walk_at "go"
    refine ob_ixD (ok_key so.d (so.d.nk x hx)) ev ?_
    refine ob_isi (con_tup cv) ?_
    walk_at "go"
    refine ⟨rfl, ?_⟩
    unfold keyG
    rw [ev, Option.getD_some]
    cases isTupT v
    · exact br_f rfl
    · refine br_t ?_
      walk_at "go"
      exact ⟨rfl, rfl⟩
  · exact Nat.le_trans (List.length_filterMap_le _ _) (by unfold top; omega)
  · rw [fks_keys so.d]
    walk_at "go"
    refine ob_sorted rfl (fks_cell so) ?_
    walk_at "go"
    exact w
theorem fo_wp (F : P.fn "sheets.formulas_of" = some d_sheets_formulas_of) (so : SheetOk D r c ks vs) (hl : ks.length ≤ 1000) (w : Q (.lst (fls ks vs)) h) : Wp (call P (n + 1) "sheets.formulas_of" [.tup [.int r, .int c, .dct ks vs]] h) E Q := by
  refine sw_run F rfl rfl ?_
  dsimp only [d_sheets_formulas_of]
  walk_at "open"
  walk_at "go"
  refine sv_compFT fkG ?_
  walk_at "go"
  refine ⟨_, _, walk_itm, still_none, fun x hx => ?_, ?_, ?_⟩
  · obtain ⟨k, v, rfl, hk, hv⟩ := zip_mem hx
    refine ⟨k, v, rfl, ?_⟩
    dsimp only [wipe, List.foldr, List.set_cons_succ, List.set_cons_zero]
    refine ifs_one_ ?_
    walk_at "go"
    refine ob_isi (con_tup (so.val v hv)) ?_
    walk_at "go"
    refine ⟨rfl, ?_⟩
    rw [show fkG (.tup [k, v]) = if isTupT v then some k else none from rfl]
    cases isTupT v
    · exact br_f rfl
    · refine br_t ?_
      walk_at "go"
      exact ⟨rfl, rfl⟩
  · exact Nat.le_trans fks_sub.length_le (by unfold top; omega)
  · walk_at "go"
    refine ob_sorted rfl (fks_cell so) ?_
    walk_at "go"
    exact w
theorem fm_some {f : T → T} {l : List T} : l.filterMap (fun x => some (f x)) = l.map f := by
  induction l with
  | nil => rfl
  | cons x l ih =>
    rw [List.filterMap_cons, ih]
    rfl
theorem fl_len {f : T → List T} {b : Nat} : ∀ {l : List T}, (∀ x ∈ l, (f x).length ≤ b) → (l.flatMap f).length ≤ l.length * b
  | [], _ => by simp
  | x :: l, h => by
    have h1 := h x (by simp)
    have h2 := fl_len fun y hy => h y (List.mem_cons_of_mem _ hy)
    simp only [List.flatMap_cons, List.length_append, List.length_cons, Nat.add_mul]
    omega
theorem rng_len {a : Int} (h : a ≤ 12) : (rangeT 0 a).length ≤ 12 := by rw [len_range]; omega
theorem sq_len {a b : Int} {f : T → T → T} (ha : a ≤ 12) (hb : b ≤ 12) : ((rangeT 0 a).flatMap fun i => (rangeT 0 b).map fun j => f i j).length ≤ 144 := by
  refine Nat.le_trans (fl_len (b := 12) fun x _ => ?_) ?_
  · rw [List.length_map]; exact rng_len hb
  · have := rng_len ha; omega
theorem gc_wp (F : QuestFn P) {x : T} (r1 : r ≤ 12) (c1 : c ≤ 12) (r0 : 1 ≤ r) (c0 : 1 ≤ c) (w : Q (.lst (cellsQ r c)) h) : Wp (call P (n + 1) "sheets.grid_cells" [.tup [.int r, .int c, x]] h) E Q := by
  refine sw_run F.gc rfl rfl ?_
  dsimp only [d_sheets_grid_cells]
  walk_at "open"
  walk_at "go"
  refine sv_comp2F (fun i => (rangeT 0 c).map fun j => .tup [i, j]) ?_
  walk_at "go"
  refine ⟨_, _, range1 (by omega) (by omega), still_none, fun i hi => ?_, ?_, ?_⟩
  · dsimp only [wipe, List.foldr, List.set_cons_succ, List.set_cons_zero]
    walk_at "go"
    refine ⟨rfl, _, _, fun j => .tup [i, j], range1 (by omega) (by omega), still_none, rfl, fun j hj => ?_⟩
    dsimp only [wipe, List.foldr, List.set_cons_succ, List.set_cons_zero]
    walk_at "go"
    exact ⟨rfl, rfl⟩
  · exact Nat.le_trans (sq_len r1 c1) (by decide)
  · walk_at "go"
    exact w
theorem so_wp (F : P.fn "rules.size_of" = some d_rules_size_of) {A : Nat} {i j : Int} (ga : h[A]? = some (.dct as bs)) (ao : AnsOk as bs) (w : Q (.tup [(kget as bs (.tup [.str kRows, cT i j])).getD .non, (kget as bs (.tup [.str kCols, cT i j])).getD .non]) h) : Wp (call P (n + 1) "rules.size_of" [.loc A, cT i j] h) E Q := by
  have va : view h (.loc A) = some (.dct as bs) := by simp only [view, ga]
  refine sw_run F rfl rfl ?_
  dsimp only [d_rules_size_of]
  walk_at "open"
  walk_at "go"
  refine rc_mk (by rw [va]; rfl) ?_
  walk_at "go"
  refine bm_getV1 va (ok_key ao.d (nk_rows i j)) ?_
  walk_at "go"
  refine rc_mk (by rw [va]; rfl) ?_
  walk_at "go"
  refine bm_getV1 va (ok_key ao.d (nk_cols i j)) ?_
  walk_at "go"
  exact w
theorem els_len (ao : AnsOk as bs) {i j : Int} : (elsQ as bs (cT i j)).length ≤ 144 := by
  unfold elsQ
  split
  · rename_i a b h1 h2
    obtain ⟨a', e1, _, l1⟩ := ao.siz _ i j _ (.inl rfl) h1
    obtain ⟨b', e2, _, l2⟩ := ao.siz _ i j _ (.inr rfl) h2
    cases e1; cases e2
    exact sq_len l1 l2
  · simp
theorem eo_wp (F : QuestFn P) {A : Nat} {i j : Int} (ga : h[A]? = some (.dct as bs)) (ao : AnsOk as bs) (w : Q (.lst (elsQ as bs (cT i j))) h) : Wp (call P (n + 2) "rules.elements_of" [.loc A, cT i j] h) E Q := by
  refine sw_run F.eo rfl rfl ?_
  dsimp only [d_rules_elements_of]
  walk_at "open"
  walk_at "go"
  refine so_wp F.so ga ao ?_
  cases e1 : kget as bs (.tup [.str kRows, cT i j]) with
  | none =>
    have : elsQ as bs (cT i j) = [] := by unfold elsQ; rw [e1]
    rw [this] at w
    dsimp only [Option.getD]
    walk_at "go"
    exact w
  | some a =>
    obtain ⟨a, rfl, a0, a1⟩ := ao.siz _ i j _ (.inl rfl) e1
    cases e2 : kget as bs (.tup [.str kCols, cT i j]) with
    | none =>
      have : elsQ as bs (cT i j) = [] := by unfold elsQ; rw [e1, e2]
      rw [this] at w
      dsimp only [Option.getD]
      walk_at "go"
      exact w
    | some b =>
      obtain ⟨b, rfl, b0, b1⟩ := ao.siz _ i j _ (.inr rfl) e2
      have : elsQ as bs (cT i j) = (rangeT 0 a).flatMap fun u => (rangeT 0 b).map fun v => .tup [.str kElem, cT i j, u, v] := by unfold elsQ; rw [e1, e2]
      rw [this] at w
      dsimp only [Option.getD]
      walk_at "go"
      refine sv_comp2F (fun u => (rangeT 0 b).map fun v => .tup [.str kElem, cT i j, u, v]) ?_
      walk_at "go"
      refine ⟨_, _, range1 (by omega) (by omega), still_none, fun u hu => ?_, ?_, ?_⟩
      · dsimp only [wipe, List.foldr, List.set_cons_succ, List.set_cons_zero]
        walk_at "go"
        refine ⟨rfl, _, _, fun v => .tup [.str kElem, cT i j, u, v], range1 (by omega) (by omega), still_none, rfl, fun v hv => ?_⟩
        dsimp only [wipe, List.foldr, List.set_cons_succ, List.set_cons_zero]
        walk_at "go"
        exact ⟨rfl, rfl⟩
      · exact Nat.le_trans (sq_len a1 b1) (by decide)
      · walk_at "go"
        exact w
/-- the questions, as they are gathered -/
def allQ (r c : Int) (ks vs as bs : List T) : List T := shownQ r c ++ (fls ks vs).flatMap (perF as bs)
theorem all_len (so : SheetOk D r c ks vs) (ao : AnsOk as bs) (r1 : r ≤ 12) (c1 : c ≤ 12) (hl : ks.length ≤ 1000) : (allQ r c ks vs as bs).length ≤ 200000 := by
  unfold allQ
  rw [List.length_append]
  have h1 : (shownQ r c).length ≤ 144 := sq_len r1 c1
  have h2 : ((fls ks vs).flatMap (perF as bs)).length ≤ (fls ks vs).length * 147 := fl_len fun x hx => by
    obtain ⟨i, j, rfl⟩ := fls_cell so hx
    have := els_len ao (i := i) (j := j)
    unfold perF
    simp only [List.length_append, List.length_cons, List.length_nil]
    omega
  have h3 : (fls ks vs).length ≤ ks.length := fls_len
  omega
theorem rng_mem {a : Int} {x : T} (h : x ∈ rangeT 0 a) : ∃ m : Int, x = .int m ∧ 0 ≤ m ∧ m < a := by
  unfold rangeT at h
  obtain ⟨m, hm, rfl⟩ := List.mem_map.mp h
  have := List.mem_range.mp hm
  exact ⟨_, rfl, by omega, by omega⟩
theorem fin_int {i : Int} (h0 : 0 ≤ i) (h1 : i ≤ 1000) : Fin 0 12 (.int i) := by
  have l : i.natAbs.log2 < 10 := by
    rcases Nat.eq_zero_or_pos i.natAbs with h | h
    · rw [h]; decide
    · rw [Nat.log2_lt (by omega)]; omega
  refine ⟨rfl, by simp only [T.showy, decide_eq_true_eq]; omega, Nat.le_refl _, by simp only [T.rlen]; omega⟩
theorem isQ_mk {s : List Nat} {i j : Int} {rest : List T} (hs : (s.all fun c => decide (c < 1114112)) = true) (hl : s.length ≤ 7) (h : ∀ y ∈ rest, ∃ k : Int, y = .int k ∧ 0 ≤ k ∧ k ≤ 1000) (l : rest.length ≤ 2) (hi : 0 ≤ i ∧ i ≤ 1000) (hj : 0 ≤ j ∧ j ≤ 1000) : IsQ (.tup (.str s :: cT i j :: rest)) := by
  refine ⟨s, i, j, rest, rfl, hs, hl, fun y hy => (h y hy).imp fun k e => e.1, hi, hj, ?_⟩
  have f : ∀ y ∈ rest, Fin 0 12 y := fun y hy => by
    obtain ⟨k, rfl, k0, k1⟩ := h y hy
    exact fin_int k0 k1
  refine ⟨plns_of fun y hy => (f y hy).pln, showys_all fun y hy => (f y hy).showy, depths_all fun y hy => (f y hy).deep, ?_⟩
  have := rlens_all fun y hy => (f y hy).len
  omega
theorem all_q (so : SheetOk D r c ks vs) (ao : AnsOk as bs) (r1 : r ≤ 12) (c1 : c ≤ 12) {x : T} (h : x ∈ allQ r c ks vs as bs) : IsQ x := by
  unfold allQ at h
  rcases List.mem_append.mp h with h | h
  · obtain ⟨i, hi, h⟩ := List.mem_flatMap.mp h
    obtain ⟨j, hj, rfl⟩ := List.mem_map.mp h
    obtain ⟨i, rfl, i0, i1⟩ := rng_mem hi
    obtain ⟨j, rfl, j0, j1⟩ := rng_mem hj
    exact isQ_mk (rest := []) rfl (by decide) (by simp) (by simp) (by omega) (by omega)
  · obtain ⟨x0, hx, h⟩ := List.mem_flatMap.mp h
    obtain ⟨i, j, rfl, i0, i1, j0, j1⟩ := so.key x0 (fls_mem hx)
    unfold perF at h
    rcases List.mem_append.mp h with h | h
    · simp only [List.mem_cons, List.not_mem_nil, or_false] at h
      rcases h with rfl | rfl | rfl <;> exact isQ_mk (rest := []) rfl (by decide) (by simp) (by simp) (by omega) (by omega)
    · unfold elsQ at h
      split at h
      · rename_i a b h1 h2
        obtain ⟨a', e1, _, l1⟩ := ao.siz _ i j _ (.inl rfl) h1
        obtain ⟨b', e2, _, l2⟩ := ao.siz _ i j _ (.inr rfl) h2
        cases e1; cases e2
        obtain ⟨u, hu, h⟩ := List.mem_flatMap.mp h
        obtain ⟨v, hv, rfl⟩ := List.mem_map.mp h
        obtain ⟨u, rfl, u0, u1⟩ := rng_mem hu
        obtain ⟨v, rfl, v0, v1⟩ := rng_mem hv
        refine isQ_mk rfl (by decide) (fun y hy => ?_) (by simp) (by omega) (by omega)
        simp only [List.mem_cons, List.not_mem_nil, or_false] at hy
        rcases hy with rfl | rfl
        · exact ⟨_, rfl, by omega, by omega⟩
        · exact ⟨_, rfl, by omega, by omega⟩
      · cases h
theorem qo_wp (F : QuestFn P) {A : Nat} (r0 : 1 ≤ r) (r1 : r ≤ 12) (c0 : 1 ≤ c) (c1 : c ≤ 12) (so : SheetOk D r c ks vs) (hl : ks.length ≤ 1000) (ga : h[A]? = some (.dct as bs)) (ao : AnsOk as bs)
    (w : Q (.loc (h.length + 1)) (h ++ [.lst (allQ r c ks vs as bs), .lst (isort (allQ r c ks vs as bs))])) : Wp (call P (n + 3) "rules.questions_of" [.tup [.int r, .int c, .dct ks vs], .loc A] h) E Q := by
  have ll := all_len so ao r1 c1 hl
  have hA := (List.getElem?_eq_some_iff.mp ga).1
  refine sw_run F.qo rfl rfl ?_
  dsimp only [d_rules_questions_of]
  walk_at "open"
  refine sw_set2 (sv_compFM (fun x => some (.tup [.str kShow, x])) ?_)
  walk_at "go"
  refine gc_wp F r1 c1 r0 c0 ?_
  walk_at "go"
  refine ⟨_, _, walk_lst, still_lst, fun x hx => ?_, ?_, ?_⟩
  · dsimp only [wipe, List.foldr, List.set_cons_succ, List.set_cons_zero]
    refine ifs_nil_ ⟨rfl, br_t ?_⟩
    walk_at "go"
    exact ⟨rfl, rfl⟩
  · exact Nat.le_trans (List.length_filterMap_le _ _) (Nat.le_trans (sq_len r1 c1) (by decide))
  rw [fm_some, shown_map]
  refine sw_for (fun w ρ g => ∃ z acc, ρ = [some (.tup [.int r, .int c, .dct ks vs]), some (.loc A), some (.loc h.length), z] ∧ g = h ++ [.lst acc] ∧ acc ++ w.flatMap (perF as bs) = allQ r c ks vs as bs ∧ ∀ x ∈ w, x ∈ fls ks vs)
    (fun ρ g => ∃ z, ρ = [some (.tup [.int r, .int c, .dct ks vs]), some (.loc A), some (.loc h.length), z] ∧ g = h ++ [.lst (allQ r c ks vs as bs)]) ?_ (fun ρ g hI => ?_)
  · walk_at "go"
    refine fo_wp F.fo so hl ?_
    walk_at "go"
    refine ⟨_, _, walk_lst, ⟨_, _, rfl, rfl, rfl, fun _ h => h⟩, fun x w ρ g hI => ⟨still_lst, ?_⟩, fun ρ g hI => ⟨still_lst, ?_⟩⟩
    · obtain ⟨z, acc, rfl, rfl, ea, hw⟩ := hI
      obtain ⟨i, j, rfl⟩ := fls_cell so (hw x (by simp))
      have la : acc.length + (perF as bs (cT i j)).length ≤ 200000 := by
        rw [← ea] at ll
        simp only [List.flatMap_cons, List.length_append] at ll
        omega
      have lp : (perF as bs (cT i j)).length = 3 + (elsQ as bs (cT i j)).length := by
        unfold perF
        simp only [List.length_append, List.length_cons, List.length_nil]
      have gl : ∀ o : O, (h ++ [o])[h.length]? = some o := fun o => by simp
      walk_at "go"
      refine rc_mk (by simp only [view, gl]; rfl) ?_
      walk_at "go"
      refine bm_extend (gl _) rfl (by intro e; cases e) (by simp only [List.length_cons, List.length_nil]; unfold top; omega) ?_
      walk_at "go"
      refine rc_mk (by simp only [view]; rw [List.getElem?_set_self (by simp)]; rfl) ?_
      walk_at "go"
      refine eo_wp F (as := as) (bs := bs) (by rw [List.getElem?_set_ne (by omega), List.getElem?_append_left hA]; exact ga) ao ?_
      walk_at "go"
      refine bm_extend (List.getElem?_set_self (by simp)) rfl (by intro e; cases e) (by simp only [List.length_cons, List.length_nil, List.length_append]; unfold top; omega) ?_
      walk_at "go"
      refine ⟨_, acc ++ [.tup [.str kRows, cT i j], .tup [.str kCols, cT i j], .tup [.str kStat, cT i j]] ++ elsQ as bs (cT i j), rfl, ?_, ?_, fun y hy => hw y (by simp [hy])⟩
      · rw [List.set_set, List.set_append_right _ _ (Nat.le_refl _), Nat.sub_self]
        rfl
      · rw [← ea]
        unfold perF
        simp
    · obtain ⟨z, acc, rfl, rfl, ea, hw⟩ := hI
      rw [List.flatMap_nil, List.append_nil] at ea
      exact ⟨_, rfl, by rw [ea]⟩
  · obtain ⟨z, rfl, rfl⟩ := hI
    refine sw_ret (sv_biM ?_)
    walk_at "go"
    refine ⟨isort (allQ r c ks vs as bs), ?_, ?_⟩
    · show fSorted (h ++ [O.lst (allQ r c ks vs as bs)]) [.loc h.length] = some (.lst (isort (allQ r c ks vs as bs)))
      unfold fSorted
      simp only [view, List.getElem?_append_right (Nat.le_refl _), Nat.sub_self, List.getElem?_cons_zero, sortable_q fun x hx => all_q so ao r1 c1 hx, if_true]
    · refine fp_ret ?_
      simpa using w
end
end Lite

/-! the rule of a status, in plain Lean -/
namespace Lite
abbrev kSingle : List Nat := [115, 105, 110, 103, 108, 101]
abbrev kSpilled : List Nat := [115, 112, 105, 108, 108, 101, 100]
abbrev kBlocked : List Nat := [98, 108, 111, 99, 107, 101, 100]
abbrev kAnswer : List Nat := [97, 110, 115, 119, 101, 114]
abbrev kMissing : List Nat := [109, 105, 115, 115, 105, 110, 103]
theorem rngm {a b : Int} {x : T} : x ∈ rangeT a b ↔ ∃ m : Int, x = .int m ∧ a ≤ m ∧ m < b := by
  unfold rangeT
  rw [List.mem_map]
  constructor
  · rintro ⟨k, hk, rfl⟩
    have := List.mem_range.mp hk
    exact ⟨_, rfl, by omega, by omega⟩
  · rintro ⟨m, rfl, h1, h2⟩
    exact ⟨(m - a).toNat, List.mem_range.mpr (by omega), by congr 1; omega⟩
def inA (t l b r : Int) : T → Bool
  | .tup [.int i, .int j] => decide (t ≤ i) && decide (i ≤ b) && decide (l ≤ j) && decide (j ≤ r)
  | _ => false
/-- another cell of the area holds something -/
def blk (ks : List T) (t l b r : Int) (me : T) : Bool := ks.any fun k => !decide (k = me) && inA t l b r k
def cellsA (t l b r : Int) : List T := (rangeT t (b + 1)).flatMap fun i => (rangeT l (r + 1)).map fun j => .tup [i, j]
theorem mem_cellsA {t l b r : Int} {x : T} : x ∈ cellsA t l b r ↔ ∃ i j : Int, x = cT i j ∧ t ≤ i ∧ i ≤ b ∧ l ≤ j ∧ j ≤ r := by
  unfold cellsA
  rw [List.mem_flatMap]
  constructor
  · rintro ⟨i, hi, h⟩
    obtain ⟨j, hj, rfl⟩ := List.mem_map.mp h
    obtain ⟨i, rfl, h1, h2⟩ := rngm.mp hi
    obtain ⟨j, rfl, h3, h4⟩ := rngm.mp hj
    exact ⟨i, j, rfl, h1, by omega, h3, by omega⟩
  · rintro ⟨i, j, rfl, h1, h2, h3, h4⟩
    exact ⟨.int i, rngm.mpr ⟨i, rfl, h1, by omega⟩, List.mem_map.mpr ⟨.int j, rngm.mpr ⟨j, rfl, h3, by omega⟩, rfl⟩⟩
theorem memT_mem {ks vs : List T} {x : T} (d : DKs ks vs) (hx : NK x) : memT x ks = decide (x ∈ ks) := by
  rw [memT_kget d.len]
  cases e : kget ks vs x with
  | none => rw [decide_eq_false ((kget_none d hx).mp e)]; rfl
  | some y => rw [decide_eq_true (kget_key d hx e)]; rfl
def fG (ks : List T) (me x : T) : Option T := if !decide (x = me) && memT x ks then some x else none
theorem free_iff {ks vs : List T} {t l b r : Int} {me : T} (d : DKs ks vs) : ((cellsA t l b r).filterMap (fG ks me)).isEmpty = !blk ks t l b r me := by
  rw [Bool.eq_iff_iff, Bool.not_eq_true', List.isEmpty_iff, List.filterMap_eq_nil_iff]
  unfold blk
  rw [List.any_eq_false]
  constructor
  · intro h k hk
    intro c
    rw [Bool.and_eq_true, Bool.not_eq_true', decide_eq_false_iff_not] at c
    obtain ⟨ne, c⟩ := c
    unfold inA at c
    split at c
    · rename_i i j
      simp only [Bool.and_eq_true, decide_eq_true_eq] at c
      obtain ⟨⟨⟨h1, h2⟩, h3⟩, h4⟩ := c
      have := h _ (mem_cellsA.mpr ⟨i, j, rfl, h1, h2, h3, h4⟩)
      unfold fG at this
      rw [memT_mem d (nk_cell i j), decide_eq_true hk, decide_eq_false ne] at this
      cases this
    · cases c
  · intro h x hx
    obtain ⟨i, j, rfl, h1, h2, h3, h4⟩ := mem_cellsA.mp hx
    unfold fG
    rw [memT_mem d (nk_cell i j)]
    by_cases e : cT i j ∈ ks
    · have := h _ e
      rw [Bool.and_eq_true, not_and] at this
      by_cases c : cT i j = me
      · rw [decide_eq_true c]
        rfl
      · refine absurd ?_ (this (by rw [decide_eq_false c]; rfl))
        simp [inA, h1, h2, h3, h4]
    · rw [decide_eq_false e, Bool.and_false]
      rfl
/-- a formula may spill over a cell -/
def reachB (ks : List T) (oi oj ci cj : Int) : Bool := !(decide (ci < oi) || decide (cj < oj)) && !blk ks oi oj ci cj (cT oi oj)
def shortB (as bs : List T) (ci : Int) (oi oj : Int) : Bool := match kget as bs (.tup [.str kRows, cT oi oj]) with
  | some (.int a) => decide (oi + a ≤ ci)
  | _ => false
def statO (as bs : List T) (oi oj : Int) : Option T := kget as bs (.tup [.str kStat, cT oi oj])
def covB (as bs : List T) (ci oi oj : Int) : Bool := decide (statO as bs oi oj = some (.str kSpilled)) && !shortB as bs ci oi oj
def awayB (as bs : List T) (ci oi oj : Int) : Bool := decide (statO as bs oi oj = some (.str kSingle)) || decide (statO as bs oi oj = some (.str kBlocked)) || shortB as bs ci oi oj
def opG (as : List T) (o x : T) : Option T := if !memT (.tup [x, o]) as then some (.tup [x, o]) else none
def opn (as : List T) (o : T) : List T := ([.str kRows, .str kStat] : List T).filterMap (opG as o)
/-- a rival: a formula above that may spill into the room -/
def rivB (ks : List T) (ci cj ar : Int) : T → Bool
  | .tup [.int oi, .int oj] => decide (oi < ci) && decide (cj < oj) && decide (oj ≤ ar) && reachB ks oi oj ci oj
  | _ => false
/-- through the rivals: none for blocked, or what is missing -/
def goR (as bs : List T) (ci : Int) : List T → List T → Option (List T)
  | [], acc => some acc
  | .tup [.int oi, .int oj] :: l, acc => if covB as bs ci oi oj then none else if awayB as bs ci oi oj then goR as bs ci l acc else goR as bs ci l (acc ++ opn as (cT oi oj))
  | _ :: l, acc => goR as bs ci l acc
inductive RA where
  | ans (s : List Nat)
  | mis (l : List T)
def RA.t : RA → T
  | .ans s => .tup [.str kAnswer, .str s]
  | .mis l => .tup [.str kMissing, .lst l]
def endR : Option (List T) → RA
  | none => .ans kBlocked
  | some l => if l.isEmpty then .ans kSpilled else .mis l
def statR (r c : Int) (ks vs as bs : List T) (i j : Int) : RA := match kget as bs (.tup [.str kRows, cT i j]) with
  | some (.int a) => (match kget as bs (.tup [.str kCols, cT i j]) with
    | some (.int b) => if decide (a = 1) && decide (b = 1) then .ans kSingle else
        if decide (r ≤ i + a - 1) || decide (c ≤ j + b - 1) || blk ks i j (i + a - 1) (j + b - 1) (cT i j) then .ans kBlocked
        else endR (goR as bs i ((fls ks vs).filter (rivB ks i j (j + b - 1))) [])
    | _ => .mis [.tup [.str kCols, cT i j]])
  | _ => .mis [.tup [.str kRows, cT i j]]
/-- answers of which a spilled formula's size is known -/
structure AnsOk2 (as bs : List T) : Prop extends AnsOk as bs where
  st : ∀ i j a, statO as bs i j = some a → a = .str kSingle ∨ a = .str kBlocked ∨ a = .str kSpilled ∧ (∃ x, kget as bs (.tup [.str kRows, cT i j]) = some x) ∧ ∃ x, kget as bs (.tup [.str kCols, cT i j]) = some x
end Lite

namespace Lite
theorem fit_cell (i j : Int) : (cT i j).fit = true := by simp [T.fit, T.flat, T.flats, T.depth, T.depths]
section
variable {h : Heap} {R : Bool → Prop} {x y u v : Int}
theorem oc_neC (w : R (!decide (cT x y = cT u v))) : Ob (cmpop .ne h (cT x y) (cT u v)) R := Ob.of (by rw [ne_fit rfl rfl (fit_cell x y) (fit_cell u v) (fun s e => by cases e), nk_eqv (nk_cell x y) (nk_cell u v)]) w
theorem oc_eqN {xs : List T} (w : R xs.isEmpty) : Ob (cmpop .eq h (.lst xs) (.lst [])) R := by
  refine Ob.of (show (if (T.lst xs).fit && (T.lst []).fit then some (T.eqv (.lst xs) (.lst [])) else eqLen (.lst xs) (.lst [])) = some xs.isEmpty from ?_) w
  cases xs with
  | nil => simp [T.fit, T.flat, T.flats, T.depth, T.depths, T.eqv, T.eqvs]
  | cons x xs =>
    split
    · rfl
    · rfl
theorem ne_nil {X : T} {xs : List T} (hv : view h X = some (.lst xs)) : cmpop .ne h X (.lst []) = some (!xs.isEmpty) := by
  unfold cmpop
  rw [hv]
  show (if (T.lst xs).fit && (T.lst []).fit then some (!T.eqv (.lst xs) (.lst [])) else (eqLen (.lst xs) (.lst [])).map (!·)) = _
  cases xs with
  | nil => simp [T.fit, T.flat, T.flats, T.depth, T.depths, T.eqv, T.eqvs]
  | cons x xs => split <;> rfl
end
end Lite
namespace Lite.K29
theorem DF : DrawFn PP := ⟨rfl, rfl, rfl⟩
theorem EF : ExprFn PP := ⟨DF, rfl, rfl, rfl, rfl, rfl⟩
theorem con12 {x : T} {D : Nat} (h : x ∈ ([.int 0, .int 1, .int 2, .int 3, .int (0 - 1), .int 5, .int 12, .int 1000000000, .int (0 - 1000000000)] : List T)) : IsCon D x := by
  simp only [List.mem_cons, List.not_mem_nil, or_false] at h
  rcases h with rfl | rfl | rfl | rfl | rfl | rfl | rfl | rfl | rfl <;> exact .inl ⟨_, rfl, by omega, by omega⟩
theorem con_spec : ConSpec PP := by
  intro n m h0 h E Q rows cols j D d r0 r1 c0 c1 hj w
  have DD := DF
  refine sw_run rfl rfl rfl ?_
  dsimp only [d_law__law_content]
  walk_at "open"
  walk_at "go"
  refine br_dec (fun c => ?_) (fun c => ?_)
  · walk_at "go"
    rename_i hx d2
    exact w _ _ (con12 hx) d2
  · walk_at "go"
    rename_i d1
    exact formula_wp EF rfl D d1 r0 r1 c0 c1 hj fun x h' hx d' => w x h' (.inr hx) d'
theorem QF : SheetFn PP := ⟨EF, con_spec, rfl⟩
section
variable {n m D : Nat} {h0 h : Heap} {E : T → Heap → Prop} {Q : T → Heap → Prop} {r c i j : Int} {ks vs as bs : List T}
theorem cells_len {t l b rr : Int} (hb : 0 ≤ t ∧ t ≤ 40 ∧ 0 ≤ l ∧ l ≤ 40 ∧ 0 ≤ b ∧ b ≤ 40 ∧ 0 ≤ rr ∧ rr ≤ 40) : (cellsA t l b rr).length ≤ 3600 := by
  have l1 : (rangeT t (b + 1)).length ≤ 60 := by simp only [rangeT, List.length_map, List.length_range]; omega
  have l2 : (rangeT l (rr + 1)).length ≤ 60 := by simp only [rangeT, List.length_map, List.length_range]; omega
  refine Nat.le_trans (fl_len (b := 60) fun x _ => by rw [List.length_map]; exact l2) ?_
  omega
theorem cells_wp {t l b rr : Int} (hb : 0 ≤ t ∧ t ≤ 40 ∧ 0 ≤ l ∧ l ≤ 40 ∧ 0 ≤ b ∧ b ≤ 40 ∧ 0 ≤ rr ∧ rr ≤ 40) (w : Q (.lst (cellsA t l b rr)) h) : Wp (call PP (n + 1) "grid.cells_of" [.tup [.int t, .int l, .int b, .int rr]] h) E Q := by
  refine sw_run rfl rfl rfl ?_
  dsimp only [d_grid_cells_of]
  walk_at "open"
  walk_at "go"
  refine sv_comp2F (fun i => (rangeT l (rr + 1)).map fun j => .tup [i, j]) ?_
  walk_at "go"
  refine ⟨_, _, range2 (by omega) (by omega) (by omega) (by omega), still_none, fun i hi => ?_, ?_, ?_⟩
  · dsimp only [wipe, List.foldr, List.set_cons_succ, List.set_cons_zero]
    walk_at "go"
    refine ⟨rfl, _, _, fun j => .tup [i, j], range2 (by omega) (by omega) (by omega) (by omega), still_none, rfl, fun j hj => ?_⟩
    dsimp only [wipe, List.foldr, List.set_cons_succ, List.set_cons_zero]
    walk_at "go"
    exact ⟨rfl, rfl⟩
  · exact Nat.le_trans (cells_len hb) (by decide)
  · walk_at "go"
    exact w
theorem free_wp {t l b rr : Int} (so : SheetOk D r c ks vs) (hb : 0 ≤ t ∧ t ≤ 40 ∧ 0 ≤ l ∧ l ≤ 40 ∧ 0 ≤ b ∧ b ≤ 40 ∧ 0 ≤ rr ∧ rr ≤ 40) (w : Q (.bl (!blk ks t l b rr (cT i j))) h) : Wp (call PP (n + 2) "rules.is_free" [.tup [.int r, .int c, .dct ks vs], .tup [.int t, .int l, .int b, .int rr], cT i j] h) E Q := by
  refine sw_run rfl rfl rfl ?_
  dsimp only [d_rules_is_free]
  walk_at "open"
  walk_at "go"
  refine sv_compF (fG ks (cT i j)) ?_
  walk_at "go"
  refine cells_wp hb ?_
  walk_at "go"
  refine ⟨_, _, walk_lst, still_lst, fun x hx => ?_, ?_, ?_⟩
  · dsimp only [wipe, List.foldr, List.set_cons_succ, List.set_cons_zero]
    obtain ⟨u, v, rfl, _⟩ := mem_cellsA.mp hx
    have ok := ok_key so.d (nk_cell u v)
    refine ifs_one_ ?_
    walk_at "go"
    refine oc_neC ?_
    unfold fG
    walk_at "go"
    refine br_dec (fun e => ?_) (fun e => ?_)
    · rw [decide_eq_true e]
      walk_at "go"
      exact ⟨rfl, br_f rfl⟩
    · rw [decide_eq_false e]
      walk_at "go"
      refine ⟨rfl, ?_⟩
      cases memT (cT u v) ks
      · exact br_f rfl
      · refine br_t ?_
        walk_at "go"
        exact ⟨rfl, rfl⟩
  · exact Nat.le_trans (List.length_filterMap_le _ _) (Nat.le_trans (cells_len hb) (by decide))
  · walk_at "go"
    refine oc_eqN ?_
    rw [free_iff so.d]
    walk_at "go"
    exact w
theorem reach_wp {oi oj : Int} (so : SheetOk D r c ks vs) (hb : 0 ≤ oi ∧ oi ≤ 40 ∧ 0 ≤ oj ∧ oj ≤ 40 ∧ 0 ≤ i ∧ i ≤ 40 ∧ 0 ≤ j ∧ j ≤ 40) (w : Q (.bl (reachB ks oi oj i j)) h) : Wp (call PP (n + 3) "rules.can_reach" [.tup [.int r, .int c, .dct ks vs], cT oi oj, cT i j] h) E Q := by
  refine sw_run rfl rfl rfl ?_
  dsimp only [d_rules_can_reach]
  walk_at "open"
  unfold reachB at w
  walk_at "go"
  refine br_dec (fun e => ?_) (fun e => ?_)
  · rw [decide_eq_true e] at w
    walk_at "go"
    exact w
  · rw [decide_eq_false e] at w
    walk_at "go"
    refine br_dec (fun e2 => ?_) (fun e2 => ?_)
    · rw [decide_eq_true e2] at w
      walk_at "go"
      exact w
    · rw [decide_eq_false e2] at w
      walk_at "go"
      refine free_wp so hb ?_
      walk_at "go"
      exact w
def g1 (i j ar : Int) : T → Option T
  | .tup [.int u, .int v] => if decide (u < i) && (decide (j < v) && decide (v ≤ ar)) then some (.tup [.int u, .int v]) else none
  | _ => none
def g2 (ks : List T) (i : Int) : T → Option T
  | .tup [.int u, .int v] => if reachB ks u v i v then some (.tup [.int u, .int v]) else none
  | _ => none
theorem riv_eq {ks : List T} {i j ar : Int} : ∀ {l : List T}, (∀ x ∈ l, ∃ u v : Int, x = cT u v) → (l.filterMap (g1 i j ar)).filterMap (g2 ks i) = l.filter (rivB ks i j ar)
  | [], _ => rfl
  | x :: l, h => by
    obtain ⟨u, v, rfl⟩ := h x (by simp)
    have ih := riv_eq (ks := ks) (i := i) (j := j) (ar := ar) fun y hy => h y (List.mem_cons_of_mem _ hy)
    rw [List.filter_cons, List.filterMap_cons]
    have e1 : g1 i j ar (cT u v) = if decide (u < i) && (decide (j < v) && decide (v ≤ ar)) then some (cT u v) else none := rfl
    have e2 : g2 ks i (cT u v) = if reachB ks u v i v then some (cT u v) else none := rfl
    have e3 : rivB ks i j ar (cT u v) = (decide (u < i) && decide (j < v) && decide (v ≤ ar) && reachB ks u v i v) := rfl
    rw [e1, e3]
    cases decide (u < i) <;> cases decide (j < v) <;> cases decide (v ≤ ar) <;> cases e4 : reachB ks u v i v <;> simp [ih, List.filterMap_cons, e2, e4]
theorem rivals_wp {t l b ar : Int} (so : SheetOk D r c ks vs) (hl : ks.length ≤ 1000) (r1 : r ≤ 12) (c1 : c ≤ 12) (hi : 0 ≤ i ∧ i ≤ 40) (w : Q (.lst ((fls ks vs).filter (rivB ks i j ar))) h) : Wp (call PP (n + 4) "rules.rivals_for" [.tup [.int r, .int c, .dct ks vs], cT i j, .tup [.int t, .int l, .int b, .int ar]] h) E Q := by
  have cell : ∀ x ∈ fls ks vs, ∃ u v : Int, x = cT u v := fun x hx => fls_cell so hx
  have lf : (fls ks vs).length ≤ 1000 := Nat.le_trans fls_len hl
  rw [← riv_eq cell] at w
  refine sw_run rfl rfl rfl ?_
  dsimp only [d_rules_rivals_for]
  walk_at "open"
  refine sw_set3 (sv_compF (g1 i j ar) ?_)
  walk_at "go"
  refine fo_wp rfl so hl ?_
  walk_at "go"
  refine ⟨_, _, walk_lst, still_lst, fun x hx => ?_, Nat.le_trans (List.length_filterMap_le _ _) (by unfold top; omega), ?_⟩
  · dsimp only [wipe, List.foldr, List.set_cons_succ, List.set_cons_zero]
    obtain ⟨u, v, rfl⟩ := cell x hx
    rw [show g1 i j ar (cT u v) = if decide (u < i) && (decide (j < v) && decide (v ≤ ar)) then some (cT u v) else none from rfl]
    refine ifs_one_ ?_
    walk_at "go"
    refine br_dec (fun e => ?_) (fun e => ?_)
    · rw [decide_eq_true e]
      walk_at "go"
      refine br_dec (fun e => ?_) (fun e => ?_)
      · rw [decide_eq_true e]
        walk_at "go"
        refine ⟨rfl, ?_⟩
        cases decide (v ≤ ar)
        · exact br_f rfl
        · refine br_t ?_
          walk_at "go"
          exact ⟨rfl, rfl⟩
      · rw [decide_eq_false e]
        walk_at "go"
        exact ⟨rfl, br_f rfl⟩
    · rw [decide_eq_false e]
      walk_at "go"
      exact ⟨rfl, br_f rfl⟩
  · walk_at "go"
    refine sv_compF (g2 ks i) ?_
    walk_at "go"
    refine ⟨_, _, walk_lst, still_lst, fun x hx => ?_, Nat.le_trans (List.length_filterMap_le _ _) (Nat.le_trans (List.length_filterMap_le _ _) (by unfold top; omega)), ?_⟩
    · dsimp only [wipe, List.foldr, List.set_cons_succ, List.set_cons_zero]
      obtain ⟨y, hy, ey⟩ := List.mem_filterMap.mp hx
      obtain ⟨u, v, rfl⟩ := cell y hy
      have ex : x = cT u v := by
        rw [show g1 i j ar (cT u v) = if decide (u < i) && (decide (j < v) && decide (v ≤ ar)) then some (cT u v) else none from rfl] at ey
        split at ey
        · cases ey; rfl
        · cases ey
      subst ex
      obtain ⟨u', v', e, k0, k1, k2, k3⟩ := so.key _ (fls_mem hy)
      cases e
      rw [show g2 ks i (cT u v) = if reachB ks u v i v then some (cT u v) else none from rfl]
      refine ifs_one_ ?_
      walk_at "go"
      refine reach_wp so (by omega) ?_
      walk_at "go"
      refine ⟨rfl, ?_⟩
      cases reachB ks u v i v
      · exact br_f rfl
      · refine br_t ?_
        walk_at "go"
        exact ⟨rfl, rfl⟩
    · walk_at "go"
      exact w
theorem size_wp {A : Nat} (ga : h[A]? = some (.dct as bs)) (ao : AnsOk as bs) (w : Q (.tup [(kget as bs (.tup [.str kRows, cT i j])).getD .non, (kget as bs (.tup [.str kCols, cT i j])).getD .non]) h) : Wp (call PP (n + 1) "rules.size_of" [.loc A, cT i j] h) E Q := so_wp rfl ga ao w
theorem ends_wp {A : Nat} {ci : Int} (ga : h[A]? = some (.dct as bs)) (ao : AnsOk as bs) (w : Q (.bl (shortB as bs ci i j)) h) : Wp (call PP (n + 2) "rules.ends_before" [.loc A, cT i j, cT ci j] h) E Q := by
  refine sw_run rfl rfl rfl ?_
  dsimp only [d_rules_ends_before]
  walk_at "open"
  walk_at "go"
  refine size_wp ga ao ?_
  unfold shortB at w
  cases e1 : kget as bs (.tup [.str kRows, cT i j]) with
  | none =>
    rw [e1] at w
    cases e2 : kget as bs (.tup [.str kCols, cT i j]) with
    | none =>
      dsimp only [Option.getD]
      walk_at "go"
      exact w
    | some b =>
      obtain ⟨b, rfl, b0, b1⟩ := ao.siz _ i j _ (.inr rfl) e2
      dsimp only [Option.getD]
      walk_at "go"
      rw [decide_eq_false (by omega)]
      exact w
  | some a =>
    obtain ⟨a, rfl, a0, a1⟩ := ao.siz _ i j _ (.inl rfl) e1
    rw [e1] at w
    dsimp only at w
    cases e2 : kget as bs (.tup [.str kCols, cT i j]) with
    | none =>
      dsimp only [Option.getD]
      walk_at "go"
      refine br_dec (fun e => ?_) (fun e => ?_)
      · rw [decide_eq_true e] at w
        walk_at "go"
        exact w
      · rw [decide_eq_false e] at w
        walk_at "go"
        exact w
    | some b =>
      obtain ⟨b, rfl, b0, b1⟩ := ao.siz _ i j _ (.inr rfl) e2
      dsimp only [Option.getD]
      walk_at "go"
      refine br_dec (fun e => ?_) (fun e => ?_)
      · rw [decide_eq_true e] at w
        walk_at "go"
        exact w
      · rw [decide_eq_false e] at w
        walk_at "go"
        rw [decide_eq_false (by omega)]
        exact w
theorem cov_wp {A : Nat} {ci : Int} (ga : h[A]? = some (.dct as bs)) (ao : AnsOk2 as bs) (hi : i < ci) (w : Q (.bl (covB as bs ci i j)) h) : Wp (call PP (n + 2) "rules.covers" [.loc A, cT i j, cT ci j] h) E Q := by
  have va : view h (.loc A) = some (.dct as bs) := by simp only [view, ga]
  refine sw_run rfl rfl rfl ?_
  dsimp only [d_rules_covers]
  walk_at "open"
  walk_at "go"
  refine rc_mk (by rw [va]; rfl) ?_
  walk_at "go"
  refine bm_getV1 va (ok_key ao.d (nk_stat i j)) ?_
  unfold covB at w
  cases e : statO as bs i j with
  | none =>
    rw [e] at w
    unfold statO at e
    rw [e]
    dsimp only [Option.getD]
    walk_at "go"
    refine Ob.of (show cmpop .ne h .non (.str kSpilled) = some true from rfl) ?_
    walk_at "go"
    exact w
  | some a =>
    have st := ao.st i j a e
    rw [e] at w
    unfold statO at e
    rw [e]
    dsimp only [Option.getD]
    rcases st with rfl | rfl | ⟨rfl, ⟨x, e1⟩, ⟨y, e2⟩⟩
    · walk_at "go"
      exact w
    · walk_at "go"
      exact w
    · obtain ⟨a, rfl, a0, a1⟩ := ao.siz _ i j _ (.inl rfl) e1
      obtain ⟨b, rfl, b0, b1⟩ := ao.siz _ i j _ (.inr rfl) e2
      have es : shortB as bs ci i j = decide (i + a ≤ ci) := by unfold shortB; rw [e1]
      rw [es] at w
      walk_at "go"
      refine size_wp ga ao.toAnsOk ?_
      rw [e1, e2]
      dsimp only [Option.getD]
      walk_at "go"
      refine sw_run rfl rfl rfl ?_
      dsimp only [d_grid_area_at]
      walk_at "open"
      walk_at "go"
      refine sw_run rfl rfl rfl ?_
      dsimp only [d_grid_contains]
      walk_at "open"
      walk_at "go"
      refine br_dec (fun c2 => ?_) (fun c2 => ?_)
      · rw [decide_eq_false (show ¬ (i + a ≤ ci) by omega)] at w
        walk_at "go"
        rw [decide_eq_true (by omega)]
        exact w
      · rw [decide_eq_true (show i + a ≤ ci by omega)] at w
        walk_at "go"
        rw [show decide (ci ≤ i + a - 1) = false from decide_eq_false (by omega)]
        simpa using w
theorem away_wp {A : Nat} {ci : Int} (ga : h[A]? = some (.dct as bs)) (ao : AnsOk2 as bs) (w : Q (.bl (awayB as bs ci i j)) h) : Wp (call PP (n + 3) "rules.stays_away" [.loc A, cT i j, cT ci j] h) E Q := by
  have va : view h (.loc A) = some (.dct as bs) := by simp only [view, ga]
  refine sw_run rfl rfl rfl ?_
  dsimp only [d_rules_stays_away]
  walk_at "open"
  walk_at "go"
  refine rc_mk (by rw [va]; rfl) ?_
  walk_at "go"
  refine bm_getV1 va (ok_key ao.d (nk_stat i j)) ?_
  unfold awayB at w
  cases e : statO as bs i j with
  | none =>
    rw [e] at w
    unfold statO at e
    rw [e]
    dsimp only [Option.getD]
    walk_at "go"
    refine ends_wp ga ao.toAnsOk ?_
    walk_at "go"
    simpa using w
  | some a =>
    have st := ao.st i j a e
    rw [e] at w
    unfold statO at e
    rw [e]
    dsimp only [Option.getD]
    rcases st with rfl | rfl | ⟨rfl, _, _⟩
    · walk_at "go"
      exact w
    · walk_at "go"
      exact w
    · walk_at "go"
      refine ends_wp ga ao.toAnsOk ?_
      walk_at "go"
      simpa using w
theorem opn_len {o : T} : (opn as o).length ≤ 2 := List.length_filterMap_le _ _
theorem un_wp {A : Nat} (ga : h[A]? = some (.dct as bs)) (ao : AnsOk as bs) (w : Q (.lst (opn as (cT i j))) h) : Wp (call PP (n + 1) "rules.unanswered" [.loc A, cT i j, .tup [.str kRows, .str kStat]] h) E Q := by
  have va : view h (.loc A) = some (.dct as bs) := by simp only [view, ga]
  refine sw_run rfl rfl rfl ?_
  dsimp only [d_rules_unanswered]
  walk_at "open"
  walk_at "go"
  refine sv_compF (opG as (cT i j)) ?_
  walk_at "go"
  refine ⟨_, _, walk_tup, still_tup, fun x hx => ?_, Nat.le_trans opn_len (by decide), ?_⟩
  · dsimp only [wipe, List.foldr, List.set_cons_succ, List.set_cons_zero]
    have nk : NK (.tup [x, cT i j]) := by
      simp only [List.mem_cons, List.not_mem_nil, or_false] at hx
      rcases hx with rfl | rfl <;> exact ⟨rfl, rfl⟩
    refine ifs_one_ ?_
    walk_at "go"
    refine oc_ninV va (ok_key ao.d nk) ?_
    walk_at "go"
    refine ⟨rfl, ?_⟩
    unfold opG
    cases memT (.tup [x, cT i j]) as
    · refine br_t ?_
      walk_at "go"
      exact ⟨rfl, rfl⟩
    · exact br_f rfl
  · walk_at "go"
    exact w
/-- what a rule gives -/
def RQ (h : Heap) (Q : T → Heap → Prop) : RA → Prop
  | .ans s => ∀ t, Q (.tup [.str kAnswer, .str s]) (h ++ t)
  | .mis l => ∀ t p, h.length ≤ p → (h ++ t)[p]? = some (.lst l) → Q (.tup [.str kMissing, .loc p]) (h ++ t)
theorem room_wp {A : Nat} {rv : List T} (ga : h[A]? = some (.dct as bs)) (ao : AnsOk2 as bs) (hr : ∀ x ∈ rv, ∃ u v : Int, x = cT u v ∧ u < i) (hl : rv.length ≤ 1000) (w : RQ h Q (endR (goR as bs i rv []))) : Wp (call PP (n + 4) "rules.room_result" [.loc A, cT i j, .lst rv] h) E Q := by
  have hA := (List.getElem?_eq_some_iff.mp ga).1
  refine sw_run rfl rfl rfl ?_
  dsimp only [d_rules_room_result]
  walk_at "open"
  walk_at "go"
  obtain ⟨L, eL⟩ : ∃ L, L = h.length := ⟨_, rfl⟩
  rw [← eL]
  refine sw_for (fun wl ρ g => ∃ z4 z5 acc, ρ = [some (.loc A), some (cT i j), some (.lst rv), some (.loc L), z4, z5] ∧ g = h ++ [.lst acc] ∧ goR as bs i wl acc = goR as bs i rv [] ∧ acc.length + 2 * wl.length ≤ 2000 ∧ ∀ x ∈ wl, x ∈ rv)
    (fun ρ g => ∃ z4 z5 acc, ρ = [some (.loc A), some (cT i j), some (.lst rv), some (.loc L), z4, z5] ∧ g = h ++ [.lst acc] ∧ some acc = goR as bs i rv []) ?_ (fun ρ g hI => ?_)
  · walk_at "go"
    refine ⟨_, _, walk_lst, ⟨_, _, [], rfl, rfl, rfl, by simp only [List.length_nil]; omega, fun _ h => h⟩, fun x wl ρ g hI => ⟨still_lst, ?_⟩, fun ρ g hI => ⟨still_lst, ?_⟩⟩
    · obtain ⟨z4, z5, acc, rfl, rfl, eg, hn, hw⟩ := hI
      obtain ⟨u, v, rfl, hu⟩ := hr x (hw x (by simp))
      have gA : (h ++ [O.lst acc])[A]? = some (.dct as bs) := by rw [List.getElem?_append_left hA]; exact ga
      simp only [List.length_cons] at hn
      rw [show goR as bs i (cT u v :: wl) acc = if covB as bs i u v then none else if awayB as bs i u v then goR as bs i wl acc else goR as bs i wl (acc ++ opn as (cT u v)) from rfl] at eg
      walk_at "go"
      refine cov_wp gA ao hu ?_
      walk_at "go"
      cases ec : covB as bs i u v with
      | true =>
        rw [ec, if_pos rfl] at eg
        walk_at "go"
        rw [← eg] at w
        exact w _
      | false =>
        rw [ec, if_neg (by decide)] at eg
        walk_at "go"
        refine away_wp gA ao ?_
        walk_at "go"
        cases ea : awayB as bs i u v with
        | true =>
          rw [ea, if_pos rfl] at eg
          walk_at "go"
          exact ⟨_, _, acc, rfl, rfl, eg, by omega, fun y hy => hw y (by simp [hy])⟩
        | false =>
          rw [ea, if_neg (by decide)] at eg
          walk_at "go"
          refine rc_mk (by simp only [view, eL]; simp; rfl) ?_
          walk_at "go"
          refine un_wp gA ao.toAnsOk ?_
          walk_at "go"
          have lo := opn_len (as := as) (o := cT u v)
          refine bm_extend (ys := acc) (zs := opn as (cT u v)) (by rw [eL]; simp) rfl (by intro e; cases e) (by unfold top; omega) ?_
          walk_at "go"
          refine ⟨_, _, acc ++ opn as (cT u v), rfl, ?_, eg, by rw [List.length_append]; omega, fun y hy => hw y (by simp [hy])⟩
          rw [eL, List.set_append_right _ _ (Nat.le_refl _), Nat.sub_self]
          rfl
    · obtain ⟨z4, z5, acc, rfl, rfl, eg, hn, hw⟩ := hI
      exact ⟨_, _, acc, rfl, rfl, eg⟩
  · obtain ⟨z4, z5, acc, rfl, rfl, eg⟩ := hI
    rw [← eg] at w
    have gl : (h ++ [O.lst acc])[L]? = some (.lst acc) := by rw [eL]; simp
    walk_at "go"
    refine Ob.of (show cmpop .ne (h ++ [O.lst acc]) (.loc L) (.lst []) = some (!acc.isEmpty) from ?_) ?_
    · exact ne_nil (by simp only [view, gl])
    · cases acc with
      | nil =>
        walk_at "go"
        exact w _
      | cons x xs =>
        walk_at "go"
        exact w _ L (by omega) gl
theorem st_wp {A : Nat} (so : SheetOk D r c ks vs) (hl : ks.length ≤ 1000) (r1 : r ≤ 12) (c1 : c ≤ 12) (hi : 0 ≤ i ∧ i < r) (hj : 0 ≤ j ∧ j < c) (ga : h[A]? = some (.dct as bs)) (ao : AnsOk2 as bs) (w : RQ h Q (statR r c ks vs as bs i j)) : Wp (call PP (n + 5) "rules.status_rule" [.tup [.int r, .int c, .dct ks vs], .loc A, cT i j] h) E Q := by
  have hA := (List.getElem?_eq_some_iff.mp ga).1
  refine sw_run rfl rfl rfl ?_
  dsimp only [d_rules_status_rule]
  walk_at "open"
  walk_at "go"
  refine size_wp ga ao.toAnsOk ?_
  unfold statR at w
  cases e1 : kget as bs (.tup [.str kRows, cT i j]) with
  | none =>
    rw [e1] at w
    dsimp only [Option.getD]
    walk_at "go"
    exact w [.lst [.tup [.str kRows, cT i j]]] h.length (Nat.le_refl _) (by simp)
  | some a =>
    obtain ⟨a, rfl, a0, a1⟩ := ao.siz _ i j _ (.inl rfl) e1
    rw [e1] at w
    cases e2 : kget as bs (.tup [.str kCols, cT i j]) with
    | none =>
      rw [e2] at w
      dsimp only [Option.getD]
      walk_at "go"
      exact w [.lst [.tup [.str kCols, cT i j]]] h.length (Nat.le_refl _) (by simp)
    | some b =>
      obtain ⟨b, rfl, b0, b1⟩ := ao.siz _ i j _ (.inr rfl) e2
      rw [e2] at w
      dsimp only [Option.getD] at w ⊢
      by_cases cs : a = 1 ∧ b = 1
      · obtain ⟨rfl, rfl⟩ := cs
        rw [if_pos (by decide)] at w
        walk_at "go"
        simpa using w []
      · have cs2 : (decide (a = 1) && decide (b = 1)) = false := by
          rw [Bool.and_eq_false_iff, decide_eq_false_iff_not, decide_eq_false_iff_not]
          by_cases c1 : a = 1
          · exact .inr fun c2 => cs ⟨c1, c2⟩
          · exact .inl c1
        rw [cs2, if_neg (by decide)] at w
        have rest : Wp (exSs (cnOf PP (n + 4)) [
            .set 5 (.call "grid.area_at" [(.var 2), (.var 3), (.var 4)]),
            .iff (.or [(.cmp .ge (.idx (.var 5) (.int 2)) (.idx (.var 0) (.int 0))), (.cmp .ge (.idx (.var 5) (.int 3)) (.idx (.var 0) (.int 1))), (.not (.call "rules.is_free" [(.var 0), (.var 5), (.var 2)]))]) [.ret (.tup [(.str [97, 110, 115, 119, 101, 114]), (.glob "rules.BLOCKED")])] [],
            .ret (.call "rules.room_result" [(.var 1), (.var 2), (.call "rules.rivals_for" [(.var 0), (.var 2), (.var 5)])])]
            [some (.tup [.int r, .int c, .dct ks vs]), some (.loc A), some (cT i j), some (.int a), some (.int b), none] h) E (Fp Q) := by
          walk_at "go"
          refine sw_run rfl rfl rfl ?_
          dsimp only [d_grid_area_at]
          walk_at "open"
          walk_at "go"
          refine br_dec (fun e => ?_) (fun e => ?_)
          · rw [decide_eq_true e, Bool.true_or, Bool.true_or, if_pos rfl] at w
            walk_at "go"
            simpa using w []
          rw [decide_eq_false e, Bool.false_or] at w
          walk_at "go"
          refine br_dec (fun e => ?_) (fun e => ?_)
          · rw [decide_eq_true e, Bool.true_or, if_pos rfl] at w
            walk_at "go"
            simpa using w []
          rw [decide_eq_false e, Bool.false_or] at w
          walk_at "go"
          refine free_wp so (by omega) ?_
          walk_at "go"
          cases eb : blk ks i j (i + a - 1) (j + b - 1) (cT i j) with
          | true =>
            rw [eb, if_pos rfl] at w
            walk_at "go"
            simpa using w []
          | false =>
            rw [eb, if_neg (by decide)] at w
            walk_at "go"
            refine rivals_wp so hl r1 c1 (by omega) ?_
            walk_at "go"
            refine room_wp ga ao (fun x hx => ?_) (Nat.le_trans (List.length_filter_le _ _) (Nat.le_trans fls_len hl)) ?_
            · obtain ⟨h1, h2⟩ := List.mem_filter.mp hx
              obtain ⟨u, v, rfl⟩ := fls_cell so h1
              rw [show rivB ks i j (j + b - 1) (cT u v) = (decide (u < i) && decide (j < v) && decide (v ≤ j + b - 1) && reachB ks u v i v) from rfl] at h2
              simp only [Bool.and_eq_true, decide_eq_true_eq] at h2
              exact ⟨u, v, rfl, h2.1.1.1⟩
            · exact w
        walk_at "go"
        refine br_dec (fun e => ?_) (fun e => ?_)
        · walk_at "evA"
          dsimp only [List.set_cons_succ, List.set_cons_zero]
          walk_at "evE"
          walk_at "evE"
          walk_at "evE"
          walk_at "ob"
          refine ot_bl ?_
          rw [decide_eq_false (fun z => cs ⟨e, z⟩)]
          refine br_f ?_
          exact rest
        · refine ot_bl ?_
          rw [decide_eq_false e]
          refine br_f ?_
          dsimp only [List.set_cons_succ, List.set_cons_zero]
          exact rest
end
end Lite.K29

namespace Lite.K29
section
variable {n m D : Nat} {h0 h : Heap} {E : T → Heap → Prop} {Q : T → Heap → Prop} {r c i j : Int} {ks vs as bs : List T}
theorem rule_wp {A : Nat} (so : SheetOk D r c ks vs) (hl : ks.length ≤ 1000) (r1 : r ≤ 12) (c1 : c ≤ 12) (hi : 0 ≤ i ∧ i < r) (hj : 0 ≤ j ∧ j < c) (ga : h[A]? = some (.dct as bs)) (ao : AnsOk2 as bs) (w : RQ h Q (statR r c ks vs as bs i j)) : Wp (call PP (n + 6) "rules.apply_rule" [.tup [.int r, .int c, .dct ks vs], .loc A, .tup [.str kStat, cT i j]] h) E Q := by
  refine sw_run rfl rfl rfl ?_
  dsimp only [d_rules_apply_rule]
  walk_at "open"
  walk_at "go"
  refine Ob.of (a := [some (T.tup [T.int r, T.int c, T.dct ks vs]), some (T.loc A), some (T.tup [T.str kStat, cT i j]), some (.str kStat), some (cT i j), some (.lst [])]) rfl ?_
  walk_at "go"
  refine st_wp so hl r1 c1 hi hj ga ao ?_
  exact w
theorem lopen_wp {A : Nat} (ga : h[A]? = some (.dct as bs)) (ao : AnsOk as bs) (w : Q (.lst (opn as (cT i j))) h) : Wp (call PP (n + 1) "law._law_open" [.loc A, cT i j, .lst [.str kRows, .str kStat]] h) E Q := by
  have va : view h (.loc A) = some (.dct as bs) := by simp only [view, ga]
  refine sw_run rfl rfl rfl ?_
  dsimp only [d_law__law_open]
  walk_at "open"
  walk_at "go"
  refine sv_compF (opG as (cT i j)) ?_
  walk_at "go"
  refine ⟨_, _, walk_lst, still_lst, fun x hx => ?_, Nat.le_trans opn_len (by decide), ?_⟩
  · dsimp only [wipe, List.foldr, List.set_cons_succ, List.set_cons_zero]
    have nk : NK (.tup [x, cT i j]) := by
      simp only [List.mem_cons, List.not_mem_nil, or_false] at hx
      rcases hx with rfl | rfl <;> exact ⟨rfl, rfl⟩
    refine ifs_one_ ?_
    walk_at "go"
    refine oc_ninV va (ok_key ao.d nk) ?_
    walk_at "go"
    refine ⟨rfl, ?_⟩
    unfold opG
    cases memT (.tup [x, cT i j]) as
    · refine br_t ?_
      walk_at "go"
      exact ⟨rfl, rfl⟩
    · exact br_f rfl
  · walk_at "go"
    exact w
theorem blk_cons {t l b rr : Int} {me x : T} {wl : List T} : blk (x :: wl) t l b rr me = ((!decide (x = me) && inA t l b rr x) || blk wl t l b rr me) := rfl
theorem inA_cell {t l b rr u v : Int} : inA t l b rr (cT u v) = (decide (t ≤ u) && decide (u ≤ b) && decide (l ≤ v) && decide (v ≤ rr)) := rfl
theorem lreach_wp {oi oj : Int} (so : SheetOk D r c ks vs) (w : Q (.bl (reachB ks oi oj i j)) h) : Wp (call PP (n + 1) "law._law_reaches" [.tup [.int r, .int c, .dct ks vs], cT oi oj, cT i j] h) E Q := by
  refine sw_run rfl rfl rfl ?_
  dsimp only [d_law__law_reaches]
  walk_at "open"
  unfold reachB at w
  walk_at "go"
  refine br_dec (fun e => ?_) (fun e => ?_)
  · rw [decide_eq_true e] at w
    walk_at "go"
    exact w
  rw [decide_eq_false e] at w
  walk_at "go"
  refine br_dec (fun e2 => ?_) (fun e2 => ?_)
  · rw [decide_eq_true e2] at w
    walk_at "go"
    exact w
  rw [decide_eq_false e2] at w
  walk_at "go"
  refine sw_for (fun wl ρ g => g = h ∧ ∃ z3 z4, ρ = [some (.tup [.int r, .int c, .dct ks vs]), some (cT oi oj), some (cT i j), z3, z4] ∧ blk ks oi oj i j (cT oi oj) = blk wl oi oj i j (cT oi oj) ∧ ∀ x ∈ wl, x ∈ ks)
    (fun ρ g => g = h ∧ ∃ z3 z4, ρ = [some (.tup [.int r, .int c, .dct ks vs]), some (cT oi oj), some (cT i j), z3, z4] ∧ blk ks oi oj i j (cT oi oj) = false) ?_ (fun ρ g hI => ?_)
  · walk_at "go"
    refine ⟨_, _, walk_dct, ⟨rfl, _, _, rfl, rfl, fun _ h => h⟩, fun x wl ρ g hI => ⟨still_none, ?_⟩, fun ρ g hI => ⟨still_none, ?_⟩⟩
    · obtain ⟨rfl, z3, z4, rfl, eb, hw⟩ := hI
      obtain ⟨u, v, rfl, _⟩ := so.key x (hw x (by simp))
      rw [blk_cons, inA_cell] at eb
      rw [show bindTg (.t [3, 4]) (cT u v) g [some (.tup [.int r, .int c, .dct ks vs]), some (cT oi oj), some (cT i j), z3, z4] = some [some (.tup [.int r, .int c, .dct ks vs]), some (cT oi oj), some (cT i j), some (.int u), some (.int v)] from rfl, withB_some]
      walk_at "go"
      refine br_dec (fun a1 => ?_) (fun a1 => ?_)
      · walk_at "go"
        refine br_dec (fun a2 => ?_) (fun a2 => ?_)
        · walk_at "go"
          refine br_dec (fun a3 => ?_) (fun a3 => ?_)
          · walk_at "go"
            refine br_dec (fun a4 => ?_) (fun a4 => ?_)
            · walk_at "go"
              refine oc_neC ?_
              rw [decide_eq_true a1, decide_eq_true a2, decide_eq_true a3, decide_eq_true a4] at eb
              walk_at "go"
              refine br_dec (fun a5 => ?_) (fun a5 => ?_)
              · rw [decide_eq_true a5] at eb
                walk_at "go"
                exact ⟨rfl, _, _, rfl, by simpa using eb, fun y hy => hw y (by simp [hy])⟩
              · rw [decide_eq_false a5] at eb
                rw [show blk ks oi oj i j (cT oi oj) = true by simpa using eb] at w
                walk_at "go"
                simpa using w
            · rw [decide_eq_false a4] at eb
              walk_at "go"
              exact ⟨rfl, _, _, rfl, by simpa using eb, fun y hy => hw y (by simp [hy])⟩
          · rw [decide_eq_false a3] at eb
            walk_at "go"
            exact ⟨rfl, _, _, rfl, by simpa using eb, fun y hy => hw y (by simp [hy])⟩
        · rw [decide_eq_false a2] at eb
          walk_at "go"
          exact ⟨rfl, _, _, rfl, by simpa using eb, fun y hy => hw y (by simp [hy])⟩
      · rw [decide_eq_false a1] at eb
        walk_at "go"
        exact ⟨rfl, _, _, rfl, by simpa using eb, fun y hy => hw y (by simp [hy])⟩
    · obtain ⟨rfl, z3, z4, rfl, eb, hw⟩ := hI
      exact ⟨rfl, _, _, rfl, eb⟩
  · obtain ⟨rfl, z3, z4, rfl, eb⟩ := hI
    rw [eb] at w
    walk_at "go"
    simpa using w
end
end Lite.K29

namespace Lite.K29
section
variable {n m D : Nat} {h0 h : Heap} {E : T → Heap → Prop} {Q : T → Heap → Prop} {r c i j : Int} {ks vs as bs : List T}
theorem goR_cons {ci u v : Int} {wl acc : List T} : goR as bs ci (cT u v :: wl) acc = if covB as bs ci u v then none else if awayB as bs ci u v then goR as bs ci wl acc else goR as bs ci wl (acc ++ opn as (cT u v)) := rfl
theorem riv_cell {ci cj ar u v : Int} : rivB ks ci cj ar (cT u v) = (decide (u < ci) && decide (cj < v) && decide (v ≤ ar) && reachB ks u v ci v) := rfl
theorem lstat_wp {A : Nat} (so : SheetOk D r c ks vs) (hl : ks.length ≤ 1000) (r1 : r ≤ 12) (c1 : c ≤ 12) (hi : 0 ≤ i ∧ i < r) (hj : 0 ≤ j ∧ j < c) (ga : h[A]? = some (.dct as bs)) (ao : AnsOk2 as bs) (w : Q (statR r c ks vs as bs i j).t h) : Wp (call PP (n + 3) "law._law_status" [.tup [.int r, .int c, .dct ks vs], .loc A, cT i j] h) E Q := by
  have va : view h (.loc A) = some (.dct as bs) := by simp only [view, ga]
  have m1 := memT_kget (x := .tup [.str kRows, cT i j]) ao.d.len
  have m2 := memT_kget (x := .tup [.str kCols, cT i j]) ao.d.len
  unfold statR at w
  refine sw_run rfl rfl rfl ?_
  dsimp only [d_law__law_status]
  walk_at "open"
  walk_at "goU"
  refine oc_ninV va (ok_key ao.d (nk_rows i j)) ?_
  rw [m1]
  cases e1 : kget as bs (.tup [.str kRows, cT i j]) with
  | none =>
    rw [e1] at w
    dsimp only [Option.isSome]
    walk_at "goU"
    exact w
  | some a =>
    obtain ⟨a, rfl, a0, a1⟩ := ao.siz _ i j _ (.inl rfl) e1
    rw [e1] at w
    dsimp only [Option.isSome]
    walk_at "goU"
    refine oc_ninV va (ok_key ao.d (nk_cols i j)) ?_
    rw [m2]
    cases e2 : kget as bs (.tup [.str kCols, cT i j]) with
    | none =>
      rw [e2] at w
      dsimp only [Option.isSome]
      walk_at "goU"
      exact w
    | some b =>
      obtain ⟨b, rfl, b0, b1⟩ := ao.siz _ i j _ (.inr rfl) e2
      rw [e2] at w
      dsimp only at w
      dsimp only [Option.isSome]
      walk_at "goU"
      refine ob_ixV va (ok_key ao.d (nk_rows i j)) e1 ?_
      walk_at "goU"
      refine ob_ixV va (ok_key ao.d (nk_cols i j)) e2 ?_
      by_cases cs : a = 1 ∧ b = 1
      · obtain ⟨rfl, rfl⟩ := cs
        rw [if_pos (by decide)] at w
        walk_at "goU"
        exact w
      have cs2 : (decide (a = 1) && decide (b = 1)) = false := by
        rw [Bool.and_eq_false_iff, decide_eq_false_iff_not, decide_eq_false_iff_not]
        by_cases c1 : a = 1
        · exact .inr fun c2 => cs ⟨c1, c2⟩
        · exact .inl c1
      rw [cs2, if_neg (by decide)] at w
      have rest : Wp (exSs (cnOf PP (n + 2)) (d_law__law_status.body.drop 3) [some (.tup [.int r, .int c, .dct ks vs]), some (.loc A), some (cT i j), some (.str kCols), some (.int a), some (.int b), none, none, none, none, none, none, none] h) E (Fp Q) := by
        dsimp only [d_law__law_status, List.drop]
        walk_at "go"
        refine br_dec (fun e => ?_) (fun e => ?_)
        · rw [decide_eq_true e, Bool.true_or, Bool.true_or, if_pos rfl] at w
          walk_at "go"
          exact w
        rw [decide_eq_false e, Bool.false_or] at w
        walk_at "go"
        refine br_dec (fun e => ?_) (fun e => ?_)
        · rw [decide_eq_true e, Bool.true_or, if_pos rfl] at w
          walk_at "go"
          exact w
        rw [decide_eq_false e, Bool.false_or] at w
        walk_at "go"
        refine sw_for (fun wl ρ g => g = h ∧ ∃ z8, ρ = [some (.tup [.int r, .int c, .dct ks vs]), some (.loc A), some (cT i j), some (.str kCols), some (.int a), some (.int b), some (.int (i + a - 1)), some (.int (j + b - 1)), z8, none, none, none, none] ∧ blk ks i j (i + a - 1) (j + b - 1) (cT i j) = blk wl i j (i + a - 1) (j + b - 1) (cT i j) ∧ ∀ x ∈ wl, x ∈ ks)
          (fun ρ g => g = h ∧ ∃ z8, ρ = [some (.tup [.int r, .int c, .dct ks vs]), some (.loc A), some (cT i j), some (.str kCols), some (.int a), some (.int b), some (.int (i + a - 1)), some (.int (j + b - 1)), z8, none, none, none, none] ∧ blk ks i j (i + a - 1) (j + b - 1) (cT i j) = false) ?_ (fun ρ g hI => ?_)
        · walk_at "go"
          refine ⟨_, _, walk_dct, ⟨rfl, _, rfl, rfl, fun _ h => h⟩, fun x wl ρ g hI => ⟨still_none, ?_⟩, fun ρ g hI => ⟨still_none, ?_⟩⟩
          · obtain ⟨rfl, z8, rfl, eb, hw⟩ := hI
            obtain ⟨u, v, rfl, _⟩ := so.key x (hw x (by simp))
            rw [blk_cons, inA_cell] at eb
            walk_at "go"
            refine oc_neC ?_
            walk_at "go"
            refine br_dec (fun a5 => ?_) (fun a5 => ?_)
            · rw [decide_eq_true a5] at eb
              walk_at "go"
              exact ⟨rfl, _, rfl, by simpa using eb, fun y hy => hw y (by simp [hy])⟩
            rw [decide_eq_false a5] at eb
            walk_at "go"
            refine br_dec (fun a1 => ?_) (fun a1 => ?_)
            · walk_at "go"
              refine br_dec (fun a2 => ?_) (fun a2 => ?_)
              · walk_at "go"
                refine br_dec (fun a3 => ?_) (fun a3 => ?_)
                · walk_at "go"
                  refine br_dec (fun a4 => ?_) (fun a4 => ?_)
                  · rw [decide_eq_true a1, decide_eq_true a2, decide_eq_true a3, decide_eq_true a4] at eb
                    rw [show blk ks i j (i + a - 1) (j + b - 1) (cT i j) = true by simpa using eb, if_pos rfl] at w
                    walk_at "go"
                    exact w
                  · rw [decide_eq_false a4] at eb
                    walk_at "go"
                    exact ⟨rfl, _, rfl, by simpa using eb, fun y hy => hw y (by simp [hy])⟩
                · rw [decide_eq_false a3] at eb
                  walk_at "go"
                  exact ⟨rfl, _, rfl, by simpa using eb, fun y hy => hw y (by simp [hy])⟩
              · rw [decide_eq_false a2] at eb
                walk_at "go"
                exact ⟨rfl, _, rfl, by simpa using eb, fun y hy => hw y (by simp [hy])⟩
            · rw [decide_eq_false a1] at eb
              walk_at "go"
              exact ⟨rfl, _, rfl, by simpa using eb, fun y hy => hw y (by simp [hy])⟩
          · obtain ⟨rfl, z8, rfl, eb, hw⟩ := hI
            exact ⟨rfl, _, rfl, eb⟩
        obtain ⟨rfl, z8, rfl, eb⟩ := hI
        rw [eb, if_neg (by decide)] at w
        walk_at "go"
        refine sw_for (fun wl ρ g' => g' = g ∧ ∃ z8 acc z10 z11 z12, ρ = [some (.tup [.int r, .int c, .dct ks vs]), some (.loc A), some (cT i j), some (.str kCols), some (.int a), some (.int b), some (.int (i + a - 1)), some (.int (j + b - 1)), z8, some (.lst acc), z10, z11, z12] ∧ goR as bs i (wl.filter (rivB ks i j (j + b - 1))) acc = goR as bs i ((fls ks vs).filter (rivB ks i j (j + b - 1))) [] ∧ acc.length + 2 * wl.length ≤ 2000 ∧ ∀ x ∈ wl, x ∈ fls ks vs)
          (fun ρ g' => g' = g ∧ ∃ z8 acc z10 z11 z12, ρ = [some (.tup [.int r, .int c, .dct ks vs]), some (.loc A), some (cT i j), some (.str kCols), some (.int a), some (.int b), some (.int (i + a - 1)), some (.int (j + b - 1)), z8, some (.lst acc), z10, z11, z12] ∧ some acc = goR as bs i ((fls ks vs).filter (rivB ks i j (j + b - 1))) []) ?_ (fun ρ g' hI => ?_)
        · walk_at "go"
          refine lf_wp rfl so hl ?_
          walk_at "go"
          refine ⟨_, _, walk_lst, ⟨rfl, _, [], _, _, _, rfl, rfl, ?_, fun _ h => h⟩, fun x wl ρ g' hI => ⟨still_lst, ?_⟩, fun ρ g' hI => ⟨still_lst, ?_⟩⟩
          · have : (fls ks vs).length ≤ ks.length := fls_len
            simp only [List.length_nil]
            omega
          · obtain ⟨rfl, z8, acc, z10, z11, z12, rfl, eg, hn, hw⟩ := hI
            obtain ⟨u, v, rfl, k0, k1, k2, k3⟩ := so.key x (fls_mem (hw x (by simp)))
            simp only [List.length_cons] at hn
            rw [List.filter_cons, riv_cell] at eg
            walk_at "go"
            refine br_dec (fun a1 => ?_) (fun a1 => ?_)
            · rw [decide_eq_false (show ¬ u < i by omega)] at eg
              walk_at "go"
              exact ⟨rfl, _, acc, _, _, _, rfl, by simpa using eg, by omega, fun y hy => hw y (by simp [hy])⟩
            rw [decide_eq_true (show u < i by omega)] at eg
            walk_at "go"
            refine br_dec (fun a2 => ?_) (fun a2 => ?_)
            · rw [decide_eq_true a2] at eg
              walk_at "go"
              refine br_dec (fun a3 => ?_) (fun a3 => ?_)
              · rw [decide_eq_true a3] at eg
                walk_at "go"
                refine lreach_wp so ?_
                walk_at "go"
                cases er : reachB ks u v i v with
                | false =>
                  rw [er] at eg
                  walk_at "go"
                  exact ⟨rfl, _, acc, _, _, _, rfl, by simpa using eg, by omega, fun y hy => hw y (by simp [hy])⟩
                | true =>
                  rw [er] at eg
                  simp only [Bool.and_self, if_true, goR_cons] at eg
                  walk_at "go"
                  refine rc_mk (by rw [va]; rfl) ?_
                  walk_at "go"
                  refine bm_getV2 va (ok_key ao.d (nk_rows u v)) ?_
                  obtain ⟨q, eq1, eq2⟩ : ∃ q : Int, (kget as bs (.tup [.str kRows, cT u v])).getD (.int 99) = .int q ∧ decide (u + q ≤ i) = shortB as bs i u v := by
                    unfold shortB
                    cases e3 : kget as bs (.tup [.str kRows, cT u v]) with
                    | none => exact ⟨99, rfl, decide_eq_false (by omega)⟩
                    | some x =>
                      obtain ⟨x, rfl, _⟩ := ao.siz _ u v _ (.inl rfl) e3
                      exact ⟨x, rfl, rfl⟩
                  rw [eq1]
                  walk_at "go"
                  refine rc_mk (by rw [va]; rfl) ?_
                  walk_at "go"
                  refine bm_getV1 va (ok_key ao.d (nk_stat u v)) ?_
                  rw [eq2]
                  have lo := opn_len (as := as) (o := cT u v)
                  have tl : 2000 ≤ top := by decide
                  unfold covB awayB at eg
                  generalize shortB as bs i u v = sh at eg ⊢
                  cases e : statO as bs u v with
                  | none =>
                    rw [e] at eg
                    unfold statO at e
                    rw [e]
                    dsimp only [Option.getD]
                    walk_at "go"
                    refine Ob.of (show cmpop .eq g' .non (.str kSpilled) = some false from rfl) ?_
                    cases sh with
                    | true =>
                      walk_at "go"
                      exact ⟨rfl, _, acc, _, _, _, rfl, by simpa using eg, by omega, fun y hy => hw y (by simp [hy])⟩
                    | false =>
                      walk_at "go"
                      refine lopen_wp ga ao.toAnsOk ?_
                      walk_at "go"
                      refine ob_addL (by omega) ?_
                      walk_at "go"
                      exact ⟨rfl, _, _, _, _, _, rfl, by simpa using eg, by rw [List.length_append]; omega, fun y hy => hw y (by simp [hy])⟩
                  | some x =>
                    have st := ao.st u v x e
                    rw [e] at eg
                    unfold statO at e
                    rw [e]
                    dsimp only [Option.getD]
                    rcases st with rfl | rfl | ⟨rfl, _, _⟩
                    · walk_at "go"
                      exact ⟨rfl, _, acc, _, _, _, rfl, by simpa using eg, by omega, fun y hy => hw y (by simp [hy])⟩
                    · walk_at "go"
                      exact ⟨rfl, _, acc, _, _, _, rfl, by simpa using eg, by omega, fun y hy => hw y (by simp [hy])⟩
                    · cases sh with
                      | true =>
                        walk_at "go"
                        exact ⟨rfl, _, acc, _, _, _, rfl, by simpa using eg, by omega, fun y hy => hw y (by simp [hy])⟩
                      | false =>
                        rw [show goR as bs i ((fls ks vs).filter (rivB ks i j (j + b - 1))) [] = none by rw [← eg]; simp] at w
                        walk_at "go"
                        exact w
              · rw [decide_eq_false a3] at eg
                walk_at "go"
                exact ⟨rfl, _, acc, _, _, _, rfl, by simpa using eg, by omega, fun y hy => hw y (by simp [hy])⟩
            · rw [decide_eq_false a2] at eg
              walk_at "go"
              exact ⟨rfl, _, acc, _, _, _, rfl, by simpa using eg, by omega, fun y hy => hw y (by simp [hy])⟩
          · obtain ⟨rfl, z8, acc, z10, z11, z12, rfl, eg, hn, hw⟩ := hI
            exact ⟨rfl, _, acc, _, _, _, rfl, eg⟩
        obtain ⟨rfl, z8, acc, z10, z11, z12, rfl, eg⟩ := hI
        rw [← eg] at w
        walk_at "go"
        refine Ob.of (show cmpop .ne g' (.lst acc) (.lst []) = some (!acc.isEmpty) from ne_nil rfl) ?_
        cases acc with
        | nil =>
          walk_at "go"
          exact w
        | cons x xs =>
          walk_at "go"
          exact w
      dsimp only [List.set_cons_succ, List.set_cons_zero]
      refine sw_if1 (sv_and (sv_andC ?_))
      walk_at "evE"
      walk_at "evE"
      walk_at "evE"
      walk_at "ob"
      refine ot_bl ?_
      by_cases e : a = 1
      · rw [decide_eq_true e]
        refine br_t (sv_and1 ?_)
        walk_at "evE"
        walk_at "evE"
        walk_at "evE"
        walk_at "ob"
        refine ot_bl ?_
        rw [decide_eq_false (fun z => cs ⟨e, z⟩)]
        exact br_f rest
      · rw [decide_eq_false e]
        refine br_f (ot_bl (br_f ?_))
        exact rest
end
end Lite.K29

/-! drawn answers (the lemmas of k28's own texts, for the laws after it) -/
namespace Lite
/-! texts of sheets and answers -/
theorem fins_all {D R : Nat} {l : List T} (h : ∀ x ∈ l, Fin D R x) : Fins D (l.length * (R + 2)) l :=
  ⟨plns_of fun y hy => (h y hy).pln, showys_all fun y hy => (h y hy).showy, depths_all fun y hy => (h y hy).deep, rlens_all fun y hy => (h y hy).len⟩
theorem Fin.dct {D R D' R' : Nat} {ks vs : List T} (f : Fins D R ks) (g : Fins D' R' vs) : Fin (max D D' + 1) (R + R' + 4) (.dct ks vs) := by
  refine ⟨by simp [T.pln, f.pln, g.pln], by simp [T.showy, f.showy, g.showy], ?_, ?_⟩
  · have := f.deep
    have := g.deep
    simp only [T.depth]
    omega
  · have := f.len
    have := g.len
    simp only [T.rlen]
    omega
theorem q_fin {x : T} (h : IsQ x) : Fin 2 200 x := by
  obtain ⟨s, i, j, rest, rfl, hs, hl, _, hi, hj, f⟩ := h
  have f1 := fin_int hi.1 hi.2
  have f2 := fin_int hj.1 hj.2
  have fc : Fin 1 40 (cT i j) := (Fin.tup (Fins.cons f1 (Fins.cons f2 (⟨rfl, rfl, Nat.le_refl _, Nat.le_refl _⟩ : Fins 0 0 [])))).up (by omega) (by omega)
  have fs : Fin 0 72 (.str s) := ⟨hs, rfl, Nat.le_refl _, by simp only [T.rlen]; omega⟩
  exact (Fin.tup (Fins.cons fs (Fins.cons fc f))).up (by omega) (by omega)
theorem fin_cell {i j : Int} (hi : 0 ≤ i ∧ i ≤ 1000) (hj : 0 ≤ j ∧ j ≤ 1000) : Fin 1 40 (cT i j) :=
  (Fin.tup (Fins.cons (fin_int hi.1 hi.2) (Fins.cons (fin_int hj.1 hj.2) (⟨rfl, rfl, Nat.le_refl _, Nat.le_refl _⟩ : Fins 0 0 [])))).up (by omega) (by omega)
theorem con_fin {v : T} (c : IsCon 1 v) : Fin 3 1200 v := by
  rcases c with ⟨i, rfl, h0, h1⟩ | c
  · have l : i.natAbs.log2 < 40 := by
      rcases Nat.eq_zero_or_pos i.natAbs with h | h
      · rw [h]; decide
      · rw [Nat.log2_lt (by omega)]; omega
    exact ⟨rfl, by simp only [T.showy, decide_eq_true_eq]; omega, by show 0 ≤ 3; omega, by simp only [T.rlen]; omega⟩
  · exact (fin_E c).up (by omega) (by omega)
theorem sheet_fin {r c : Int} {ks vs : List T} (so : SheetOk 1 r c ks vs) (hl : ks.length ≤ 100) (r0 : 1 ≤ r) (r1 : r ≤ 12) (c0 : 1 ≤ c) (c1 : c ≤ 12) : Fin 5 200000 (.tup [.int r, .int c, .dct ks vs]) := by
  have f1 : Fins 1 (ks.length * 42) ks := fins_all fun k hk => by
    obtain ⟨i, j, rfl, _⟩ := so.key k hk
    exact fin_cell (by omega) (by omega)
  have f2 : Fins 3 (vs.length * 1202) vs := fins_all fun v hv => con_fin (so.val v hv)
  have := so.d.len
  refine (Fin.tup (Fins.cons (fin_int (i := r) (by omega) (by omega)) (Fins.cons (fin_int (i := c) (by omega) (by omega)) (Fins.cons (Fin.dct f1 f2) (⟨rfl, rfl, Nat.le_refl _, Nat.le_refl _⟩ : Fins 0 0 []))))).up (by omega) (by omega)
theorem ans_fin {as bs : List T} (ao : AnsOk as bs) (hl : as.length ≤ 1000) : Fin 4 700000 (.dct as bs) := by
  have := ao.d.len
  exact (Fin.dct (fins_all ao.fk) (fins_all ao.fv)).up (by omega) (by omega)
theorem all_fin {r c : Int} {ks vs as bs : List T} (so : SheetOk 1 r c ks vs) (ao : AnsOk as bs) (r1 : r ≤ 12) (c1 : c ≤ 12) (hl : ks.length ≤ 30) : (T.lst (isort (allQ r c ks vs as bs))).tell = true := by
  have h1 : (allQ r c ks vs as bs).length ≤ 5000 := by
    unfold allQ
    rw [List.length_append]
    have h1 : (shownQ r c).length ≤ 144 := sq_len r1 c1
    have h2 : ((fls ks vs).flatMap (perF as bs)).length ≤ (fls ks vs).length * 147 := fl_len fun x hx => by
      obtain ⟨i, j, rfl⟩ := fls_cell so hx
      have := els_len ao (i := i) (j := j)
      unfold perF
      simp only [List.length_append, List.length_cons, List.length_nil]
      omega
    have h3 : (fls ks vs).length ≤ ks.length := fls_len
    omega
  have f : Fins 2 ((isort (allQ r c ks vs as bs)).length * 202) (isort (allQ r c ks vs as bs)) := fins_all fun x hx => q_fin (all_q so ao r1 c1 (isort_mem.mp hx))
  refine (Fin.lst f).tell (by omega) ?_
  rw [isort_len]
  unfold top
  omega
theorem deep_loc {h : Heap} {A : Nat} {as bs : List T} (ga : h[A]? = some (.dct as bs)) (p : (T.dct as bs).pln = true) (hd : (T.dct as bs).depth ≤ 100) (n : Nat) (hn : 150 ≤ n) : deep h n (.loc A) = some (.dct as bs) := by
  obtain ⟨n, rfl⟩ : ∃ m, n = m + 1 := ⟨n - 1, by omega⟩
  simp only [T.depth] at hd
  simp only [T.pln, Bool.and_eq_true] at p
  have all : ∀ {xs : List T}, T.plns xs = true → T.depths xs < n → optAll (deep h n) xs = some xs := fun p e => optAll_id fun x hx => by
    obtain ⟨a, b⟩ := plns_mem p hx
    exact deep_pln n a (by omega)
  unfold deep
  rw [ga]
  show (optAll (deep h n) as).bind (fun ks => (optAll (deep h n) bs).map fun vs => T.dct ks vs) = _
  rw [all p.1 (by omega), all p.2 (by omega)]
  rfl
theorem deep_pair {h : Heap} {A : Nat} {x : T} {as bs : List T} (px : x.pln = true) (dx : x.depth ≤ 100) (ga : h[A]? = some (.dct as bs)) (p : (T.dct as bs).pln = true) (hd : (T.dct as bs).depth ≤ 100) : deep h 200 (.tup [x, .loc A]) = some (.tup [x, .dct as bs]) := by
  show (optAll (deep h 199) [x, .loc A]).map T.tup = _
  show ((deep h 199 x).bind fun y => ((optAll (deep h 199) [.loc A]).map (y :: ·))).map T.tup = _
  rw [deep_pln 199 px (by omega)]
  show ((((deep h 199 (.loc A)).bind fun y => ((optAll (deep h 199) []).map (y :: ·))).map (x :: ·)).map T.tup) = _
  rw [deep_loc ga p hd 199 (by omega)]
  rfl
/-! answers, one more -/
theorem AnsOk.nil : AnsOk [] [] := ⟨.nil, fun _ _ _ _ _ h => by simp [kget] at h, fun _ h => absurd h (by simp), fun _ h => absurd h (by simp)⟩
theorem AnsOk.put {as bs : List T} {k v : T} (a : AnsOk as bs) (hk : NK k) (fk : Fin 3 300 k) (fv : Fin 1 300 v) (hs : ∀ s i j, s = kRows ∨ s = kCols → T.tup [.str s, cT i j] = k → ∃ i, v = .int i ∧ 1 ≤ i ∧ i ≤ 12) : AnsOk (kput as bs k v).1 (kput as bs k v).2 := by
  refine ⟨a.d.put hk, fun s i j x hc h => ?_, fun y hy => ?_, fun y hy => ?_⟩
  · have nk : NK (.tup [.str s, cT i j]) := by rcases hc with rfl | rfl <;> exact ⟨rfl, rfl⟩
    rw [kget_put a.d hk nk] at h
    split at h
    · rename_i e
      cases h
      exact hs s i j hc e
    · exact a.siz s i j x hc h
  · rcases (mem_put a.d hk).mp hy with h | rfl
    · exact a.fk y h
    · exact fk
  · rcases vals_put hy with h | rfl
    · exact a.fv y h
    · exact fv
end Lite
namespace Lite
theorem sw_if_cut {K : Cn} {ρ : Rho} {h : Heap} {c : LE} {ts us : List LS} {E : T → Heap → Prop} {M : Fl → Heap → Prop} (w : Wp (evE K c ρ h) E fun x h => Ob (truth h x) fun r => Br r (Wp (exSs K ts ρ h) E M) (Wp (exSs K us ρ h) E M)) : Wp (exS K (.iff c ts us) ρ h) E M := by
  unfold exS
  refine Wp.bind (w.mono (fun x h w => ?_) fun _ _ e => e)
  cases e : truth h x with
  | none => rw [e] at w; exact w.unnone.elim
  | some r =>
    rw [e] at w
    cases r
    · exact w.unsome.un
    · exact w.unsome.un
theorem sw_set_cut {K : Cn} {ρ : Rho} {h : Heap} {i : Nat} {a : LE} {E : T → Heap → Prop} {M : Fl → Heap → Prop} (w : Wp (evE K a ρ h) E fun x h => M (.nx (ρ.set i (some x))) h) : Wp (exS K (.set i a) ρ h) E M := by
  unfold exS
  exact Wp.bind (w.mono (fun x h w => Wp.ok_ w) fun _ _ e => e)
theorem Frame.eqL {m L : Nat} {g g2 : Heap} {o : O} (f : Frame m g g2) (e : g[L]? = some o) (hm : m < L) : g2[L]? = some o := by
  rw [f.eq L (List.getElem?_eq_some_iff.mp e).1 (by omega)]
  exact e
end Lite
namespace Lite
theorem AnsOk2.nil : AnsOk2 [] [] := ⟨.nil, fun _ _ _ h => by simp [statO, kget] at h⟩
theorem known_put {as bs : List T} {k v q : T} (d : DKs as bs) (hk : NK k) (hq : NK q) (h : ∃ x, kget as bs q = some x) : ∃ x, kget (kput as bs k v).1 (kput as bs k v).2 q = some x := by
  rw [kget_put d hk hq]
  split
  · exact ⟨_, rfl⟩
  · exact h
theorem AnsOk2.put {as bs : List T} {k v : T} (a : AnsOk2 as bs) (hk : NK k) (fk : Fin 3 300 k) (fv : Fin 1 300 v) (hs : ∀ s i j, s = kRows ∨ s = kCols → T.tup [.str s, cT i j] = k → ∃ i, v = .int i ∧ 1 ≤ i ∧ i ≤ 12)
    (ht : ∀ i j, T.tup [.str kStat, cT i j] = k → v = .str kSingle ∨ v = .str kBlocked ∨ v = .str kSpilled ∧ (∃ x, kget as bs (.tup [.str kRows, cT i j]) = some x) ∧ ∃ x, kget as bs (.tup [.str kCols, cT i j]) = some x) : AnsOk2 (kput as bs k v).1 (kput as bs k v).2 := by
  refine ⟨a.toAnsOk.put hk fk fv hs, fun i j x h => ?_⟩
  unfold statO at h
  rw [kget_put a.d hk (nk_stat i j)] at h
  have up : (x = .str kSingle ∨ x = .str kBlocked ∨ x = .str kSpilled ∧ (∃ x, kget as bs (.tup [.str kRows, cT i j]) = some x) ∧ ∃ x, kget as bs (.tup [.str kCols, cT i j]) = some x) → x = .str kSingle ∨ x = .str kBlocked ∨ x = .str kSpilled ∧ (∃ x, kget (kput as bs k v).1 (kput as bs k v).2 (.tup [.str kRows, cT i j]) = some x) ∧ ∃ x, kget (kput as bs k v).1 (kput as bs k v).2 (.tup [.str kCols, cT i j]) = some x := by
    rintro (h | h | ⟨h, h1, h2⟩)
    · exact .inl h
    · exact .inr (.inl h)
    · exact .inr (.inr ⟨h, known_put a.d hk (nk_rows i j) h1, known_put a.d hk (nk_cols i j) h2⟩)
  split at h
  · rename_i e
    cases h
    exact up (ht i j e)
  · exact up (a.st i j x h)
theorem ans_fin2 {as bs : List T} (ao : AnsOk as bs) (hl : as.length ≤ 2000) : Fin 4 1300000 (.dct as bs) := by
  have := ao.d.len
  exact (Fin.dct (fins_all ao.fk) (fins_all ao.fv)).up (by omega) (by omega)
end Lite

namespace Lite.K29
theorem mem2 {a b w : Int} : memT (.int w) [.int a, .int b] = (decide (a = w) || decide (b = w)) := by
  rw [show memT (.int w) [.int a, .int b] = (T.eqv (.int a) (.int w) || (T.eqv (.int b) (.int w) || false)) from rfl, T.nob_eq (.int a) (.int w) rfl rfl, T.nob_eq (.int b) (.int w) rfl rfl, Bool.or_false]
  simp
section
variable {n m D : Nat} {h0 h : Heap} {E : T → Heap → Prop} {Q : T → Heap → Prop} {r c : Int} {ks vs as bs : List T}
theorem ans_wp (s : StreamAt h m) (r1 : r ≤ 12) (c1 : c ≤ 12) (so : SheetOk D r c ks vs) (hl : ks.length ≤ 11) (w : ∀ as bs h', Frame m h h' → h'[h.length]? = some (.dct as bs) → AnsOk2 as bs → as.length ≤ 1700 → Q (.loc h.length) h') : Wp (call PP (n + 3) "law._law_answers" [.loc m, .tup [.int r, .int c, .dct ks vs]] h) E Q := by
  have DD := DF
  refine sw_run rfl rfl rfl ?_
  dsimp only [d_law__law_answers]
  walk_at "open"
  refine sw_set2 (sv_dctM (sv_esN (od_mk rfl ?_)))
  obtain ⟨L, eL⟩ : ∃ L, L = h.length := ⟨_, rfl⟩
  rw [← eL] at w ⊢
  have fr0 : Frame m h (h ++ [.dct [] []]) := (Frame.refl s).push
  have hm : m < L := by rw [eL]; exact fr0.low
  have tl : 3000 ≤ top := by decide
  refine sw_for (fun wl ρ g => ∃ z3 z4 z5 z6 z7 z8 as bs, ρ = [some (.loc m), some (.tup [.int r, .int c, .dct ks vs]), some (.loc L), z3, z4, z5, z6, z7, z8] ∧ Frame m h g ∧ g[L]? = some (.dct as bs) ∧ AnsOk2 as bs ∧ as.length + 150 * wl.length ≤ 1700 ∧ ∀ x ∈ wl, x ∈ fls ks vs)
    (fun ρ g => ∃ z3 z4 z5 z6 z7 z8 as bs, ρ = [some (.loc m), some (.tup [.int r, .int c, .dct ks vs]), some (.loc L), z3, z4, z5, z6, z7, z8] ∧ Frame m h g ∧ g[L]? = some (.dct as bs) ∧ AnsOk2 as bs ∧ as.length ≤ 1700) ?_ (fun ρ g hI => ?_)
  · walk_at "go"
    refine lf_wp rfl so (by omega) ?_
    walk_at "go"
    refine ⟨_, _, walk_lst, ⟨_, _, _, _, _, _, [], [], rfl, fr0, by rw [eL]; simp, .nil, ?_, fun _ h => h⟩, fun x wl ρ g hI => ⟨still_lst, ?_⟩, fun ρ g hI => ⟨still_lst, ?_⟩⟩
    · have : (fls ks vs).length ≤ ks.length := fls_len
      simp only [List.length_nil]
      omega
    · obtain ⟨z3, z4, z5, z6, z7, z8, as, bs, rfl, fr, gl, ao, hn, hw⟩ := hI
      obtain ⟨i, j, rfl, i0, i1, j0, j1⟩ := so.key x (fls_mem (hw x (by simp)))
      simp only [List.length_cons] at hn
      have fq : ∀ s ∈ [kRows, kCols, kStat], Fin 3 300 (.tup [.str s, cT i j]) := fun s hs => (q_fin (isQ_mk (rest := []) (by simp only [List.mem_cons, List.not_mem_nil, or_false] at hs; rcases hs with rfl | rfl | rfl <;> rfl) (by simp only [List.mem_cons, List.not_mem_nil, or_false] at hs; rcases hs with rfl | rfl | rfl <;> decide) (by simp) (by simp) (by omega) (by omega))).up (by omega) (by omega)
      walk_at "go"
      refine sv_compD (fun y => ∃ i : Int, y = .int i ∧ 1 ≤ i ∧ i ≤ 12) (fun g => Frame m h g ∧ g[L]? = some (.dct as bs)) ?_
      walk_at "go"
      refine ⟨_, _, range1 (by omega) (by omega), by rw [len_range]; decide, ⟨fr, gl⟩, fun _ _ => still_none, fun x hx g1 hJ => ?_, fun zs g1 hz hR hJ => ?_⟩
      · obtain ⟨fr1, gl1⟩ := hJ
        dsimp only [wipe, List.foldr, List.set_cons_succ, List.set_cons_zero]
        have dd := Drawn.refl fr1.at_
        walk_at "go"
        rename_i y g2 hy d2
        have fr2 := fr1.trans d2.frame
        have gl2 := d2.frame.eqL gl1 hm
        have dd2 := Drawn.refl fr2.at_
        have fin : ∀ k : Int, 0 ≤ k → k < 12 → ∃ i : Int, T.int (1 + k) = T.int i ∧ 1 ≤ i ∧ i ≤ 12 := fun k a b => ⟨_, rfl, by omega, by omega⟩
        simp only [List.mem_cons, List.not_mem_nil, or_false] at hy
        rcases hy with rfl | rfl | rfl | rfl <;>
        · refine wp_draw (k := n + 1) DD.draw dd2 (by decide) (by decide) fun k g3 k0 k1 d3 => ?_
          walk_at "go"
          exact ⟨fin k k0 (by omega), fr2.trans d3.frame, d3.frame.eqL gl2 hm⟩
      · obtain ⟨fr1, gl1⟩ := hJ
        rw [len_range] at hz
        obtain ⟨y1, y2, rfl⟩ : ∃ y1 y2, zs = [y1, y2] := by
          match zs, hz with
          | [a, b], _ => exact ⟨a, b, rfl⟩
        obtain ⟨a, rfl, a0, a1⟩ := hR y1 (by simp)
        obtain ⟨b, rfl, b0, b1⟩ := hR y2 (by simp)
        refine sw_cut (P := fun ρ g => ∃ way : Int, ρ = [some (.loc m), some (.tup [.int r, .int c, .dct ks vs]), some (.loc L), some (cT i j), some (.lst [.int a, .int b]), z5, some (.int way), z7, z8] ∧ 0 ≤ way ∧ way < 8 ∧ Frame m h g ∧ g[L]? = some (.dct as bs)) (sw_set_cut ?_) (fun ρ g2 hP => ?_)
        · have dd := Drawn.refl fr1.at_
          walk_at "go"
          rename_i way g2 w0 w1 d2
          exact ⟨_, rfl, way, rfl, w0, w1, fr1.trans d2.frame, d2.frame.eqL gl1 hm⟩
        obtain ⟨way, rfl, w0, w1, fr2, gl2⟩ := hP
        clear gl1 fr1
        obtain ⟨ρ0, eρ⟩ : ∃ ρ0, ρ0 = [some (T.loc m), some (.tup [.int r, .int c, .dct ks vs]), some (.loc L), some (cT i j), some (.lst [.int a, .int b]), z5, some (.int way), z7, z8] := ⟨_, rfl⟩
        refine sw_cut (P := fun ρ g => ρ = ρ0 ∧ ∃ as' bs', Frame m h g ∧ g[L]? = some (.dct as' bs') ∧ AnsOk2 as' bs' ∧ as'.length ≤ as.length + 1 ∧ (3 < way → ∃ x, kget as' bs' (.tup [.str kRows, cT i j]) = some x)) (sw_if_cut ?_) (fun ρ g3 hP => ?_)
        · rw [eρ]
          walk_at "go"
          rw [mem2]
          refine br_b (fun e => ?_) (fun e => ?_)
          · refine sw_nil ⟨_, rfl, rfl, as, bs, fr2, gl2, ao, by omega, fun k => ?_⟩
            simp at e
            omega
          · refine sw_sidxD ?_
            walk_at "go"
            refine ⟨L, as, bs, rfl, gl2, ok_key ao.d (nk_rows i j), by omega, ?_⟩
            walk_at "go"
            refine ⟨_, rfl, rfl, _, _, fr2.put (by omega), List.getElem?_set_self (List.getElem?_eq_some_iff.mp gl2).1, ao.put (nk_rows i j) (fq _ (by simp)) ((fin_int (by omega) (by omega)).up (by omega) (by omega)) (fun s u v hs e => ⟨a, rfl, a0, a1⟩) (fun u v e => by cases e), (put_len ao.d.len).2, fun _ => ?_⟩
            rw [kget_put ao.d (nk_rows i j) (nk_rows i j), if_pos rfl]
            exact ⟨_, rfl⟩
        obtain ⟨e0, as1, bs1, fr3, gl3, ao3, hn3, kr⟩ := hP
        rw [e0]
        clear e0
        clear fr2 gl2
        refine sw_cut (P := fun ρ g => ρ = ρ0 ∧ ∃ as' bs', Frame m h g ∧ g[L]? = some (.dct as' bs') ∧ AnsOk2 as' bs' ∧ as'.length ≤ as.length + 2 ∧ (3 < way → ∃ x, kget as' bs' (.tup [.str kRows, cT i j]) = some x) ∧ (3 < way → ∃ x, kget as' bs' (.tup [.str kCols, cT i j]) = some x)) (sw_if_cut ?_) (fun ρ g4 hP => ?_)
        · rw [eρ]
          walk_at "go"
          rw [mem2]
          refine br_b (fun e => ?_) (fun e => ?_)
          · refine sw_nil ⟨_, rfl, rfl, as1, bs1, fr3, gl3, ao3, by omega, kr, fun k => ?_⟩
            simp at e
            omega
          · refine sw_sidxD ?_
            walk_at "go"
            refine ⟨L, as1, bs1, rfl, gl3, ok_key ao3.d (nk_cols i j), by omega, ?_⟩
            walk_at "go"
            refine ⟨_, rfl, rfl, _, _, fr3.put (by omega), List.getElem?_set_self (List.getElem?_eq_some_iff.mp gl3).1, ao3.put (nk_cols i j) (fq _ (by simp)) ((fin_int (by omega) (by omega)).up (by omega) (by omega)) (fun s u v hs e => ⟨b, rfl, b0, b1⟩) (fun u v e => by cases e), Nat.le_trans (put_len ao3.d.len).2 (by omega), fun k => known_put ao3.d (nk_cols i j) (nk_rows i j) (kr k), fun _ => ?_⟩
            rw [kget_put ao3.d (nk_cols i j) (nk_cols i j), if_pos rfl]
            exact ⟨_, rfl⟩
        obtain ⟨e0, as2, bs2, fr4, gl4, ao4, hn4, kr2, kc2⟩ := hP
        rw [e0]
        clear e0
        clear fr3 gl3 ao3 kr
        refine sw_cut (P := fun ρ g => ρ = ρ0 ∧ ∃ as' bs', Frame m h g ∧ g[L]? = some (.dct as' bs') ∧ AnsOk2 as' bs' ∧ as'.length ≤ as.length + 3) (sw_if_cut ?_) (fun ρ g5 hP => ?_)
        · rw [eρ]
          walk_at "go"
          refine br_dec (fun e => ?_) (fun e => ?_)
          · refine sw_sidxD ?_
            have dd := Drawn.refl fr4.at_
            walk_at "go"
            rename_i st g5 hst d5
            have fr5 := fr4.trans d5.frame
            have gl5 := d5.frame.eqL gl4 hm
            refine ⟨L, as2, bs2, rfl, gl5, ok_key ao4.d (nk_stat i j), by omega, ?_⟩
            walk_at "go"
            refine ⟨_, rfl, rfl, _, _, fr5.put (by omega), List.getElem?_set_self (List.getElem?_eq_some_iff.mp gl5).1, ao4.put (nk_stat i j) (fq _ (by simp)) ?_ (fun s u v hs e => by rcases hs with rfl | rfl <;> cases e) (fun u v e => ?_), Nat.le_trans (put_len ao4.d.len).2 (by omega)⟩
            · simp only [List.mem_cons, List.not_mem_nil, or_false] at hst
              rcases hst with rfl | rfl | rfl | rfl <;> exact ⟨rfl, rfl, by decide, by decide⟩
            · cases e
              simp only [List.mem_cons, List.not_mem_nil, or_false] at hst
              rcases hst with rfl | rfl | rfl | rfl
              · exact .inl rfl
              · exact .inr (.inr ⟨rfl, kr2 (by omega), kc2 (by omega)⟩)
              · exact .inr (.inr ⟨rfl, kr2 (by omega), kc2 (by omega)⟩)
              · exact .inr (.inl rfl)
          · exact sw_nil ⟨_, rfl, rfl, as2, bs2, fr4, gl4, ao4, by omega⟩
        obtain ⟨e0, as3, bs3, fr5, gl5, ao5, hn5⟩ := hP
        rw [e0]
        clear e0
        clear fr4 gl4 ao4 kr2 kc2
        refine sw_cut (P := fun ρ g => ρ = ρ0 ∧ ∃ as' bs', Frame m h g ∧ g[L]? = some (.dct as' bs') ∧ AnsOk2 as' bs' ∧ as'.length ≤ as.length + 4) (sw_if_cut ?_) (fun ρ g6 hP => ?_)
        · rw [eρ]
          have dd := Drawn.refl fr5.at_
          walk_at "go"
          refine br_dec (fun e => ?_) (fun e => ?_)
          · walk_at "go"
            rename_i k g6 k0 k1 d6
            have fr6 := fr5.trans d6.frame
            have gl6 := d6.frame.eqL gl5 hm
            refine br_dec (fun e2 => ?_) (fun e2 => ?_)
            · refine sw_sidxD ?_
              clear dd d6
              have dd := Drawn.refl fr6.at_
              walk_at "go"
              rename_i st g7 hst d7
              have fr7 := fr6.trans d7.frame
              have gl7 := d7.frame.eqL gl6 hm
              refine ⟨L, as3, bs3, rfl, gl7, ok_key ao5.d (nk_stat i j), by omega, ?_⟩
              walk_at "go"
              refine ⟨_, rfl, rfl, _, _, fr7.put (by omega), List.getElem?_set_self (List.getElem?_eq_some_iff.mp gl7).1, ao5.put (nk_stat i j) (fq _ (by simp)) ?_ (fun s u v hs e => by rcases hs with rfl | rfl <;> cases e) (fun u v e => ?_), Nat.le_trans (put_len ao5.d.len).2 (by omega)⟩
              · simp only [List.mem_cons, List.not_mem_nil, or_false] at hst
                rcases hst with rfl | rfl <;> exact ⟨rfl, rfl, by decide, by decide⟩
              · cases e
                simp only [List.mem_cons, List.not_mem_nil, or_false] at hst
                rcases hst with rfl | rfl
                · exact .inl rfl
                · exact .inr (.inl rfl)
            · exact sw_nil ⟨_, rfl, rfl, as3, bs3, fr6, gl6, ao5, by omega⟩
          · walk_at "go"
            exact ⟨_, rfl, rfl, as3, bs3, fr5, gl5, ao5, by omega⟩
        obtain ⟨e0, as4, bs4, fr6, gl6, ao6, hn6⟩ := hP
        rw [e0]
        clear e0
        clear fr5 gl5 ao5
        refine sw_cut (P := fun ρ g => ∃ z7 z8, ρ = [some (T.loc m), some (.tup [.int r, .int c, .dct ks vs]), some (.loc L), some (cT i j), some (.lst [.int a, .int b]), z5, some (.int way), z7, z8] ∧ ∃ as' bs', Frame m h g ∧ g[L]? = some (.dct as' bs') ∧ AnsOk2 as' bs' ∧ as'.length ≤ as.length + 150) (sw_if_cut ?_) (fun ρ g7 hP => ?_)
        · rw [eρ]
          walk_at "go"
          refine br_dec (fun e => ?_) (fun e => ?_)
          · refine sw_forRN 12 (fun q ρ g => ∃ z7 z8, ρ = [some (T.loc m), some (.tup [.int r, .int c, .dct ks vs]), some (.loc L), some (cT i j), some (.lst [.int a, .int b]), z5, some (.int way), z7, z8] ∧ ∃ as' bs', Frame m h g ∧ g[L]? = some (.dct as' bs') ∧ AnsOk2 as' bs' ∧ as'.length ≤ as.length + 4 + 12 * q) (by omega) ?_ (fun q ρ g hq hI => ?_) (fun q ρ g hq hI => ?_)
            · walk_at "go"
              exact ⟨_, rfl, by omega, by omega, _, _, rfl, as4, bs4, fr6, gl6, ao6, by omega⟩
            · obtain ⟨z7, z8, rfl, as5, bs5, fr7, gl7, ao7, hn7⟩ := hI
              clear fr6 gl6 ao6
              walk_at "wb"
              refine sw_forRN 12 (fun q2 ρ g => ∃ z8, ρ = [some (T.loc m), some (.tup [.int r, .int c, .dct ks vs]), some (.loc L), some (cT i j), some (.lst [.int a, .int b]), z5, some (.int way), some (.int (q : Int)), z8] ∧ ∃ as' bs', Frame m h g ∧ g[L]? = some (.dct as' bs') ∧ AnsOk2 as' bs' ∧ as'.length ≤ as.length + 4 + 12 * q + q2) (by omega) ?_ (fun q2 ρ g hq2 hI => ?_) (fun q2 ρ g hq2 hI => ?_)
              · walk_at "go"
                exact ⟨_, rfl, by omega, by omega, _, rfl, as5, bs5, fr7, gl7, ao7, by omega⟩
              · obtain ⟨z8, rfl, as6, bs6, fr8, gl8, ao8, hn8⟩ := hI
                clear fr7 gl7 ao7
                walk_at "wb"
                have dd := Drawn.refl fr8.at_
                walk_at "go"
                rename_i k g9 k0 k1 d9
                have fr9 := fr8.trans d9.frame
                have gl9 := d9.frame.eqL gl8 hm
                refine br_dec (fun e => ?_) (fun e => ?_)
                · refine sw_sidxD ?_
                  walk_at "go"
                  refine ⟨L, as6, bs6, rfl, gl9, ok_key ao8.d (nk_elem i j q q2), by omega, ?_⟩
                  walk_at "go"
                  refine ⟨_, rfl, _, _, fr9.put (by omega), List.getElem?_set_self (List.getElem?_eq_some_iff.mp gl9).1, ao8.put (nk_elem i j q q2) ?_ ((fin_int (by omega) (by omega)).up (by omega) (by omega)) (fun s u v hs e => by rcases hs with rfl | rfl <;> cases e) (fun u v e => by cases e), Nat.le_trans (put_len ao8.d.len).2 (by omega)⟩
                  refine (q_fin (isQ_mk (rest := [.int q, .int q2]) rfl (by decide) (fun y hy => ?_) (by simp) (by omega) (by omega))).up (by omega) (by omega)
                  simp only [List.mem_cons, List.not_mem_nil, or_false] at hy
                  rcases hy with rfl | rfl
                  · exact ⟨_, rfl, by omega, by omega⟩
                  · exact ⟨_, rfl, by omega, by omega⟩
                · walk_at "go"
                  exact ⟨_, rfl, as6, bs6, fr9, gl9, ao8, by omega⟩
              · obtain ⟨z8, rfl, as6, bs6, fr8, gl8, ao8, hn8⟩ := hI
                walk_at "go"
                exact ⟨_, _, rfl, as6, bs6, fr8, gl8, ao8, by omega⟩
            · obtain ⟨z7, z8, rfl, as5, bs5, fr7, gl7, ao7, hn7⟩ := hI
              walk_at "go"
              exact ⟨_, rfl, _, _, rfl, as5, bs5, fr7, gl7, ao7, by omega⟩
          · exact sw_nil ⟨_, rfl, _, _, rfl, as4, bs4, fr6, gl6, ao6, by omega⟩
        obtain ⟨z7, z8, rfl, as5, bs5, fr7, gl7, ao7, hn7⟩ := hP
        walk_at "go"
        exact ⟨_, _, _, _, _, _, as5, bs5, rfl, fr7, gl7, ao7, by omega, fun y hy => hw y (by simp [hy])⟩
    · obtain ⟨z3, z4, z5, z6, z7, z8, as, bs, rfl, fr, gl, ao, hn, hw⟩ := hI
      exact ⟨_, _, _, _, _, _, as, bs, rfl, fr, gl, ao, by omega⟩
  · obtain ⟨z3, z4, z5, z6, z7, z8, as, bs, rfl, fr, gl, ao, hn⟩ := hI
    walk_at "go"
    exact w as bs g fr gl ao hn
end
end Lite.K29

namespace Lite.K29
open PySem
section
variable {h : Heap} {r c i j : Int} {ks vs as bs : List T}
theorem opn_q {u v : Int} (hu : 0 ≤ u ∧ u ≤ 1000) (hv : 0 ≤ v ∧ v ≤ 1000) {x : T} (hx : x ∈ opn as (cT u v)) : IsQ x := by
  unfold opn at hx
  obtain ⟨y, hy, e⟩ := List.mem_filterMap.mp hx
  unfold opG at e
  split at e
  · cases e
    simp only [List.mem_cons, List.not_mem_nil, or_false] at hy
    rcases hy with rfl | rfl <;> exact isQ_mk (rest := []) rfl (by decide) (by simp) (by simp) hu hv
  · cases e
theorem goR_q {ci : Int} : ∀ {rv acc l : List T}, (∀ x ∈ rv, ∃ u v : Int, x = cT u v ∧ (0 ≤ u ∧ u ≤ 1000) ∧ (0 ≤ v ∧ v ≤ 1000)) → (∀ x ∈ acc, IsQ x) → goR as bs ci rv acc = some l → (∀ x ∈ l, IsQ x) ∧ l.length ≤ acc.length + 2 * rv.length
  | [], acc, l, _, ha, e => by
    cases e
    exact ⟨ha, by simp⟩
  | x :: rv, acc, l, h, ha, e => by
    obtain ⟨u, v, rfl, hu, hv⟩ := h x (by simp)
    have h2 : ∀ x ∈ rv, ∃ u v : Int, x = cT u v ∧ (0 ≤ u ∧ u ≤ 1000) ∧ (0 ≤ v ∧ v ≤ 1000) := fun y hy => h y (by simp [hy])
    have lo := opn_len (as := as) (o := cT u v)
    rw [goR_cons] at e
    simp only [List.length_cons]
    split at e
    · cases e
    · split at e
      · obtain ⟨a, b⟩ := goR_q h2 ha e
        exact ⟨a, by omega⟩
      · obtain ⟨a, b⟩ := goR_q h2 (fun y hy => (List.mem_append.mp hy).elim (ha y) (opn_q hu hv)) e
        rw [List.length_append] at b
        exact ⟨a, by omega⟩
def RAok : RA → Prop
  | .ans s => s ∈ [kSingle, kSpilled, kBlocked]
  | .mis l => (∀ x ∈ l, IsQ x) ∧ l.length ≤ 3000
theorem stat_ok {D : Nat} (so : SheetOk D r c ks vs) (hl : ks.length ≤ 100) (r1 : r ≤ 12) (c1 : c ≤ 12) (hi : 0 ≤ i ∧ i < r) (hj : 0 ≤ j ∧ j < c) : RAok (statR r c ks vs as bs i j) := by
  have one : ∀ s : List Nat, s = kRows ∨ s = kCols → RAok (.mis [.tup [.str s, cT i j]]) := fun s hs => by
    refine ⟨fun x hx => ?_, by simp⟩
    rw [List.mem_singleton.mp hx]
    rcases hs with rfl | rfl <;> exact isQ_mk (rest := []) rfl (by decide) (by simp) (by simp) (by omega) (by omega)
  unfold statR
  split
  · split
    · split
      · exact List.mem_cons_self ..
      · split
        · simp [RAok]
        · rename_i a _ b _ _ _
          cases e : goR as bs i ((fls ks vs).filter (rivB ks i j (j + b - 1))) [] with
          | none => simp [endR, RAok]
          | some l =>
            have q := goR_q (fun x hx => by
              obtain ⟨u, v, rfl, k0, k1, k2, k3⟩ := so.key x (fls_mem (List.mem_filter.mp hx).1)
              exact ⟨u, v, rfl, by omega, by omega⟩) (fun x hx => by cases hx) e
            have h1 : ((fls ks vs).filter (rivB ks i j (j + b - 1))).length ≤ 100 := Nat.le_trans (List.length_filter_le _ _) (Nat.le_trans fls_len hl)
            cases l with
            | nil =>
              show RAok (.ans kSpilled)
              simp [RAok]
            | cons y ys =>
              show RAok (.mis (y :: ys))
              exact ⟨q.1, by have := q.2; simp only [List.length_nil] at this; omega⟩
    · exact one _ (.inr rfl)
  · exact one _ (.inl rfl)
theorem ra_fin {a : RA} (h : RAok a) : Fin 4 700000 a.t := by
  have nil : Fins 0 0 [] := ⟨rfl, rfl, Nat.le_refl _, Nat.le_refl _⟩
  have ka : Fin 0 72 (.str kAnswer) := ⟨rfl, rfl, by decide, by decide⟩
  have km : Fin 0 72 (.str kMissing) := ⟨rfl, rfl, by decide, by decide⟩
  cases a with
  | ans s =>
    have ks : Fin 0 82 (.str s) := by
      simp only [RAok, List.mem_cons, List.not_mem_nil, or_false] at h
      rcases h with rfl | rfl | rfl <;> exact ⟨rfl, rfl, by decide, by decide⟩
    exact (Fin.tup (Fins.cons ka (Fins.cons ks nil))).up (by omega) (by omega)
  | mis l =>
    have hl := h.2
    exact (Fin.tup (Fins.cons km (Fins.cons (Fin.lst (fins_all fun x hx => q_fin (h.1 x hx))) nil))).up (by omega) (by omega)
theorem deep_mis {p : Nat} {l : List T} (hp : h[p]? = some (.lst l)) (pl : T.plns l = true) (hd : T.depths l ≤ 100) : deep h 200 (.tup [.str kMissing, .loc p]) = some (.tup [.str kMissing, .lst l]) := by
  have all : optAll (deep h 198) l = some l := optAll_id fun x hx => by
    obtain ⟨a, b⟩ := plns_mem pl hx
    exact deep_pln 198 a (by omega)
  show (optAll (deep h 199) [.str kMissing, .loc p]).map T.tup = _
  show ((deep h 199 (.str kMissing)).bind fun y => (((deep h 199 (.loc p)).bind fun z => ((optAll (deep h 199) []).map (z :: ·)))).map (y :: ·)).map T.tup = _
  rw [show deep h 199 (.loc p) = some (.lst l) by
    unfold deep
    rw [hp]
    show (optAll (deep h 198) l).map T.lst = _
    rw [all]
    rfl]
  rfl
theorem bm_clear {n : Nat} {ys : List T} {E : T → Heap → Prop} {Q : T → Heap → Prop} (e : h[n]? = some (.lst ys)) (w : Q .non (h.set n (.lst []))) : Wp (bmeth "clear" (.loc n) [] h) E Q := by
  refine Wp.ok ?_ w
  unfold bmeth
  simp (config := { decide := true }) only [if_false, if_true, e]
end
theorem pure (ns : List Int) (hl : ns.length ≤ 63) (hb : ∀ z ∈ ns, Builtin.Int.intBits z ≤ 1048576) : ∃ h, call PP 40 "law.law" [.lst (ns.map T.int)] [] = .ok (.bl true) h := by
  suffices w : Wp (call PP 40 "law.law" [.lst (ns.map T.int)] []) NoX (fun v _ => v = .bl true) by
    obtain ⟨a, h, e, rfl⟩ := w.get
    exact ⟨h, e⟩
  have D := DF
  refine sw_run rfl rfl rfl ?_
  obtain ⟨S, eS⟩ : ∃ S, S = T.lst (ns.map T.int) := ⟨_, rfl⟩
  dsimp only [d_law_law]
  walk_at "open"
  rw [← eS]
  refine sw_forR 100 (fun ρ _ => ∃ z1 z2 z3 z4 z5 z6 z7 z8 z9 z10 z11 z12 z13, ρ = [some S, z1, z2, z3, z4, z5, z6, z7, z8, z9, z10, z11, z12, z13]) (by decide) ?_ (fun m ρ h hm hI => ?_) (fun ρ h hI => ?_)
  · rw [eS]
    walk_at "go"
    exact ⟨_, rfl, by (repeat' split) <;> omega, by (repeat' split) <;> omega, _, _, _, _, _, _, _, _, _, _, _, _, _, rfl⟩
  · obtain ⟨z1, z2, z3, z4, z5, z6, z7, z8, z9, z10, z11, z12, z13, rfl⟩ := hI
    walk_at "go"
    rw [eS]
    refine wp_stream D hb (by omega) (fun n h' hd _ _ _ => ?_)
    rw [← eS]
    walk_at "go"
    refine sw_forRN 3 (fun m2 ρ h => StreamAt h n ∧ ∃ z3 z4 z5 z6 z7 z8 z9 z10 z11 z12 z13, ρ = [some S, some (.int (m : Int)), some (.loc n), z3, z4, z5, z6, z7, z8, z9, z10, z11, z12, z13]) (by decide) ?_ (fun m2 ρ h hm2 hI => ?_) (fun m2 ρ h hm2 hI => ?_)
    · walk_at "go"
      exact ⟨_, rfl, by decide, by decide, hd.at_, _, _, _, _, _, _, _, _, _, _, _, rfl⟩
    · obtain ⟨s, z3, z4, z5, z6, z7, z8, z9, z10, z11, z12, z13, rfl⟩ := hI
      walk_at "wb"
      refine sw_cut (P := fun ρ g => g = h ∧ ∃ q : Int, ρ = [some S, some (.int (m : Int)), some (.loc n), some (.int (m2 : Int)), some (.int q), z5, z6, z7, z8, z9, z10, z11, z12, z13] ∧ 7 ≤ q ∧ q ≤ 11) (sw_set_cut ?_) (fun ρ g hP => ?_)
      · obtain rfl | rfl | rfl : m2 = 0 ∨ m2 = 1 ∨ m2 = 2 := by omega
        · walk_at "go"
          exact ⟨_, rfl, rfl, 7, rfl, by decide, by decide⟩
        · walk_at "go"
          exact ⟨_, rfl, rfl, 7, rfl, by decide, by decide⟩
        · walk_at "go"
          exact ⟨_, rfl, rfl, 11, rfl, by decide, by decide⟩
      obtain ⟨rfl, q, rfl, q0, q1⟩ := hP
      have dd := Drawn.refl s
      walk_at "go"
      rename_i r h1 r0 r1 d1 c h2 c0 c1 d2 k h3 k0 k1 d3
      generalize eR : 2 + r = R
      generalize eC : 2 + c = C
      obtain ⟨N, eN⟩ := Int.eq_ofNat_of_zero_le (show 0 ≤ 4 + k by omega)
      rw [eN]
      have R0 : 1 ≤ R := by omega
      have R1 : R ≤ 12 := by omega
      have C0 : 1 ≤ C := by omega
      have C1 : C ≤ 12 := by omega
      rw [show (39 : Nat) = 30 + 1 + 8 by omega]
      refine sheet_wp QF 1 N (by decide) (by omega) d3 R0 R1 C0 C1 rfl fun ks vs h4 so hl d4 => ?_
      rw [show (30 + 1 + 8 : Nat) = 39 by omega]
      have hk : ks.length ≤ 11 := by omega
      have fs := sheet_fin so (by omega) R0 R1 C0 C1
      clear dd d1 d2 d3
      walk_at "go"
      refine ans_wp (n := 36) d4.at_ R1 C1 so hk fun as bs h5 fr ga ao hn => ?_
      have nA := d4.at_
      obtain ⟨A, eA⟩ : ∃ A, A = h4.length := ⟨_, rfl⟩
      rw [← eA] at ga ⊢
      have nA : n < A := by rw [eA]; exact fr.low
      have fa := ans_fin2 ao.toAnsOk (by omega)
      have ft : (T.tup [.tup [.int R, .int C, .dct ks vs], .dct as bs]).tell = true := (Fin.tup (Fins.cons fs (Fins.cons fa (⟨rfl, rfl, Nat.le_refl _, Nat.le_refl _⟩ : Fins 0 0 [])))).tell (by omega) (by unfold top; omega)
      have dp : ∀ g : Heap, g[A]? = some (.dct as bs) → deep g 200 (.tup [.tup [.int R, .int C, .dct ks vs], .loc A]) = some (.tup [.tup [.int R, .int C, .dct ks vs], .dct as bs]) := fun g e => deep_pair fs.pln (Nat.le_trans fs.deep (by omega)) e fa.pln (Nat.le_trans fa.deep (by omega))
      walk_at "go"
      refine ob_reprD (dp _ ga) ft ?_
      walk_at "go"
      obtain ⟨KT, eKT⟩ : ∃ KT, KT = (T.tup [.tup [.int R, .int C, .dct ks vs], .dct as bs]).shown := ⟨_, rfl⟩
      rw [← eKT]
      refine sw_for (fun wl ρ g => StreamAt g n ∧ g[A]? = some (.dct as bs) ∧ (∃ z10 z11 z12 z13, ρ = [some S, some (.int (m : Int)), some (.loc n), some (.int (m2 : Int)), some (.int q), some (.int R), some (.int C), some (.tup [.int R, .int C, .dct ks vs]), some (.loc A), some (.str KT), z10, z11, z12, z13]) ∧ ∀ x ∈ wl, x ∈ fls ks vs)
        (fun ρ g => StreamAt g n ∧ g[A]? = some (.dct as bs) ∧ (∃ z10 z11 z12 z13, ρ = [some S, some (.int (m : Int)), some (.loc n), some (.int (m2 : Int)), some (.int q), some (.int R), some (.int C), some (.tup [.int R, .int C, .dct ks vs]), some (.loc A), some (.str KT), z10, z11, z12, z13])) ?_ (fun ρ g hI => ?_)
      · walk_at "go"
        refine lf_wp rfl so (by omega) ?_
        walk_at "go"
        refine ⟨_, _, walk_lst, ⟨fr.at_, ga, ⟨_, _, _, _, rfl⟩, fun _ h => h⟩, fun x wl ρ g hI => ⟨still_lst, ?_⟩, fun ρ g hI => ⟨still_lst, ?_⟩⟩
        · obtain ⟨s1, g1, ⟨z10, z11, z12, z13, rfl⟩, hw⟩ := hI
          obtain ⟨i, j, rfl, i0, i1, j0, j1⟩ := so.key x (fls_mem (hw x (by simp)))
          have rok := stat_ok (as := as) (bs := bs) so (by omega) R1 C1 ⟨i0, i1⟩ ⟨j0, j1⟩
          have rf := ra_fin rok
          walk_at "go"
          refine lstat_wp (n := 36) so (by omega) R1 C1 ⟨i0, i1⟩ ⟨j0, j1⟩ g1 ao ?_
          obtain ⟨Y, eY⟩ : ∃ Y, Y = statR R C ks vs as bs i j := ⟨_, rfl⟩
          rw [← eY] at rok rf ⊢
          have ty : Y.t.tell = true := rf.tell (by decide) (by decide)
          walk_at "go"
          refine sw_forRN 2 (fun q2 ρ g => StreamAt g n ∧ g[A]? = some (.dct as bs) ∧ ∃ z12 z13, ρ = [some S, some (.int (m : Int)), some (.loc n), some (.int (m2 : Int)), some (.int q), some (.int R), some (.int C), some (.tup [.int R, .int C, .dct ks vs]), some (.loc A), some (.str KT), some (cT i j), some Y.t, z12, z13]) (by decide) ?_ (fun q2 ρ g hq2 hI => ?_) (fun q2 ρ g hq2 hI => ?_)
          · walk_at "go"
            exact ⟨_, rfl, by decide, by decide, s1, g1, _, _, rfl⟩
          · obtain ⟨s2, g2, z12, z13, rfl⟩ := hI
            have hA := (List.getElem?_eq_some_iff.mp g2).1
            walk_at "go"
            refine rule_wp (n := 33) so (by omega) R1 C1 ⟨i0, i1⟩ ⟨j0, j1⟩ g2 ao ?_
            rw [← eY]
            have gt : ∀ t, (g ++ t)[A]? = some (.dct as bs) := fun t => by rw [List.getElem?_append_left hA]; exact g2
            have st : ∀ t, StreamAt (g ++ t) n := fun t => by
              obtain ⟨x, y, x0, e⟩ := s2
              exact ⟨x, y, x0, by rw [List.getElem?_append_left (List.getElem?_eq_some_iff.mp e).1]; exact e⟩
            clear eY rok
            cases Y with
            | ans s =>
              intro t
              rw [show (RA.ans s).t = .tup [.str kAnswer, .str s] from rfl] at ty rf ⊢
              walk_at "go"
              exact ⟨st t, gt t, _, _, rfl⟩
            | mis l =>
              intro t p hp hl
              rw [show (RA.mis l).t = .tup [.str kMissing, .lst l] from rfl] at ty rf ⊢
              have rp := rf.pln
              simp only [T.pln, T.plns, Bool.and_true, Bool.true_and] at rp
              have rd := rf.deep
              simp only [T.depth, T.depths] at rd
              have gp := (List.getElem?_eq_some_iff.mp hl).1
              walk_at "go"
              refine ob_reprD (deep_mis hl (by simpa using rp) (by omega)) ty ?_
              walk_at "go"
              refine rc_mk (by simp only [view, hl]; rfl) ?_
              walk_at "go"
              refine bm_clear hl ?_
              walk_at "go"
              refine ⟨?_, by rw [List.getElem?_set_ne (by omega)]; exact gt t, _, _, rfl⟩
              have hn := fr.low
              have hn2 : n < p := by omega
              obtain ⟨x, y, x0, e⟩ := st t
              exact ⟨x, y, x0, by rw [List.getElem?_set_ne (by omega)]; exact e⟩
          · obtain ⟨s2, g2, z12, z13, rfl⟩ := hI
            walk_at "go"
            exact ⟨s2, g2, ⟨_, _, _, _, rfl⟩, fun y hy => hw y (by simp [hy])⟩
        · obtain ⟨s1, g1, ⟨z10, z11, z12, z13, rfl⟩, hw⟩ := hI
          exact ⟨s1, g1, _, _, _, _, rfl⟩
      obtain ⟨s1, g1, z10, z11, z12, z13, rfl⟩ := hI
      walk_at "go"
      refine ob_reprD (dp _ g1) ft ?_
      rw [← eKT]
      walk_at "go"
      exact ⟨s1, _, _, _, _, _, _, _, _, _, _, _, rfl⟩
    · obtain ⟨s, z3, z4, z5, z6, z7, z8, z9, z10, z11, z12, z13, rfl⟩ := hI
      walk_at "go"
      exact ⟨_, _, _, _, _, _, _, _, _, _, _, _, _, rfl⟩
  · obtain ⟨z1, z2, z3, z4, z5, z6, z7, z8, z9, z10, z11, z12, z13, rfl⟩ := hI
    walk_at "go"
    rfl
end Lite.K29
open PySem PySem.W PySem.Calls PyProof.Rows in
theorem PySem.Challenge.cw_spillsheet_k29_status_rule_holds : PySem.Challenge.rw_spillsheet_k29_status_rule.Holds := by
  w_on; o_law
  refine HandSHeadRun.head_any (r := Lite.K29.RR) (q := view Lite.K29.RL.prog [125]) (H := Lite.K29.hk) (ob := Lite.K29.ob) (M := 5534) (loose := ((["MAX_ROWS", "MAX_COLUMNS", "is_integer", "area_at", "contains", "cells_of", "subexpressions", "LIMIT", "is_number", "is_error", "as_number", "is_true", "within_limit", "add", "subtract", "multiply", "divide", "less", "at_most", "equal", "OPERATORS", "apply_operator", "negate", "aggregate", "unit_size", "no_failure", "number_element", "cell_element", "lost_element", "range_size"] : List Str) ++ (["range_element", "spill_size", "spill_failure", "spill_element", "first_size", "first_failure", "negate_element", "binary_size", "binary_failure", "fitted_element", "binary_element", "aggregate_element", "rows_element", "columns_element", "ACROSS", "LONGEST", "index_element", "seq_count", "seq_size", "seq_failure", "seq_element", "transpose_size", "transpose_element", "sort_element", "selection", "filter_size", "filter_failure", "filter_element", "take_size", "take_failure"] : List Str) ++ (["take_element", "drop_size", "drop_failure", "drop_element", "joined_word", "join_size", "join_failure", "join_element", "chosen", "branch_size", "branch_failure", "branch_element", "RULES", "Waiting", "merged_questions", "Node", "Evaluation", "evaluate", "holds_formula", "formulas_of", "SINGLE", "SPILLED", "BLOCKED", "SPILL_ERROR", "size_of", "is_free", "can_reach", "rivals_for", "ends_before", "stays_away"] : List Str) ++ (["covers", "unanswered", "room_result", "status_rule", "element_answer", "formula_shown", "empty_shown", "shown_rule", "apply_rule", "_law_stream", "_law_draw", "_law_choose", "_law_cell", "_law_area", "_law_reference", "_law_array", "_law_scalar", "_law_formula", "_law_content", "_law_sheet", "_law_formulas", "_law_answers", "_law_reaches", "_law_covers", "_law_open", "_law_status"] : List Str))) (d := HandSHeadRun.topDef Lite.K29.RL.prog 125) (kwd := [])
    Lite.K29.ob_eq (by kernel_rfl) (fun s => by kernel_rfl) Lite.K29.run (by kernel_rfl) (by kernel_rfl) (by kernel_rfl) (by rfl)
    (by first | assumption | decide +kernel) (by decide +kernel) ⟨rfl, rfl, rfl, rfl, rfl, by decide +kernel⟩ ?hw ?hc
  case hw => w_witness2
  case hc =>
    exact Lite.walk_lite (j := 0) (M := Lite.K29.mo) (l := Lite.K29.RL) (n := 63) (k := 40) (x := "script") (f := "law.law") (e := Lite.K29.dfs[33]) rfl (by decide) (by kernel_rfl) ⟨rfl, by decide, by decide⟩ Lite.K29.row (by kernel_rfl) (by kernel_rfl) (by kernel_rfl) (by kernel_rfl) Lite.K29.pure
