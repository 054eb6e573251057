import PyProof.Rows.All
import Wide.All
import OpenK.AllK
import Wide.FinOn
import HandS.ForMost
import HandS.ForExc
import HandS.More
import HandS.WordsExc
import HandS.Defaults
import HandS.HeadHook2
import HandS.ExcCtx
import HandS.TupAny
import HandS.Style
import HandS.IsInst
import HandS.Deep
import HandS.Conv
import KE.KTupSum
import HandS.CallSlots
import KE.GoesMore
import HandS.HotCalls
import HandS.ExcIs
import HandS.Head0
import HandS.Head1
import HandS.Head2
import HandS.HeadEnd
import KE.KStateDown
import Lean
import PySem.Challenge.RW_blindhands_k01_rules
set_option Elab.async false
set_option linter.all false
set_option maxRecDepth 100000
/-! Values, store, the small language and its evaluator. -/
namespace Bh
open PySem

/-- a value: trees for what never changes, ref n for the n-th object of the store -/
inductive D where
  | non
  | bl (b : Bool)
  | int (i : Int)
  | str (x : Str)
  | tup (l : List D)
  | lst (l : List D)
  | scr (l : List Int)
  | ctup (l : List D)
  | dK (ks : List L2.Key) (vs : List D)
  | dH (ks : List (List L2.Key)) (vs : List D)
  | obj (c : Str) (fs : List Str) (vs : List D)
  | ref (n : Nat)
  | glo (x : Str)
  | adr (x : Nat)

/-- an object of the store -/
inductive O where
  | lst (l : List D)
  | dK (ks : List L2.Key) (vs : List D)
  | dH (ks : List (List L2.Key)) (vs : List D)
  | obj (c : Str) (fs : List Str) (vs : List D)

mutual
def D.beq : D → D → Bool
  | .non, .non => true
  | .bl a, .bl b => a == b
  | .int a, .int b => a == b
  | .str a, .str b => decide (a = b)
  | .tup a, .tup b => D.beqs a b
  | .lst a, .lst b => D.beqs a b
  | .scr a, .scr b => a == b
  | .ctup a, .ctup b => D.beqs a b
  | .dK a b, .dK c d => decide (a = c) && D.beqs b d
  | .dH a b, .dH c d => decide (a = c) && D.beqs b d
  | .obj a b c, .obj d e f => decide (a = d) && (decide (b = e) && D.beqs c f)
  | .ref a, .ref b => a == b
  | .glo a, .glo b => decide (a = b)
  | .adr a, .adr b => a == b
  | _, _ => false
def D.beqs : List D → List D → Bool
  | [], [] => true
  | a :: x, b :: y => D.beq a b && D.beqs x y
  | _, _ => false
end
mutual
theorem D.beq_eq : ∀ a b : D, D.beq a b = true → a = b
  | .non, b, h => by cases b <;> first | rfl | simp [D.beq] at h
  | .bl a, b, h => by cases b <;> simp [D.beq] at h; subst h; rfl
  | .int a, b, h => by cases b <;> simp [D.beq] at h; subst h; rfl
  | .str a, b, h => by cases b <;> simp [D.beq] at h; subst h; rfl
  | .tup a, b, h => by cases b <;> simp [D.beq] at h; rw [D.beqs_eq _ _ h]
  | .lst a, b, h => by cases b <;> simp [D.beq] at h; rw [D.beqs_eq _ _ h]
  | .scr a, b, h => by cases b <;> simp [D.beq] at h; subst h; rfl
  | .ctup a, b, h => by cases b <;> simp [D.beq] at h; rw [D.beqs_eq _ _ h]
  | .dK a a', b, h => by cases b <;> simp [D.beq] at h; rw [h.1, D.beqs_eq _ _ h.2]
  | .dH a a', b, h => by cases b <;> simp [D.beq] at h; rw [h.1, D.beqs_eq _ _ h.2]
  | .obj a a' a'', b, h => by cases b <;> simp [D.beq] at h; rw [h.1, h.2.1, D.beqs_eq _ _ h.2.2]
  | .ref a, b, h => by cases b <;> simp [D.beq] at h; subst h; rfl
  | .glo a, b, h => by cases b <;> simp [D.beq] at h; subst h; rfl
  | .adr a, b, h => by cases b <;> simp [D.beq] at h; subst h; rfl
theorem D.beqs_eq : ∀ a b : List D, D.beqs a b = true → a = b
  | [], b, h => by cases b <;> first | rfl | simp [D.beqs] at h
  | x :: a, b, h => by
    cases b with
    | nil => simp [D.beqs] at h
    | cons y b =>
      simp [D.beqs] at h
      rw [D.beq_eq _ _ h.1, D.beqs_eq _ _ h.2]
end
mutual
theorem D.beq_refl : ∀ a : D, D.beq a a = true
  | .non => rfl
  | .bl a => by simp [D.beq]
  | .int a => by simp [D.beq]
  | .str a => by simp [D.beq]
  | .tup a => by simp [D.beq, D.beqs_refl a]
  | .lst a => by simp [D.beq, D.beqs_refl a]
  | .scr a => by simp [D.beq]
  | .ctup a => by simp [D.beq, D.beqs_refl a]
  | .dK a b => by simp [D.beq, D.beqs_refl b]
  | .dH a b => by simp [D.beq, D.beqs_refl b]
  | .obj a b c => by simp [D.beq, D.beqs_refl c]
  | .ref a => by simp [D.beq]
  | .glo a => by simp [D.beq]
  | .adr a => by simp [D.beq]
theorem D.beqs_refl : ∀ a : List D, D.beqs a a = true
  | [] => rfl
  | x :: a => by simp [D.beqs, D.beq_refl x, D.beqs_refl a]
end
instance : DecidableEq D := fun a b => if h : D.beq a b = true then isTrue (D.beq_eq a b h) else isFalse (fun e => h (e ▸ D.beq_refl a))
instance : Inhabited D := ⟨.non⟩
def O.beq : O → O → Bool
  | .lst a, .lst b => D.beqs a b
  | .dK a b, .dK c d => decide (a = c) && D.beqs b d
  | .dH a b, .dH c d => decide (a = c) && D.beqs b d
  | .obj a b c, .obj d e f => decide (a = d) && (decide (b = e) && D.beqs c f)
  | _, _ => false
theorem O.beq_eq (a b : O) (h : O.beq a b = true) : a = b := by
  cases a <;> cases b <;> simp [O.beq] at h
  · rw [D.beqs_eq _ _ h]
  · rw [h.1, D.beqs_eq _ _ h.2]
  · rw [h.1, D.beqs_eq _ _ h.2]
  · rw [h.1, h.2.1, D.beqs_eq _ _ h.2.2]
theorem O.beq_refl (a : O) : O.beq a a = true := by
  cases a <;> simp [O.beq, D.beqs_refl]
instance : DecidableEq O := fun a b => if h : O.beq a b = true then isTrue (O.beq_eq a b h) else isFalse (fun e => h (e ▸ O.beq_refl a))

abbrev Store := List O
abbrev Fr := List (Option D)

/-- the shape of a value: what it holds -/
def look (S : Store) : D → Option O
  | .lst l => some (.lst l)
  | .dK ks vs => some (.dK ks vs)
  | .dH ks vs => some (.dH ks vs)
  | .obj c fs vs => some (.obj c fs vs)
  | .ref n => S[n]?
  | _ => none

/-- an evaluation's end: an exception has its class's name, and one field -/
inductive R (α : Type) where
  | ok (a : α) (S : Store)
  | exc (c : Str) (x : Option (Str × D)) (S : Store)
  | bad
def R.bind {α β : Type} : R α → (α → Store → R β) → R β
  | .ok a S, f => f a S
  | .exc c x S, _ => .exc c x S
  | .bad, _ => .bad
/-- a statement's end -/
inductive F where
  | next (s : Fr) (S : Store)
  | cont (s : Fr) (S : Store)
  | ret (d : D) (S : Store)
  | exc (c : Str) (x : Option (Str × D)) (s : Fr) (S : Store)
  | bad
def R.thn {α : Type} (r : R α) (s : Fr) (f : α → Store → F) : F := match r with
  | .ok a S => f a S
  | .exc c x S => .exc c x s S
  | .bad => .bad

/-! ### data for == -/
def mapO {α : Type} (f : D → Option α) : List D → Option (List α)
  | [] => some []
  | d :: l => match f d, mapO f l with
    | some x, some y => some (x :: y)
    | _, _ => none
def py : Nat → Store → D → Option PyData
  | 0, _, _ => none
  | n + 1, S, d => match d with
    | .non => some .none
    | .bl b => some (.bool b)
    | .int i => some (.int i)
    | .str x => if PyData.canLay0 (.str x) then some (.str x) else none
    | .tup l => (mapO (py n S) l).map .tuple
    | .lst l => (mapO (py n S) l).map .list
    | .scr l => some (.list (l.map .int))
    | .ref k => match S[k]? with
      | some (.lst l) => (mapO (py n S) l).map .list
      | _ => none
    | _ => none
abbrev pys (n : Nat) (S : Store) (l : List D) : Option (List PyData) := mapO (py n S) l
def eqD (S : Store) (x y : D) : Option Bool := match py 40 S x, py 40 S y with
  | some a, some b => some (PyData.eqv a b)
  | _, _ => none

/-! ### the language -/
inductive IK where
  | seq | rng1 | rng2 | enum | zip | items | vals
  deriving DecidableEq
inductive T where
  | nm (i : Nat)
  | tup (l : List Nat)
inductive BO where
  | add | sub | mul | fdiv | mod | pow
inductive CO where
  | eq | ne | lt | le | gt | ge | is | isNot | inn | notIn
inductive BF where
  | len | all | any | sum | min | max | list | tuple | str
  deriving DecidableEq
inductive BM where
  | append | extend | pop | count | index
  deriving DecidableEq
inductive TyC where
  | int | bool | tuple | str | list
  deriving DecidableEq
inductive E where
  | var (i : Nat)
  | non | bl (b : Bool) | int (i : Int) | str (x : Str)
  | con (x : Str)
  | glo (x : Str)
  | bin (op : BO) (own : Bool) (a b : E)
  | neg (a : E)
  | cmp (op : CO) (a b : E)
  | chain (o1 o2 : CO) (a b c : E)
  | and (l : List E) | or (l : List E) | not (a : E)
  | ife (t a b : E)
  | tup (l : List E) | lst (own : Bool) (l : List E)
  | ix (a i : E)
  | slice (own : Bool) (a : E) (lo hi : Option E)
  | fld (a : E) (f : Str)
  | call (pure : Bool) (f : Str) (l : List E)
  | callV (pure : Bool) (fs : List Str) (f : E) (l : List E)
  | make (c : Str) (l : List E)
  | meth (pure : Bool) (c : Str) (o : E) (m : Str) (l : List E)
  | bi (f : BF) (own : Bool) (l : List E)
  | bm (m : BM) (own : Bool) (o : E) (l : List E)
  | isi (a : E) (c : TyC)
  | isx (i : Nat) (c : Str)
  | bad
  | lc (own : Bool) (elt : E) (tg : T) (k : IK) (src ifs : List E)
  | lc2 (own : Bool) (elt : E) (tg : T) (k : IK) (src ifs : List E) (tg2 : T) (k2 : IK) (src2 ifs2 : List E)
  | dict (ks : List L2.Key) (vs : List E)
  | dict0 (tup : Bool)
  | lrng (own : Bool) (l : List E)
inductive HE where
  | fld (f : Str) | which | isi (c : Str) | str (x : Str) | non | bl (b : Bool) | tup (l : List HE)
inductive HB where
  | ret (e : HE) | cont
inductive Sm where
  | asg (t : T) (e : E)
  | par (i j : Nat) (a b : E)
  | star (i j : Nat) (e : E)
  | setF (c : Str) (o : E) (f : Str) (e : E)
  | setI (o i e : E)
  | aug (i : Nat) (op : BO) (e : E)
  | augF (c : Str) (o : E) (f : Str) (op : BO) (e : E)
  | augI (o i : E) (op : BO) (e : E)
  | expr (e : E)
  | ret (e : E) | retN
  | pass | cont
  | ite (t : E) (a b : List Sm)
  | for_ (tg : T) (k : IK) (src : List E) (body : List Sm)
  | whl (n : Nat) (t : E) (body : List Sm)
  | raise (c : Str) (f : Option Str) (e : E)
  | bad
  | try_ (kn : List Str) (body : List Sm) (hs : List (Str × Option Nat × HB))
structure Fn where
  np : Nat
  nn : Nat
  body : List Sm
end Bh

/-! The evaluator. -/
namespace Bh
open PySem

def newL (own : Bool) (l : List D) (S : Store) : R D :=
  if l.length ≤ sizeLine then (if own then .ok (.ref S.length) (S ++ [.lst l]) else .ok (.lst l) S) else .bad

def kD : L2.Key → D
  | .inl i => .int i
  | .inr x => .str x

/-- what a value tells as a walk's items -/
def seqI (S : Store) : D → Option (List D)
  | .tup l => some l
  | .scr ns => some (ns.map .int)
  | d => match look S d with
    | some (.lst l) => some l
    | some (.dK ks _) => some (ks.map kD)
    | _ => none
/-- .. of a for loop -/
def walkI (S : Store) : D → Option (List D)
  | .tup l => some l
  | .ctup l => some l
  | .scr ns => some (ns.map .int)
  | d => match look S d with
    | some (.lst l) => some l
    | _ => none
def numI : Nat → List D → List D
  | _, [] => []
  | n, d :: l => .tup [.int n, d] :: numI (n + 1) l
def small (i : Int) : Bool := decide (-1000000000 ≤ i) && decide (i ≤ 1000000000)
def mid (i : Int) : Bool := decide (-4611686018427387904 ≤ i) && decide (i ≤ 4611686018427387904)
def srcI (k : IK) (ds : List D) (S : Store) : Option (List D) := match k, ds with
  | .seq, [d] => walkI S d
  | .rng1, [.int n] => if small n then some ((List.range n.toNat).map fun i => .int (i : Nat)) else none
  | .rng2, [.int a, .int b] => if small a && small b then some ((List.range (b - a).toNat).map fun i => .int (a + (i : Nat))) else none
  | .enum, [d] => (walkI S d).map (numI 0)
  | .zip, [d, e] => match look S d, look S e with
    | some (.lst a), some (.lst b) => some ((a.zip b).map fun p => .tup [p.1, p.2])
    | _, _ => none
  | .items, [d] => match look S d with
    | some (.dK ks vs) => some ((ks.zip vs).map fun p => .tup [kD p.1, p.2])
    | some (.dH ks vs) => some ((ks.zip vs).map fun p => .tup [.tup (p.1.map kD), p.2])
    | _ => none
  | .vals, [d] => match look S d with
    | some (.dK _ vs) => some vs
    | some (.dH _ vs) => some vs
    | _ => none
  | _, _ => none

def lrngI : List D → Option (List D)
  | [.int n] => if small n then some ((List.range n.toNat).map fun i => .int (0 + (i : Nat))) else none
  | [.int a, .int b] => if small a && small b then some ((List.range (b - a).toNat).map fun i => .int (a + (i : Nat))) else none
  | _ => none
def bindT (s : Fr) (d : D) : T → Option Fr
  | .nm i => some (s.set i (some d))
  | .tup is => match d with
    | .tup l => if l.length = is.length then some ((is.zip l).foldl (fun s p => s.set p.1 (some p.2)) s) else none
    | _ => none
def tgs : T → List Nat
  | .nm i => [i]
  | .tup l => l
def wipeF (s : Fr) (l : List Nat) : Fr := l.foldr (fun i s => s.set i none) s

def binE (op : BO) (own : Bool) (x y : D) (S : Store) : R D := match op with
  | .add => match x, y with
    | .int i, .int j => .ok (.int (i + j)) S
    | .str a, .str b => if a.length + b.length ≤ sizeLine then .ok (.str (a ++ b)) S else .bad
    | .tup a, .tup b => if a.length + b.length ≤ sizeLine then .ok (.tup (a ++ b)) S else .bad
    | x, y => match look S x, look S y with
      | some (.lst a), some (.lst b) => newL own (a ++ b) S
      | _, _ => .bad
  | .sub => match x, y with
    | .int i, .int j => .ok (.int (i - j)) S
    | _, _ => .bad
  | .mul => match x, y with
    | .int i, .int j => if mid i || mid j then .ok (.int (i * j)) S else .bad
    | x, .int k => match look S x with
      | some (.lst a) => if small k then newL own (List.replicate k.toNat a).flatten S else .bad
      | _ => .bad
    | _, _ => .bad
  | .fdiv => match x, y with
    | .int i, .int j => if 0 < j && small j then .ok (.int (i / j)) S else .bad
    | _, _ => .bad
  | .mod => match x, y with
    | .int i, .int j => if 0 < j then .ok (.int (i % j)) S else .bad
    | _, _ => .bad
  | .pow => match x, y with
    | .int i, .int j => if 0 ≤ j && decide (j ≤ 1000) && decide (i.natAbs < 4294967296) then .ok (.int (i ^ j.toNat)) S else .bad
    | _, _ => .bad

def augE (op : BO) (x y : D) (S : Store) : R D := match x, y with
  | .int _, .int _ => binE op true x y S
  | _, _ => .bad

/-- is a list's item -/
def memD (S : Store) (x : D) : List D → Option Bool
  | [] => some false
  | y :: l => match eqD S y x, memD S x l with
    | some b, some c => some (b || c)
    | _, _ => none
def keyD : D → Option L2.Key
  | .int i => some (.inl i)
  | .str x => some (.inr x)
  | _ => none
/-- a tuple of numbers and texts, as a key -/
def keyT : D → Option (List L2.Key)
  | .tup l => mapO keyD l
  | _ => none
def getK {α : Type} [DecidableEq α] (k : α) : List α → List D → Option D
  | a :: r, v :: s => if a = k then some v else getK k r s
  | _, _ => none
def putK {α : Type} [DecidableEq α] (k : α) (v : D) (ks : List α) (vs : List D) : List α × List D :=
  if (ks.any fun a => decide (a = k)) = true then (ks, List.zipWith (fun a u => if a = k then v else u) ks vs) else (ks ++ [k], vs ++ [v])
def putN (k : Str) (v : D) : List Str → List D → List Str × List D
  | a :: r, u :: s => if a = k then (a :: r, v :: s) else let p := putN k v r s; (a :: p.1, u :: p.2)
  | _, _ => ([k], [v])
def flat : D → Bool
  | .non => true
  | .bl _ => true
  | .int _ => true
  | .str x => PyData.canLay0 (.str x)
  | _ => false
def isE (x y : D) : Option Bool := match y with
  | .non => some (decide (x = .non))
  | .bl b => match x with
    | .bl c => some (decide (c = b))
    | _ => none
  | _ => none
def inE (x y : D) (S : Store) : Option Bool := match y with
  | .tup l => if flat x && l.all flat then memD S x l else none
  | .ctup l => if flat x && l.all flat then memD S x l else none
  | .str t => match x with
    | .str u => match u.cps.toList with
      | [c] => some (decide (c ∈ t.cps.toList))
      | _ => none
    | _ => none
  | y => match look S y with
    | some (.lst l) => match py 40 S x, mapO (py 38 S) l with
      | some p, some ps => some (ps.any fun z => PyData.eqv z p)
      | _, _ => none
    | some (.dK ks vs) => (keyD x).map fun k => (getK k ks vs).isSome
    | some (.dH ks vs) => (keyT x).map fun k => (getK k ks vs).isSome
    | _ => none
def intB (f : Int → Int → Bool) : D → D → Option Bool
  | .int i, .int j => some (f i j)
  | _, _ => none
def cmpE (op : CO) (x y : D) (S : Store) : Option Bool := match op with
  | .eq => eqD S x y
  | .ne => (eqD S x y).map (!·)
  | .lt => intB (fun i j => decide (i < j)) x y
  | .le => intB (fun i j => decide (i ≤ j)) x y
  | .gt => intB (fun i j => decide (j < i)) x y
  | .ge => intB (fun i j => decide (j ≤ i)) x y
  | .is => isE x y
  | .isNot => (isE x y).map (!·)
  | .inn => inE x y S
  | .notIn => (inE x y S).map (!·)
def R.ofO {α : Type} (S : Store) : Option α → R α
  | some a => .ok a S
  | none => .bad

def ixE (x i : D) (S : Store) : Option D := match x with
  | .tup l => match i with | .int k => L2.atI l k | _ => none
  | .scr l => match i with | .int k => (L2.atI l k).map .int | _ => none
  | .str t => match i with | .int k => if t.length ≤ sizeLine then (L2.atI t.cps.toList k).map (fun c => .str ⟨#[c]⟩) else none | _ => none
  | x => match look S x with
    | some (.lst l) => match i with | .int k => L2.atI l k | _ => none
    | some (.dK ks vs) => (keyD i).bind fun k => getK k ks vs
    | some (.dH ks vs) => (keyT i).bind fun k => getK k ks vs
    | _ => none
def cutD {α : Type} (xs : List α) (lo hi : Option Int) : List α := (xs.drop (HT.sIx xs.length 0 lo)).take (HT.sIx xs.length xs.length hi - HT.sIx xs.length 0 lo)
def sliceE (own : Bool) (x : D) (lo hi : Option Int) (S : Store) : R D := match x with
  | .tup l => .ok (.tup (cutD l lo hi)) S
  | x => match look S x with
    | some (.lst l) => newL own (cutD l lo hi) S
    | _ => .bad
def fldE (x : D) (f : Str) (S : Store) : Option D := match look S x with
  | some (.obj _ fs vs) => getK f fs vs
  | _ => none

def boolsD : List D → Option (List Bool)
  | [] => some []
  | .bl b :: l => (boolsD l).map (b :: ·)
  | _ :: _ => none
def intsD : List D → Option (List Int)
  | [] => some []
  | .int b :: l => (intsD l).map (b :: ·)
  | _ :: _ => none
def lenE (x : D) (S : Store) : Option Nat := match x with
  | .tup l => some l.length
  | .scr l => some l.length
  | .str t => if t.length ≤ sizeLine then some t.length else none
  | x => match look S x with
    | some (.lst l) => some l.length
    | some (.dK ks _) => some ks.length
    | _ => none
def lstE (x : D) (S : Store) : Option (List D) := match look S x with
  | some (.lst l) => some l
  | _ => none
def biE (f : BF) (own : Bool) (ds : List D) (S : Store) : R D := match f, ds with
  | .len, [x] => R.ofO S ((lenE x S).map fun n => .int (n : Nat))
  | .all, [x] => R.ofO S (((lstE x S).bind boolsD).map fun l => .bl (l.all id))
  | .any, [x] => R.ofO S (((lstE x S).bind boolsD).map fun l => .bl (l.any id))
  | .sum, [.tup l] => R.ofO S ((intsD l).map fun l => .int l.sum)
  | .sum, [x] => R.ofO S (((lstE x S).bind intsD).map fun l => .int l.sum)
  | .min, [.int i, .int j] => .ok (.int (if j < i then j else i)) S
  | .max, [.int i, .int j] => .ok (.int (if j > i then j else i)) S
  | .list, [x] => match seqI S x with
    | some l => newL own l S
    | none => .bad
  | .tuple, [.tup l] => .ok (.tup l) S
  | .tuple, [x] => R.ofO S ((lstE x S).map .tup)
  | _, _ => .bad
def cntD (S : Store) (x : D) : List D → Option Nat
  | [] => some 0
  | y :: l => match eqD S y x, cntD S x l with
    | some b, some c => some (if b then c + 1 else c)
    | _, _ => none
def recv (m : BM) (x : D) (S : Store) : Bool := (lstE x S).isSome
def cixE (m : BM) (o : D) (ds : List D) (S : Store) : R D := match m, ds with
  | .count, [x] => match lstE o S with
    | some l => match mapO (py 38 S) l, py 40 S x with
      | some ps, some p => .ok (.int (ps.countP fun z => PyData.eqv z p : Nat)) S
      | _, _ => .bad
    | none => .bad
  | .index, [x] => match lstE o S with
    | some l => match mapO (py 38 S) l, py 40 S x with
      | some ps, some p => R.ofO S ((ps.findIdx? fun z => PyData.eqv z p).map fun (j : Nat) => .int j)
      | _, _ => .bad
    | none => .bad
  | _, _ => .bad
def bmE (m : BM) (own : Bool) (o : D) (ds : List D) (S : Store) : R D := match m, o, ds with
  | .append, .ref n, [x] => match S[n]? with
    | some (.lst l) => if l.length < sizeLine then .ok .non (S.set n (.lst (l ++ [x]))) else .bad
    | _ => .bad
  | .extend, .ref n, [x] => match S[n]?, lstE x S with
    | some (.lst l), some l2 => if l.length + l2.length ≤ sizeLine then .ok .non (S.set n (.lst (l ++ l2))) else .bad
    | _, _ => .bad
  | .pop, .ref n, [] => match S[n]? with
    | some (.lst l) => match l[l.length - 1]? with
      | some y => .ok y (S.set n (.lst l.dropLast))
      | none => .bad
    | _ => .bad
  | .pop, .ref n, [.int i] => match S[n]? with
    | some (.lst l) => match l[i.toNat]? with
      | some y => if 0 ≤ i && small i then .ok y (S.set n (.lst (l.eraseIdx i.toNat))) else .bad
      | none => .bad
    | _ => .bad
  | m, o, ds => cixE m o ds S
def tyN (x : D) (S : Store) : Option Str := match x with
  | .non => some "NoneType"
  | .bl _ => some "bool"
  | .int _ => some "int"
  | .str _ => some "str"
  | .tup _ => some "tuple"
  | .scr _ => some "list"
  | x => match look S x with
    | some (.lst _) => some "list"
    | some (.dK _ _) => some "dict"
    | some (.dH _ _) => some "dict"
    | some (.obj c _ _) => some c
    | _ => none
def TyC.nm : TyC → Str
  | .int => "int" | .bool => "bool" | .tuple => "tuple" | .str => "str" | .list => "list"
def isiE (x : D) (c : TyC) (S : Store) : Option Bool := match x with
  | .non => some false
  | .bl _ => some (decide (c = .bool) || decide (c = .int))
  | .int _ => some (decide (c = .int))
  | .str _ => some (decide (c = .str))
  | .tup _ => some (decide (c = .tuple))
  | .scr _ => some (decide (c = .list))
  | x => match look S x with
    | some (.lst _) => some (decide (c = .list))
    | some (.dK _ _) => some false
    | some (.dH _ _) => some false
    | _ => none

/-! ### loops -/
/-- a comprehension's turns: each gives some items -/
def lcD (k : IK) (ds items : List D) (f : D → Store → R (List D)) : List D → Store → R (List D)
  | [], S => if srcI k ds S = some items then .ok [] S else .bad
  | d :: l, S => if srcI k ds S = some items then match f d S with
      | .ok r S' => match lcD k ds items f l S' with
        | .ok r' S'' => .ok (r ++ r') S''
        | _ => .bad
      | _ => .bad
    else .bad
def forD (k : IK) (ds items : List D) (f : D → Fr → Store → F) : List D → Fr → Store → F
  | [], s, S => if srcI k ds S = some items then .next s S else .bad
  | d :: l, s, S => if srcI k ds S = some items then match f d s S with
      | .next s' S' => forD k ds items f l s' S'
      | .cont s' S' => forD k ds items f l s' S'
      | r => r
    else .bad
def whlD (t : Fr → Store → R D) (f : Fr → Store → F) : Nat → Fr → Store → F
  | 0, _, _ => .bad
  | n + 1, s, S => (t s S).thn s fun d S1 => match d with
    | .bl true => match f s S1 with
      | .next s' S' => whlD t f n s' S'
      | .cont s' S' => whlD t f n s' S'
      | r => r
    | .bl false => .next s S1
    | _ => .bad

/-! ### a value told as a tree, behind a call -/
def frz : Nat → Nat → Store → D → Option D
  | 0, _, _, _ => none
  | n + 1, m, S, d => match d with
    | .ref k => if k < m then some (.ref k) else match S[k]? with
      | some (.lst l) => (mapO (frz n m S) l).map .lst
      | some (.dK ks vs) => (mapO (frz n m S) vs).map (.dK ks)
      | some (.dH ks vs) => (mapO (frz n m S) vs).map (.dH ks)
      | some (.obj c fs vs) => (mapO (frz n m S) vs).map (.obj c fs)
      | none => none
    | .tup l => (mapO (frz n m S) l).map .tup
    | .ctup l => (mapO (frz n m S) l).map .ctup
    | .lst l => (mapO (frz n m S) l).map .lst
    | .dK ks vs => (mapO (frz n m S) vs).map (.dK ks)
    | .dH ks vs => (mapO (frz n m S) vs).map (.dH ks)
    | .obj c fs vs => (mapO (frz n m S) vs).map (.obj c fs)
    | d => some d
abbrev frzs (n m : Nat) (S : Store) (l : List D) : Option (List D) := mapO (frz n m S) l
/-- a call whose new objects are all told as trees: nothing old was changed -/
def pureR (S : Store) : R D → R D
  | .ok d S' => if S'.take S.length = S then R.ofO S (frz 12 S.length S' d) else .bad
  | .exc c x S' => if S'.take S.length = S then match x with
      | none => .exc c none S
      | some (f, d) => match frz 12 S.length S' d with
        | some e => .exc c (some (f, e)) S
        | none => .bad
    else .bad
  | .bad => .bad
abbrev CallT := Str → List D → Store → R D
mutual
/-- names objects below n alone -/
def D.cl (n : Nat) : D → Bool
  | .ref k => decide (k < n)
  | .tup l => D.cls n l
  | .ctup l => D.cls n l
  | .lst l => D.cls n l
  | .dK _ l => D.cls n l
  | .dH _ l => D.cls n l
  | .obj _ _ l => D.cls n l
  | _ => true
def D.cls (n : Nat) : List D → Bool
  | [] => true
  | d :: l => D.cl n d && D.cls n l
end
/-- a call that is handed no object: it runs as if there were none -/
def closeR (S : Store) : R D → R D
  | .ok d S' => R.ofO S (frz 12 0 S' d)
  | .exc c none _ => .exc c none S
  | .exc c (some (f, d)) S' => match frz 12 0 S' d with
    | some e => .exc c (some (f, e)) S
    | none => .bad
  | .bad => .bad
def callM (call : CallT) (p : Bool) (f : Str) (ds : List D) (S : Store) : R D := if p then (if D.cls 0 ds then closeR S (call f ds []) else pureR S (call f ds S)) else call f ds S

section
variable (con : Str → Option D) (call : CallT)
mutual
def ev : E → Fr → Store → R D
  | .var i, s, S => match s[i]? with
    | some (some d) => .ok d S
    | _ => .bad
  | .non, _, S => .ok .non S
  | .bl b, _, S => .ok (.bl b) S
  | .int i, _, S => .ok (.int i) S
  | .str x, _, S => .ok (.str x) S
  | .con x, _, S => R.ofO S (con x)
  | .glo x, _, S => .ok (.glo x) S
  | .bin op own a b, s, S => (ev a s S).bind fun x S1 => (ev b s S1).bind fun y S2 => binE op own x y S2
  | .neg a, s, S => (ev a s S).bind fun x S1 => match x with
    | .int i => .ok (.int (-i)) S1
    | _ => .bad
  | .cmp op a b, s, S => (ev a s S).bind fun x S1 => (ev b s S1).bind fun y S2 => R.ofO S2 ((cmpE op x y S2).map .bl)
  | .chain o1 o2 a b c, s, S => (ev a s S).bind fun x S1 => (ev b s S1).bind fun y S2 => match cmpE o1 x y S2 with
    | some true => (ev c s S2).bind fun z S3 => R.ofO S3 ((cmpE o2 y z S3).map .bl)
    | some false => .ok (.bl false) S2
    | none => .bad
  | .and l, s, S => evAnd l s S
  | .or l, s, S => evOr l s S
  | .not a, s, S => (ev a s S).bind fun x S1 => match x with
    | .bl b => .ok (.bl (!b)) S1
    | _ => .bad
  | .ife t a b, s, S => (ev t s S).bind fun x S1 => match x with
    | .bl true => ev a s S1
    | .bl false => ev b s S1
    | _ => .bad
  | .tup l, s, S => (evs l s S).bind fun ds S1 => if ds.length ≤ sizeLine then .ok (.tup ds) S1 else .bad
  | .lst own l, s, S => (evs l s S).bind fun ds S1 => newL own ds S1
  | .ix a i, s, S => (ev a s S).bind fun x S1 => (ev i s S1).bind fun y S2 => R.ofO S2 (ixE x y S2)
  | .slice own a lo hi, s, S => (ev a s S).bind fun x S1 => (evO lo s S1).bind fun l S2 => (evO hi s S2).bind fun h S3 => sliceE own x l h S3
  | .fld a f, s, S => (ev a s S).bind fun x S1 => R.ofO S1 (fldE x f S1)
  | .call p f l, s, S => (evs l s S).bind fun ds S1 => callM call p f ds S1
  | .callV p fs f l, s, S => (ev f s S).bind fun x S1 => match x with
    | .glo f => if f ∈ fs then (evs l s S1).bind fun ds S2 => callM call p f ds S2 else .bad
    | _ => .bad
  | .make c l, s, S => (evs l s S).bind fun ds S1 => (call (c ++ ".__init__") (.ref S1.length :: ds) (S1 ++ [.obj c [] []])).bind fun d S2 => match d with
    | .non => .ok (.ref S1.length) S2
    | _ => .bad
  | .meth p c o m l, s, S => (ev o s S).bind fun x S1 => match look S1 x with
    | some (.obj c' fs _) => if c' = c ∧ m ∉ fs then (evs l s S1).bind fun ds S2 => callM call p (c ++ "." ++ m) (x :: ds) S2 else .bad
    | _ => .bad
  | .bi f own l, s, S => (evs l s S).bind fun ds S1 => biE f own ds S1
  | .bm m own o l, s, S => (ev o s S).bind fun x S1 => if recv m x S1 then (evs l s S1).bind fun ds S2 => bmE m own x ds S2 else .bad
  | .bad, _, _ => .bad
  | .isx i c, s, S => match s[i]? with
    | some (some d) => if con "@" = some d then R.ofO S (con ("@" ++ c)) else .bad
    | _ => .bad
  | .isi a c, s, S => (ev a s S).bind fun x S1 => R.ofO S1 ((isiE x c S1).map .bl)
  | .lc own elt tg k src ifs, s, S => (evs src s S).bind fun ds S1 => match srcI k ds S1 with
    | some items => (lcD k ds items (fun d S2 => match bindT (wipeF s (tgs tg)) d tg with
        | some s' => (evAnd ifs s' S2).bind fun b S3 => match b with
          | .bl true => (ev elt s' S3).bind fun v S4 => .ok [v] S4
          | .bl false => .ok [] S3
          | _ => .bad
        | none => .bad) items S1).bind fun l S2 => newL own l S2
    | none => .bad
  | .lc2 own elt tg k src ifs tg2 k2 src2 ifs2, s, S => (evs src s S).bind fun ds S1 => match srcI k ds S1 with
    | some items => (lcD k ds items (fun d S2 => match bindT (wipeF s (tgs tg ++ tgs tg2)) d tg with
        | some s' => (evAnd ifs s' S2).bind fun b S3 => match b with
          | .bl true => (evs src2 s' S3).bind fun ds2 S4 => match srcI k2 ds2 S4 with
            | some items2 => lcD k2 ds2 items2 (fun d2 S5 => match bindT (wipeF s' (tgs tg2)) d2 tg2 with
              | some s2 => (evAnd ifs2 s2 S5).bind fun b2 S6 => match b2 with
                | .bl true => (ev elt s2 S6).bind fun v S7 => .ok [v] S7
                | .bl false => .ok [] S6
                | _ => .bad
              | none => .bad) items2 S4
            | none => .bad
          | .bl false => .ok [] S3
          | _ => .bad
        | none => .bad) items S1).bind fun l S2 => newL own l S2
    | none => .bad
  | .dict ks vs, s, S => (evs vs s S).bind fun ds S1 => if ds.length = ks.length ∧ ks.Nodup ∧ ks.length ≤ 15 then .ok (.ref S1.length) (S1 ++ [.dK ks ds]) else .bad
  | .lrng own l, s, S => (evs l s S).bind fun ds S1 => match lrngI ds with
    | some l => newL own l S1
    | none => .bad
  | .dict0 t, _, S => .ok (.ref S.length) (S ++ [if t then .dH [] [] else .dK [] []])
def evs : List E → Fr → Store → R (List D)
  | [], _, S => .ok [] S
  | e :: l, s, S => (ev e s S).bind fun d S1 => (evs l s S1).bind fun ds S2 => .ok (d :: ds) S2
def evAnd : List E → Fr → Store → R D
  | [], _, S => .ok (.bl true) S
  | e :: l, s, S => (ev e s S).bind fun x S1 => match x with
    | .bl true => evAnd l s S1
    | .bl false => .ok (.bl false) S1
    | _ => .bad
def evOr : List E → Fr → Store → R D
  | [], _, S => .ok (.bl false) S
  | e :: l, s, S => (ev e s S).bind fun x S1 => match x with
    | .bl false => evOr l s S1
    | .bl true => .ok (.bl true) S1
    | _ => .bad
def evO : Option E → Fr → Store → R (Option Int)
  | none, _, S => .ok none S
  | some e, s, S => (ev e s S).bind fun x S1 => match x with
    | .int i => .ok (some i) S1
    | _ => .bad
end
end

/-! ### statements -/
def excs : List Str := ["NoRules", "NoDeck", "NoLine", "NoPlayer", "NoSaying", "NoWords", "NoPlan", "NoMove", "NoCount", "NoText", "TooMany", "NotLast", "NotSo", "Nothing"]
def ixOf (c : Str) : List Str → Nat → Option Nat
  | [], _ => none
  | a :: l, n => if a = c then some n else ixOf c l (n + 1)
def excSub (c h : Str) : Bool := decide (c = h) || decide (h = ("HandError" : Str))
mutual
def hev (c : Str) (x : Option (Str × D)) : HE → Option D
  | .fld f => match x with
    | some (g, d) => if g = f then some d else none
    | none => none
  | .which => match x with
    | none => (ixOf c excs 0).map fun n => .tup [.str "refused", .int (n : Nat)]
    | some _ => none
  | .isi h => some (.bl (excSub c h))
  | .str x => some (.str x)
  | .non => some .non
  | .bl b => some (.bl b)
  | .tup l => (hevs c x l).map .tup
def hevs (c : Str) (x : Option (Str × D)) : List HE → Option (List D)
  | [] => some []
  | e :: l => match hev c x e, hevs c x l with
    | some d, some ds => some (d :: ds)
    | _, _ => none
end
def okI : Option Nat → Fr → Bool
  | none, _ => true
  | some j, s => decide (j < s.length)
def clrI : Option Nat → Fr → Fr
  | none, s => s
  | some j, s => s.set j none
def runH (c : Str) (x : Option (Str × D)) (i : Option Nat) (s : Fr) (S : Store) : HB → F
  | .ret e => match hev c x e with
    | some d => .ret d S
    | none => .bad
  | .cont => .cont (clrI i s) S
def handle (kn : List Str) (c : Str) (x : Option (Str × D)) (s : Fr) (S : Store) : List (Str × Option Nat × HB) → F
  | [] => .exc c x s S
  | (h, i, b) :: l => if c ∈ kn then (if excSub c h then (if okI i s then runH c x i s S b else .bad) else handle kn c x s S l) else .bad
def setI (o i v : D) (S : Store) : Option Store := match o, i with
  | .ref n, i => match S[n]? with
    | some (.lst l) => match i with
      | .int k => (L2.ixN l.length k).map fun j => S.set n (.lst (l.set j v))
      | _ => none
    | some (.dK ks vs) => (keyD i).bind fun k => if ks.length < sizeLine then let p := putK k v ks vs; some (S.set n (.dK p.1 p.2)) else none
    | some (.dH ks vs) => (keyT i).bind fun k => if ks.length < sizeLine then let p := putK k v ks vs; some (S.set n (.dH p.1 p.2)) else none
    | _ => none
  | _, _ => none
def setF (c : Str) (o : D) (f : Str) (v : D) (S : Store) : Option Store := match o with
  | .ref n => match S[n]? with
    | some (.obj c' fs vs) => if c' = c ∧ fs.length < 1000 then let p := putN f v fs vs; some (S.set n (.obj c p.1 p.2)) else none
    | _ => none
  | _ => none
section
variable (con : Str → Option D) (call : CallT)
mutual
def ex : Sm → Fr → Store → F
  | .asg t e, s, S => (ev con call e s S).thn s fun d S1 => match bindT s d t with
    | some s' => .next s' S1
    | none => .bad
  | .par i j a b, s, S => (ev con call a s S).thn s fun x S1 => (ev con call b s S1).thn s fun y S2 => .next ((s.set i (some x)).set j (some y)) S2
  | .star i j e, s, S => (ev con call e s S).thn s fun d S1 => match d with
    | .tup (x :: l) => .next ((s.set i (some x)).set j (some (.lst l))) S1
    | _ => .bad
  | .setF c o f e, s, S => (ev con call e s S).thn s fun v S1 => (ev con call o s S1).thn s fun x S2 => match setF c x f v S2 with
    | some S3 => .next s S3
    | none => .bad
  | .setI o i e, s, S => (ev con call e s S).thn s fun v S1 => (ev con call o s S1).thn s fun x S2 => (ev con call i s S2).thn s fun k S3 => match setI x k v S3 with
    | some S4 => .next s S4
    | none => .bad
  | .aug i op e, s, S => match s[i]? with
    | some (some x) => (ev con call e s S).thn s fun y S1 => (augE op x y S1).thn s fun z S2 => .next (s.set i (some z)) S2
    | _ => .bad
  | .augF c o f op e, s, S => (ev con call o s S).thn s fun x S1 => match fldE x f S1 with
    | some y => (ev con call e s S1).thn s fun z S2 => (augE op y z S2).thn s fun v S3 => match setF c x f v S3 with
      | some S4 => .next s S4
      | none => .bad
    | none => .bad
  | .augI o i op e, s, S => (ev con call o s S).thn s fun x S1 => (ev con call i s S1).thn s fun k S2 => match ixE x k S2 with
    | some y => (ev con call e s S2).thn s fun z S3 => (augE op y z S3).thn s fun v S4 => match setI x k v S4 with
      | some S5 => .next s S5
      | none => .bad
    | none => .bad
  | .expr e, s, S => (ev con call e s S).thn s fun _ S1 => .next s S1
  | .ret e, s, S => (ev con call e s S).thn s fun d S1 => .ret d S1
  | .retN, _, S => .ret .non S
  | .bad, _, _ => .bad
  | .pass, s, S => .next s S
  | .cont, s, S => .cont s S
  | .ite t a b, s, S => (ev con call t s S).thn s fun d S1 => match d with
    | .bl true => exs a s S1
    | .bl false => exs b s S1
    | _ => .bad
  | .for_ tg k src body, s, S => (evs con call src s S).thn s fun ds S1 => match srcI k ds S1 with
    | some items => forD k ds items (fun d s' S' => match bindT s' d tg with
      | some s2 => exs body s2 S'
      | none => .bad) items s S1
    | none => .bad
  | .whl n t body, s, S => whlD (ev con call t) (exs body) n s S
  | .raise c f e, s, S => (ev con call e s S).thn s fun d S1 => .exc c (f.map fun g => (g, d)) s S1
  | .try_ kn body hs, s, S => match exs body s S with
    | .exc c x s' S' => handle kn c x s' S' hs
    | r => r
def exs : List Sm → Fr → Store → F
  | [], s, S => .next s S
  | t :: l, s, S => match ex t s S with
    | .next s' S' => exs l s' S'
    | r => r
end
end
def start (np nn : Nat) (ds : List D) : Fr := ds.map some ++ List.replicate (nn - np) none
def runF (con : Str → Option D) (call : CallT) (f : Fn) (ds : List D) (S : Store) : R D :=
  if ds.length = f.np then match exs con call f.body (start f.np f.nn ds) S with
    | .ret d S' => .ok d S'
    | .next _ S' => .ok .non S'
    | .exc c x _ S' => .exc c x S'
    | _ => .bad
  else .bad
def callF (con : Str → Option D) (tbl : Str → Option Fn) : Nat → CallT
  | 0, _, _, _ => .bad
  | n + 1, f, ds, S => match tbl f with
    | some fn => runF con (callF con tbl n) fn ds S
    | none => .bad
end Bh

set_option maxHeartbeats 1000000
/-! How the store stands in the heap. -/
namespace Bh
open PySem PySem.Spec PyProof.Rows L2

section
variable (K : PySem.W.Frag) (al : List Addr) (Z : Hp)
mutual
inductive RV : D → V → Prop
  | non : RV .non .non
  | bl (b : Bool) : RV (.bl b) (.bl b)
  | int (i : Int) : RV (.int i) (.int i)
  | str (x : Str) : RV (.str x) (.str x)
  | tup {a : Addr} {vs : List V} {ds : List D} : Z a = some (.tup vs) → RVs ds vs → RV (.tup ds) (.ref a)
  | ctup {a : Addr} {vs : List V} {ds : List D} : SqT K Z a vs → RVs ds vs → RV (.ctup ds) (.ref a)
  | lst {a : Addr} {vs : List V} {ds : List D} : Z a = some (.lst vs) → RVs ds vs → RV (.lst ds) (.ref a)
  | scr {a : Addr} {ns : List Int} : SqL K Z a (ns.map V.int) → RV (.scr ns) (.ref a)
  | dK {a : Addr} {kvs : List (Key × V)} {vs : List D} : Z a = some (.dK kvs) → RVs vs (kvs.map (·.2)) → RV (.dK (kvs.map (·.1)) vs) (.ref a)
  | dH {a : Addr} {kvs : List (List Key × V)} {vs : List D} : Z a = some (.dT kvs) → RVs vs (kvs.map (·.2)) → RV (.dH (kvs.map (·.1)) vs) (.ref a)
  | obj {a dx : Addr} {c : Str} {fs : List (Str × V)} {vs : List D} : Cls K (He.ga K c) → (∀ f ∈ fs.map (·.1), NoAttr K (He.ga K c) f) → Z a = some (.ins (He.ga K c) dx fs) → RVs vs (fs.map (·.2)) → RV (.obj c (fs.map (·.1)) vs) (.ref a)
  | ref {n : Nat} {a : Addr} : al[n]? = some a → RV (.ref n) (.ref a)
  | glo (x : Str) : RV (.glo x) (.ref (He.ga K x))
  | adr (x : Nat) : RV (.adr x) (.ref x)
inductive RVs : List D → List V → Prop
  | nil : RVs [] []
  | cons {d : D} {v : V} {ds : List D} {vs : List V} : RV d v → RVs ds vs → RVs (d :: ds) (v :: vs)
end
end

structure Le (al : List Addr) (Z : Hp) (al' : List Addr) (Z' : Hp) : Prop where
  al : ∃ t, al' = al ++ t
  z : ∀ a o, Z a = some o → Z' a = some o
theorem Le.refl {al : List Addr} {Z : Hp} : Le al Z al Z := ⟨⟨[], by simp⟩, fun _ _ h => h⟩
theorem Le.trans {a1 a2 a3 : List Addr} {Z1 Z2 Z3 : Hp} (x : Le a1 Z1 a2 Z2) (y : Le a2 Z2 a3 Z3) : Le a1 Z1 a3 Z3 := by
  obtain ⟨⟨t, rfl⟩, z⟩ := x
  obtain ⟨⟨u, rfl⟩, z'⟩ := y
  exact ⟨⟨t ++ u, by simp⟩, fun a o h => z' a o (z a o h)⟩
theorem Le.get {al al' : List Addr} {Z Z' : Hp} (x : Le al Z al' Z') {n : Nat} {a : Addr} (h : al[n]? = some a) : al'[n]? = some a := by
  obtain ⟨⟨t, rfl⟩, _⟩ := x
  rw [List.getElem?_append_left (List.getElem?_eq_some_iff.mp h).1]
  exact h
theorem rd_mono {Z Z' : Hp} (h : ∀ a o, Z a = some o → Z' a = some o) {a : Addr} {u : HO} (r : Rd Z a u) : Rd Z' a u := by
  rcases r with r | ⟨o, r⟩
  · exact .inl (h _ _ r)
  · exact .inr ⟨o, h _ _ r⟩
theorem sqT_mono {K : PySem.W.Frag} {Z Z' : Hp} (h : ∀ a o, Z a = some o → Z' a = some o) {a : Addr} {xs : List V} (r : SqT K Z a xs) : SqT K Z' a xs := by
  rcases r with r | r
  · exact .inl (rd_mono h r)
  · exact .inr r
theorem sqL_mono {K : PySem.W.Frag} {Z Z' : Hp} (h : ∀ a o, Z a = some o → Z' a = some o) {a : Addr} {xs : List V} (r : SqL K Z a xs) : SqL K Z' a xs := by
  rcases r with r | r
  · exact .inl (rd_mono h r)
  · exact .inr r
section
variable {K : PySem.W.Frag} {al al' : List Addr} {Z Z' : Hp}
mutual
theorem RV.mono (l : Le al Z al' Z') : ∀ {d : D} {v : V}, RV K al Z d v → RV K al' Z' d v
  | _, _, .non => .non
  | _, _, .bl b => .bl b
  | _, _, .int i => .int i
  | _, _, .str x => .str x
  | _, _, .tup s r => .tup (l.z _ _ s) (RVs.mono l r)
  | _, _, .ctup s r => .ctup (sqT_mono l.z s) (RVs.mono l r)
  | _, _, .lst s r => .lst (l.z _ _ s) (RVs.mono l r)
  | _, _, .scr s => .scr (sqL_mono l.z s)
  | _, _, .dK s r => .dK (l.z _ _ s) (RVs.mono l r)
  | _, _, .dH s r => .dH (l.z _ _ s) (RVs.mono l r)
  | _, _, .obj c n s r => .obj c n (l.z _ _ s) (RVs.mono l r)
  | _, _, .ref h => .ref (l.get h)
  | _, _, .glo x => .glo x
  | _, _, .adr x => .adr x
theorem RVs.mono (l : Le al Z al' Z') : ∀ {ds : List D} {vs : List V}, RVs K al Z ds vs → RVs K al' Z' ds vs
  | _, _, .nil => .nil
  | _, _, .cons r t => .cons (RV.mono l r) (RVs.mono l t)
end
theorem RVs.length : ∀ {ds : List D} {vs : List V}, RVs K al Z ds vs → ds.length = vs.length
  | _, _, .nil => rfl
  | _, _, .cons _ t => by simp [RVs.length t]
theorem RVs.get : ∀ {ds : List D} {vs : List V} {i : Nat} {d : D}, RVs K al Z ds vs → ds[i]? = some d → ∃ v, vs[i]? = some v ∧ RV K al Z d v
  | _, _, _, _, .nil, e => by simp at e
  | _, _, 0, _, .cons r _, e => by simp at e; subst e; exact ⟨_, rfl, r⟩
  | _, _, i + 1, d, .cons _ t, e => by
    obtain ⟨v, h1, h2⟩ := RVs.get (i := i) t (by simpa using e)
    exact ⟨v, by simpa using h1, h2⟩
theorem RVs.get' : ∀ {ds : List D} {vs : List V} {i : Nat} {v : V}, RVs K al Z ds vs → vs[i]? = some v → ∃ d, ds[i]? = some d ∧ RV K al Z d v
  | _, _, _, _, .nil, e => by simp at e
  | _, _, 0, _, .cons r _, e => by simp at e; subst e; exact ⟨_, rfl, r⟩
  | _, _, i + 1, d, .cons _ t, e => by
    obtain ⟨v, h1, h2⟩ := RVs.get' (i := i) t (by simpa using e)
    exact ⟨v, by simpa using h1, h2⟩
theorem RVs.append : ∀ {ds es : List D} {vs us : List V}, RVs K al Z ds vs → RVs K al Z es us → RVs K al Z (ds ++ es) (vs ++ us)
  | _, _, _, _, .nil, h => h
  | _, _, _, _, .cons r t, h => .cons r (RVs.append t h)
theorem RVs.drop : ∀ {ds : List D} {vs : List V} (n : Nat), RVs K al Z ds vs → RVs K al Z (ds.drop n) (vs.drop n)
  | _, _, 0, h => h
  | _, _, _ + 1, .nil => .nil
  | _, _, n + 1, .cons _ t => RVs.drop n t
theorem RVs.take : ∀ {ds : List D} {vs : List V} (n : Nat), RVs K al Z ds vs → RVs K al Z (ds.take n) (vs.take n)
  | _, _, 0, _ => .nil
  | _, _, _ + 1, .nil => .nil
  | _, _, n + 1, .cons r t => .cons r (RVs.take n t)
theorem RVs.set : ∀ {ds : List D} {vs : List V} (n : Nat) {d : D} {v : V}, RV K al Z d v → RVs K al Z ds vs → RVs K al Z (ds.set n d) (vs.set n v)
  | _, _, _, _, _, _, .nil => .nil
  | _, _, 0, _, _, r, .cons _ t => .cons r t
  | _, _, n + 1, _, _, r, .cons q t => .cons q (RVs.set n r t)
theorem RVs.eraseIdx : ∀ {ds : List D} {vs : List V} (n : Nat), RVs K al Z ds vs → RVs K al Z (ds.eraseIdx n) (vs.eraseIdx n)
  | _, _, _, .nil => .nil
  | _, _, 0, .cons _ t => t
  | _, _, n + 1, .cons q t => .cons q (RVs.eraseIdx n t)
theorem RVs.dropLast {ds : List D} {vs : List V} (h : RVs K al Z ds vs) : RVs K al Z ds.dropLast vs.dropLast := by
  rw [List.dropLast_eq_take, List.dropLast_eq_take, h.length]
  exact h.take _
theorem RVs.rep {ds : List D} {vs : List V} (h : RVs K al Z ds vs) : ∀ k : Nat, RVs K al Z (List.replicate k ds).flatten (List.replicate k vs).flatten
  | 0 => .nil
  | k + 1 => by
    rw [List.replicate_succ, List.flatten_cons, List.replicate_succ, List.flatten_cons]
    exact h.append (RVs.rep h k)
end

/-- an object of the store, at its address -/
def OR (K : PySem.W.Frag) (al : List Addr) (Z H : Hp) (a : Addr) : O → Prop
  | .lst l => ∃ vs, H a = some (.lst vs) ∧ RVs K al Z l vs
  | .dK ks vs => ∃ kvs : List (Key × V), H a = some (.dK kvs) ∧ ks = kvs.map (·.1) ∧ RVs K al Z vs (kvs.map (·.2))
  | .dH ks vs => ∃ kvs : List (List Key × V), H a = some (.dT kvs) ∧ ks = kvs.map (·.1) ∧ RVs K al Z vs (kvs.map (·.2))
  | .obj c fs vs => ∃ (dx : Addr) (us : List (Str × V)), H a = some (.ins (He.ga K c) dx us) ∧ fs = us.map (·.1) ∧ RVs K al Z vs (us.map (·.2)) ∧ Cls K (He.ga K c) ∧ ∀ f ∈ fs, NoAttr K (He.ga K c) f
theorem OR.mono {K : PySem.W.Frag} {al al' : List Addr} {Z Z' H H' : Hp} {a : Addr} {o : O} (l : Le al Z al' Z') (h : H' a = H a) (x : OR K al Z H a o) : OR K al' Z' H' a o := by
  cases o with
  | lst d => obtain ⟨vs, e, r⟩ := x; exact ⟨vs, h.trans e, r.mono l⟩
  | dK ks vs => obtain ⟨kvs, e, e2, r⟩ := x; exact ⟨kvs, h.trans e, e2, r.mono l⟩
  | dH ks vs => obtain ⟨kvs, e, e2, r⟩ := x; exact ⟨kvs, h.trans e, e2, r.mono l⟩
  | obj c fs vs => obtain ⟨dx, us, e, e2, r, q⟩ := x; exact ⟨dx, us, h.trans e, e2, r.mono l, q⟩
theorem OR.there {K : PySem.W.Frag} {al : List Addr} {Z H : Hp} {a : Addr} {o : O} (x : OR K al Z H a o) : ∃ u, H a = some u := by
  cases o with
  | lst d => obtain ⟨vs, e, r⟩ := x; exact ⟨_, e⟩
  | dK ks vs => obtain ⟨kvs, e, e2, r⟩ := x; exact ⟨_, e⟩
  | dH ks vs => obtain ⟨kvs, e, e2, r⟩ := x; exact ⟨_, e⟩
  | obj c fs vs => obtain ⟨dx, us, e, e2, r⟩ := x; exact ⟨_, e⟩

/-- the store stands in the heap: al the objects' addresses, Z what never changes, G what is hidden -/
structure StR (K : PySem.W.Frag) (al : List Addr) (Z G : Hp) (S : Store) (H : Hp) : Prop where
  len : al.length = S.length
  zle : ∀ a o, Z a = some o → H a = some o
  gle : ∀ a o, G a = some o → H a = some o
  obj : ∀ (n : Nat) (a : Addr) (o : O), al[n]? = some a → S[n]? = some o → OR K al Z H a o
  zal : ∀ (n : Nat) (a : Addr), al[n]? = some a → Z a = none ∧ G a = none
  inj : ∀ (n m : Nat) (a : Addr), al[n]? = some a → al[m]? = some a → n = m
  zg : ∀ a o, G a = some o → Z a = none
section
variable {K : PySem.W.Frag} {al : List Addr} {Z G H : Hp} {S : Store} {p : Addr} {o : HO}
theorem StR.at (x : StR K al Z G S H) {n : Nat} {o : O} (h : S[n]? = some o) : ∃ a, al[n]? = some a ∧ OR K al Z H a o := by
  have hn : n < al.length := by rw [x.len]; exact (List.getElem?_eq_some_iff.mp h).1
  exact ⟨al[n], List.getElem?_eq_getElem hn, x.obj n _ o (List.getElem?_eq_getElem hn) h⟩
theorem StR.there (x : StR K al Z G S H) {n : Nat} {a : Addr} (h : al[n]? = some a) : ∃ u, H a = some u := by
  have hn : n < S.length := by rw [← x.len]; exact (List.getElem?_eq_some_iff.mp h).1
  exact (x.obj n a _ h (List.getElem?_eq_getElem hn)).there
theorem StR.notal (x : StR K al Z G S H) (hp : H p = none) {n : Nat} : al[n]? ≠ some p := fun h => by
  obtain ⟨u, e⟩ := x.there h
  rw [hp] at e; cases e
theorem StR.zp (x : StR K al Z G S H) (hp : H p = none) : Z p = none := by
  cases e : Z p with
  | none => rfl
  | some o => have := x.zle _ _ e; rw [hp] at this; cases this
theorem StR.gp (x : StR K al Z G S H) (hp : H p = none) : G p = none := by
  cases e : G p with
  | none => rfl
  | some o => have := x.gle _ _ e; rw [hp] at this; cases this
theorem le_upd (hz : Z p = none) : Le al Z al (upd Z p o) := ⟨⟨[], by simp⟩, fun a u h => by rw [upd_ne (ne_of_none h hz)]; exact h⟩
/-- a new thing that never changes -/
theorem StR.newZ (x : StR K al Z G S H) (hp : H p = none) : StR K al (upd Z p o) G S (upd H p o) where
  len := x.len
  zle := fun a u h => by
    by_cases e : a = p
    · subst e; rw [upd_same] at h ⊢; exact h
    · rw [upd_ne e] at h ⊢; exact x.zle _ _ h
  gle := fun a u h => by rw [upd_ne (ne_of_none h (x.gp hp))]; exact x.gle _ _ h
  obj := fun n a u h1 h2 => (x.obj n a u h1 h2).mono (le_upd (x.zp hp)) (upd_ne (fun e => x.notal hp (e ▸ h1)))
  zal := fun n a h => ⟨by rw [upd_ne (fun e => x.notal hp (e ▸ h))]; exact (x.zal n a h).1, (x.zal n a h).2⟩
  inj := x.inj
  zg := fun a u h => by rw [upd_ne (ne_of_none h (x.gp hp))]; exact x.zg a u h
/-- a new thing that is hidden -/
theorem StR.newG (x : StR K al Z G S H) (hp : H p = none) : StR K al Z (upd G p o) S (upd H p o) where
  len := x.len
  zle := fun a u h => by rw [upd_ne (ne_of_none h (x.zp hp))]; exact x.zle _ _ h
  gle := fun a u h => by
    by_cases e : a = p
    · subst e; rw [upd_same] at h ⊢; exact h
    · rw [upd_ne e] at h ⊢; exact x.gle _ _ h
  obj := fun n a u h1 h2 => (x.obj n a u h1 h2).mono Le.refl (upd_ne (fun e => x.notal hp (e ▸ h1)))
  zal := fun n a h => ⟨(x.zal n a h).1, by rw [upd_ne (fun e => x.notal hp (e ▸ h))]; exact (x.zal n a h).2⟩
  inj := x.inj
  zg := fun a u h => by
    by_cases e : a = p
    · subst e; exact x.zp hp
    · rw [upd_ne e] at h; exact x.zg a u h
theorem le_al : Le al Z (al ++ [p]) Z := ⟨⟨[p], rfl⟩, fun _ _ h => h⟩
/-- a new object of the store -/
theorem StR.newS (x : StR K al Z G S H) (hp : H p = none) {q : O} (hq : OR K (al ++ [p]) Z (upd H p o) p q) : StR K (al ++ [p]) Z G (S ++ [q]) (upd H p o) where
  len := by simp [x.len]
  zle := fun a u h => by rw [upd_ne (ne_of_none h (x.zp hp))]; exact x.zle _ _ h
  gle := fun a u h => by rw [upd_ne (ne_of_none h (x.gp hp))]; exact x.gle _ _ h
  obj := fun n a u h1 h2 => by
    by_cases hn : n < al.length
    · rw [List.getElem?_append_left hn] at h1
      rw [List.getElem?_append_left (by rw [← x.len]; exact hn)] at h2
      exact (x.obj n a u h1 h2).mono le_al (upd_ne (fun e => x.notal hp (e ▸ h1)))
    · have e1 : n = al.length := by
        have := (List.getElem?_eq_some_iff.mp h1).1
        simp at this; omega
      subst e1
      rw [List.getElem?_append_right (Nat.le_refl _)] at h1
      rw [x.len, List.getElem?_append_right (Nat.le_refl _)] at h2
      simp at h1 h2
      subst h1 h2
      exact hq
  zal := fun n a h => by
    by_cases hn : n < al.length
    · rw [List.getElem?_append_left hn] at h
      exact x.zal n a h
    · have e1 : n = al.length := by
        have := (List.getElem?_eq_some_iff.mp h).1
        simp at this; omega
      subst e1
      rw [List.getElem?_append_right (Nat.le_refl _)] at h
      simp at h
      subst h
      exact ⟨x.zp hp, x.gp hp⟩
  inj := fun n m a h1 h2 => by
    have key : ∀ k, (al ++ [p])[k]? = some a → (k < al.length ∧ al[k]? = some a) ∨ (k = al.length ∧ a = p) := fun k h => by
      by_cases hk : k < al.length
      · rw [List.getElem?_append_left hk] at h; exact .inl ⟨hk, h⟩
      · have e1 : k = al.length := by
          have := (List.getElem?_eq_some_iff.mp h).1
          simp at this; omega
        subst e1
        rw [List.getElem?_append_right (Nat.le_refl _)] at h
        simp at h
        exact .inr ⟨rfl, h.symm⟩
    rcases key n h1 with ⟨a1, b1⟩ | ⟨a1, b1⟩ <;> rcases key m h2 with ⟨a2, b2⟩ | ⟨a2, b2⟩
    · exact x.inj n m a b1 b2
    · subst b2; exact absurd b1 (x.notal hp)
    · subst b1; exact absurd b2 (x.notal hp)
    · rw [a1, a2]
  zg := x.zg
/-- an object of the store is changed -/
theorem StR.set (x : StR K al Z G S H) {n : Nat} {a : Addr} (ha : al[n]? = some a) {q : O} (hq : OR K al Z (upd H a o) a q) : StR K al Z G (S.set n q) (upd H a o) where
  len := by simp [x.len]
  zle := fun b u h => by rw [upd_ne (fun e => by rw [e, (x.zal n a ha).1] at h; cases h)]; exact x.zle _ _ h
  gle := fun b u h => by rw [upd_ne (fun e => by rw [e, (x.zal n a ha).2] at h; cases h)]; exact x.gle _ _ h
  obj := fun m b u h1 h2 => by
    by_cases e : m = n
    · subst e
      rw [ha] at h1; cases h1
      have hm : m < S.length := by rw [← x.len]; exact (List.getElem?_eq_some_iff.mp ha).1
      rw [List.getElem?_set_self hm] at h2; cases h2
      exact hq
    · rw [List.getElem?_set_ne (Ne.symm e)] at h2
      exact (x.obj m b u h1 h2).mono Le.refl (upd_ne (fun z => e (x.inj m n a (z ▸ h1) ha)))
  zal := x.zal
  inj := x.inj
  zg := x.zg
end

/-! ### frames -/
structure RF (K : PySem.W.Frag) (al : List Addr) (Z : Hp) (s : Fr) (σ : L2.St) : Prop where
  len : s.length = σ.length
  get : ∀ (i : Nat) (d : D), s[i]? = some (some d) → ∃ v, σ[i]? = some (some v) ∧ RV K al Z d v
section
variable {K : PySem.W.Frag} {al al' : List Addr} {Z Z' : Hp} {s : Fr} {σ : L2.St}
theorem RF.mono (l : Le al Z al' Z') (x : RF K al Z s σ) : RF K al' Z' s σ := ⟨x.len, fun i d h => let ⟨v, a, b⟩ := x.get i d h; ⟨v, a, b.mono l⟩⟩
theorem RF.set (x : RF K al Z s σ) {i : Nat} {d : D} {v : V} (r : RV K al Z d v) : RF K al Z (s.set i (some d)) (σ.set i (some v)) := by
  refine ⟨by simp [x.len], fun j e h => ?_⟩
  by_cases hj : i = j
  · subst hj
    by_cases hi : i < s.length
    · rw [List.getElem?_set_self hi] at h
      cases h
      exact ⟨v, by rw [List.getElem?_set_self (by rw [← x.len]; exact hi)], r⟩
    · rw [List.getElem?_eq_none (by simp; omega)] at h; cases h
  · rw [List.getElem?_set_ne hj] at h ⊢
    exact x.get j e h
theorem RF.unset (x : RF K al Z s σ) (i : Nat) : RF K al Z (s.set i none) (σ.set i none) := by
  refine ⟨by simp [x.len], fun j e h => ?_⟩
  by_cases hj : i = j
  · subst hj
    by_cases hi : i < s.length
    · rw [List.getElem?_set_self hi] at h; cases h
    · rw [List.getElem?_eq_none (by simp; omega)] at h; cases h
  · rw [List.getElem?_set_ne hj] at h ⊢
    exact x.get j e h
/-- what is not known of a slot -/
theorem RF.weak (x : RF K al Z s σ) (i : Nat) : RF K al Z (s.set i none) σ := by
  refine ⟨by simp [x.len], fun j e h => ?_⟩
  by_cases hj : i = j
  · subst hj
    by_cases hi : i < s.length
    · rw [List.getElem?_set_self hi] at h; cases h
    · rw [List.getElem?_eq_none (by simp; omega)] at h; cases h
  · rw [List.getElem?_set_ne hj] at h
    exact x.get j e h
end

/-! ### what is wanted of an end -/
/-- an exception's field -/
def XR (K : PySem.W.Frag) (al : List Addr) (Z : Hp) (x : Option (Str × D)) (dd : Option Addr) : Prop := match x with
  | none => dd = none
  | some (f, d) => ∃ a v, dd = some a ∧ Z a = some (.xd [(f, v)]) ∧ RV K al Z d v
section
variable (K : PySem.W.Frag) (G : Hp) (Wx : Str → Option Addr → Hp → Prop)
def PostR {α : Type} (al : List Addr) (Z : Hp) (r : R α) (P : List Addr → Hp → α → Store → Hp → Prop) : Prop := match r with
  | .ok a S => ∀ al' Z' H, Le al Z al' Z' → StR K al' Z' G S H → P al' Z' a S H
  | .exc c x S => ∀ al' Z' H dd, Le al Z al' Z' → StR K al' Z' G S H → XR K al' Z' x dd → Wx c dd H
  | .bad => False
end
section
variable {K : PySem.W.Frag} {G : Hp} {Wx : Str → Option Addr → Hp → Prop} {α β : Type} {al al' : List Addr} {Z Z' : Hp}
theorem PostR.mono {r : R α} {P : List Addr → Hp → α → Store → Hp → Prop} (l : Le al Z al' Z') (h : PostR K G Wx al Z r P) : PostR K G Wx al' Z' r P := by
  cases r with
  | ok a S => exact fun al2 Z2 H l2 st => h al2 Z2 H (l.trans l2) st
  | exc c x S => exact fun al2 Z2 H dd l2 st xr => h al2 Z2 H dd (l.trans l2) st xr
  | bad => exact h
theorem PostR.imp {r : R α} {P P' : List Addr → Hp → α → Store → Hp → Prop} (h : PostR K G Wx al Z r P)
    (f : ∀ al' Z' a S H, r = .ok a S → Le al Z al' Z' → StR K al' Z' G S H → P al' Z' a S H → P' al' Z' a S H) : PostR K G Wx al Z r P' := by
  cases r with
  | ok a S => exact fun al2 Z2 H l2 st => f al2 Z2 a S H rfl l2 st (h al2 Z2 H l2 st)
  | exc c x S => exact h
  | bad => exact h
theorem PostR.bind {r : R α} {f : α → Store → R β} {P : List Addr → Hp → β → Store → Hp → Prop} (h : PostR K G Wx al Z (r.bind f) P) :
    PostR K G Wx al Z r (fun al1 Z1 a S1 _ => PostR K G Wx al1 Z1 (f a S1) P) := by
  cases r with
  | ok a S => exact fun al2 Z2 H l2 st => PostR.mono l2 h
  | exc c x S => exact h
  | bad => exact h
theorem PostR.ok {a : α} {S : Store} {H : Hp} {P : List Addr → Hp → α → Store → Hp → Prop} (h : PostR K G Wx al Z (.ok a S) P) (st : StR K al Z G S H) : P al Z a S H := h al Z H Le.refl st
theorem PostR.ok' {a : α} {S : Store} {H : Hp} {P : List Addr → Hp → α → Store → Hp → Prop} (h : PostR K G Wx al Z (.ok a S) P) (l : Le al Z al' Z') (st : StR K al' Z' G S H) : P al' Z' a S H := h al' Z' H l st
end
end Bh

set_option maxHeartbeats 1000000
/-! Operations on values: the evaluator's and the model's. -/
namespace Bh
open PySem PySem.Spec PyProof.Rows L2

/-- what an operation on values d hands on: wanted of an evaluation's end -/
abbrev WXs := Str → Option Addr → Hp → Prop
def PV (K : PySem.W.Frag) (G : Hp) (Wx : WXs) (al : List Addr) (Z : Hp) (r : R D) (Q : VK) : Prop :=
  PostR K G Wx al Z r (fun al' Z' d _ H' => ∀ v, RV K al' Z' d v → Q v H')
section
variable {K : PySem.W.Frag} {al : List Addr} {Z G H : Hp} {S : Store} {Wx : WXs} {Q : VK}
theorem PV.val {d : D} {v : V} (h : PV K G Wx al Z (.ok d S) Q) (st : StR K al Z G S H) (r : RV K al Z d v) : Q v H := h al Z H Le.refl st v r
theorem PV.ofO {o : Option D} {d : D} {v : V} (h : PV K G Wx al Z (R.ofO S o) Q) (e : o = some d) (st : StR K al Z G S H) (r : RV K al Z d v) : Q v H := by
  subst e; exact h.val st r
theorem PV.ofO_some {o : Option D} (h : PV K G Wx al Z (R.ofO S o) Q) : ∃ d, o = some d := by
  cases o with
  | none => exact False.elim h
  | some d => exact ⟨d, rfl⟩
theorem newL_len {own : Bool} {l : List D} (h : PV K G Wx al Z (newL own l S) Q) : l.length ≤ sizeLine := by
  unfold newL at h
  by_cases e : l.length ≤ sizeLine
  · exact e
  · rw [if_neg e] at h; exact False.elim h
theorem newL_ok {own : Bool} {l : List D} {vs : List V} {p : Addr} (h : PV K G Wx al Z (newL own l S) Q) (st : StR K al Z G S H) (r : RVs K al Z l vs) (hp : H p = none) : Q (.ref p) (upd H p (.lst vs)) := by
  have e := newL_len h
  unfold newL at h
  rw [if_pos e] at h
  cases own with
  | true =>
    have h : PV K G Wx al Z (.ok (.ref S.length) (S ++ [.lst l])) Q := h
    refine h _ _ _ le_al (st.newS hp ⟨vs, upd_same, r.mono le_al⟩) _ (.ref ?_)
    rw [← st.len]
    simp
  | false =>
    have h : PV K G Wx al Z (.ok (.lst l) S) Q := h
    exact h _ _ _ (le_upd (st.zp hp)) (st.newZ hp) _ (.lst upd_same (r.mono (le_upd (st.zp hp))))
theorem newT_ok {l : List D} {vs : List V} {p : Addr} (h : PV K G Wx al Z (.ok (.tup l) S) Q) (st : StR K al Z G S H) (r : RVs K al Z l vs) (hp : H p = none) : Q (.ref p) (upd H p (.tup vs)) :=
  h _ _ _ (le_upd (st.zp hp)) (st.newZ hp) _ (.tup upd_same (r.mono (le_upd (st.zp hp))))
/-- a list by its shape -/
theorem look_lst {d : D} {v : V} {l : List D} (st : StR K al Z G S H) (r : RV K al Z d v) (e : look S d = some (.lst l)) : ∃ a vs, v = .ref a ∧ H a = some (.lst vs) ∧ RVs K al Z l vs := by
  cases r with
  | lst h r => cases e; exact ⟨_, _, rfl, st.zle _ _ h, r⟩
  | ref h =>
    rename_i n a
    obtain ⟨a', h', vs, e1, e2⟩ := st.at (show S[n]? = some (.lst l) from e)
    rw [h] at h'; cases h'
    exact ⟨_, vs, rfl, e1, e2⟩
  | _ => cases e
theorem look_obj {d : D} {v : V} {c : Str} {fs : List Str} {l : List D} (st : StR K al Z G S H) (r : RV K al Z d v) (e : look S d = some (.obj c fs l)) :
    ∃ a dx us, v = .ref a ∧ H a = some (.ins (He.ga K c) dx us) ∧ fs = us.map (·.1) ∧ RVs K al Z l (us.map (·.2)) ∧ Cls K (He.ga K c) ∧ ∀ f ∈ fs, NoAttr K (He.ga K c) f := by
  cases r with
  | obj cl na h r => cases e; exact ⟨_, _, _, rfl, st.zle _ _ h, rfl, r, cl, na⟩
  | ref h =>
    rename_i n a
    obtain ⟨a', h', dx, us, e1, e2, e3⟩ := st.at (show S[n]? = some (.obj c fs l) from e)
    rw [h] at h'; cases h'
    exact ⟨_, dx, us, rfl, e1, e2, e3⟩
  | _ => cases e
theorem look_dK {d : D} {v : V} {ks : List Key} {l : List D} (st : StR K al Z G S H) (r : RV K al Z d v) (e : look S d = some (.dK ks l)) :
    ∃ a kvs, v = .ref a ∧ H a = some (.dK kvs) ∧ ks = kvs.map (·.1) ∧ RVs K al Z l (kvs.map (·.2)) := by
  cases r with
  | dK h r => cases e; exact ⟨_, _, rfl, st.zle _ _ h, rfl, r⟩
  | ref h =>
    rename_i n a
    obtain ⟨a', h', kvs, e1, e2, e3⟩ := st.at (show S[n]? = some (.dK ks l) from e)
    rw [h] at h'; cases h'
    exact ⟨_, kvs, rfl, e1, e2, e3⟩
  | _ => cases e
theorem look_dH {d : D} {v : V} {ks : List (List Key)} {l : List D} (st : StR K al Z G S H) (r : RV K al Z d v) (e : look S d = some (.dH ks l)) :
    ∃ a kvs, v = .ref a ∧ H a = some (.dT kvs) ∧ ks = kvs.map (·.1) ∧ RVs K al Z l (kvs.map (·.2)) := by
  cases r with
  | dH h r => cases e; exact ⟨_, _, rfl, st.zle _ _ h, rfl, r⟩
  | ref h =>
    rename_i n a
    obtain ⟨a', h', kvs, e1, e2, e3⟩ := st.at (show S[n]? = some (.dH ks l) from e)
    rw [h] at h'; cases h'
    exact ⟨_, kvs, rfl, e1, e2, e3⟩
  | _ => cases e
theorem RV.tupI {l : List D} {v : V} (st : StR K al Z G S H) (r : RV K al Z (.tup l) v) : ∃ a vs, v = .ref a ∧ H a = some (.tup vs) ∧ RVs K al Z l vs := by
  cases r with
  | tup h r => exact ⟨_, _, rfl, st.zle _ _ h, r⟩
theorem RV.scrI {l : List Int} {v : V} (st : StR K al Z G S H) (r : RV K al Z (.scr l) v) : ∃ a, v = .ref a ∧ SqL K H a (l.map V.int) := by
  cases r with
  | scr h => exact ⟨_, rfl, sqL_mono st.zle h⟩
theorem RV.intI {i : Int} {v : V} (r : RV K al Z (.int i) v) : v = .int i := by cases r; rfl
theorem RV.blI {i : Bool} {v : V} (r : RV K al Z (.bl i) v) : v = .bl i := by cases r; rfl
theorem RV.strI {i : Str} {v : V} (r : RV K al Z (.str i) v) : v = .str i := by cases r; rfl
theorem RV.nonI {v : V} (r : RV K al Z .non v) : v = .non := by cases r; rfl
end

/-! ### data -/
section
variable {K : PySem.W.Frag} {al : List Addr} {Z G H : Hp} {S : Store}
theorem mapO_dp {n : Nat} (ih : ∀ (d : D) (v : V) (p : PyData), RV K al Z d v → py n S d = some p → Dp K H v p ∧ p.canLay0 = true ∧ p.depth ≤ n) :
    ∀ (l : List D) (vs : List V) (ps : List PyData), RVs K al Z l vs → mapO (py n S) l = some ps → DpAll K H vs ps ∧ PyData.canLayAll0 ps = true ∧ PyData.depthAll ps ≤ n
  | [], vs, ps, r, e => by
    simp [mapO] at e; subst e; cases r; exact ⟨.nil, by simp [PyData.canLayAll0], by simp [PyData.depthAll]⟩
  | d :: l, vs, ps, r, e => by
    simp only [mapO] at e
    split at e
    · rename_i x y h1 h2
      cases e
      cases r with
      | cons r t =>
        obtain ⟨a1, a2, a3⟩ := ih d _ x r h1
        obtain ⟨b1, b2, b3⟩ := mapO_dp ih l _ y t h2
        exact ⟨.cons a1 b1, by simp [PyData.canLayAll0, a2, b2], by simp only [PyData.depthAll]; omega⟩
    · cases e
theorem py_dp (st : StR K al Z G S H) : ∀ (n : Nat) (d : D) (v : V) (p : PyData), RV K al Z d v → py n S d = some p → Dp K H v p ∧ p.canLay0 = true ∧ p.depth ≤ n
  | 0, d, v, p, r, e => by simp [py] at e
  | n + 1, d, v, p, r, e => by
    have ih := mapO_dp (py_dp st n)
    cases d with
    | non => simp [py] at e; subst e; cases r; exact ⟨.non, by simp [PyData.canLay0], by simp [PyData.depth]⟩
    | bl b => simp [py] at e; subst e; cases r; exact ⟨.bl b, by simp [PyData.canLay0], by simp [PyData.depth]⟩
    | int b => simp [py] at e; subst e; cases r; exact ⟨.int b, by simp [PyData.canLay0], by simp [PyData.depth]⟩
    | str b =>
      simp only [py] at e
      split at e
      · rename_i hc
        cases e; cases r; exact ⟨.str b, hc, by simp [PyData.depth]⟩
      · cases e
    | tup l =>
      simp only [py, Option.map_eq_some_iff] at e
      obtain ⟨q, e, rfl⟩ := e
      cases r with
      | tup h r =>
        obtain ⟨a1, a2, a3⟩ := ih l _ q r e
        exact ⟨.tup (.inl (.inl (st.zle _ _ h))) a1, by simpa [PyData.canLay0] using a2, by simp only [PyData.depth]; omega⟩
    | lst l =>
      simp only [py, Option.map_eq_some_iff] at e
      obtain ⟨q, e, rfl⟩ := e
      cases r with
      | lst h r =>
        obtain ⟨a1, a2, a3⟩ := ih l _ q r e
        exact ⟨.lst (.inl (.inl (st.zle _ _ h))) a1, by simpa [PyData.canLay0] using a2, by simp only [PyData.depth]; omega⟩
    | scr l =>
      simp only [py, Option.some.injEq] at e
      subst e
      cases r with
      | scr h =>
        have key : ∀ l : List Int, DpAll K H (l.map V.int) (l.map PyData.int) ∧ PyData.canLayAll0 (l.map PyData.int) = true ∧ PyData.depthAll (l.map PyData.int) ≤ n := by
          intro l
          induction l with
          | nil => exact ⟨.nil, by simp [PyData.canLayAll0], by simp [PyData.depthAll]⟩
          | cons x l ih =>
            obtain ⟨i1, i2, i3⟩ := ih
            exact ⟨.cons (.int x) i1, by simp [PyData.canLayAll0, PyData.canLay0, i2], by simp only [List.map_cons, PyData.depthAll, PyData.depth]; omega⟩
        obtain ⟨a1, a2, a3⟩ := key l
        exact ⟨.lst (sqL_mono st.zle h) a1, by simpa [PyData.canLay0] using a2, by simp only [PyData.depth]; omega⟩
    | ref k =>
      simp only [py] at e
      split at e
      · rename_i l hl
        rw [Option.map_eq_some_iff] at e
        obtain ⟨q, e, rfl⟩ := e
        obtain ⟨a, vs, rfl, h, r'⟩ := look_lst st r hl
        obtain ⟨a1, a2, a3⟩ := ih l _ q r' e
        exact ⟨.lst (.inl (.inl h)) a1, by simpa [PyData.canLay0] using a2, by simp only [PyData.depth]; omega⟩
      · cases e
    | dK _ _ => simp [py] at e
    | dH _ _ => simp [py] at e
    | obj _ _ _ => simp [py] at e
    | ctup _ => simp [py] at e
    | glo _ => simp [py] at e
    | adr _ => simp [py] at e
theorem pys_dp (st : StR K al Z G S H) (n : Nat) (l : List D) (vs : List V) (ps : List PyData) (r : RVs K al Z l vs) (e : mapO (py n S) l = some ps) : DpAll K H vs ps ∧ PyData.canLayAll0 ps = true ∧ PyData.depthAll ps ≤ n :=
  mapO_dp (py_dp st n) l vs ps r e
theorem py_shaped (st : StR K al Z G S H) {d : D} {v : V} {p : PyData} (r : RV K al Z d v) (e : py 40 S d = some p) : Dp K H v p ∧ SeqAt.shaped p = true := by
  obtain ⟨a, b, c⟩ := py_dp st 40 d v p r e
  exact ⟨a, by simp only [SeqAt.shaped, b, Bool.true_and, decide_eq_true_eq]; omega⟩
theorem eqD_ok (st : StR K al Z G S H) {x y : D} {v u : V} {b : Bool} (rx : RV K al Z x v) (ry : RV K al Z y u) (e : eqD S x y = some b) :
    ∃ p q, Dp K H v p ∧ Dp K H u q ∧ SeqAt.shaped p = true ∧ SeqAt.shaped q = true ∧ b = PyData.eqv p q := by
  unfold eqD at e
  split at e
  · rename_i p q h1 h2
    cases e
    obtain ⟨a1, a2⟩ := py_shaped st rx h1
    obtain ⟨b1, b2⟩ := py_shaped st ry h2
    exact ⟨p, q, a1, b1, a2, b2, rfl⟩
  · cases e
end
/-! ### keys -/
section
variable {K : PySem.W.Frag} {al : List Addr} {Z G H : Hp} {S : Store}
theorem keyD_ok {d : D} {v : V} {k : Key} (r : RV K al Z d v) (e : keyD d = some k) : v = kV k ∧ d = kD k := by
  cases d with
  | int i => cases e; cases r; exact ⟨rfl, rfl⟩
  | str i => cases e; cases r; exact ⟨rfl, rfl⟩
  | _ => cases e
theorem keys_ok : ∀ {l : List D} {vs : List V} {ks : List Key}, RVs K al Z l vs → mapO keyD l = some ks → vs = ks.map kV ∧ l = ks.map kD
  | [], _, ks, .nil, e => by simp [mapO] at e; subst e; exact ⟨rfl, rfl⟩
  | d :: l, _, ks, .cons r t, e => by
    simp only [mapO] at e
    split at e
    · rename_i x y h1 h2
      cases e
      obtain ⟨a1, a2⟩ := keyD_ok r h1
      obtain ⟨b1, b2⟩ := keys_ok t h2
      subst a1 a2 b1 b2
      exact ⟨rfl, rfl⟩
    · cases e
/-- a tuple that stands in H by itself -/
theorem getK_val {α : Type} [DecidableEq α] {k : α} : ∀ {kvs : List (α × V)} {vs : List D}, RVs K al Z vs (kvs.map (·.2)) →
    match getK k (kvs.map (·.1)) vs with
    | some d => ∃ v, valV kvs k = some v ∧ RV K al Z d v
    | none => valV kvs k = none
  | [], _, .nil => rfl
  | (a, v) :: kvs, _, .cons r t => by
    simp only [List.map_cons, getK]
    by_cases h : a = k
    · rw [if_pos h, valV_pos (p := (a, v)) h]
      exact ⟨v, rfl, r⟩
    · rw [if_neg h, valV_neg (p := (a, v)) h]
      exact getK_val t
theorem putK_rel {α : Type} [DecidableEq α] {k : α} {d : D} {v : V} (r : RV K al Z d v) {kvs : List (α × V)} {vs : List D} (h : RVs K al Z vs (kvs.map (·.2))) :
    (putK k d (kvs.map (·.1)) vs).1 = (L2.putK kvs k v).map (·.1) ∧ RVs K al Z (putK k d (kvs.map (·.1)) vs).2 ((L2.putK kvs k v).map (·.2)) := by
  have e : ((kvs.map (·.1)).any fun a => decide (a = k)) = (kvs.any fun kv => decide (kv.1 = k)) := by
    rw [List.any_map]; rfl
  unfold putK L2.putK
  rw [e]
  by_cases hc : (kvs.any fun kv => decide (kv.1 = k)) = true
  · rw [if_pos hc, if_pos hc]
    clear hc e
    induction kvs generalizing vs with
    | nil => cases h; exact ⟨rfl, .nil⟩
    | cons p kvs ih =>
      cases h with
      | cons q t =>
        obtain ⟨i1, i2⟩ := ih t
        dsimp only at i1 i2 ⊢
        simp only [List.map_cons, List.zipWith_cons_cons]
        by_cases hk : p.1 = k
        · rw [if_pos hk, if_pos hk]
          exact ⟨by rw [← i1], .cons r i2⟩
        · rw [if_neg hk, if_neg hk]
          exact ⟨by rw [← i1], .cons q i2⟩
  · rw [if_neg hc, if_neg hc]
    refine ⟨by simp, ?_⟩
    simp only [List.map_append]
    exact h.append (.cons r .nil)
theorem putN_rel {f : Str} {d : D} {v : V} (r : RV K al Z d v) : ∀ {us : List (Str × V)} {vs : List D}, RVs K al Z vs (us.map (·.2)) →
    (putN f d (us.map (·.1)) vs).1 = (putF f v us).map (·.1) ∧ RVs K al Z (putN f d (us.map (·.1)) vs).2 ((putF f v us).map (·.2))
  | [], _, .nil => ⟨rfl, .cons r .nil⟩
  | (g, x) :: us, _, .cons q t => by
    obtain ⟨i1, i2⟩ := putN_rel r t
    simp only [List.map_cons, putN, putF]
    by_cases hk : g = f
    · rw [if_pos hk, if_pos hk]
      exact ⟨rfl, .cons r t⟩
    · rw [if_neg hk, if_neg hk]
      exact ⟨by simp [i1], .cons q i2⟩
theorem getK_lookup {f : Str} : ∀ {us : List (Str × V)} {vs : List D} {d : D}, RVs K al Z vs (us.map (·.2)) → getK f (us.map (·.1)) vs = some d → ∃ v, us.lookup f = some v ∧ RV K al Z d v
  | [], _, d, .nil, e => by simp [getK] at e
  | (g, x) :: us, _, d, .cons q t, e => by
    simp only [List.map_cons, getK] at e
    by_cases hk : g = f
    · rw [if_pos hk] at e
      cases e
      subst hk
      exact ⟨x, by simp [List.lookup], q⟩
    · rw [if_neg hk] at e
      obtain ⟨v, h1, h2⟩ := getK_lookup t e
      have hb : (f == g) = false := beq_eq_false_iff_ne.mpr (Ne.symm hk)
      exact ⟨v, by simp only [List.lookup, hb]; exact h1, h2⟩
end
end Bh

set_option maxHeartbeats 1000000
namespace Bh
open PySem PySem.Spec PyProof.Rows L2
def BO.op : BO → Operator
  | .add => .Add | .sub => .Sub | .mul => .Mult | .fdiv => .FloorDiv | .mod => .Mod | .pow => .Pow
def rBin (K : PySem.W.Frag) (op : BO) (own : Bool) : R2 := fun x y H Q => ∃ al Z G S Wx d e, StR K al Z G S H ∧ RV K al Z d x ∧ RV K al Z e y ∧ PV K G Wx al Z (binE op own d e S) Q
theorem small_mul {i : Int} (h : mid i = true) : -(2 ^ 64) < i ∧ i < 2 ^ 64 := by
  simp [mid] at h; omega
theorem op_bin {X : Cx} (op : BO) (own : Bool) : OpR X (binaryOp op.op) (rBin X.K op own) := by
  intro pins s σ H x y v u Q I rx ry h
  obtain ⟨al, Z, G, S, Wx, d, e, st, rd, re, h⟩ := h
  cases op with
  | add =>
    simp only [binE] at h
    split at h
    · rename_i i j
      cases rd; cases re
      exact op_add pins s σ H _ _ v u Q I rx ry ⟨i, j, rfl, rfl, h.val st (.int _)⟩
    · rename_i a b
      cases rd; cases re
      split at h
      · rename_i hz
        exact op_add_str pins s σ H _ _ v u Q I rx ry ⟨a, b, rfl, rfl, hz, h.val st (.str _)⟩
      · exact False.elim h
    · rename_i a b
      split at h
      · rename_i hz
        obtain ⟨pa, va, rfl, sa, ra⟩ := rd.tupI st
        obtain ⟨pb, vb, rfl, sb, rb⟩ := re.tupI st
        have la := ra.length
        have lb := rb.length
        refine op_catA pins s σ H _ _ v u Q I rx ry ⟨pa, pb, va, vb, rfl, rfl, .of sa, .of sb, by omega, fun e0 => ?_, fun _ e0 => ?_, fun _ _ p hp => ?_⟩
        · subst e0
          have ea : a = [] := List.length_eq_zero_iff.mp (by simpa using la)
          subst ea
          exact h.val st re
        · subst e0
          have eb : b = [] := List.length_eq_zero_iff.mp (by simpa using lb)
          subst eb
          rw [List.append_nil] at h
          exact h.val st rd
        · exact newT_ok h st (ra.append rb) hp
      · exact False.elim h
    · split at h
      · rename_i a b h1 h2
        obtain ⟨pa, va, rfl, ha, ra⟩ := look_lst st rd h1
        obtain ⟨pb, vb, rfl, hb, rb⟩ := look_lst st re h2
        have hz := newL_len h
        have la := ra.length
        have lb := rb.length
        rw [List.length_append] at hz
        exact op_cat pins s σ H _ _ v u Q I rx ry ⟨pa, pb, va, vb, rfl, rfl, ha, hb, by omega, fun p hp => newL_ok h st (ra.append rb) hp⟩
      · exact False.elim h
  | sub =>
    simp only [binE] at h
    split at h
    · rename_i i j
      cases rd; cases re
      exact op_sub pins s σ H _ _ v u Q I rx ry ⟨i, j, rfl, rfl, h.val st (.int _)⟩
    · exact False.elim h
  | mul =>
    simp only [binE] at h
    split at h
    · rename_i i j
      cases rd; cases re
      split at h
      · rename_i hz
        refine op_mul pins s σ H _ _ v u Q I rx ry ⟨i, j, rfl, rfl, ?_, h.val st (.int _)⟩
        rcases Bool.or_eq_true_iff.mp hz with hz | hz
        · exact .inl (small_mul hz)
        · exact .inr (small_mul hz)
      · exact False.elim h
    · rename_i k _
      cases re
      split at h
      · rename_i a h1
        split at h
        · rename_i hk
          obtain ⟨pa, va, rfl, ha, ra⟩ := look_lst st rd h1
          have hz := newL_len h
          have la := ra.length
          simp [small] at hk
          refine op_rep pins s σ H _ _ v u Q I rx ry ⟨pa, k, va, rfl, rfl, ha, by omega, by omega, ?_, fun p hp => newL_ok h st (ra.rep k.toNat) hp⟩
          simp at hz
          rw [← la, Nat.mul_comm]
          exact hz
        · exact False.elim h
      · exact False.elim h
    · exact False.elim h
  | fdiv =>
    simp only [binE] at h
    split at h
    · rename_i i j
      cases rd; cases re
      split at h
      · rename_i hz
        simp [small] at hz
        exact op_fdiv pins s σ H _ _ v u Q I rx ry ⟨i, j, rfl, rfl, ⟨hz.1, by omega⟩, h.val st (.int _)⟩
      · exact False.elim h
    · exact False.elim h
  | mod =>
    simp only [binE] at h
    split at h
    · rename_i i j
      cases rd; cases re
      split at h
      · rename_i hz
        exact op_mod pins s σ H _ _ v u Q I rx ry ⟨i, j, rfl, rfl, hz, h.val st (.int _)⟩
      · exact False.elim h
    · exact False.elim h
  | pow =>
    simp only [binE] at h
    split at h
    · rename_i i j
      cases rd; cases re
      split at h
      · rename_i hz
        simp at hz
        exact op_pow pins s σ H _ _ v u Q I rx ry ⟨i, j, rfl, rfl, ⟨hz.1.1, by omega, by have := hz.2; omega⟩, h.val st (.int _)⟩
      · exact False.elim h
    · exact False.elim h
/-- a op= b, ints -/
def rAug (K : PySem.W.Frag) (op : BO) : R2 := fun x y H Q => ∃ al Z G S Wx d e, StR K al Z G S H ∧ RV K al Z d x ∧ RV K al Z e y ∧ PV K G Wx al Z (augE op d e S) Q
theorem op_aug {X : Cx} (op : BO) (hop : op ≠ .pow) : OpR X (inplaceOp op.op) (rAug X.K op) := by
  intro pins s σ H x y v u Q I rx ry h
  obtain ⟨al, Z, G, S, Wx, d, e, st, rd, re, h⟩ := h
  unfold augE at h
  split at h
  · rename_i i j
    cases rd; cases re
    cases op with
    | add =>
      simp only [binE] at h
      exact iop_add pins s σ H _ _ v u Q I rx ry ⟨i, j, rfl, rfl, h.val st (.int _)⟩
    | sub =>
      simp only [binE] at h
      exact iop_sub pins s σ H _ _ v u Q I rx ry ⟨i, j, rfl, rfl, h.val st (.int _)⟩
    | mul =>
      simp only [binE] at h
      split at h
      · rename_i hz
        refine iop_mul pins s σ H _ _ v u Q I rx ry ⟨i, j, rfl, rfl, ?_, h.val st (.int _)⟩
        rcases Bool.or_eq_true_iff.mp hz with hz | hz
        · exact .inl (small_mul hz)
        · exact .inr (small_mul hz)
      · exact False.elim h
    | fdiv =>
      simp only [binE] at h
      split at h
      · rename_i hz
        simp [small] at hz
        exact iop_fdiv pins s σ H _ _ v u Q I rx ry ⟨i, j, rfl, rfl, ⟨hz.1, by omega⟩, h.val st (.int _)⟩
      · exact False.elim h
    | mod =>
      simp only [binE] at h
      split at h
      · rename_i hz
        exact iop_mod pins s σ H _ _ v u Q I rx ry ⟨i, j, rfl, rfl, hz, h.val st (.int _)⟩
      · exact False.elim h
    | pow => exact absurd rfl hop
  · exact False.elim h
end Bh

set_option maxHeartbeats 1000000
namespace Bh
open PySem PySem.Spec PyProof.Rows L2
def CO.op : CO → CmpOp
  | .eq => .Eq | .ne => .NotEq | .lt => .Lt | .le => .LtE | .gt => .Gt | .ge => .GtE | .is => .Is | .isNot => .IsNot | .inn => .In | .notIn => .NotIn
section
variable {K : PySem.W.Frag} {al : List Addr} {Z G H : Hp} {S : Store}
theorem RV.non_iff {d : D} {v : V} (r : RV K al Z d v) : decide (v = .non) = decide (d = .non) := by
  cases r <;> simp
theorem flat_ok {d : D} {v : V} (r : RV K al Z d v) (h : flat d = true) : flatV v = true ∧ ∃ p, py 40 S d = some p ∧ Dp K H v p := by
  cases d with
  | non => cases r; exact ⟨rfl, .none, rfl, .non⟩
  | bl b => cases r; exact ⟨rfl, .bool b, rfl, .bl b⟩
  | int b => cases r; exact ⟨rfl, .int b, rfl, .int b⟩
  | str b =>
    cases r
    have h : PyData.canLay0 (.str b) = true := h
    exact ⟨rfl, .str b, by simp [py, h], .str b⟩
  | _ => exact absurd (show false = true from h) Bool.false_ne_true
theorem flat_eq {d e : D} {v u : V} {b : Bool} (r : RV K al Z d v) (q : RV K al Z e u) (hd : flat d = true) (he : flat e = true) (h : eqD S d e = some b) : eqV v u = b := by
  cases d with
  | non => cases r; cases e with
    | non => cases q; simp [eqD, py, PyData.eqv] at h; subst h; rfl
    | bl _ => cases q; simp [eqD, py, PyData.eqv] at h; subst h; rfl
    | int _ => cases q; simp [eqD, py, PyData.eqv] at h; subst h; rfl
    | str x => cases q; have he : PyData.canLay0 (.str x) = true := he; simp [eqD, py, he, PyData.eqv] at h; subst h; rfl
    | _ => exact absurd (show false = true from he) Bool.false_ne_true
  | bl _ => cases r; cases e with
    | non => cases q; simp [eqD, py, PyData.eqv] at h; subst h; rfl
    | bl _ => cases q; simp [eqD, py, PyData.eqv] at h; subst h; rfl
    | int _ => cases q; simp only [eqD, py, PyData.eqv, Option.some.injEq] at h; exact h
    | str x => cases q; have he : PyData.canLay0 (.str x) = true := he; simp [eqD, py, he, PyData.eqv] at h; subst h; rfl
    | _ => exact absurd (show false = true from he) Bool.false_ne_true
  | int _ => cases r; cases e with
    | non => cases q; simp [eqD, py, PyData.eqv] at h; subst h; rfl
    | bl _ => cases q; simp only [eqD, py, PyData.eqv, Option.some.injEq] at h; exact h
    | int _ => cases q; simp [eqD, py, PyData.eqv] at h; subst h; rfl
    | str x => cases q; have he : PyData.canLay0 (.str x) = true := he; simp [eqD, py, he, PyData.eqv] at h; subst h; rfl
    | _ => exact absurd (show false = true from he) Bool.false_ne_true
  | str y =>
    have hd : PyData.canLay0 (.str y) = true := hd
    cases r; cases e with
    | non => cases q; simp [eqD, py, hd, PyData.eqv] at h; subst h; rfl
    | bl _ => cases q; simp [eqD, py, hd, PyData.eqv] at h; subst h; rfl
    | int _ => cases q; simp [eqD, py, hd, PyData.eqv] at h; subst h; rfl
    | str x => cases q; have he : PyData.canLay0 (.str x) = true := he; simp [eqD, py, he, hd, PyData.eqv] at h; subst h; rfl
    | _ => exact absurd (show false = true from he) Bool.false_ne_true
  | _ => exact absurd (show false = true from hd) Bool.false_ne_true
theorem mem_flat {x : D} {v : V} (rx : RV K al Z x v) (hx : flat x = true) : ∀ {l : List D} {vs : List V} {b : Bool}, RVs K al Z l vs → l.all flat = true → memD S x l = some b → vs.all flatV = true ∧ inV v vs = b
  | [], _, b, .nil, _, e => by simp [memD] at e; subst e; exact ⟨rfl, rfl⟩
  | y :: l, _, b, .cons r t, hl, e => by
    rw [List.all_cons, Bool.and_eq_true_iff] at hl
    simp only [memD] at e
    split at e
    · rename_i b1 b2 h1 h2
      cases e
      obtain ⟨a1, a2⟩ := mem_flat rx hx t hl.2 h2
      refine ⟨by rw [List.all_cons, (flat_ok (S := S) (H := fun _ => none) r hl.1).1, a1]; rfl, ?_⟩
      show List.any _ _ = _
      rw [List.any_cons, flat_eq r rx hl.1 hx h1]
      rw [show List.any _ _ = inV v _ from rfl, a2]
    · cases e
end
/-- a tuple key: not a written one -/
theorem keyT_ok {K : PySem.W.Frag} {al : List Addr} {Z G H : Hp} {S : Store} {d : D} {v : V} {k : List Key} (st : StR K al Z G S H) (r : RV K al Z d v) (e : keyT d = some k) : ∃ b, v = .ref b ∧ H b = some (.tup (k.map kV)) := by
  cases d with
  | tup l =>
    cases r with
    | tup h r =>
      obtain ⟨e1, e2⟩ := keys_ok r e
      subst e1
      exact ⟨_, rfl, st.zle _ _ h⟩
  | _ => cases e
def rCmp (K : PySem.W.Frag) (op : CO) : R2 := fun x y H Q => ∃ al Z G S d e b, StR K al Z G S H ∧ RV K al Z d x ∧ RV K al Z e y ∧ cmpE op d e S = some b ∧ Q (.bl b) H
section
variable {X : Cx} (hu : X.A.units + 70 < cLine)
include hu
theorem op_inN (neg : Bool) : OpR X (compareOp (if neg then .NotIn else .In)) (fun x y H Q => ∃ al Z G S d e b, StR X.K al Z G S H ∧ RV X.K al Z d x ∧ RV X.K al Z e y ∧ inE d e S = some b ∧ Q (.bl (if neg then !b else b)) H) := by
  intro pins s σ H x y v u Q I rx ry h
  obtain ⟨al, Z, G, S, d, e, b, st, rd, re, h, q⟩ := h
  have seqc : ∀ (p : Addr) (vs : List V), y = .ref p → SqT X.K H p vs → flatV x = true → vs.all flatV = true → inV x vs = b → wpAny (model X.prog X.w) X.A (compareOp (if neg then .NotIn else .In) v u) (EP X pins σ Q) X.xe s := by
    intro p vs ey sp f1 f2 f3
    cases neg with
    | false => exact op_in_seq pins s σ H _ _ v u Q I rx ry ⟨p, vs, ey, .inr sp, f1, f2, by rw [f3]; exact q⟩
    | true => exact op_notIn_seq pins s σ H _ _ v u Q I rx ry ⟨p, vs, ey, .inr sp, f1, f2, by rw [f3]; exact q⟩
  unfold inE at h
  split at h
  · rename_i l
    split at h
    · rename_i hf
      rw [Bool.and_eq_true_iff] at hf
      obtain ⟨p, vs, rfl, sp, rv⟩ := re.tupI st
      obtain ⟨m1, m2⟩ := mem_flat rd hf.1 rv hf.2 h
      exact seqc p vs rfl (.of sp) (flat_ok (S := S) (H := H) rd hf.1).1 m1 m2
    · cases h
  · rename_i l
    split at h
    · rename_i hf
      rw [Bool.and_eq_true_iff] at hf
      cases re with
      | ctup sp rv =>
        obtain ⟨m1, m2⟩ := mem_flat rd hf.1 rv hf.2 h
        exact seqc _ _ rfl (sqT_mono st.zle sp) (flat_ok (S := S) (H := H) rd hf.1).1 m1 m2
    · cases h
  · rename_i t
    split at h
    · rename_i w
      split at h
      · rename_i c hc
        cases rd; cases re
        have ew : w = ⟨#[c]⟩ := by
          obtain ⟨cp⟩ := w
          have : cp.toList = [c] := hc
          have e2 : cp = #[c] := by rw [← Array.toList_inj]; exact this
          rw [e2]
        subst ew
        cases h
        cases neg with
        | false => exact op_in_sign pins s σ H _ _ v u Q I rx ry ⟨c, t, rfl, rfl, q⟩
        | true => exact op_notIn_sign pins s σ H _ _ v u Q I rx ry ⟨c, t, rfl, rfl, q⟩
      · cases h
    · cases h
  · split at h
    · rename_i l hl
      split at h
      · rename_i p ps h1 h2
        obtain ⟨a, vs, rfl, ha, rv⟩ := look_lst st re hl
        obtain ⟨d1, d2⟩ := py_shaped st rd h1
        obtain ⟨e1, e2, e3⟩ := pys_dp st 38 l vs ps rv h2
        have hsh : SeqAt.shaped (.list ps) = true := by
          have hd : (PyData.list ps).depth ≤ 64 := by simp only [PyData.depth]; omega
          simp only [SeqAt.shaped, PyData.canLay0, e2, Bool.true_and]
          exact decide_eq_true hd
        cases h
        cases neg with
        | false => exact op_inD (by omega) pins s σ H _ _ v u Q I rx ry ⟨p, ps, d1, .lst (.inl (.inl ha)) e1, d2, hsh, q⟩
        | true => exact op_notInD (by omega) pins s σ H _ _ v u Q I rx ry ⟨p, ps, d1, .lst (.inl (.inl ha)) e1, d2, hsh, q⟩
      · cases h
    · rename_i ks vs hl
      obtain ⟨a, kvs, rfl, ha, rfl, rv⟩ := look_dK st re hl
      rw [Option.map_eq_some_iff] at h
      obtain ⟨k, hk, rfl⟩ := h
      obtain ⟨rfl, rfl⟩ := keyD_ok rd hk
      obtain rfl : u = Value.ref a := ry
      have g := getK_val (k := k) rv
      have eb : (getK k (kvs.map (·.1)) vs).isSome = (valV kvs k).isSome := by
        cases e : getK k (kvs.map (·.1)) vs with
        | none => rw [e] at g; rw [show valV kvs k = none from g]; rfl
        | some d => rw [e] at g; obtain ⟨v', g1, g2⟩ := g; rw [g1]; rfl
      rw [eb] at q
      cases neg with
      | false => exact d_in (o := valV kvs k) (by omega) I (DGet.k ha) rx fun s' I' => ⟨.bl _, H, I', rfl, q⟩
      | true => exact d_notIn (o := valV kvs k) (by omega) I (DGet.k ha) rx fun s' I' => ⟨.bl _, H, I', rfl, q⟩
    · rename_i ks vs hl
      obtain ⟨a, kvs, rfl, ha, rfl, rv⟩ := look_dH st re hl
      rw [Option.map_eq_some_iff] at h
      obtain ⟨k, hk, rfl⟩ := h
      obtain rfl : u = Value.ref a := ry
      obtain ⟨b, eb, hb⟩ := keyT_ok st rd hk
      subst eb
      have g := getK_val (k := k) rv
      have eb : (getK k (kvs.map (·.1)) vs).isSome = (valV kvs k).isSome := by
        cases e : getK k (kvs.map (·.1)) vs with
        | none => rw [e] at g; rw [show valV kvs k = none from g]; rfl
        | some d => rw [e] at g; obtain ⟨v', g1, g2⟩ := g; rw [g1]; rfl
      rw [eb] at q
      cases neg with
      | false => exact d_in (o := valV kvs k) (by omega) I (DGet.t ha hb) rx fun s' I' => ⟨.bl _, H, I', rfl, q⟩
      | true => exact d_notIn (o := valV kvs k) (by omega) I (DGet.t ha hb) rx fun s' I' => ⟨.bl _, H, I', rfl, q⟩
    · cases h
theorem op_cmp (op : CO) : OpR X (compareOp op.op) (rCmp X.K op) := by
  intro pins s σ H x y v u Q I rx ry h
  obtain ⟨al, Z, G, S, d, e, b, st, rd, re, h, q⟩ := h
  have two : ∀ f : Int → Int → Bool, intB f d e = some b → ∃ i j, x = .int i ∧ y = .int j ∧ b = f i j := by
    intro f h
    clear rx ry
    cases d with
    | int i =>
      cases e with
      | int j =>
        cases rd; cases re; cases h
        exact ⟨i, j, rfl, rfl, rfl⟩
      | _ => cases h
    | _ => cases h
  cases op with
  | eq =>
    obtain ⟨p, p', d1, d2, s1, s2, rfl⟩ := eqD_ok st rd re h
    exact op_eqD (by omega) pins s σ H _ _ v u Q I rx ry ⟨p, p', d1, d2, s1, s2, q⟩
  | ne =>
    simp only [cmpE, Option.map_eq_some_iff] at h
    obtain ⟨c, h, rfl⟩ := h
    obtain ⟨p, p', d1, d2, s1, s2, rfl⟩ := eqD_ok st rd re h
    exact op_neD (by omega) pins s σ H _ _ v u Q I rx ry ⟨p, p', d1, d2, s1, s2, q⟩
  | lt => obtain ⟨i, j, rfl, rfl, rfl⟩ := two (fun i j => decide (i < j)) h; exact op_lt pins s σ H _ _ v u Q I rx ry ⟨i, j, rfl, rfl, q⟩
  | le => obtain ⟨i, j, rfl, rfl, rfl⟩ := two (fun i j => decide (i ≤ j)) h; exact op_le pins s σ H _ _ v u Q I rx ry ⟨i, j, rfl, rfl, q⟩
  | gt => obtain ⟨i, j, rfl, rfl, rfl⟩ := two (fun i j => decide (j < i)) h; exact op_gt pins s σ H _ _ v u Q I rx ry ⟨i, j, rfl, rfl, q⟩
  | ge => obtain ⟨i, j, rfl, rfl, rfl⟩ := two (fun i j => decide (j ≤ i)) h; exact op_ge pins s σ H _ _ v u Q I rx ry ⟨i, j, rfl, rfl, q⟩
  | is =>
    simp only [cmpE, isE] at h
    split at h
    · cases re; cases h
      exact op_isN pins s σ H _ _ v u Q I rx ry ⟨rfl, by rw [rd.non_iff]; exact q⟩
    · split at h
      · cases re; cases rd; cases h
        exact op_isBl pins s σ H _ _ v u Q I rx ry ⟨_, _, rfl, rfl, q⟩
      · cases h
    · cases h
  | isNot =>
    simp only [cmpE, Option.map_eq_some_iff] at h
    obtain ⟨c0, h, rfl⟩ := h
    simp only [isE] at h
    split at h
    · cases re; cases h
      exact op_notN pins s σ H _ _ v u Q I rx ry ⟨rfl, by rw [rd.non_iff]; exact q⟩
    · split at h
      · cases re; cases rd; cases h
        exact op_notBl pins s σ H _ _ v u Q I rx ry ⟨_, _, rfl, rfl, q⟩
      · cases h
    · cases h
  | inn => exact op_inN hu false pins s σ H x y v u Q I rx ry ⟨al, Z, G, S, d, e, b, st, rd, re, h, q⟩
  | notIn =>
    simp only [cmpE, Option.map_eq_some_iff] at h
    obtain ⟨c, h, rfl⟩ := h
    exact op_inN hu true pins s σ H x y v u Q I rx ry ⟨al, Z, G, S, d, e, c, st, rd, re, h, q⟩
end
end Bh

set_option maxHeartbeats 1000000
/-! Expressions: readings and rules. -/
namespace Bh
open PySem PySem.Spec PyProof.Rows L2

abbrev wx (K : PySem.W.Frag) (W : WX) (σ : L2.St) : WXs := fun c dd H => W (.ref (He.ga K c)) dd σ H
/-- the constants, the calls, what is wanted of exceptions -/
structure Gx where
  con : Str → Option D
  call : CallT
  W : WX
section
variable (X : Cx) (g : Gx)
abbrev Gx.ev (g : Gx) := Bh.ev g.con g.call
abbrev Gx.evs (g : Gx) := Bh.evs g.con g.call
abbrev PVx (σ : L2.St) (G : Hp) (al : List Addr) (Z : Hp) (r : R D) (Q : VK) : Prop := PV X.K G (wx X.K g.W σ) al Z r Q
abbrev PRx {α : Type} (σ : L2.St) (G : Hp) (al : List Addr) (Z : Hp) (r : R α) (P : List Addr → Hp → α → Store → Hp → Prop) : Prop := PostR X.K G (wx X.K g.W σ) al Z r P
def TB (σ : L2.St) (G : Hp) (al : List Addr) (Z : Hp) (r : R D) (Q : Bool → Hp → Prop) : Prop := PRx X g σ G al Z r (fun _ _ d _ H' => ∃ b, d = .bl b ∧ Q b H')
def tE (e : E) : TE := fun σ H Q => ∃ al Z G s S, StR X.K al Z G S H ∧ RF X.K al Z s σ ∧ PVx X g σ G al Z (g.ev e s S) Q
def tEs (l : List E) : TA := fun σ H Q => ∃ al Z G s S, StR X.K al Z G S H ∧ RF X.K al Z s σ ∧ PRx X g σ G al Z (g.evs l s S) (fun al' Z' ds _ H' => ∀ vs, RVs X.K al' Z' ds vs → Q vs H')
def tT (e : E) : TT := fun σ H Q => ∃ al Z G s S, StR X.K al Z G S H ∧ RF X.K al Z s σ ∧ TB X g σ G al Z (g.ev e s S) Q
def tAll (l : List E) : TT := fun σ H Q => ∃ al Z G s S, StR X.K al Z G S H ∧ RF X.K al Z s σ ∧ TB X g σ G al Z (evAnd g.con g.call l s S) Q
def tAny (l : List E) : TT := fun σ H Q => ∃ al Z G s S, StR X.K al Z G S H ∧ RF X.K al Z s σ ∧ TB X g σ G al Z (evOr g.con g.call l s S) Q
def tOpt (e : Option E) : TO := fun σ H Q => ∃ al Z G s S, StR X.K al Z G S H ∧ RF X.K al Z s σ ∧ PRx X g σ G al Z (evO g.con g.call e s S) (fun _ _ o _ H' => Q o H')
end
theorem PE.wk {X : Cx} {e : Expr} {t t' : TE} (h : PE X e t) (f : ∀ σ H Q, t' σ H Q → t σ H Q) : PE X e t' := ⟨fun pins s σ H Q I q => h.run pins s σ H Q I (f _ _ _ q)⟩
theorem PT.wk {X : Cx} {e : Expr} {t t' : TT} (h : PT X e t) (f : ∀ σ H Q, t' σ H Q → t σ H Q) : PT X e t' := ⟨fun pins s σ H Q I q => h.run pins s σ H Q I (f _ _ _ q)⟩
theorem PW.wk {X : Cx} {e : Expr} {t t' : TT} (h : PW X e t) (f : ∀ σ H Q, t' σ H Q → t σ H Q) : PW X e t' := ⟨fun wh pins s σ H Q I q => h.run wh pins s σ H Q I (f _ _ _ q)⟩
theorem PA.wk {X : Cx} {e : List Expr} {t t' : TA} (h : PA X e t) (f : ∀ σ H Q, t' σ H Q → t σ H Q) : PA X e t' := ⟨fun pos pins s σ H Q I q => h.run pos pins s σ H Q I (f _ _ _ q)⟩
theorem PO.wk {X : Cx} {e : Option Expr} {t t' : TO} (h : PO X e t) (f : ∀ σ H Q, t' σ H Q → t σ H Q) : PO X e t' := ⟨fun pins s σ H Q I q => h.run pins s σ H Q I (f _ _ _ q)⟩

theorem ifT {p q : Prop} (h : p) : (if true = true then p else q) := by rw [if_pos rfl]; exact h
theorem ifF {p q : Prop} (h : q) : (if false = true then p else q) := by rw [if_neg Bool.false_ne_true]; exact h
theorem ofT {p q : Prop} (h : (if true = true then p else q)) : p := by rw [if_pos rfl] at h; exact h
theorem ofF {p q : Prop} (h : (if false = true then p else q)) : q := by rw [if_neg Bool.false_ne_true] at h; exact h
theorem ofO_map {K : PySem.W.Frag} {G : Hp} {Wx : WXs} {al : List Addr} {Z : Hp} {S : Store} {o : Option Bool} {P : List Addr → Hp → D → Store → Hp → Prop} (h : PostR K G Wx al Z (R.ofO S (o.map D.bl)) P) :
    ∃ b, o = some b ∧ PostR K G Wx al Z (.ok (.bl b) S) P := by
  cases o with
  | none => exact False.elim h
  | some b => exact ⟨b, rfl, h⟩
section
variable {X : Cx} {g : Gx} {pos : Pos}
/-- two expressions, then something -/
theorem step2 {a b : E} {σ : L2.St} {H : Hp} {f : Fr → D → D → Store → R D} {P : List Addr → Hp → D → Store → Hp → Prop} {r : V → V → Hp → Prop}
    (hr : ∀ al Z G s S d e v u H, StR X.K al Z G S H → RF X.K al Z s σ → RV X.K al Z d v → RV X.K al Z e u → PRx X g σ G al Z (f s d e S) P → r v u H)
    (h : ∃ al Z G s S, StR X.K al Z G S H ∧ RF X.K al Z s σ ∧ PRx X g σ G al Z ((g.ev a s S).bind fun x S1 => (g.ev b s S1).bind fun y S2 => f s x y S2) P) :
    tE X g a σ H fun x H1 => tE X g b σ H1 fun y H2 => r x y H2 := by
  obtain ⟨al, Z, G, s, S, st, rf, h⟩ := h
  exact ⟨al, Z, G, s, S, st, rf, (PostR.bind h).imp fun al1 Z1 d S1 H1 _ l1 st1 h1 v rv => ⟨al1, Z1, G, s, S1, st1, rf.mono l1,
    (PostR.bind h1).imp fun al2 Z2 d2 S2 H2 _ l2 st2 h2 v2 rv2 => hr al2 Z2 G s S2 d d2 v v2 H2 st2 ((rf.mono l1).mono l2) (rv.mono l2) rv2 h2⟩⟩
theorem step1 {a : E} {σ : L2.St} {H : Hp} {α : Type} {f : Fr → D → Store → R α} {P : List Addr → Hp → α → Store → Hp → Prop} {r : V → Hp → Prop}
    (hr : ∀ al Z G s S d v H, StR X.K al Z G S H → RF X.K al Z s σ → RV X.K al Z d v → PRx X g σ G al Z (f s d S) P → r v H)
    (h : ∃ al Z G s S, StR X.K al Z G S H ∧ RF X.K al Z s σ ∧ PRx X g σ G al Z ((g.ev a s S).bind fun x S1 => f s x S1) P) :
    tE X g a σ H r := by
  obtain ⟨al, Z, G, s, S, st, rf, h⟩ := h
  exact ⟨al, Z, G, s, S, st, rf, (PostR.bind h).imp fun al1 Z1 d S1 H1 _ l1 st1 h1 v rv => hr al1 Z1 G s S1 d v H1 st1 (rf.mono l1) rv h1⟩
theorem pe_bin {a b : Expr} {a' b' : E} {op : BO} {own : Bool} (ha : PE X a (tE X g a')) (hb : PE X b (tE X g b')) : PE X (.BinOp a op.op b pos) (tE X g (.bin op own a' b')) :=
  PE.wk (pe_op (op_bin op own) ha hb) fun σ H Q h => by
    simp only [tE, ev] at h
    exact step2 (f := fun _ x y S => binE op own x y S) (fun al Z G s S d e v u H st rf r1 r2 h => ⟨al, Z, G, S, _, d, e, st, r1, r2, h⟩) h
theorem pe_cmp' {a b : Expr} {a' b' : E} {op : CO} (hu : X.A.units + 70 < cLine) (ha : PE X a (tE X g a')) (hb : PE X b (tE X g b')) (hm : behindInMarks op.op b = false) : PE X (.Compare a [op.op] [b] pos) (tE X g (.cmp op a' b')) :=
  PE.wk (pe_cmpR (op_cmp hu op) ha hb hm) fun σ H Q h => by
    simp only [tE, ev] at h
    exact step2 (f := fun _ x y S => R.ofO S ((cmpE op x y S).map .bl)) (fun al Z G s S d e v u H st rf r1 r2 h => by
      obtain ⟨b, e1, h⟩ := ofO_map h
      exact ⟨al, Z, G, S, d, e, b, st, r1, r2, e1, PV.val h st (.bl _)⟩) h
theorem TB.bl {σ : L2.St} {G : Hp} {al : List Addr} {Z : Hp} {r : R D} {Q : Bool → Hp → Prop} (h : TB X g σ G al Z r Q) : PVx X g σ G al Z r fun x H' => ∃ k, x = .bl k ∧ Q k H' :=
  PostR.imp h fun al' Z' d S' H' _ _ _ ⟨b, e, q⟩ v rv => by subst e; cases rv; exact ⟨b, rfl, q⟩
/-- a test by its value -/
theorem tT_tE {e : E} {σ : L2.St} {H : Hp} {Q : Bool → Hp → Prop} (h : tT X g e σ H Q) : tE X g e σ H fun x H' => ∃ k, x = .bl k ∧ Q k H' := by
  obtain ⟨al, Z, G, s, S, st, rf, h⟩ := h
  exact ⟨al, Z, G, s, S, st, rf, h.bl⟩
theorem pt_cmp' {a b : Expr} {a' b' : E} {op : CO} (hu : X.A.units + 70 < cLine) (ha : PE X a (tE X g a')) (hb : PE X b (tE X g b')) (hm : behindInMarks op.op b = false) : PT X (.Compare a [op.op] [b] pos) (tT X g (.cmp op a' b')) :=
  PT.wk (pt_cmpR (op_cmp hu op) ha hb hm) fun σ H Q h => by
    have h := tT_tE h
    simp only [tE, ev] at h
    exact step2 (f := fun _ x y S => R.ofO S ((cmpE op x y S).map .bl)) (fun al Z G s S d e v u H st rf r1 r2 h => by
      obtain ⟨b, e1, h⟩ := ofO_map h
      exact ⟨al, Z, G, S, d, e, b, st, r1, r2, e1, PV.val h st (.bl _)⟩) h
/-- a op b op' c -/
theorem chain_step {a b c : E} {o1 o2 : CO} {σ : L2.St} {H : Hp} {Q : VK} (h : tE X g (.chain o1 o2 a b c) σ H Q) : tChain (rCmp X.K o1) (rCmp X.K o2) (tE X g a) (tE X g b) (tE X g c) σ H Q := by
  simp only [tE, ev] at h
  refine step2 (f := fun s x y S2 => match cmpE o1 x y S2 with
    | some true => (g.ev c s S2).bind fun z S3 => R.ofO S3 ((cmpE o2 y z S3).map .bl)
    | some false => .ok (.bl false) S2
    | none => .bad) (fun al Z G s S d e v u H st rf r1 r2 h => ?_) h
  cases hc : cmpE o1 d e S with
  | none => rw [hc] at h; exact False.elim h
  | some k =>
    rw [hc] at h
    refine ⟨al, Z, G, S, d, e, k, st, r1, r2, hc, k, rfl, ?_⟩
    cases k with
    | false => exact ifF (PV.val h st (.bl _))
    | true =>
      refine ifT ?_
      exact ⟨al, Z, G, s, S, st, rf, (PostR.bind h).imp fun al1 Z1 z S1 H1 _ l1 st1 h1 w rw' => by
        obtain ⟨b, e1, h1⟩ := ofO_map h1
        exact ⟨al1, Z1, G, S1, e, z, b, st1, r2.mono l1, rw', e1, PV.val h1 st1 (.bl _)⟩⟩
theorem pe_chain' {a b c : Expr} {a' b' c' : E} {o1 o2 : CO} (hu : X.A.units + 70 < cLine) (ha : PE X a (tE X g a')) (hb : PE X b (tE X g b')) (hc : PE X c (tE X g c')) (hm : lastMarks [o1.op, o2.op] [b, c] = false) :
    PE X (.Compare a [o1.op, o2.op] [b, c] pos) (tE X g (.chain o1 o2 a' b' c')) :=
  PE.wk (pe_chain (op_cmp hu o1) (op_cmp hu o2) ha hb hc hm) fun σ H Q h => chain_step h
theorem pt_chain' {a b c : Expr} {a' b' c' : E} {o1 o2 : CO} (hu : X.A.units + 70 < cLine) (ha : PE X a (tE X g a')) (hb : PE X b (tE X g b')) (hc : PE X c (tE X g c')) (hm : lastMarks [o1.op, o2.op] [b, c] = false) :
    PT X (.Compare a [o1.op, o2.op] [b, c] pos) (tT X g (.chain o1 o2 a' b' c')) :=
  PT.wk (pt_chain (op_cmp hu o1) (op_cmp hu o2) ha hb hc hm) fun σ H Q h => chain_step (tT_tE h)

/-! ### and, or, not -/
theorem all_step {e : E} {l : List E} {σ : L2.St} {H : Hp} {Q : Bool → Hp → Prop} (h : tAll X g (e :: l) σ H Q) : tT X g e σ H fun c H1 => if c = true then tAll X g l σ H1 Q else Q false H1 := by
  obtain ⟨al, Z, G, s, S, st, rf, h⟩ := h
  simp only [TB, evAnd] at h
  refine ⟨al, Z, G, s, S, st, rf, (PostR.bind h).imp fun al1 Z1 d S1 H1 _ l1 st1 h1 => ?_⟩
  split at h1
  · exact ⟨true, rfl, ifT ⟨al1, Z1, G, s, S1, st1, rf.mono l1, h1⟩⟩
  · refine ⟨false, rfl, ifF ?_⟩
    obtain ⟨b, e, q⟩ := PostR.ok h1 st1
    cases e
    exact q
  · exact False.elim h1
theorem any_step {e : E} {l : List E} {σ : L2.St} {H : Hp} {Q : Bool → Hp → Prop} (h : tAny X g (e :: l) σ H Q) : tT X g e σ H fun c H1 => if c = true then Q true H1 else tAny X g l σ H1 Q := by
  obtain ⟨al, Z, G, s, S, st, rf, h⟩ := h
  simp only [TB, evOr] at h
  refine ⟨al, Z, G, s, S, st, rf, (PostR.bind h).imp fun al1 Z1 d S1 H1 _ l1 st1 h1 => ?_⟩
  split at h1
  · exact ⟨false, rfl, ifF ⟨al1, Z1, G, s, S1, st1, rf.mono l1, h1⟩⟩
  · refine ⟨true, rfl, ifT ?_⟩
    obtain ⟨b, e, q⟩ := PostR.ok h1 st1
    cases e
    exact q
  · exact False.elim h1
theorem all_nil {σ : L2.St} {H : Hp} {Q : Bool → Hp → Prop} (h : tAll X g [] σ H Q) : Q true H := by
  obtain ⟨al, Z, G, s, S, st, rf, h⟩ := h
  simp only [TB, evAnd] at h
  obtain ⟨b, e, q⟩ := PostR.ok h st
  cases e
  exact q
theorem any_nil {σ : L2.St} {H : Hp} {Q : Bool → Hp → Prop} (h : tAny X g [] σ H Q) : Q false H := by
  obtain ⟨al, Z, G, s, S, st, rf, h⟩ := h
  simp only [TB, evOr] at h
  obtain ⟨b, e, q⟩ := PostR.ok h st
  cases e
  exact q
inductive PTl (X : Cx) (g : Gx) : List Expr → List E → Prop
  | nil : PTl X g [] []
  | cons {e : Expr} {e' : E} {l : List Expr} {l' : List E} : PT X e (tT X g e') → PTl X g l l' → PTl X g (e :: l) (e' :: l')
inductive PEl (X : Cx) (g : Gx) : List Expr → List E → Prop
  | nil : PEl X g [] []
  | cons {e : Expr} {e' : E} {l : List Expr} {l' : List E} : PE X e (tE X g e') → PEl X g l l' → PEl X g (e :: l) (e' :: l')
theorem pw_all {e : Expr} {e' : E} : ∀ {l : List Expr} {l' : List E}, PT X e (tT X g e') → PTl X g l l' → PW X (.BoolOp .And (e :: l) pos) (tAll X g (e' :: l'))
  | [], _, h, .nil => PW.wk (pw_and1 h) fun σ H Q q => by
    obtain ⟨al, Z, G, s, S, st, rf, h⟩ := all_step q
    refine ⟨al, Z, G, s, S, st, rf, PostR.imp h fun al1 Z1 d S1 H1 _ l1 st1 ⟨b, e, q⟩ => ⟨b, e, ?_⟩⟩
    cases b with
    | true => exact all_nil (ofT q)
    | false => exact ofF q
  | _ :: _, _, h, .cons h2 t => PW.wk (pw_and h (pw_all h2 t)) fun σ H Q q => all_step q
theorem pw_any {e : Expr} {e' : E} : ∀ {l : List Expr} {l' : List E}, PT X e (tT X g e') → PTl X g l l' → PW X (.BoolOp .Or (e :: l) pos) (tAny X g (e' :: l'))
  | [], _, h, .nil => PW.wk (pw_or1 h) fun σ H Q q => by
    obtain ⟨al, Z, G, s, S, st, rf, h⟩ := any_step q
    refine ⟨al, Z, G, s, S, st, rf, PostR.imp h fun al1 Z1 d S1 H1 _ l1 st1 ⟨b, e, q⟩ => ⟨b, e, ?_⟩⟩
    cases b with
    | false => exact any_nil (ofF q)
    | true => exact ofT q
  | _ :: _, _, h, .cons h2 t => PW.wk (pw_or h (pw_any h2 t)) fun σ H Q q => any_step q
/-- as values -/
theorem evAnd_bl {con : Str → Option D} {call : CallT} {s : Fr} : ∀ (l : List E) (S : Store) (d : D) (S' : Store), evAnd con call l s S = .ok d S' → ∃ b, d = .bl b
  | [], S, d, S', h => by simp [evAnd] at h; exact ⟨_, h.1.symm⟩
  | e :: l, S, d, S', h => by
    simp only [evAnd] at h
    cases h1 : ev con call e s S with
    | ok x S1 =>
      rw [h1] at h
      simp only [R.bind] at h
      split at h
      · exact evAnd_bl l _ _ _ h
      · cases h; exact ⟨_, rfl⟩
      · cases h
    | exc c x S1 => rw [h1] at h; cases h
    | bad => rw [h1] at h; cases h
theorem evOr_bl {con : Str → Option D} {call : CallT} {s : Fr} : ∀ (l : List E) (S : Store) (d : D) (S' : Store), evOr con call l s S = .ok d S' → ∃ b, d = .bl b
  | [], S, d, S', h => by simp [evOr] at h; exact ⟨_, h.1.symm⟩
  | e :: l, S, d, S', h => by
    simp only [evOr] at h
    cases h1 : ev con call e s S with
    | ok x S1 =>
      rw [h1] at h
      simp only [R.bind] at h
      split at h
      · exact evOr_bl l _ _ _ h
      · cases h; exact ⟨_, rfl⟩
      · cases h
    | exc c x S1 => rw [h1] at h; cases h
    | bad => rw [h1] at h; cases h
def tAllV (X : Cx) (g : Gx) (l : List E) : TE := fun σ H Q => tAll X g l σ H fun b H' => Q (.bl b) H'
def tAnyV (X : Cx) (g : Gx) (l : List E) : TE := fun σ H Q => tAny X g l σ H fun b H' => Q (.bl b) H'
theorem pe_allV {e : Expr} {e' : E} : ∀ {l : List Expr} {l' : List E}, PE X e (tE X g e') → PEl X g l l' → PE X (.BoolOp .And (e :: l) pos) (tAllV X g (e' :: l'))
  | [], _, h, .nil => PE.wk (pe_one h) fun σ H Q q => by
    obtain ⟨al, Z, G, s, S, st, rf, h⟩ := all_step q
    refine ⟨al, Z, G, s, S, st, rf, PostR.imp h.bl fun al1 Z1 d S1 H1 _ l1 st1 f v rv => ?_⟩
    obtain ⟨b, rfl, q⟩ := f v rv
    cases b with
    | true => exact all_nil (ofT q)
    | false => exact ofF q
  | _ :: _, _, h, .cons h2 t => PE.wk (pe_and h (pe_allV h2 t)) fun σ H Q q => by
    have q := tT_tE (all_step q)
    obtain ⟨al, Z, G, s, S, st, rf, h⟩ := q
    refine ⟨al, Z, G, s, S, st, rf, PostR.imp h fun al1 Z1 d S1 H1 _ l1 st1 f v rv => ?_⟩
    exact f v rv
theorem pe_anyV {e : Expr} {e' : E} : ∀ {l : List Expr} {l' : List E}, PE X e (tE X g e') → PEl X g l l' → PE X (.BoolOp .Or (e :: l) pos) (tAnyV X g (e' :: l'))
  | [], _, h, .nil => PE.wk (pe_one h) fun σ H Q q => by
    obtain ⟨al, Z, G, s, S, st, rf, h⟩ := any_step q
    refine ⟨al, Z, G, s, S, st, rf, PostR.imp h.bl fun al1 Z1 d S1 H1 _ l1 st1 f v rv => ?_⟩
    obtain ⟨b, rfl, q⟩ := f v rv
    cases b with
    | false => exact any_nil (ofF q)
    | true => exact ofT q
  | _ :: _, _, h, .cons h2 t => PE.wk (pe_or h (pe_anyV h2 t)) fun σ H Q q => by
    have q := tT_tE (any_step q)
    obtain ⟨al, Z, G, s, S, st, rf, h⟩ := q
    refine ⟨al, Z, G, s, S, st, rf, PostR.imp h fun al1 Z1 d S1 H1 _ l1 st1 f v rv => ?_⟩
    exact f v rv
theorem pe_and' {e : Expr} {e' : E} {l : List Expr} {l' : List E} (h : PE X e (tE X g e')) (t : PEl X g l l') : PE X (.BoolOp .And (e :: l) pos) (tE X g (.and (e' :: l'))) :=
  PE.wk (pe_allV h t) fun σ H Q ⟨al, Z, G, s, S, st, rf, h⟩ => by
    simp only [ev] at h
    refine ⟨al, Z, G, s, S, st, rf, PostR.imp h fun al1 Z1 d S1 H1 e l1 st1 f => ?_⟩
    obtain ⟨b, rfl⟩ := evAnd_bl _ _ _ _ e
    exact ⟨b, rfl, f _ (.bl b)⟩
theorem pe_or' {e : Expr} {e' : E} {l : List Expr} {l' : List E} (h : PE X e (tE X g e')) (t : PEl X g l l') : PE X (.BoolOp .Or (e :: l) pos) (tE X g (.or (e' :: l'))) :=
  PE.wk (pe_anyV h t) fun σ H Q ⟨al, Z, G, s, S, st, rf, h⟩ => by
    simp only [ev] at h
    refine ⟨al, Z, G, s, S, st, rf, PostR.imp h fun al1 Z1 d S1 H1 e l1 st1 f => ?_⟩
    obtain ⟨b, rfl⟩ := evOr_bl _ _ _ _ e
    exact ⟨b, rfl, f _ (.bl b)⟩
theorem pt_and' {e : Expr} {e' : E} {l : List Expr} {l' : List E} (h : PT X e (tT X g e')) (t : PTl X g l l') : PT X (.BoolOp .And (e :: l) pos) (tT X g (.and (e' :: l'))) :=
  PT.wk (pw_all h t).pt fun σ H Q ⟨al, Z, G, s, S, st, rf, h⟩ => ⟨al, Z, G, s, S, st, rf, by simpa only [ev] using h⟩
theorem pt_or' {e : Expr} {e' : E} {l : List Expr} {l' : List E} (h : PT X e (tT X g e')) (t : PTl X g l l') : PT X (.BoolOp .Or (e :: l) pos) (tT X g (.or (e' :: l'))) :=
  PT.wk (pw_any h t).pt fun σ H Q ⟨al, Z, G, s, S, st, rf, h⟩ => ⟨al, Z, G, s, S, st, rf, by simpa only [ev] using h⟩
theorem pt_not' {e : Expr} {e' : E} (h : PT X e (tT X g e')) : PT X (.UnaryOp .Not e pos) (tT X g (.not e')) :=
  PT.wk (pt_not h) fun σ H Q ⟨al, Z, G, s, S, st, rf, h⟩ => by
    simp only [TB, ev] at h
    refine ⟨al, Z, G, s, S, st, rf, (PostR.bind h).imp fun al1 Z1 d S1 H1 e l1 st1 f => ?_⟩
    split at f
    · rename_i b
      obtain ⟨b', e', q⟩ := PostR.ok f st1
      cases e'
      exact ⟨b, rfl, q⟩
    · exact False.elim f
theorem pe_not' {e : Expr} {e' : E} (h : PE X e (tE X g e')) : PE X (.UnaryOp .Not e pos) (tE X g (.not e')) :=
  PE.wk (pe_not h) fun σ H Q h => by
    simp only [tE, ev] at h
    refine step1 (f := fun _ (x : D) S1 => match x with
      | D.bl b => R.ok (D.bl (!b)) S1
      | _ => R.bad) (fun al Z G s S d v H st rf r h => ?_) h
    split at h
    · cases r
      exact ⟨_, rfl, PV.val h st (.bl _)⟩
    · exact False.elim h
theorem pe_ife {c a b : Expr} {c' a' b' : E} (hc : PT X c (tT X g c')) (ha : PE X a (tE X g a')) (hb : PE X b (tE X g b')) : PE X (.IfExp c a b pos) (tE X g (.ife c' a' b')) :=
  PE.wk (pe_ifExp hc ha hb) fun σ H Q ⟨al, Z, G, s, S, st, rf, h⟩ => by
    simp only [ev] at h
    refine ⟨al, Z, G, s, S, st, rf, (PostR.bind h).imp fun al1 Z1 d S1 H1 e l1 st1 f => ?_⟩
    split at f
    · exact ⟨true, rfl, ifT ⟨al1, Z1, G, s, S1, st1, rf.mono l1, f⟩⟩
    · exact ⟨false, rfl, ifF ⟨al1, Z1, G, s, S1, st1, rf.mono l1, f⟩⟩
    · exact False.elim f
theorem pe_neg {a : Expr} {a' : E} (ha : PE X a (tE X g a')) : PE X (.UnaryOp .USub a pos) (tE X g (.neg a')) :=
  PE.wk (pe_un un_neg ha) fun σ H Q h => by
    simp only [tE, ev] at h
    refine step1 (f := fun _ (x : D) S1 => match x with
      | D.int i => R.ok (D.int (-i)) S1
      | _ => R.bad) (fun al Z G s S d v H st rf r h => ?_) h
    split at h
    · cases r
      exact ⟨_, rfl, PV.val h st (.int _)⟩
    · exact False.elim h
/-- any other expression as a test -/
theorem pt_val' {e : Expr} {e' : E} (h : PE X e (tE X g e')) (he : ∀ whole, isTrue e X.env whole = (do let v ← whole; standAt e.pos; holding [v] (truthy v))) : PT X e (tT X g e') :=
  PT.wk (pt_val h he) fun σ H Q q => tT_tE q

/-! ### names, constants -/
theorem pe_var' {i : Nat} {x : Str} (hN : X.N[i]? = some x) (hv : Vis X.env.scope x) (hd : (x == ("__debug__" : Str)) = false) (hcd : (x == ("__classdict__" : Str)) = false) : PE X (.Name x pos) (tE X g (.var i)) :=
  PE.wk (pe_var hN hv hd hcd) fun σ H Q ⟨al, Z, G, s, S, st, rf, h⟩ => by
    simp only [ev] at h
    split at h
    · rename_i d hs
      obtain ⟨v, e, r⟩ := rf.get i d hs
      exact ⟨v, e, PV.val h st r⟩
    · exact False.elim h
theorem pe_int' {i j} : PE X (.Constant (.int i) j pos) (tE X g (.int i)) := PE.wk pe_int fun σ H Q ⟨al, Z, G, s, S, st, rf, h⟩ => by
  simp only [ev] at h; exact PV.val h st (.int i)
theorem pe_bl' {i j} : PE X (.Constant (.bool i) j pos) (tE X g (.bl i)) := PE.wk pe_bl fun σ H Q ⟨al, Z, G, s, S, st, rf, h⟩ => by
  simp only [ev] at h; exact PV.val h st (.bl i)
theorem pe_str' {i j} : PE X (.Constant (.str i) j pos) (tE X g (.str i)) := PE.wk pe_str fun σ H Q ⟨al, Z, G, s, S, st, rf, h⟩ => by
  simp only [ev] at h; exact PV.val h st (.str i)
theorem pe_non' {j} : PE X (.Constant .none j pos) (tE X g .non) := PE.wk pe_non fun σ H Q ⟨al, Z, G, s, S, st, rf, h⟩ => by
  simp only [ev] at h; exact PV.val h st .non
def ConOk (X : Cx) (con : Str → Option D) : Prop := ∀ x d, con x = some d → ∃ u v, X.mg x = some u ∧ RelV v u ∧ ∀ al Z, RV X.K al Z d v
theorem pe_con' {x : Str} {d : D} (hc : ConOk X g.con) (he : g.con x = some d) (hg : Gl X x) (hd : (x == ("__debug__" : Str)) = false) : PE X (.Name x pos) (tE X g (.con x)) := by
  obtain ⟨u, v, hm, rv, rd⟩ := hc x d he
  exact PE.wk (pe_glob hg hm rv hd) fun σ H Q ⟨al, Z, G, s, S, st, rf, h⟩ => by
    simp only [ev] at h
    exact PV.ofO h he st (rd al Z)

/-! ### argument lists, displays -/
theorem args_step {e : E} {l : List E} {σ : L2.St} {H : Hp} {Q : List V → Hp → Prop} (h : tEs X g (e :: l) σ H Q) : tE X g e σ H fun x H1 => tEs X g l σ H1 fun xs H2 => Q (x :: xs) H2 := by
  obtain ⟨al, Z, G, s, S, st, rf, h⟩ := h
  simp only [evs] at h
  exact ⟨al, Z, G, s, S, st, rf, (PostR.bind h).imp fun al1 Z1 d S1 H1 _ l1 st1 h1 v rv => ⟨al1, Z1, G, s, S1, st1, rf.mono l1,
    (PostR.bind h1).imp fun al2 Z2 ds S2 H2 _ l2 st2 h2 vs rvs => PostR.ok h2 st2 _ (.cons (rv.mono l2) rvs)⟩⟩
def notStar : Expr → Bool
  | .Starred _ _ => false
  | _ => true
theorem star_of {e : Expr} (h : notStar e = true) (es : List Expr) (env : Env) : starEach (e :: es) env = (false, eval e env) :: starEach es env := by
  cases e <;> first | rfl | exact absurd h (by simp [notStar])
inductive PAl (X : Cx) (g : Gx) : List Expr → List E → Prop
  | nil : PAl X g [] []
  | cons {e : Expr} {e' : E} {l : List Expr} {l' : List E} : PE X e (tE X g e') → notStar e = true → PAl X g l l' → PAl X g (e :: l) (e' :: l')
theorem pa_of : ∀ {l : List Expr} {l' : List E}, PAl X g l l' → PA X l (tEs X g l')
  | _, _, .nil => PA.wk pa_nil fun σ H Q ⟨al, Z, G, s, S, st, rf, h⟩ => by
    simp only [evs] at h
    exact PostR.ok h st _ .nil
  | _, _, .cons h hs t => PA.wk (pa_cons h (pa_of t) (star_of hs _ _)) fun σ H Q q => args_step q
theorem noStars : ∀ {l : List Expr} {l' : List E}, PAl X g l l' → ∀ p : Pos, (backTo p (starEach l X.env)).any (·.1) = false
  | _, _, .nil, p => rfl
  | _, _, .cons h hs t, p => by
    rw [star_of hs]
    show (false || (backTo p (starEach _ X.env)).any (·.1)) = false
    rw [Bool.false_or]
    exact noStars t p
theorem pe_tup' {es : List Expr} {l : List E} {x1} (h : PAl X g es l) : PE X (.Tuple es x1 pos) (tE X g (.tup l)) :=
  PE.wk (pe_tup (pa_of h)) fun σ H Q ⟨al, Z, G, s, S, st, rf, h⟩ => by
    simp only [ev] at h
    refine ⟨al, Z, G, s, S, st, rf, (PostR.bind h).imp fun al1 Z1 ds S1 H1 _ l1 st1 h1 vs rvs => ?_⟩
    split at h1
    · rename_i hz
      exact ⟨by rw [← rvs.length]; exact hz, fun p hp => newT_ok h1 st1 rvs hp⟩
    · exact False.elim h1
theorem pe_lst' {es : List Expr} {l : List E} {own : Bool} (h : PAl X g es l) : PE X (.List es pos) (tE X g (.lst own l)) :=
  PE.wk (pe_lst (pa_of h)) fun σ H Q ⟨al, Z, G, s, S, st, rf, h⟩ => by
    simp only [ev] at h
    refine ⟨al, Z, G, s, S, st, rf, (PostR.bind h).imp fun al1 Z1 ds S1 H1 _ l1 st1 h1 vs rvs => ?_⟩
    exact ⟨by rw [← rvs.length]; exact newL_len h1, fun p hp => newL_ok h1 st1 rvs hp⟩
end
end Bh

set_option maxHeartbeats 1000000
/-! Subscripts, slices, fields, built-in functions and methods. -/
namespace Bh
open PySem PySem.Spec PyProof.Rows L2
section
variable {K : PySem.W.Frag} {al : List Addr} {Z G H : Hp} {S : Store}
theorem atI_rel {l : List D} {vs : List V} {k : Int} {d : D} (r : RVs K al Z l vs) (h : atI l k = some d) : ∃ v, atI vs k = some v ∧ RV K al Z d v := by
  unfold atI at h ⊢
  rw [← r.length]
  cases e : ixN l.length k with
  | none => rw [e] at h; cases h
  | some j =>
    rw [e] at h
    exact r.get h
end
def rIxE (K : PySem.W.Frag) : R2 := fun x y H Q => ∃ al Z G S d e r, StR K al Z G S H ∧ RV K al Z d x ∧ RV K al Z e y ∧ ixE d e S = some r ∧ ∀ v, RV K al Z r v → Q v H
theorem ix_ok {X : Cx} (hu : X.A.units + 70 < cLine) : IxR X (rIxE X.K) := by
  intro value slice pins s σ H x y v u Q I rx ry h hs
  obtain ⟨al, Z, G, S, d, e, r, st, rd, re, h, q⟩ := h
  unfold ixE at h
  split at h
  · rename_i l
    split at h
    · rename_i k
      cases re
      obtain ⟨a, vs, rfl, ha, rv⟩ := rd.tupI st
      obtain ⟨w, hw, rw'⟩ := atI_rel rv h
      exact ix_tup value slice pins s σ H _ _ v u Q I rx ry ⟨a, vs, k, w, rfl, rfl, .of ha, hw, q w rw'⟩ hs
    · cases h
  · rename_i l
    split at h
    · rename_i k
      cases re
      obtain ⟨a, rfl, ha⟩ := rd.scrI st
      rw [Option.map_eq_some_iff] at h
      obtain ⟨i, hi, rfl⟩ := h
      refine ix_list value slice pins s σ H _ _ v u Q I rx ry ⟨a, l.map V.int, k, .int i, rfl, rfl, ha, ?_, q _ (.int i)⟩ hs
      unfold atI at hi ⊢
      rw [List.length_map]
      cases e : ixN l.length k with
      | none => rw [e] at hi; cases hi
      | some j =>
        rw [e] at hi
        show (l.map V.int)[j]? = _
        rw [List.getElem?_map, show l[j]? = some i from hi]
        rfl
    · cases h
  · rename_i t
    split at h
    · rename_i k
      cases re; cases rd
      split at h
      · rename_i hz
        rw [Option.map_eq_some_iff] at h
        obtain ⟨c, hc, rfl⟩ := h
        exact ix_str value slice pins s σ H _ _ v u Q I rx ry ⟨t, k, c, rfl, rfl, hz, hc, q _ (.str _)⟩ hs
      · cases h
    · cases h
  · split at h
    · rename_i l hl
      split at h
      · rename_i k
        cases re
        obtain ⟨a, vs, rfl, ha, rv⟩ := look_lst st rd hl
        obtain ⟨w, hw, rw'⟩ := atI_rel rv h
        exact ix_list value slice pins s σ H _ _ v u Q I rx ry ⟨a, vs, k, w, rfl, rfl, .of ha, hw, q w rw'⟩ hs
      · cases h
    · rename_i ks vs hl
      obtain ⟨a, kvs, rfl, ha, rfl, rv⟩ := look_dK st rd hl
      rw [Option.bind_eq_some_iff] at h
      obtain ⟨k, hk, h⟩ := h
      obtain ⟨rfl, rfl⟩ := keyD_ok re hk
      have g := getK_val (k := k) rv
      rw [h] at g
      obtain ⟨w, g1, g2⟩ := g
      obtain rfl : v = Value.ref a := rx
      have gg : DGet H a (kV k) (some w) := by rw [← g1]; exact DGet.k ha
      exact tail_any (dict_typeIs I gg) PySem.F.slot_dict_getitem.lookup (d_getItem (by omega) I gg ry fun w' s' I' r' => ⟨w, H, I', r', q w g2⟩) hs
    · rename_i ks vs hl
      obtain ⟨a, kvs, rfl, ha, rfl, rv⟩ := look_dH st rd hl
      rw [Option.bind_eq_some_iff] at h
      obtain ⟨k, hk, h⟩ := h
      obtain ⟨b, rfl, hb⟩ := keyT_ok st re hk
      have g := getK_val (k := k) rv
      rw [h] at g
      obtain ⟨w, g1, g2⟩ := g
      obtain rfl : v = Value.ref a := rx
      have gg : DGet H a (.ref b) (some w) := by rw [← g1]; exact DGet.t ha hb
      exact tail_any (dict_typeIs I gg) PySem.F.slot_dict_getitem.lookup (d_getItem (by omega) I gg ry fun w' s' I' r' => ⟨w, H, I', r', q w g2⟩) hs
    · cases h
def rSlE (K : PySem.W.Frag) (own : Bool) : V → Option Int → Option Int → Hp → VK → Prop := fun x lo hi H Q => ∃ al Z G S Wx d, StR K al Z G S H ∧ RV K al Z d x ∧ PV K G Wx al Z (sliceE own d lo hi S) Q
theorem sIx_eq {n m : Nat} (h : n = m) (d : Nat) (o : Option Int) : HT.sIx n d o = HT.sIx m d o := by rw [h]
theorem sl_ok {X : Cx} (own : Bool) : SlR X (rSlE X.K own) := by
  intro pins s σ H x v vl vu lo hi sl Q I rx hsl pl pu h
  obtain ⟨al, Z, G, S, Wx, d, st, rd, h⟩ := h
  unfold sliceE at h
  split at h
  · rename_i l
    have rd0 := rd
    obtain ⟨a, vs, rfl, ha, rv⟩ := rd.tupI st
    have le := rv.length
    refine sl_tupA pins s σ H _ v vl vu lo hi sl Q I rx hsl pl pu ⟨a, vs, rfl, .of ha, fun hw => ?_, fun hw p hp => ?_⟩
    · have e : cutD l lo hi = l := by
        unfold cutD
        rw [le, hw.1, hw.2, List.drop_zero, ← le]
        exact List.take_of_length_le (by omega)
      rw [e] at h
      exact PV.val h st rd0
    · refine newT_ok h st ?_ hp
      unfold cutD cutV
      rw [le]
      exact (rv.drop _).take _
  · split at h
    · rename_i l hl
      obtain ⟨a, vs, rfl, ha, rv⟩ := look_lst st rd hl
      have le := rv.length
      refine sl_list pins s σ H _ v vl vu lo hi sl Q I rx hsl pl pu ⟨a, vs, rfl, .of ha, fun p hp => newL_ok h st ?_ hp⟩
      unfold cutD cutV
      rw [le]
      exact (rv.drop _).take _
    · exact False.elim h
section
variable {X : Cx} {g : Gx} {pos : Pos}
theorem pe_ix' {a b : Expr} {a' b' : E} (hu : X.A.units + 70 < cLine) (ha : PE X a (tE X g a')) (hb : PE X b (tE X g b')) (hs : PlainIx b) : PE X (.Subscript a b pos) (tE X g (.ix a' b')) :=
  PE.wk (pe_ix (ix_ok hu) ha hb hs) fun σ H Q h => by
    simp only [tE, ev] at h
    exact step2 (f := fun _ x y S => R.ofO S (ixE x y S)) (fun al Z G s S d e v u H st rf r1 r2 h => by
      obtain ⟨r, e1⟩ := PV.ofO_some h
      exact ⟨al, Z, G, S, d, e, r, st, r1, r2, e1, fun w rw' => PV.ofO h e1 st rw'⟩) h
theorem po_some' {e : Expr} {e' : E} (h : PE X e (tE X g e')) : PO X (some e) (tOpt X g (some e')) :=
  PO.wk (po_some h) fun σ H Q ⟨al, Z, G, s, S, st, rf, h⟩ => by
    simp only [evO] at h
    refine ⟨al, Z, G, s, S, st, rf, (PostR.bind h).imp fun al1 Z1 d S1 H1 _ l1 st1 h1 v rv => ?_⟩
    split at h1
    · cases rv
      exact ⟨_, rfl, PostR.ok h1 st1⟩
    · exact False.elim h1
theorem po_none' : PO X none (tOpt X g none) :=
  PO.wk po_none fun σ H Q ⟨al, Z, G, s, S, st, rf, h⟩ => by
    simp only [evO] at h
    exact PostR.ok h st
theorem pe_slice' {e : Expr} {lo hi : Option Expr} {e' : E} {lo' hi' : Option E} {own : Bool} {p2 : Pos} (he : PE X e (tE X g e')) (hl : PO X lo (tOpt X g lo')) (hh : PO X hi (tOpt X g hi')) : PE X (.Subscript e (.Slice lo hi none p2) pos) (tE X g (.slice own e' lo' hi')) :=
  PE.wk (pe_slice (sl_ok own) he hl hh) fun σ H Q ⟨al, Z, G, s, S, st, rf, h⟩ => by
    simp only [ev] at h
    exact ⟨al, Z, G, s, S, st, rf, (PostR.bind h).imp fun al1 Z1 d S1 H1 _ l1 st1 h1 v rv => ⟨al1, Z1, G, s, S1, st1, rf.mono l1,
      (PostR.bind h1).imp fun al2 Z2 o S2 H2 _ l2 st2 h2 => ⟨al2, Z2, G, s, S2, st2, (rf.mono l1).mono l2,
        (PostR.bind h2).imp fun al3 Z3 o2 S3 H3 _ l3 st3 h3 => ⟨al3, Z3, G, S3, _, d, st3, (rv.mono l2).mono l3, h3⟩⟩⟩⟩
theorem pe_fld' {e : Expr} {e' : E} {f : Str} (he : PE X e (tE X g e')) (hb : attributeBase e f X.env (eval e X.env) = eval e X.env) : PE X (.Attribute e f pos) (tE X g (.fld e' f)) :=
  PE.wk (pe_fld he hb) fun σ H Q h => by
    simp only [tE, ev] at h
    refine step1 (f := fun _ x S1 => R.ofO S1 (fldE x f S1)) (fun al Z G s S d v H st rf r h => ?_) h
    obtain ⟨w, e1⟩ := PV.ofO_some h
    have e2 := e1
    unfold fldE at e2
    split at e2
    · rename_i c fs vs hl
      obtain ⟨a, dx, us, rfl, ha, rfl, rv, cl, na⟩ := look_obj st r hl
      obtain ⟨u, g1, g2⟩ := getK_lookup rv e2
      have hm : f ∈ us.map (·.1) := by
        have := PySem.mem_of_lookup g1
        exact List.mem_map.mpr ⟨_, this, rfl⟩
      exact ⟨a, _, dx, us, u, rfl, ha, cl, na f hm, g1, PV.ofO h e1 st g2⟩
    · cases e2
end

/-! ### built-in functions -/
section
variable {K : PySem.W.Frag} {al : List Addr} {Z G H : Hp} {S : Store}
theorem bools_rel : ∀ {l : List D} {vs : List V} {bs : List Bool}, RVs K al Z l vs → boolsD l = some bs → vs = bs.map V.bl
  | [], _, bs, .nil, e => by simp [boolsD] at e; subst e; rfl
  | d :: l, _, bs, .cons r t, e => by
    cases d with
    | bl b =>
      simp only [boolsD, Option.map_eq_some_iff] at e
      obtain ⟨bs', e, rfl⟩ := e
      cases r
      rw [bools_rel t e]
      rfl
    | _ => cases e
theorem ints_rel : ∀ {l : List D} {vs : List V} {bs : List Int}, RVs K al Z l vs → intsD l = some bs → vs = bs.map V.int
  | [], _, bs, .nil, e => by simp [intsD] at e; subst e; rfl
  | d :: l, _, bs, .cons r t, e => by
    cases d with
    | int b =>
      simp only [intsD, Option.map_eq_some_iff] at e
      obtain ⟨bs', e, rfl⟩ := e
      cases r
      rw [ints_rel t e]
      rfl
    | _ => cases e
end
def rBi (K : PySem.W.Frag) (f : BF) (own : Bool) : List V → Hp → VK → Prop := fun vs H Q => ∃ al Z G S Wx ds, StR K al Z G S H ∧ RVs K al Z ds vs ∧ PV K G Wx al Z (biE f own ds S) Q
theorem ofO_mapD {K : PySem.W.Frag} {G : Hp} {Wx : WXs} {al : List Addr} {Z : Hp} {S : Store} {α : Type} {o : Option α} {f : α → D} {Q : VK} (h : PV K G Wx al Z (R.ofO S (o.map f)) Q) :
    ∃ b, o = some b ∧ PV K G Wx al Z (.ok (f b) S) Q := by
  cases o with
  | none => exact False.elim h
  | some b => exact ⟨b, rfl, h⟩
theorem sum_tup {X : Cx} (hc : X.calm = true) : CallR X (.builtin "sum") (fun vs H Q => ∃ (a : Addr) (ns : List Int), vs = [V.ref a] ∧ SqT X.K H a (ns.map V.int) ∧ Q (.int ns.sum) H) := by
  intro pins s σ H vs us Q I r h
  obtain ⟨a, ns, rfl, hs, q⟩ := h
  obtain ⟨its, rv, hl, _⟩ := I.tuple hs
  rw [Vals.ref1 r]
  obtain ⟨xs, e⟩ := (rv.ints).allInts.items
  have hn : numsOf (intItems xs).toList = ns := by rw [← e]; exact rv.ints.numsOf
  rw [nums_intItems] at hn
  have hl : s.heap.IsTuple a its.toArray := hl
  rw [e] at hl
  refine PySem.W.ktm_sumG (I.ok.hd hc) hl fun h' tk t' hk => ?_
  rw [preSum_eq, List.take_of_length_le (by simp), hn]
  exact ⟨.int _, H, I.kept hk, ⟨_, rfl⟩, q⟩
def BF.val : BF → Value
  | .len => .builtin "len" | .all => .builtin "all" | .any => .builtin "any" | .sum => .builtin "sum" | .min => .builtin "min" | .max => .builtin "max"
  | .list => .type "list" | .tuple => .type "tuple" | .str => .type "str"
def BF.nm : BF → Str
  | .len => "len" | .all => "all" | .any => "any" | .sum => "sum" | .min => "min" | .max => "max" | .list => "list" | .tuple => "tuple" | .str => "str"
theorem BF.boot (f : BF) : bootBuiltins f.nm = some f.val := by cases f <;> decide +kernel
theorem BF.nm_ne (f : BF) : f.nm ≠ "__name__" ∧ (f.nm == ("__debug__" : Str)) = false := by cases f <;> decide +kernel
section
variable {K : PySem.W.Frag} {al : List Addr} {Z G H : Hp} {S : Store}
theorem lstE_ok {d : D} {v : V} {l : List D} (st : StR K al Z G S H) (r : RV K al Z d v) (e : lstE d S = some l) : ∃ a vs, v = .ref a ∧ H a = some (.lst vs) ∧ RVs K al Z l vs := by
  unfold lstE at e
  split at e
  · rename_i l' hl
    cases e
    exact look_lst st r hl
  · cases e
theorem RVs.one {d : D} {vs : List V} (r : RVs K al Z [d] vs) : ∃ v, vs = [v] ∧ RV K al Z d v := by
  cases r with
  | cons r t => cases t; exact ⟨_, rfl, r⟩
theorem RVs.two {d e : D} {vs : List V} (r : RVs K al Z [d, e] vs) : ∃ v u, vs = [v, u] ∧ RV K al Z d v ∧ RV K al Z e u := by
  cases r with
  | cons r t => obtain ⟨u, rfl, r2⟩ := RVs.one t; exact ⟨_, u, rfl, r, r2⟩
end
theorem bi_ok {X : Cx} (hc : X.calm = true) (f : BF) (own : Bool) : CallR X f.val (rBi X.K f own) := by
  intro pins s σ H vs us Q I r h
  obtain ⟨al, Z, G, S, Wx, ds, st, rv, h⟩ := h
  unfold biE at h
  split at h
  · rename_i x
    obtain ⟨v, rfl, rx⟩ := rv.one
    obtain ⟨n, hn, h⟩ := ofO_mapD h
    unfold lenE at hn
    split at hn
    · cases hn
      obtain ⟨a, ws, rfl, ha, rw'⟩ := rx.tupI st
      refine call_len_seq pins s σ H _ us Q I r ⟨a, ws, rfl, .inr (.of ha), ?_⟩
      rw [← rw'.length]
      exact PV.val h st (.int _)
    · cases hn
      obtain ⟨a, rfl, ha⟩ := rx.scrI st
      refine call_len_seq pins s σ H _ us Q I r ⟨a, _, rfl, .inl ha, ?_⟩
      rw [List.length_map]
      exact PV.val h st (.int _)
    · split at hn
      · rename_i hz
        cases hn; cases rx
        exact call_len_str pins s σ H _ us Q I r ⟨_, rfl, hz, PV.val h st (.int _)⟩
      · cases hn
    · split at hn
      · rename_i l hl
        cases hn
        obtain ⟨a, ws, rfl, ha, rw'⟩ := look_lst st rx hl
        refine call_len_seq pins s σ H _ us Q I r ⟨a, ws, rfl, .inl (.of ha), ?_⟩
        rw [← rw'.length]
        exact PV.val h st (.int _)
      · rename_i ks ws hl
        cases hn
        obtain ⟨a, kvs, rfl, ha, rfl, rw'⟩ := look_dK st rx hl
        refine call_lenD pins s σ H _ us Q I r ⟨a, kvs, rfl, ha, ?_⟩
        have e : (kvs.map (·.1)).length = kvs.length := List.length_map _
        rw [e] at h
        exact PV.val h st (.int _)
      · cases hn
  · rename_i x
    obtain ⟨v, rfl, rx⟩ := rv.one
    obtain ⟨bs, hb, h⟩ := ofO_mapD h
    rw [Option.bind_eq_some_iff] at hb
    obtain ⟨l, hl, hb⟩ := hb
    obtain ⟨a, ws, rfl, ha, rw'⟩ := lstE_ok st rx hl
    have e := bools_rel rw' hb
    subst e
    exact cr_all hc pins s σ H _ us Q I r ⟨a, bs, rfl, .of ha, PV.val h st (.bl _)⟩
  · rename_i x
    obtain ⟨v, rfl, rx⟩ := rv.one
    obtain ⟨bs, hb, h⟩ := ofO_mapD h
    rw [Option.bind_eq_some_iff] at hb
    obtain ⟨l, hl, hb⟩ := hb
    obtain ⟨a, ws, rfl, ha, rw'⟩ := lstE_ok st rx hl
    have e := bools_rel rw' hb
    subst e
    exact cr_any hc pins s σ H _ us Q I r ⟨a, bs, rfl, .of ha, PV.val h st (.bl _)⟩
  · rename_i l
    obtain ⟨v, rfl, rx⟩ := rv.one
    obtain ⟨ns, hn, h⟩ := ofO_mapD h
    obtain ⟨a, ws, rfl, ha, rw'⟩ := rx.tupI st
    have e := ints_rel rw' hn
    subst e
    exact sum_tup hc pins s σ H _ us Q I r ⟨a, ns, rfl, .of ha, PV.val h st (.int _)⟩
  · rename_i x _
    obtain ⟨v, rfl, rx⟩ := rv.one
    obtain ⟨ns, hn, h⟩ := ofO_mapD h
    rw [Option.bind_eq_some_iff] at hn
    obtain ⟨l, hl, hn⟩ := hn
    obtain ⟨a, ws, rfl, ha, rw'⟩ := lstE_ok st rx hl
    have e := ints_rel rw' hn
    subst e
    exact cr_sum hc pins s σ H _ us Q I r ⟨a, ns, rfl, .of ha, PV.val h st (.int _)⟩
  · rename_i i j
    obtain ⟨v, u, rfl, r1, r2⟩ := rv.two
    cases r1; cases r2
    exact call_min2 hc pins s σ H _ us Q I r ⟨i, j, rfl, PV.val h st (.int _)⟩
  · rename_i i j
    obtain ⟨v, u, rfl, r1, r2⟩ := rv.two
    cases r1; cases r2
    exact call_max2 hc pins s σ H _ us Q I r ⟨i, j, rfl, PV.val h st (.int _)⟩
  · rename_i x
    obtain ⟨v, rfl, rx⟩ := rv.one
    split at h
    · rename_i l hl
      unfold seqI at hl
      split at hl
      · cases hl
        obtain ⟨a, ws, rfl, ha, rw'⟩ := rx.tupI st
        exact call_list_of pins s σ H _ us Q I r ⟨a, ws, rfl, .inr (.of ha), fun p hp => newL_ok h st rw' hp⟩
      · rename_i ns
        cases hl
        obtain ⟨a, rfl, ha⟩ := rx.scrI st
        refine call_list_of pins s σ H _ us Q I r ⟨a, _, rfl, .inl ha, fun p hp => newL_ok h st ?_ hp⟩
        clear ha h r
        clear rx rv
        induction ns with
        | nil => exact .nil
        | cons n ns ih => exact .cons (.int n) ih
      · split at hl
        · rename_i l' hl'
          cases hl
          obtain ⟨a, ws, rfl, ha, rw'⟩ := look_lst st rx hl'
          exact call_list_of pins s σ H _ us Q I r ⟨a, ws, rfl, .inl (.of ha), fun p hp => newL_ok h st rw' hp⟩
        · rename_i ks ws hl'
          cases hl
          obtain ⟨a, kvs, rfl, ha, rfl, rw'⟩ := look_dK st rx hl'
          refine call_list_dK hc pins s σ H _ us Q I r ⟨a, kvs, rfl, ha, fun p hp => newL_ok h st ?_ hp⟩
          clear ha h r rw' hl'
          clear rx rv
          induction kvs with
          | nil => exact .nil
          | cons kv kvs ih =>
            refine .cons ?_ ih
            obtain ⟨k, w⟩ := kv
            cases k with
            | inl i => exact .int i
            | inr x => exact .str x
        · cases hl
    · exact False.elim h
  · rename_i l
    obtain ⟨v, rfl, rx⟩ := rv.one
    have rx0 := rx
    obtain ⟨a, ws, rfl, ha, rw'⟩ := rx.tupI st
    exact call_tuple_of pins s σ H _ us Q I r ⟨a, ws, rfl, .inr ⟨.of ha, PV.val h st rx0⟩⟩
  · rename_i x _
    obtain ⟨v, rfl, rx⟩ := rv.one
    obtain ⟨l, hl, h⟩ := ofO_mapD h
    obtain ⟨a, ws, rfl, ha, rw'⟩ := lstE_ok st rx hl
    exact call_tuple_of pins s σ H _ us Q I r ⟨a, ws, rfl, .inl ⟨.of ha, fun p hp => newT_ok h st rw' hp⟩⟩
  · exact False.elim h

/-! ### methods of lists -/
def BM.id : BM → String
  | .append => "list.append" | .extend => "list.extend" | .pop => "list.pop" | .count => "list.count" | .index => "list.index"
def BM.nm : BM → Str
  | .append => "append" | .extend => "extend" | .pop => "pop" | .count => "count" | .index => "index"
def rBm (K : PySem.W.Frag) (m : BM) (own : Bool) : V → List V → Hp → VK → Prop := fun x vs H Q => ∃ al Z G S Wx d ds, StR K al Z G S H ∧ RV K al Z d x ∧ RVs K al Z ds vs ∧ PV K G Wx al Z (bmE m own d ds S) Q
theorem StR.ref {K : PySem.W.Frag} {al : List Addr} {Z G H : Hp} {S : Store} {n : Nat} {v : V} {l : List D} (st : StR K al Z G S H) (r : RV K al Z (.ref n) v) (h : S[n]? = some (.lst l)) :
    ∃ a vs, v = .ref a ∧ al[n]? = some a ∧ H a = some (.lst vs) ∧ RVs K al Z l vs := by
  cases r with
  | ref ha =>
    obtain ⟨a', h', vs, e1, e2⟩ := st.at h
    rw [ha] at h'; cases h'
    exact ⟨_, vs, rfl, ha, e1, e2⟩
theorem ci_ok {X : Cx} (hu : X.A.units + 70 < cLine) (m : BM) {pins : List (Addr × Obj)} {s : Shared} {σ : L2.St} {H : Hp} {x : V} {xs : List V} {v : Value} {us : List Value} {Q : VK} (I : L2.Inv X pins σ H s) (rx : RelV x v) (rxs : Vals xs us)
    {al : List Addr} {Z G : Hp} {S : Store} {Wx : WXs} {d : D} {ds : List D} (st : StR X.K al Z G S H) (rd : RV X.K al Z d x) (rv : RVs X.K al Z ds xs) (h : PV X.K G Wx al Z (cixE m d ds S) Q) :
    wpAny (model X.prog X.w) X.A (PySem.call (.builtin m.id) (v :: us)) (EP X pins σ Q) X.xe s := by
  have key : ∀ (y : D) (l : List D) (ps : List PyData) (p : PyData), ds = [y] → lstE d S = some l → mapO (py 38 S) l = some ps → py 40 S y = some p →
      ∃ (a : Addr) (its : List Value) (uy : Value) (n : Nat) (dd : Option Addr) (sl : Array (Option Value)), v = .ref a ∧ us = [uy] ∧ s.heap.get? a = some { cls := .type "list", dict := dd, data := .seq its.toArray n, slots := sl } ∧
        its.map (SeqAt.readOf s.heap) = ps ∧ its.length ≤ sizeLine ∧ ∀ z, z ∈ its.toArray → SeqAt.EqAt X.A.in1 s z uy (PyData.eqv (SeqAt.readOf s.heap z) p) := by
    intro y l ps p e1 e2 e3 e4
    subst e1
    obtain ⟨u, rfl, ru⟩ := rv.one
    obtain ⟨a, ws, rfl, ha, rw'⟩ := lstE_ok st rd e2
    obtain ⟨b1, b2, b3⟩ := mapO_dp (py_dp st 38) l ws ps rw' e3
    obtain ⟨c1, c2, c3⟩ := py_dp st 40 y u p ru e4
    obtain ⟨uy, rfl, ruy⟩ := vals1 rxs
    cases rx
    obtain ⟨its, rv', ⟨⟨cls, dd, data, sls⟩, n, ho, hc, hdn, hdt⟩, hlen⟩ := I.list (.of ha)
    simp only at hc hdt
    subst hc hdt
    obtain ⟨as, h4⟩ := Dp.readsAll I ps _ its b1 rv'
    obtain ⟨bs, r1⟩ := Dp.reads I p u uy c1 ruy
    refine ⟨a, its, uy, n, dd, sls, rfl, rfl, ho, SeqAt.readsAll_map ps its as b2 h4, by have := rv'.length; omega, ?_⟩
    have hmin : min (PyData.depthAll ps) p.depth ≤ 40 := Nat.le_trans (Nat.min_le_right _ _) c3
    exact SeqAt.items_eqAt (A := X.A) (vs := its.toArray) (show ReadsAll s.heap its.toArray.toList ps as from h4) r1 b2 c2 (by omega)
  unfold cixE at h
  split at h
  · rename_i y
    split at h
    · rename_i l hl
      split at h
      · rename_i ps p hp1 hp2
        obtain ⟨a, its, uy, n, dd, sl, rfl, rfl, ho, hm, hz, he⟩ := key y l ps p rfl hl hp1 hp2
        refine call_meets PySem.F.slot_list_count ⟨_, ho, rfl⟩ PySem.F.entry_list_count (PySem.F.args_list_count_2 _ _) (SeqAt.list_countAt a its.toArray n dd sl uy (fun u => PyData.eqv (SeqAt.readOf s.heap u) p)) ⟨ho, he, ?_⟩
        refine ⟨.int _, H, I.tok _, ⟨_, rfl⟩, ?_⟩
        have e : its.toArray.toList.countP (fun u => PyData.eqv (SeqAt.readOf s.heap u) p) = ps.countP (fun z => PyData.eqv z p) := by
          rw [← hm, List.countP_map]; rfl
        rw [e]
        exact PV.val h st (.int _)
      · exact False.elim h
    · exact False.elim h
  · rename_i y
    split at h
    · rename_i l hl
      split at h
      · rename_i ps p hp1 hp2
        obtain ⟨a, its, uy, n, dd, sl, rfl, rfl, ho, hm, hz, he⟩ := key y l ps p rfl hl hp1 hp2
        obtain ⟨j, hj, h⟩ := ofO_mapD h
        obtain ⟨hj1, hj2, hj3⟩ := List.findIdx?_eq_some_iff_getElem.mp hj
        have hjl : j < its.length := by rw [← hm] at hj1; simpa using hj1
        have hsl := sizeLine_eq
        have at_ : ∀ (m : Nat) (hm' : m < its.length) (hp : m < ps.length), SeqAt.readOf s.heap its[m] = ps[m] := by
          intro m h1 h2
          have : (its.map (SeqAt.readOf s.heap))[m]? = ps[m]? := by rw [hm]
          rw [List.getElem?_map, List.getElem?_eq_getElem h1, List.getElem?_eq_getElem h2] at this
          exact Option.some.inj this
        refine call_meets PySem.F.slot_list_index ⟨_, ho, rfl⟩ PySem.F.entry_list_index (PySem.F.args_list_index_2 _ _)
          (SeqAt.list_indexAt a its.toArray n dd sl uy (fun u => PyData.eqv (SeqAt.readOf s.heap u) p) j (by simpa using hjl) (by omega) ?_ ?_) ⟨ho, he, ?_⟩
        · show PyData.eqv (SeqAt.readOf s.heap its.toArray[j]) p = true
          rw [show its.toArray[j] = its[j] by simp, at_ j hjl hj1]
          exact hj2
        · intro m hm' hmj
          have h1 : m < its.length := by simpa using hm'
          have h2 : m < ps.length := by omega
          show PyData.eqv (SeqAt.readOf s.heap its.toArray[m]) p = false
          rw [show its.toArray[m] = its[m] by simp, at_ m h1 h2]
          have := hj3 m hmj
          simpa using this
        · exact ⟨.int _, H, I.tok _, ⟨_, rfl⟩, PV.val h st (.int _)⟩
      · exact False.elim h
    · exact False.elim h
  · exact False.elim h
theorem bm_ok {X : Cx} (hu : X.A.units + 70 < cLine) (m : BM) (own : Bool) : MtR X m.id (rBm X.K m own) := by
  intro pins s σ H x xs v us Q I rx rxs h
  obtain ⟨al, Z, G, S, Wx, d, ds, st, rd, rv, h⟩ := h
  unfold bmE at h
  split at h
  · rename_i n y
    split at h
    · rename_i l hl
      split at h
      · rename_i hz
        obtain ⟨a, ws, rfl, ha, hH, rw'⟩ := st.ref rd hl
        obtain ⟨u, rfl, ru⟩ := rv.one
        have le := rw'.length
        refine mt_append pins s σ H _ _ v us Q I rx rxs ⟨a, ws, u, rfl, rfl, hH, by omega, ?_⟩
        exact PV.val h (st.set ha ⟨_, upd_same, rw'.append (.cons ru .nil)⟩) .non
      · exact False.elim h
    · exact False.elim h
  · rename_i n y
    split at h
    · rename_i l l2 hl hl2
      split at h
      · rename_i hz
        obtain ⟨a, ws, rfl, ha, hH, rw'⟩ := st.ref rd hl
        obtain ⟨u, rfl, ru⟩ := rv.one
        obtain ⟨b, zs, rfl, hb, rz⟩ := lstE_ok st ru hl2
        have le := rw'.length
        have le2 := rz.length
        refine mt_extend pins s σ H _ _ v us Q I rx rxs ⟨a, b, ws, zs, rfl, rfl, hH, hb, by omega, ?_⟩
        exact PV.val h (st.set ha ⟨_, upd_same, rw'.append rz⟩) .non
      · exact False.elim h
    · exact False.elim h
  · rename_i n
    split at h
    · rename_i l hl
      split at h
      · rename_i y hy
        obtain ⟨a, ws, rfl, ha, hH, rw'⟩ := st.ref rd hl
        cases rv
        have le := rw'.length
        obtain ⟨u, hu, ru⟩ := rw'.get hy
        rw [le] at hu
        refine mt_pop pins s σ H _ _ v us Q I rx rxs ⟨a, ws, u, rfl, rfl, hH, hu, ?_⟩
        exact PV.val h (st.set ha ⟨_, upd_same, rw'.dropLast⟩) ru
      · exact False.elim h
    · exact False.elim h
  · rename_i n i
    split at h
    · rename_i l hl
      split at h
      · rename_i y hy
        split at h
        · rename_i hi
          simp [small] at hi
          obtain ⟨a, ws, rfl, ha, hH, rw'⟩ := st.ref rd hl
          obtain ⟨u0, rfl, ru0⟩ := rv.one
          cases ru0
          have le := rw'.length
          obtain ⟨u, hu, ru⟩ := rw'.get hy
          have hlt : i.toNat < l.length := (List.getElem?_eq_some_iff.mp hy).1
          refine mt_popAt pins s σ H _ _ v us Q I rx rxs ⟨a, ws, i, i.toNat, u, rfl, rfl, hH, by omega, by omega, ?_, hu, ?_⟩
          · exact PySem.StrLaws.seqIndex_nonneg hi.1 (by omega)
          · exact PV.val h (st.set ha ⟨_, upd_same, rw'.eraseIdx _⟩) ru
        · exact False.elim h
      · exact False.elim h
    · exact False.elim h
  · exact ci_ok hu _ I rx rxs st rd rv h
end Bh

set_option maxHeartbeats 1000000
/-! Calls of own defs. -/
namespace Bh
open PySem PySem.Spec PyProof.Rows L2
section
variable {K : PySem.W.Frag} {al t : List Addr} {Z Z' Z'' G H H' : Hp} {S S' : Store}
mutual
theorem RV.cl : ∀ {d : D} {v : V}, RV K al Z d v → D.cl al.length d = true
  | _, _, .non => by simp [D.cl]
  | _, _, .bl _ => by simp [D.cl]
  | _, _, .int _ => by simp [D.cl]
  | _, _, .str _ => by simp [D.cl]
  | _, _, .tup _ r => by simp only [D.cl]; exact RVs.cl r
  | _, _, .ctup _ r => by simp only [D.cl]; exact RVs.cl r
  | _, _, .lst _ r => by simp only [D.cl]; exact RVs.cl r
  | _, _, .scr _ => by simp [D.cl]
  | _, _, .dK _ r => by simp only [D.cl]; exact RVs.cl r
  | _, _, .dH _ r => by simp only [D.cl]; exact RVs.cl r
  | _, _, .obj _ _ _ r => by simp only [D.cl]; exact RVs.cl r
  | _, _, .ref e => by simp only [D.cl, decide_eq_true_eq]; exact (List.getElem?_eq_some_iff.mp e).1
  | _, _, .glo x => by simp [D.cl]
  | _, _, .adr x => by simp [D.cl]
theorem RVs.cl : ∀ {ds : List D} {v0 : List V}, RVs K al Z ds v0 → D.cls al.length ds = true
  | _, _, .nil => by simp [D.cls]
  | _, _, .cons r t => by simp [D.cls, RV.cl r, RVs.cl t]
end
mutual
theorem RV.bk (h : ∀ a o, Z' a = some o → Z'' a = some o) : ∀ {d : D} {v1 : V}, RV K (al ++ t) Z' d v1 → D.cl al.length d = true → RV K al Z'' d v1
  | _, _, .non, _ => .non
  | _, _, .bl _, _ => .bl _
  | _, _, .int _, _ => .int _
  | _, _, .str _, _ => .str _
  | _, _, .tup s q, c => .tup (h _ _ s) (RVs.bk h q (by simpa only [D.cl] using c))
  | _, _, .ctup s q, c => .ctup (sqT_mono h s) (RVs.bk h q (by simpa only [D.cl] using c))
  | _, _, .lst s q, c => .lst (h _ _ s) (RVs.bk h q (by simpa only [D.cl] using c))
  | _, _, .scr s, _ => .scr (sqL_mono h s)
  | _, _, .dK s q, c => .dK (h _ _ s) (RVs.bk h q (by simpa only [D.cl] using c))
  | _, _, .dH s q, c => .dH (h _ _ s) (RVs.bk h q (by simpa only [D.cl] using c))
  | _, _, .obj x y s q, c => .obj x y (h _ _ s) (RVs.bk h q (by simpa only [D.cl] using c))
  | _, _, .ref e', c => .ref (by
    simp only [D.cl, decide_eq_true_eq] at c
    rw [List.getElem?_append_left c] at e'
    exact e')
  | _, _, .glo x, _ => .glo x
  | _, _, .adr x, _ => .adr x
theorem RVs.bk (h : ∀ a o, Z' a = some o → Z'' a = some o) : ∀ {ds : List D} {v1 : List V}, RVs K (al ++ t) Z' ds v1 → D.cls al.length ds = true → RVs K al Z'' ds v1
  | _, _, .nil, _ => .nil
  | _, _, .cons r t, c => .cons (RV.bk h r (by simp only [D.cls, Bool.and_eq_true_iff] at c; exact c.1)) (RVs.bk h t (by simp only [D.cls, Bool.and_eq_true_iff] at c; exact c.2))
end
theorem RVs.back (h : ∀ a o, Z' a = some o → Z'' a = some o) {ds : List D} {v0 v1 : List V} (r : RVs K al Z ds v0) (q : RVs K (al ++ t) Z' ds v1) : RVs K al Z'' ds v1 := RVs.bk h q r.cl
/-- all objects behind the first ones never change any more -/
noncomputable def zfrz (t : List Addr) (Z H : Hp) : Hp := fun a => if a ∈ t then H a else Z a
theorem zfrz_in {a : Addr} (h : a ∈ t) : zfrz t Z H a = H a := if_pos h
theorem zfrz_out {a : Addr} (h : a ∉ t) : zfrz t Z H a = Z a := if_neg h
theorem zfrz_le (hz : ∀ a o, Z a = some o → H a = some o) : ∀ a o, Z a = some o → zfrz t Z H a = some o := fun a o e => by
  by_cases h : a ∈ t
  · rw [zfrz_in h]; exact hz _ _ e
  · rw [zfrz_out h]; exact e
theorem StR.back (st0 : StR K al Z G S H) (st : StR K (al ++ t) Z' G S' H') (he : S'.take S.length = S) : StR K al (zfrz t Z' H') G S H' where
  len := st0.len
  zle := fun a o h => by
    by_cases e : a ∈ t
    · rw [zfrz_in e] at h; exact h
    · rw [zfrz_out e] at h; exact st.zle _ _ h
  gle := st.gle
  obj := fun n a o h1 h2 => by
    have hn : n < S.length := (List.getElem?_eq_some_iff.mp h2).1
    have h1' : (al ++ t)[n]? = some a := by rw [List.getElem?_append_left (List.getElem?_eq_some_iff.mp h1).1]; exact h1
    have h2' : S'[n]? = some o := by
      rw [← he, List.getElem?_take_of_lt hn] at h2
      exact h2
    have x0 := st0.obj n a o h1 h2
    have x1 := st.obj n a o h1' h2'
    have hz := zfrz_le (t := t) st.zle
    cases o with
    | lst l => obtain ⟨vs0, _, r0⟩ := x0; obtain ⟨vs, e, r⟩ := x1; exact ⟨vs, e, r0.back hz r⟩
    | dK ks l => obtain ⟨vs0, _, _, r0⟩ := x0; obtain ⟨vs, e, e2, r⟩ := x1; exact ⟨vs, e, e2, r0.back hz r⟩
    | dH ks l => obtain ⟨vs0, _, _, r0⟩ := x0; obtain ⟨vs, e, e2, r⟩ := x1; exact ⟨vs, e, e2, r0.back hz r⟩
    | obj c ks l => obtain ⟨dx, vs0, _, _, r0, _⟩ := x0; obtain ⟨dx', vs, e, e2, r, q⟩ := x1; exact ⟨dx', vs, e, e2, r0.back hz r, q⟩
  zal := fun n a h => by
    have h1 : (al ++ t)[n]? = some a := by rw [List.getElem?_append_left (List.getElem?_eq_some_iff.mp h).1]; exact h
    refine ⟨?_, (st.zal n a h1).2⟩
    rw [zfrz_out]
    · exact (st.zal n a h1).1
    · intro hm
      obtain ⟨j, hj, e⟩ := List.getElem_of_mem hm
      have h2 : (al ++ t)[al.length + j]? = some a := by
        rw [List.getElem?_append_right (by omega)]
        simp [hj, e]
      have := st.inj _ _ _ h1 h2
      have := (List.getElem?_eq_some_iff.mp h).1
      omega
  inj := st0.inj
  zg := fun a o h => by
    rw [zfrz_out]
    · exact st.zg a o h
    · intro hm
      obtain ⟨j, hj, e⟩ := List.getElem_of_mem hm
      have h2 : (al ++ t)[al.length + j]? = some a := by
        rw [List.getElem?_append_right (by omega)]
        simp [hj, e]
      rw [(st.zal _ _ h2).2] at h
      cases h
theorem mapO_frz {n m : Nat} {f : D → Option D} {Za Zb : Hp} {ala alb : List Addr} (ih : ∀ d d' v, RV K ala Za d v → f d = some d' → RV K alb Zb d' v) :
    ∀ {l l' : List D} {vs : List V}, RVs K ala Za l vs → mapO f l = some l' → RVs K alb Zb l' vs
  | [], l', vs, r, e => by simp [mapO] at e; subst e; cases r; exact .nil
  | d :: l, l', vs, r, e => by
    simp only [mapO] at e
    split at e
    · rename_i x y h1 h2
      cases e
      cases r with
      | cons r t => exact .cons (ih _ _ _ r h1) (mapO_frz (n := n) (m := m) ih t h2)
    · cases e
theorem frz_ok (st : StR K (al ++ t) Z' G S' H') : ∀ (n : Nat) (d d' : D) (v : V), RV K (al ++ t) Z' d v → frz n al.length S' d = some d' → RV K al (zfrz t Z' H') d' v
  | 0, d, d', v, r, e => by simp [frz] at e
  | n + 1, d, d', v, r, e => by
    have ih := fun {l l' vs} => mapO_frz (n := n) (m := 0) (frz_ok st n) (l := l) (l' := l') (vs := vs)
    have hz := zfrz_le (t := t) st.zle
    cases r with
    | non => cases e; exact .non
    | bl b => cases e; exact .bl b
    | int b => cases e; exact .int b
    | str b => cases e; exact .str b
    | scr s => cases e; exact .scr (sqL_mono hz s)
    | glo x => cases e; exact .glo x
    | adr x => cases e; exact .adr x
    | ctup s r =>
      simp only [frz, Option.map_eq_some_iff] at e
      obtain ⟨l', e, rfl⟩ := e
      exact .ctup (sqT_mono hz s) (ih r e)
    | tup s r =>
      simp only [frz, Option.map_eq_some_iff] at e
      obtain ⟨l', e, rfl⟩ := e
      exact .tup (hz _ _ s) (ih r e)
    | lst s r =>
      simp only [frz, Option.map_eq_some_iff] at e
      obtain ⟨l', e, rfl⟩ := e
      exact .lst (hz _ _ s) (ih r e)
    | dK s r =>
      simp only [frz, Option.map_eq_some_iff] at e
      obtain ⟨l', e, rfl⟩ := e
      exact .dK (hz _ _ s) (ih r e)
    | dH s r =>
      simp only [frz, Option.map_eq_some_iff] at e
      obtain ⟨l', e, rfl⟩ := e
      exact .dH (hz _ _ s) (ih r e)
    | obj c n s r =>
      simp only [frz, Option.map_eq_some_iff] at e
      obtain ⟨l', e, rfl⟩ := e
      exact .obj c n (hz _ _ s) (ih r e)
    | ref h =>
      rename_i k a
      simp only [frz] at e
      by_cases hk : k < al.length
      · rw [if_pos hk] at e
        cases e
        rw [List.getElem?_append_left hk] at h
        exact .ref h
      · rw [if_neg hk] at e
        have hm : a ∈ t := by
          rw [List.getElem?_append_right (by omega)] at h
          exact List.mem_of_getElem? h
        cases hs : S'[k]? with
        | none => rw [hs] at e; cases e
        | some o =>
          rw [hs] at e
          have x := st.obj k a o h hs
          cases o with
          | lst l =>
            have e0 : (mapO (frz n al.length S') l).map D.lst = some d' := e
            rw [Option.map_eq_some_iff] at e0
            obtain ⟨l', e0, rfl⟩ := e0
            obtain ⟨vs, e1, r⟩ := x
            exact .lst (by rw [zfrz_in hm]; exact e1) (ih r e0)
          | dK ks l =>
            have e0 : (mapO (frz n al.length S') l).map (D.dK ks) = some d' := e
            rw [Option.map_eq_some_iff] at e0
            obtain ⟨l', e0, rfl⟩ := e0
            obtain ⟨vs, e1, rfl, r⟩ := x
            exact .dK (by rw [zfrz_in hm]; exact e1) (ih r e0)
          | dH ks l =>
            have e0 : (mapO (frz n al.length S') l).map (D.dH ks) = some d' := e
            rw [Option.map_eq_some_iff] at e0
            obtain ⟨l', e0, rfl⟩ := e0
            obtain ⟨vs, e1, rfl, r⟩ := x
            exact .dH (by rw [zfrz_in hm]; exact e1) (ih r e0)
          | obj c ks l =>
            have e0 : (mapO (frz n al.length S') l).map (D.obj c ks) = some d' := e
            rw [Option.map_eq_some_iff] at e0
            obtain ⟨l', e0, rfl⟩ := e0
            obtain ⟨dx, vs, e1, rfl, r, cl, na⟩ := x
            exact .obj cl na (by rw [zfrz_in hm]; exact e1) (ih r e0)
/-- a call told as trees: from the call as it is -/
theorem pure_ok {Wx : WXs} {r : R D} {Q : VK} (st0 : StR K al Z G S H) (h : PV K G Wx al Z (pureR S r) Q) : PV K G Wx al Z r Q := by
  cases r with
  | bad => exact h
  | ok d S' =>
    simp only [pureR] at h
    split at h
    · rename_i he
      intro al' Z' H' l st v rv
      obtain ⟨⟨t, rfl⟩, lz⟩ := l
      obtain ⟨d', e⟩ := PV.ofO_some h
      have rv' : RV K al (zfrz t Z' H') d' v := frz_ok st 12 d d' v rv (by rw [st0.len]; exact e)
      rw [e] at h
      exact h al _ H' ⟨⟨[], by simp⟩, fun a o q => zfrz_le st.zle _ _ (lz _ _ q)⟩ (st0.back st he) v rv'
    · exact False.elim h
  | exc c x S' =>
    simp only [pureR] at h
    split at h
    · rename_i he
      intro al' Z' H' dd l st xr
      obtain ⟨⟨t, rfl⟩, lz⟩ := l
      cases x with
      | none =>
        have h : PV K G Wx al Z (.exc c none S) Q := h
        exact h al _ H' dd ⟨⟨[], by simp⟩, fun a o q => zfrz_le (t := t) st.zle _ _ (lz _ _ q)⟩ (st0.back st he) xr
      | some p =>
        obtain ⟨f, d⟩ := p
        obtain ⟨a, v, rfl, hz, rv⟩ := xr
        cases e : frz 12 S.length S' d with
        | none => simp only [e] at h; exact False.elim h
        | some d' =>
          simp only [e] at h
          have rv' : RV K al (zfrz t Z' H') d' v := frz_ok st 12 d d' v rv (by rw [st0.len]; exact e)
          exact h al _ H' (some a) ⟨⟨[], by simp⟩, fun a o q => zfrz_le (t := t) st.zle _ _ (lz _ _ q)⟩ (st0.back st he) ⟨a, v, rfl, zfrz_le st.zle _ _ hz, rv'⟩
    · exact False.elim h
/-- what a closed call may not touch -/
noncomputable def hideS (al : List Addr) (G H : Hp) : Hp := fun a => if a ∈ al then H a else G a
theorem hideS_in {a : Addr} (h : a ∈ al) : hideS al G H a = H a := if_pos h
theorem hideS_out {a : Addr} (h : a ∉ al) : hideS al G H a = G a := if_neg h
theorem al_get {a : Addr} (h : a ∈ al) : ∃ n : Nat, al[n]? = some a := by
  obtain ⟨n, hn, e⟩ := List.getElem_of_mem h
  exact ⟨n, by rw [List.getElem?_eq_getElem hn, e]⟩
theorem StR.open_ (st : StR K al Z G S H) : StR K [] Z (hideS al G H) [] H where
  len := rfl
  zle := st.zle
  gle := fun a o h => by
    by_cases e : a ∈ al
    · rw [hideS_in e] at h; exact h
    · rw [hideS_out e] at h; exact st.gle a o h
  obj := fun n a o h => by simp at h
  zal := fun n a h => by simp at h
  inj := fun n m a h => by simp at h
  zg := fun a o h => by
    by_cases e : a ∈ al
    · obtain ⟨n, hn⟩ := al_get e
      exact (st.zal n a hn).1
    · rw [hideS_out e] at h; exact st.zg a o h
theorem StR.shut {al' : List Addr} {S2 : Store} (st : StR K al Z G S H) (l : Le [] Z al' Z') (st' : StR K al' Z' (hideS al G H) S2 H') : StR K al (zfrz al' Z' H') G S H' := by
  have apart : ∀ {n : Nat} {a : Addr}, al[n]? = some a → a ∉ al' := fun {n a} h hm => by
    obtain ⟨m, hm⟩ := al_get hm
    have z := (st'.zal m a hm).2
    rw [hideS_in (List.mem_of_getElem? h)] at z
    obtain ⟨u, e⟩ := st.there h
    rw [e] at z; cases z
  have gOut : ∀ {a : Addr} {o : HO}, G a = some o → a ∉ al := fun {a o} h hm => by
    obtain ⟨n, hn⟩ := al_get hm
    rw [(st.zal n a hn).2] at h; cases h
  have gApart : ∀ {a : Addr} {o : HO}, G a = some o → a ∉ al' := fun {a o} h hm => by
    obtain ⟨m, hm⟩ := al_get hm
    have z := (st'.zal m a hm).2
    rw [hideS_out (gOut h), h] at z; cases z
  have hz : ∀ a o, Z a = some o → zfrz al' Z' H' a = some o := fun a o h => zfrz_le st'.zle _ _ (l.z _ _ h)
  have same : ∀ {n : Nat} {a : Addr}, al[n]? = some a → H' a = H a := fun {n a} h => by
    obtain ⟨u, e⟩ := st.there h
    rw [e]
    exact st'.gle a u (by rw [hideS_in (List.mem_of_getElem? h)]; exact e)
  refine ⟨st.len, fun a o h => ?_, fun a o h => st'.gle a o (by rw [hideS_out (gOut h)]; exact h), fun n a o h1 h2 => (st.obj n a o h1 h2).mono ⟨⟨[], by simp⟩, hz⟩ (same h1), fun n a h => ⟨?_, (st.zal n a h).2⟩, st.inj, fun a o h => ?_⟩
  · by_cases e : a ∈ al'
    · rw [zfrz_in e] at h; exact h
    · rw [zfrz_out e] at h; exact st'.zle _ _ h
  · rw [zfrz_out (apart h)]
    obtain ⟨u, e⟩ := st.there h
    exact st'.zg a u (by rw [hideS_in (List.mem_of_getElem? h)]; exact e)
  · rw [zfrz_out (gApart h)]
    exact st'.zg a o (by rw [hideS_out (gOut h)]; exact h)
theorem close_ok {Wx : WXs} {r : R D} {Q : VK} (st : StR K al Z G S H) (h : PV K G Wx al Z (closeR S r) Q) : PV K (hideS al G H) Wx [] Z r Q := by
  cases r with
  | bad => exact h
  | ok d S' =>
    simp only [closeR] at h
    intro al' Z' H' l st' v rv
    obtain ⟨d', e⟩ := PV.ofO_some h
    have rv' : RV K [] (zfrz al' Z' H') d' v := frz_ok (al := []) (t := al') st' 12 d d' v rv e
    rw [e] at h
    exact h al _ H' ⟨⟨[], by simp⟩, fun a o q => zfrz_le st'.zle _ _ (l.z _ _ q)⟩ (st.shut l st') v (rv'.mono ⟨⟨al, by simp⟩, fun _ _ z => z⟩)
  | exc c x S' =>
    intro al' Z' H' dd l st' xr
    cases x with
    | none =>
      have h : PV K G Wx al Z (.exc c none S) Q := h
      exact h al _ H' dd ⟨⟨[], by simp⟩, fun a o q => zfrz_le (t := al') st'.zle _ _ (l.z _ _ q)⟩ (st.shut l st') xr
    | some p =>
      obtain ⟨f, d⟩ := p
      obtain ⟨a, v, rfl, hz, rv⟩ := xr
      simp only [closeR] at h
      cases e : frz 12 0 S' d with
      | none => simp only [e] at h; exact False.elim h
      | some d' =>
        simp only [e] at h
        have rv' : RV K [] (zfrz al' Z' H') d' v := frz_ok (al := []) (t := al') st' 12 d d' v rv e
        exact h al _ H' (some a) ⟨⟨[], by simp⟩, fun a o q => zfrz_le (t := al') st'.zle _ _ (l.z _ _ q)⟩ (st.shut l st') ⟨a, v, rfl, zfrz_le st'.zle _ _ hz, rv'.mono ⟨⟨al, by simp⟩, fun _ _ z => z⟩⟩
theorem callM_ok {Wx : WXs} {call : CallT} {p : Bool} {f : Str} {ds : List D} {vs : List V} {Q : VK} (st0 : StR K al Z G S H) (rv : RVs K al Z ds vs) (h : PV K G Wx al Z (callM call p f ds S) Q) : ∃ al1 Z1 G1 S1, StR K al1 Z1 G1 S1 H ∧ RVs K al1 Z1 ds vs ∧ PV K G1 Wx al1 Z1 (call f ds S1) Q := by
  unfold callM at h
  cases p with
  | false => exact ⟨al, Z, G, S, st0, rv, h⟩
  | true =>
    simp only [if_true] at h
    split at h
    · rename_i hc
      exact ⟨[], Z, _, [], st0.open_, RVs.bk (al := []) (t := al) (fun _ _ z => z) rv hc, close_ok st0 h⟩
    · exact ⟨al, Z, G, S, st0, rv, pure_ok st0 h⟩
end
/-- a def's promise, by the evaluator's call -/
def spC (K : PySem.W.Frag) (call : CallT) (f : Str) (n : Nat) : Sp := fun vs H Q E => ∃ al Z G S ds, StR K al Z G S H ∧ RVs K al Z ds vs ∧ ds.length = n ∧ PV K G (fun c dd H' => E (.ref (He.ga K c)) dd H') al Z (call f ds S) Q
/-- a def of the text keeps the evaluator's promise: np its parameters -/
structure FnC (X : Cx) (call : CallT) (k : Nat) (f : Str) (a : Addr) : Prop where
  fn : ∃ fd ps, Binds X.K fd ps [] ∧ FnOk X.prog X.w X.K X.mg X.base (L2N.CX X.prog X.w) k a fd ps (spC X.K call f ps.length) ∧ ∀ ds S, call f ds S ≠ .bad → ds.length = ps.length
section
variable {X : Cx} {g : Gx} {pos p : Pos} {k : Nat}
theorem PV.not_bad {K : PySem.W.Frag} {al : List Addr} {Z G : Hp} {Wx : WXs} {r : R D} {Q : VK} (h : PV K G Wx al Z r Q) : r ≠ .bad := fun e => by subst e; exact h
/-- the callee runs -/
theorem run_call {pins : List (Addr × Obj)} {σ : L2.St} {H : Hp} {s : Shared} {Q : VK} {us : List Value} {vs : List V} {f : Str} {a : Addr} {al : List Addr} {Z G : Hp} {S : Store} {ds : List D} {pr : Bool}
    (F : FnC X g.call k f a) (hr : Room k X.A) (tk : L2N.Takes X g.W) (I : L2.Inv X pins σ H s) (r : Vals vs us) (st : StR X.K al Z G S H) (rv : RVs X.K al Z ds vs) (h : PVx X g σ G al Z (callM g.call pr f ds S) Q) :
    wpAny (model X.prog X.w) X.A (PySem.call (.ref a) us) (EP X pins σ Q) X.xe s := by
  obtain ⟨fd, ps, hb, hf, hl⟩ := F.fn
  obtain ⟨al1, Z1, G1, S1, st1, rv1, h1⟩ := callM_ok st rv h
  exact run_fnS (E := WE g.W) hf hr hb (L2N.passAt tk σ) I r ⟨al1, Z1, G1, S1, ds, st1, rv1, hl ds S1 h1.not_bad, h1⟩
end
/-- the module's defs, methods, classes, fields -/
structure Tb where
  fns : List Str
  mths : List (Str × Str)
  mks : List Str
  flds : List (Str × Str)
def dot (c m : Str) : Str := c ++ "." ++ m
/-- what a context knows of them -/
structure FnsOk (X : Cx) (tb : Tb) (call : CallT) (k : Nat) : Prop where
  fn : ∀ f ∈ tb.fns, (f == ("__debug__" : Str)) = false ∧ X.mg f = some (.ref (He.ga X.K f)) ∧ PySem.W.keepIn X.K (.ref (He.ga X.K f)) = true ∧ FnC X call k f (He.ga X.K f)
  mth : ∀ p ∈ tb.mths, Cls X.K (He.ga X.K p.1) ∧ Meth X.K (He.ga X.K p.1) p.2 (He.ma X.K (He.ga X.K p.1) p.2) ∧ FnC X call k (p.1 ++ "." ++ p.2) (He.ma X.K (He.ga X.K p.1) p.2)
  mkr : ∀ c ∈ tb.mks, (c == ("__debug__" : Str)) = false ∧ X.mg c = some (.ref (He.ga X.K c)) ∧ Cls X.K (He.ga X.K c) ∧ Mk X.K (He.ga X.K c) (He.ma X.K (He.ga X.K c) "__init__") ∧ FnC X call k (c ++ ".__init__") (He.ma X.K (He.ga X.K c) "__init__")
  fld : ∀ p ∈ tb.flds, NoAttr X.K (He.ga X.K p.1) p.2
section
variable {X : Cx} {g : Gx} {pos p : Pos} {k : Nat} {tb : Tb}
/-- the arguments, then the callee -/
theorem call_args {pins : List (Addr × Obj)} {σ : L2.St} {H : Hp} {s : Shared} {Q : VK} {f : Str} {a : Addr} {es : List Expr} {l : List E} {pr : Bool} {first : List Value} {fv : List V} {fd : List D} {al : List Addr} {Z G : Hp} {fr : Fr} {S : Store}
    (hk : PySem.W.keepIn X.K (.ref a) = true) (F : FnC X g.call k f a) (hr : Room k X.A) (tk : L2N.Takes X g.W) (ha : PAl X g es l) (I : L2.Inv X pins σ H s) (rf0 : Vals fv first) (st : StR X.K al Z G S H) (rf : RF X.K al Z fr σ) (rfd : RVs X.K al Z fd fv)
    (h : PVx X g σ G al Z ((g.evs l fr S).bind fun ds S1 => callM g.call pr f (fd ++ ds) S1) Q) :
    wpAny (model X.prog X.w) X.A (callWith pos (.ref a) first (backTo pos (starEach es X.env)) []) (EP X pins σ Q) X.xe s := by
  cases ha with
  | nil =>
    simp only [evs] at h
    have h := PostR.ok (PostR.bind h) st
    rw [List.append_nil] at h
    exact PySem.W.callWith_K0 I.kIn hk (by rw [List.append_nil]; exact run_call F hr tk I rf0 st rfd h)
  | @cons e e' es' l' he hs t =>
    refine PySem.W.callWith_K (h₀ := X.base) I.ok.mod.kin hk (thn ((pa_of (.cons he hs t)).run pos pins s σ H
      (fun vs H1 => ∃ al1 Z1 S1 ds, Le al Z al1 Z1 ∧ StR X.K al1 Z1 G S1 H1 ∧ RVs X.K al1 Z1 ds vs ∧ PVx X g σ G al1 Z1 (callM g.call pr f (fd ++ ds) S1) Q) I ?_)
      fun us s1 ⟨vs, H1, I1, r, al1, Z1, S1, ds, l1, st1, rv, q⟩ => ⟨I1.kIn, run_call F hr tk I1 (rf0.append r) st1 ((rfd.mono l1).append rv) q⟩) (star_of hs _ _) (noStars t pos)
    exact ⟨al, Z, G, fr, S, st, rf, (PostR.bind h).imp fun al1 Z1 ds S1 H1 _ l1 st1 h1 vs rv => ⟨al1, Z1, S1, ds, l1, st1, rv, h1⟩⟩
theorem pe_call' {f : Str} {es : List Expr} {l : List E} {pr : Bool} (F : FnsOk X tb g.call k) (hf : f ∈ tb.fns) (hr : Room k X.A) (tk : L2N.Takes X g.W) (hg : Gl X f) (ha : PAl X g es l) : PE X (.Call (.Name f p) es [] pos) (tE X g (.call pr f l)) := by
  obtain ⟨hdb, hm, hk, F⟩ := F.fn f hf
  refine ⟨fun pins s σ H Q I h => ?_⟩
  obtain ⟨al, Z, G, fr, S, st, rf, h⟩ := h
  simp only [ev] at h
  refine wpAny_Call_Name_kw (ld_glob I hg hm ?_ hdb)
  exact call_args (fd := []) hk F hr tk ha I .nil st rf .nil h
theorem pe_callV {f : Expr} {f' : E} {fs : List Str} {es : List Expr} {l : List E} {pr : Bool} (F : FnsOk X tb g.call k) (hfs : ∀ f ∈ fs, f ∈ tb.fns) (hr : Room k X.A) (tk : L2N.Takes X g.W) (hf : PE X f (tE X g f')) (ha : PAl X g es l)
    (he : eval (.Call f es [] pos) X.env = (do callWith pos (← eval f X.env) [] (backTo pos (starEach es X.env)) (backToKw pos (keywordEach [] X.env)))) : PE X (.Call f es [] pos) (tE X g (.callV pr fs f' l)) := by
  refine ⟨fun pins s σ H Q I h => ?_⟩
  obtain ⟨al, Z, G, fr, S, st, rf, h⟩ := h
  simp only [ev] at h
  refine Call_ (thn (hf.run pins s σ H (fun v H1 => ∃ al1 Z1 S1 x, v = .ref (He.ga X.K x) ∧ x ∈ fs ∧ Le al Z al1 Z1 ∧ StR X.K al1 Z1 G S1 H1 ∧ PVx X g σ G al1 Z1 ((g.evs l fr S1).bind fun ds S2 => callM g.call pr x ds S2) Q) I ?_) fun u s1 hu => ?_) he
  · refine ⟨al, Z, G, fr, S, st, rf, (PostR.bind h).imp fun al1 Z1 d S1 H1 _ l1 st1 h1 v rv => ?_⟩
    split at h1
    · split at h1
      · rename_i hx
        cases rv
        exact ⟨al1, Z1, S1, _, rfl, hx, l1, st1, h1⟩
      · exact False.elim h1
    · exact False.elim h1
  · obtain ⟨v, H1, I1, rv, al1, Z1, S1, x, rfl, hx, l1, st1, h1⟩ := hu
    obtain rfl : u = Value.ref _ := rv
    obtain ⟨hdb, hm, hk, F⟩ := F.fn x (hfs x hx)
    exact call_args (fd := []) hk F hr tk ha I1 .nil st1 (rf.mono l1) .nil h1
def plainO : Expr → Bool
  | .Call (.Name _ _) [] [] _ => false
  | _ => true
theorem base_of {o : Expr} (h : plainO o = true) (m : Str) (env : Env) (w : Sem Value) : attributeBase o m env w = w := by
  unfold attributeBase
  split
  · cases h
  · rfl
theorem meth_tree {o : Expr} {m : Str} {apos : Pos} {es : List Expr} {l : List E} (ho : plainO o = true) (hl : (apos.endLine == pos.line) = true) (hn : es.length < 20) (ha : PAl X g es l) :
    eval (.Call (.Attribute o m apos) es [] pos) X.env = (do
      let ov ← eval o X.env
      standAt apos.atName
      let (f, first) ← holding [ov] (getMethod ov m (do return (← importBound o X.env).getD true))
      callWith pos f first (backTo pos (starEach es X.env)) (backToKw pos (keywordEach [] X.env))) := by
  have hns : ∀ {es : List Expr} {l : List E}, PAl X g es l → (backTo pos (starEach es X.env)).all (fun x => !x.1) = true := by
    intro es l h
    induction h with
    | nil => rfl
    | cons h hs t ih =>
      rw [star_of hs]
      show (true && (backTo pos (starEach _ X.env)).all (fun x => !x.1)) = true
      rw [Bool.true_and]
      exact ih
  have hform : methodCallForm (es.length + ([] : List Keyword).length) (backTo pos (starEach es X.env)) (backToKw pos (keywordEach [] X.env)) = true := by
    unfold methodCallForm
    rw [hns ha]
    have : (backToKw pos (keywordEach [] X.env)) = [] := rfl
    rw [this]
    simp
    omega
  show (do
    let ov ← attributeBase o m X.env (eval o X.env)
    standAt apos.atName
    methodCall o m apos pos X.env ov (es.length + ([] : List Keyword).length) (backTo pos (starEach es X.env)) (backToKw pos (keywordEach [] X.env))) = _
  rw [base_of ho]
  unfold methodCall
  rw [hform]
  have hp : methodCallPos true o X.env apos pos = pure pos := by
    unfold methodCallPos
    rw [hl]
    rfl
  rw [hp]
  rfl
theorem pe_meth' {o : Expr} {o' : E} {c m : Str} {apos : Pos} {es : List Expr} {l : List E} {pr : Bool} (F : FnsOk X tb g.call k) (hf : (c, m) ∈ tb.mths) (hr : Room k X.A) (tk : L2N.Takes X g.W) (ho : PE X o (tE X g o')) (ha : PAl X g es l)
    (hp : plainO o = true) (hl : (apos.endLine == pos.line) = true) (hn : es.length < 20) : PE X (.Call (.Attribute o m apos) es [] pos) (tE X g (.meth pr c o' m l)) := by
  obtain ⟨cl, me, F⟩ := F.mth (c, m) hf
  refine ⟨fun pins s σ H Q I h => ?_⟩
  obtain ⟨al, Z, G, fr, S, st, rf, h⟩ := h
  simp only [ev] at h
  refine PySem.W.methodCall_KW (pl := (do return (← importBound o X.env).getD true)) (thn (ho.run pins s σ H (fun v H1 => ∃ al1 Z1 S1 d a dx us, v = .ref a ∧ H1 a = some (.ins (He.ga X.K c) dx us) ∧ us.lookup m = none ∧ Le al Z al1 Z1 ∧ StR X.K al1 Z1 G S1 H1 ∧ RV X.K al1 Z1 d v ∧
    PVx X g σ G al1 Z1 ((g.evs l fr S1).bind fun ds S2 => callM g.call pr (c ++ "." ++ m) (d :: ds) S2) Q) I ?_) fun u s1 hu => ?_) (meth_tree hp hl hn ha)
  · refine ⟨al, Z, G, fr, S, st, rf, (PostR.bind h).imp fun al1 Z1 d S1 H1 _ l1 st1 h1 v rv => ?_⟩
    split at h1
    · rename_i c' fs vs hlk
      split at h1
      · rename_i hc
        obtain ⟨rfl, hm⟩ := hc
        obtain ⟨a, dx, us, rfl, ea, rfl, _⟩ := look_obj st1 rv hlk
        refine ⟨al1, Z1, S1, d, a, dx, us, rfl, ea, ?_, l1, st1, rv, h1⟩
        cases e : us.lookup m with
        | none => rfl
        | some w => exact absurd (List.mem_map.mpr ⟨_, PySem.mem_of_lookup e, rfl⟩) hm
      · exact False.elim h1
    · exact False.elim h1
  · obtain ⟨v, H1, I1, rv, al1, Z1, S1, d, a, dx, us, rfl, ea, hm, l1, st1, rd, h1⟩ := hu
    obtain rfl : u = Value.ref a := rv
    refine getmeth_ok I1 ea cl me hm ?_
    exact call_args (first := [.ref a]) (fv := [.ref a]) (fd := [d]) me.kp F hr tk ha I1 (.cons rfl .nil) st1 (rf.mono l1) (.cons rd .nil) h1
/-- a new instance and its __init__; what is raised at the slots σ -/
theorem make_at {CX : CXT} {C f : Addr} {fd : FuncData} {ps : List Str} {sp : Sp} {E : XK} {pins : List (Addr × Obj)} {σ : L2.St} {H : Hp} {s : Shared} {Q : VK} {us : List Value} {vs : List V} (M : Mk X.K C f) (F : FnOk X.prog X.w X.K X.mg X.base CX k f fd ps sp) (hr : Room (k + 1) X.A) (hb : Binds X.K fd ps [])
    (hx : PassesAt CX X σ E) (I : L2.Inv X pins σ H s) (r : Vals vs us)
    (h : ∀ x dx, H x = none → H dx = none → dx ≠ x → sp (.ref x :: vs) (upd (upd H dx (.own x)) x (.ins C dx [])) (fun v H2 => v = .non ∧ Q (.ref x) H2) E) :
    wpAny (model X.prog X.w) X.A (PySem.call (.ref C) us) (EP X pins σ Q) X.xe s := by
  have hq := h (s.heap.objs.size + 1) s.heap.objs.size (I.hok.fresh (Nat.le_succ _)) (I.hok.fresh (Nat.le_refl _)) (Nat.ne_of_lt (Nat.lt_succ_self _))
  have I2 := L2.Inv.made (C := C) I
  have r2 : Vals (V.ref (s.heap.objs.size + 1) :: vs) (Value.ref (s.heap.objs.size + 1) :: us) := .cons rfl r
  have hl : (Value.ref (s.heap.objs.size + 1) :: us).length = ps.length := by
    have e := r2.length
    rw [F.len _ _ _ _ hq] at e
    exact e.symm
  have bb := hb _ (Value.ref (s.heap.objs.size + 1) :: us) I2.kIn (by rw [List.append_nil]; exact hl)
  rw [List.append_nil] at bb
  refine wpAny_call (make_map (f := f) I.kIn M.makes M.init (beq_iff_eq.mp M.fn) (codeAny_mono (F.run _ X.stack _ _ ⟨Value.ref (s.heap.objs.size + 1) :: us, []⟩ (Value.ref (s.heap.objs.size + 1) :: us) _ _ E (hr.make C us [])
    (I2.env0.make C us []) bb r2 hq) fun r s' hq' => ?_))
  cases r with
  | error e => exact hx pins _ _ e s' I2 hq'
  | ok fl =>
    cases fl with
    | ret u =>
      obtain ⟨v, H', I3, rv, ev, q3⟩ := I2.after hq'
      subst ev
      exact ⟨rv, ⟨V.ref (s.heap.objs.size + 1), H', I3, rfl, q3⟩⟩
    | next => exact False.elim hq'
    | brk => exact False.elim hq'
    | cont => exact False.elim hq'
/-- C(..): a new object of the store, then __init__ -/
theorem pe_make' {c : Str} {es : List Expr} {l : List E} (F : FnsOk X tb g.call k) (hf : c ∈ tb.mks) (hr : Room (k + 1) X.A) (tk : L2N.Takes X g.W) (hg : Gl X c) (ha : PAl X g es l) : PE X (.Call (.Name c p) es [] pos) (tE X g (.make c l)) := by
  obtain ⟨hdb, hm, cl, M, F⟩ := F.mkr c hf
  refine ⟨fun pins s σ H Q I h => ?_⟩
  obtain ⟨al, Z, G, fr, S, st, rf, h⟩ := h
  simp only [ev] at h
  have run : ∀ {s1 : Shared} {H1 : Hp} {us : List Value} {vs : List V} {al1 : List Addr} {Z1 : Hp} {S1 : Store} {ds : List D}, L2.Inv X pins σ H1 s1 → Vals vs us → StR X.K al1 Z1 G S1 H1 → RVs X.K al1 Z1 ds vs →
      PVx X g σ G al1 Z1 ((g.call (c ++ ".__init__") (.ref S1.length :: ds) (S1 ++ [.obj c [] []])).bind fun d S2 => match d with
        | .non => .ok (.ref S1.length) S2
        | _ => .bad) Q → wpAny (model X.prog X.w) X.A (PySem.call (.ref (He.ga X.K c)) us) (EP X pins σ Q) X.xe s1 := by
    intro s1 H1 us vs al1 Z1 S1 ds I1 r st1 rv h1
    obtain ⟨fd, ps, hb, hF, hl⟩ := F.fn
    have hsp : ∀ x dx, H1 x = none → H1 dx = none → dx ≠ x → spC X.K g.call (c ++ ".__init__") ps.length (.ref x :: vs) (upd (upd H1 dx (.own x)) x (.ins (He.ga X.K c) dx [])) (fun v H2 => v = .non ∧ Q (.ref x) H2) (WE g.W σ) := by
      intro x dx hx hdx hne
      have st2 : StR X.K al1 (upd Z1 dx (.own x)) G S1 (upd H1 dx (.own x)) := st1.newZ hdx
      have hx2 : upd H1 dx (.own x) x = none := by rw [upd_ne (Ne.symm hne)]; exact hx
      have st3 := st2.newS (o := .ins (He.ga X.K c) dx []) hx2 (q := .obj c [] []) ⟨dx, [], upd_same, rfl, .nil, cl, fun f hf => by cases hf⟩
      have l3 : Le al1 Z1 (al1 ++ [x]) (upd Z1 dx (.own x)) := (le_upd (st1.zp hdx)).trans le_al
      have hnb : g.call (c ++ ".__init__") (.ref S1.length :: ds) (S1 ++ [.obj c [] []]) ≠ .bad := fun e => by rw [e] at h1; exact h1
      refine ⟨_, _, G, _, .ref S1.length :: ds, st3, .cons (.ref (by rw [← st1.len]; simp)) (rv.mono l3), hl _ _ hnb, ?_⟩
      refine (PostR.mono l3 (PostR.bind h1)).imp fun al4 Z4 d S4 H4 _ l4 st4 h4 v rv4 => ?_
      split at h4
      · cases rv4
        refine ⟨rfl, ?_⟩
        refine PV.val h4 st4 (.ref ?_)
        exact l4.get (by rw [← st1.len]; simp)
      · exact False.elim h4
    exact make_at M hF hr hb (L2N.passAt tk σ) I1 r hsp
  refine wpAny_Call_Name_kw (ld_glob I hg hm ?_ hdb)
  cases ha with
  | nil =>
    simp only [evs] at h
    have h := PostR.ok (PostR.bind h) st
    exact PySem.W.callWith_K0 I.kIn M.kp (run I .nil st .nil h)
  | @cons e e' es' l' he hs t =>
    refine PySem.W.callWith_K (h₀ := X.base) I.ok.mod.kin M.kp (thn ((pa_of (.cons he hs t)).run pos pins s σ H
      (fun vs H1 => ∃ al1 Z1 S1 ds, StR X.K al1 Z1 G S1 H1 ∧ RVs X.K al1 Z1 ds vs ∧ PVx X g σ G al1 Z1 ((g.call (c ++ ".__init__") (.ref S1.length :: ds) (S1 ++ [.obj c [] []])).bind fun d S2 => match d with
        | .non => .ok (.ref S1.length) S2
        | _ => .bad) Q) I ?_)
      fun us s1 ⟨vs, H1, I1, r, al1, Z1, S1, ds, st1, rv, q⟩ => ⟨I1.kIn, run I1 r st1 rv q⟩) (star_of hs _ _) (noStars t pos)
    exact ⟨al, Z, G, fr, S, st, rf, (PostR.bind h).imp fun al1 Z1 ds S1 H1 _ l1 st1 h1 vs rv => ⟨al1, Z1, S1, ds, st1, rv, h1⟩⟩
end
end Bh

set_option maxHeartbeats 1000000
/-! Built-ins by name, isinstance. -/
namespace Bh
open PySem PySem.Spec PyProof.Rows L2
section
variable {X : Cx} {g : Gx} {pos p : Pos}
theorem bi_step {f : BF} {own : Bool} {l : List E} {σ : L2.St} {H : Hp} {Q : VK} (h : tE X g (.bi f own l) σ H Q) : tCB (rBi X.K f own) (tEs X g l) σ H Q := by
  obtain ⟨al, Z, G, s, S, st, rf, h⟩ := h
  simp only [ev] at h
  exact ⟨al, Z, G, s, S, st, rf, (PostR.bind h).imp fun al1 Z1 ds S1 H1 _ l1 st1 h1 vs rv => ⟨al1, Z1, G, S1, _, ds, st1, rv, h1⟩⟩
theorem pe_bi' {f : BF} {own : Bool} {e : Expr} {es : List Expr} {l : List E} (hc : X.calm = true) (hg : Gl X f.nm) (hm : X.mg f.nm = none) (ha : PAl X g (e :: es) l) : PE X (.Call (.Name f.nm p) (e :: es) [] pos) (tE X g (.bi f own l)) := by
  have hpa := pa_of ha
  obtain ⟨hn, hdb⟩ := BF.nm_ne f
  have hb := BF.boot f
  have hr := bi_ok (X := X) hc f own
  cases ha with
  | cons he hs t =>
    have h1 := star_of hs es X.env
    have h2 := noStars t pos
    cases f with
    | list => exact PE.wk (pe_callTy hr hg hm hb hpa hn hdb h1 h2) fun σ H Q h => bi_step h
    | tuple => exact PE.wk (pe_callTy hr hg hm hb hpa hn hdb h1 h2) fun σ H Q h => bi_step h
    | str => exact PE.wk (pe_callTy hr hg hm hb hpa hn hdb h1 h2) fun σ H Q h => bi_step h
    | len => exact PE.wk (pe_callB hr hg hm hb hpa hn hdb h1 h2) fun σ H Q h => bi_step h
    | all => exact PE.wk (pe_callB hr hg hm hb hpa hn hdb h1 h2) fun σ H Q h => bi_step h
    | any => exact PE.wk (pe_callB hr hg hm hb hpa hn hdb h1 h2) fun σ H Q h => bi_step h
    | sum => exact PE.wk (pe_callB hr hg hm hb hpa hn hdb h1 h2) fun σ H Q h => bi_step h
    | min => exact PE.wk (pe_callB hr hg hm hb hpa hn hdb h1 h2) fun σ H Q h => bi_step h
    | max => exact PE.wk (pe_callB hr hg hm hb hpa hn hdb h1 h2) fun σ H Q h => bi_step h
/-! ### isinstance -/
def TyC.tn : TyC → String
  | .int => "int" | .bool => "bool" | .tuple => "tuple" | .str => "str" | .list => "list"
theorem TyC.boot (c : TyC) : bootBuiltins c.nm = some (.type c.tn) := by cases c <;> decide +kernel
theorem TyC.nm_ne (c : TyC) : c.nm ≠ "__name__" ∧ (c.nm == ("__debug__" : Str)) = false := by cases c <;> decide +kernel
theorem boot_isi : bootBuiltins "isinstance" = some (.builtin "isinstance") := by decide +kernel
section
variable {K : PySem.W.Frag} {al : List Addr} {Z G H : Hp} {S : Store}
theorem kit_non (c : TyC) : kitB "NoneType" c.tn = some false := by cases c <;> decide +kernel
theorem kit_bool (c : TyC) : kitB "bool" c.tn = some (decide (c = .bool) || decide (c = .int)) := by cases c <;> decide +kernel
theorem kit_int (c : TyC) : kitB "int" c.tn = some (decide (c = .int)) := by cases c <;> decide +kernel
theorem kit_str (c : TyC) : kitB "str" c.tn = some (decide (c = .str)) := by cases c <;> decide +kernel
theorem kit_tup (c : TyC) : kitB "tuple" c.tn = some (decide (c = .tuple)) := by cases c <;> decide +kernel
theorem kit_list (c : TyC) : kitB "list" c.tn = some (decide (c = .list)) := by cases c <;> decide +kernel
theorem kit_dict (c : TyC) : kitB "dict" c.tn = some false := by cases c <;> decide +kernel
/-- what isinstance wants of a class's instances -/
def isiE' (x : D) (c : TyC) (S : Store) : Option Bool := isiE x c S
theorem isi_ok {x : D} {v : V} {c : TyC} {b : Bool} (st : StR K al Z G S H) (r : RV K al Z x v) (e : isiE x c S = some b) : ∃ t, TyX K H v t ∧ PySem.W.kitOne K t (.type c.tn) = some b := by
  unfold isiE at e
  split at e
  · cases e; cases r; exact ⟨_, .base .non, kit_ty (kit_non c)⟩
  · cases e; cases r; exact ⟨_, .base (.bl _), kit_ty (kit_bool c)⟩
  · cases e; cases r; exact ⟨_, .base (.int _), kit_ty (kit_int c)⟩
  · cases e; cases r; exact ⟨_, .base (.str _), kit_ty (kit_str c)⟩
  · cases e
    obtain ⟨a, vs, rfl, ha, rv⟩ := r.tupI st
    exact ⟨_, .base (.tup ha), kit_ty (kit_tup c)⟩
  · cases e
    obtain ⟨a, rfl, ha⟩ := r.scrI st
    refine ⟨_, ?_, kit_ty (kit_list c)⟩
    rcases ha with (ha | ⟨o, ha⟩) | ⟨o, its, n, ha, hc, _⟩
    · exact .base (.lst ha)
    · exact .base (.frz ha)
    · exact .kList ha hc
  · split at e
    · rename_i l hl
      cases e
      obtain ⟨a, vs, rfl, ha, rv⟩ := look_lst st r hl
      exact ⟨_, .base (.lst ha), kit_ty (kit_list c)⟩
    · rename_i ks vs hl
      cases e
      obtain ⟨a, kvs, rfl, ha, _⟩ := look_dK st r hl
      exact ⟨_, .base (.dK ha), kit_ty (kit_dict c)⟩
    · rename_i ks vs hl
      cases e
      obtain ⟨a, kvs, rfl, ha, _⟩ := look_dH st r hl
      exact ⟨_, .base (.dT ha), kit_ty (kit_dict c)⟩
    · cases e
end
theorem pe_isi' {e : Expr} {e' : E} {c : TyC} {p2 : Pos} (hg : Gl X "isinstance") (hm : X.mg "isinstance" = none) (hgc : Gl X c.nm) (hmc : X.mg c.nm = none) (he : PE X e (tE X g e')) (hs : notStar e = true) :
    PE X (.Call (.Name "isinstance" p) [e, .Name c.nm p2] [] pos) (tE X g (.isi e' c)) := by
  obtain ⟨hn, hdb⟩ := TyC.nm_ne c
  refine PE.wk (pe_callB call_isi hg hm boot_isi (pa_cons he (pa_cons (pe_bltn (v := .ty c.tn) hgc hmc (TyC.boot c) rfl hn hdb) pa_nil) (star_of hs _ _)) (by decide) (by decide) (star_of hs _ _) rfl) fun σ H Q h => ?_
  simp only [tE, ev] at h
  refine step1 (α := D) (f := fun _ x S1 => R.ofO S1 ((isiE x c S1).map D.bl)) (fun al Z G s S d v H st rf r h => ?_) h
  obtain ⟨b, e1, h⟩ := ofO_map h
  obtain ⟨t, ht, hk⟩ := isi_ok st r e1
  exact ⟨v, .ty c.tn, t, .type c.tn, b, rfl, .ty _, ht, hk, PV.val h st (.bl _)⟩
/-! ### methods of lists -/
theorem bmP_of {l : List E} {es : List Expr} (ha : PAl X g es l) : (backTo pos (starEach es X.env)).all (fun x => !x.1) = true := by
  induction ha with
  | nil => rfl
  | cons h hs t ih =>
    rw [star_of hs]
    show (true && (backTo pos (starEach _ X.env)).all (fun x => !x.1)) = true
    rw [Bool.true_and]
    exact ih
theorem bm_step {m : BM} {own : Bool} {o : E} {l : List E} {σ : L2.St} {H : Hp} {Q : VK} (h : tE X g (.bm m own o l) σ H Q) :
    tE X g o σ H fun x H1 => tyV X.K "list" x H1 ∧ tEs X g l σ H1 fun xs H2 => rBm X.K m own x xs H2 Q := by
  simp only [tE, ev] at h
  refine step1 (f := fun s x S1 => if recv m x S1 then (g.evs l s S1).bind fun ds S2 => bmE m own x ds S2 else .bad) (fun al Z G s S d v H st rf r h => ?_) h
  split at h
  · rename_i hr
    unfold recv at hr
    obtain ⟨l', hl'⟩ := Option.isSome_iff_exists.mp hr
    obtain ⟨a, vs, rfl, ha, rv⟩ := lstE_ok st r hl'
    refine ⟨.inl ⟨rfl, vs, .of ha⟩, al, Z, G, s, S, st, rf, (PostR.bind h).imp fun al1 Z1 ds S1 H1 _ l1 st1 h1 vs rv => ⟨al1, Z1, G, S1, _, d, ds, st1, r.mono l1, rv, h1⟩⟩
  · exact False.elim h
theorem pe_bm' (hu : X.A.units + 70 < cLine) {m : BM} {own : Bool} {o : Expr} {o' : E} {apos : Pos} {es : List Expr} {l : List E} (ho : PE X o (tE X g o')) (ha : PAl X g es l) (hp : plainO o = true) (hl : (apos.endLine == pos.line) = true) (hn : es.length < 20)
    (sl : Slot "list" m.nm m.id) (ty : typeOf (.builtin m.id) = pure (.type "method_descriptor")) : PE X (.Call (.Attribute o m.nm apos) es [] pos) (tE X g (.bm m own o' l)) := by
  have hpa := pa_of ha
  cases ha with
  | nil =>
    refine PE.wk (pe_bm0 PySem.F.plainAttrs_list sl ty (bm_ok hu m own) ho (base_of hp _ _ _) hl) fun σ H Q h => ?_
    obtain ⟨al, Z, G, s, S, st, rf, h⟩ := bm_step h
    refine ⟨al, Z, G, s, S, st, rf, PostR.imp h fun al1 Z1 d S1 H1 _ l1 st1 h1 v rv => ?_⟩
    obtain ⟨h1, al2, Z2, G2, s2, S2, st2, rf2, h2⟩ := h1 v rv
    simp only [evs] at h2
    exact ⟨h1, PostR.ok h2 st2 _ .nil⟩
  | @cons e e' es' l' he hs t =>
    refine PE.wk (pe_bm PySem.F.plainAttrs_list sl ty (bm_ok hu m own) ho hpa (base_of hp _ _ _) ?_ hl (star_of hs _ _) (noStars t pos)) fun σ H Q h => bm_step h
    have e1 : (backTo pos (starEach (e :: es') X.env)).all (fun x => !x.1) = true := bmP_of (PAl.cons he hs t)
    rw [e1]
    have e2 : (backToKw pos (keywordEach [] X.env)) = [] := rfl
    rw [e2]
    have hn' : es'.length + 1 < 20 := hn
    simp
    omega
theorem bm_slot : ∀ m : BM, Slot "list" m.nm m.id ∧ typeOf (.builtin m.id) = pure (.type "method_descriptor")
  | .append => ⟨PySem.F.slot_list_append, PySem.F.type_list_append⟩
  | .extend => ⟨PySem.F.slot_list_extend, PySem.F.type_list_extend⟩
  | .pop => ⟨PySem.F.slot_list_pop, PySem.F.type_list_pop⟩
  | .count => ⟨PySem.F.slot_list_count, PySem.F.type_list_count⟩
  | .index => ⟨PySem.F.slot_list_index, PySem.F.type_list_index⟩
/-! ### list(range(..)) -/
theorem rg_rel {K : PySem.W.Frag} {al : List Addr} {Z : Hp} (a : Int) : ∀ l : List Nat, RVs K al Z (l.map fun i => .int (a + (i : Nat))) (l.map fun i => V.int (a + (i : Nat)))
  | [] => .nil
  | n :: l => .cons (.int _) (rg_rel a l)
theorem pe_lrng1 {own : Bool} {e : Expr} {e' : E} {p2 pos2 : Pos} (hc : X.calm = true) (hg : Gl X "list") (hm : X.mg "list" = none) (hgr : Gl X "range") (hmr : X.mg "range" = none) (he : PE X e (tE X g e')) (hs : notStar e = true) :
    PE X (.Call (.Name "list" p) [.Call (.Name "range" p2) [e] [] pos2] [] pos) (tE X g (.lrng own [e'])) := by
  refine PE.wk (pe_listRg hc hg hm (prg_1 hgr hmr he (star_of hs _ _))) fun σ H Q h => ?_
  simp only [tE, ev] at h
  obtain ⟨al, Z, G, s, S, st, rf, h⟩ := h
  simp only [evs] at h
  refine ⟨al, Z, G, s, S, st, rf, (PostR.bind (PostR.bind h)).imp fun al1 Z1 d S1 H1 _ l1 st1 h1 v rv => ?_⟩
  have h1 := PostR.ok h1 st1
  cases d with
  | int n =>
    cases rv
    simp only [lrngI] at h1
    split at h1
    · rename_i l hl
      split at hl
      · rename_i hz
        cases hl
        simp [small] at hz
        have hlen := newL_len h1
        simp at hlen
        refine ⟨n, rfl, ⟨by omega, by omega, by omega, by omega, by have := sizeLine_eq; omega⟩, fun q hq => ?_⟩
        have e : rgV 0 n = (List.range n.toNat).map fun i => V.int (0 + (i : Nat)) := by unfold rgV; rw [Int.sub_zero]
        rw [e]
        exact newL_ok h1 st1 (rg_rel 0 _) hq
      · cases hl
    · exact False.elim h1
  | _ => exact False.elim h1
theorem pe_lrng2 {own : Bool} {e f : Expr} {e' f' : E} {p2 pos2 : Pos} (hc : X.calm = true) (hg : Gl X "list") (hm : X.mg "list" = none) (hgr : Gl X "range") (hmr : X.mg "range" = none) (he : PE X e (tE X g e')) (hf : PE X f (tE X g f')) (hs : notStar e = true) (hs2 : notStar f = true) :
    PE X (.Call (.Name "list" p) [.Call (.Name "range" p2) [e, f] [] pos2] [] pos) (tE X g (.lrng own [e', f'])) := by
  refine PE.wk (pe_listRg hc hg hm (prg_2 hgr hmr he hf (star_of hs _ _) (by rw [star_of hs2] <;> rfl) (by rw [star_of hs2] <;> rfl))) fun σ H Q h => ?_
  simp only [tE, ev] at h
  obtain ⟨al, Z, G, s, S, st, rf, h⟩ := h
  simp only [evs] at h
  refine ⟨al, Z, G, s, S, st, rf, (PostR.bind (PostR.bind h)).imp fun al1 Z1 d S1 H1 _ l1 st1 h1 v rv => ?_⟩
  refine ⟨al1, Z1, G, s, S1, st1, rf.mono l1, (PostR.bind (PostR.bind h1)).imp fun al2 Z2 d2 S2 H2 _ l2 st2 h2 v2 rv2 => ?_⟩
  have h2 := PostR.ok h2 st2
  have h2 := PostR.ok h2 st2
  cases d with
  | int a =>
    cases d2 with
    | int b =>
      cases rv; cases rv2
      simp only [lrngI] at h2
      split at h2
      · rename_i l hl
        split at hl
        · rename_i hz
          cases hl
          simp [small] at hz
          have hlen := newL_len h2
          simp at hlen
          refine ⟨a, b, rfl, rfl, ⟨by omega, by omega, by omega, by omega, by have := sizeLine_eq; omega⟩, fun q hq => ?_⟩
          exact newL_ok h2 st2 (rg_rel a _) hq
        · cases hl
      · exact False.elim h2
    | _ => exact False.elim h2
  | _ => exact False.elim h2
end
end Bh

set_option maxHeartbeats 1000000
/-! enumerate over a tuple. -/
namespace PySem
open AutoSeq1 (wpAny_loadPart')
theorem bh_enumerate_newT (l : Addr) (items : Array Value) (n : Nat) (dct : Option Addr) (sl : Array (Option Value)) :
    Meets (Builtin.«enumerate.__new__» ⟨[.type "enumerate", .ref l], []⟩) (fun _ R s => s.heap.get? l = some { cls := .type "tuple", dict := dct, data := .seq items n, slots := sl } ∧
      R (.ok (.ret (.ref (s.heap.push { cls := .type "tuple_iterator", data := .fields #[.ref l, .int 0 0] }).objs.size)))
        { s with heap := (s.heap.push { cls := .type "tuple_iterator", data := .fields #[.ref l, .int 0 0] }).push { cls := .type "enumerate", data := .fields #[.none, .bool false, .ref s.heap.objs.size, rawInt 0, .none, .none] } }) :=
  .of_wp fun prog w A R s h => by
    obtain ⟨hp, g, d, tk, os⟩ := s; obtain ⟨hl, h⟩ := h
    have hsub := sub_enumerate
    have hL : Heap.IsTuple (Shared.heap ⟨hp, g, d, tk, os⟩) l items := ⟨_, hl, rfl, n, rfl⟩
    wp_walk using wpAny_loadPart' hl
    refine wpAny_stack_any fun st => wpAny_pure ?_
    split
    · rename_i c _ _ _ _ _
      cases (c == Value.type "enumerate")
      · wp_walk using wpAny_loadPart' hl, wpAny_pyIter_tuple hL
        exact ⟨_, rfl, h⟩
      · wp_walk using wpAny_loadPart' hl, wpAny_pyIter_tuple hL
        exact ⟨_, rfl, h⟩
    · wp_walk using wpAny_loadPart' hl, wpAny_pyIter_tuple hL
      exact ⟨_, rfl, h⟩
theorem bh_call_enumerate_tuple {prog : Program} {w : World} {A : Around} {E : Value → Shared → Prop} {s : Shared} {l : Addr} {items : Array Value} {Q : Value → Shared → Prop} (hL : s.heap.IsTuple l items)
    (h : ∀ h', IsEnum h' (s.heap.objs.size + 1) s.heap.objs.size 0 .none → h'.IsTupleIter s.heap.objs.size l 0 → h'.objs.size = s.heap.objs.size + 2 →
      (∀ b o, s.heap.get? b = some o → h'.get? b = some o) → Q (.ref (s.heap.objs.size + 1)) { s with heap := h' }) :
    wpAny (model prog w) A (call (.type "enumerate") [.ref l]) Q E s := by
  obtain ⟨⟨c, dct, dt, sl⟩, hl, hc, n, hd⟩ := hL
  replace hc : c = .type "tuple" := hc
  replace hd : dt = .seq items n := hd
  subst hc hd
  refine callType_new F.called_enumerate (by decide) (F.typeCall_enumerate_1 _) (F.newCall_enumerate_1 _) (fun obj => F.args_object_init_2 obj _) F.entry_enumerate_new
    (bh_enumerate_newT l items n dct sl) ⟨hl, ?_⟩
  have hz : (s.heap.push { cls := .type "tuple_iterator", data := .fields #[.ref l, .int 0 0] }).objs.size = s.heap.objs.size + 1 := Heap.size_push ..
  show _ ∧ _
  rw [hz]
  have he : IsEnum ((s.heap.push { cls := .type "tuple_iterator", data := .fields #[.ref l, .int 0 0] }).push
      { cls := .type "enumerate", data := .fields #[.none, .bool false, .ref s.heap.objs.size, rawInt 0, .none, .none] }) (s.heap.objs.size + 1) s.heap.objs.size 0 .none := by
    have := Heap.get?_push_size (s.heap.push { cls := .type "tuple_iterator", data := .fields #[.ref l, .int 0 0] })
      (o := { cls := .type "enumerate", data := .fields #[.none, .bool false, .ref s.heap.objs.size, rawInt 0, .none, .none] }) rfl
    rw [hz] at this
    exact this
  have hi : Heap.IsTupleIter ((s.heap.push { cls := .type "tuple_iterator", data := .fields #[.ref l, .int 0 0] }).push
      { cls := .type "enumerate", data := .fields #[.none, .bool false, .ref s.heap.objs.size, rawInt 0, .none, .none] }) s.heap.objs.size l 0 := ⟨_, Heap.get?_push_of_some _ (Heap.get?_push_size _ rfl), rfl, rfl⟩
  exact ⟨⟨_, he, rfl⟩, h _ he hi (by rw [Heap.size_push, hz]) (fun b o x => Heap.get?_push_of_some _ (Heap.get?_push_of_some _ x))⟩
end PySem
namespace Bh
open PySem PySem.Spec PyProof.Rows L2
/-- a tuple's items, each in a new pair -/
def IteT (K : PySem.W.Frag) (a : Addr) : It :=
  ⟨fun i H => ∃ (xs : List V) (x : V), SqT K H a xs ∧ xs[i]? = some x, fun i H v H' => ∃ q x, v = .ref q ∧ H q = none ∧ H' = upd H q (.tup [.int (i : Nat), x]) ∧ ∀ xs, SqT K H a xs → xs[i]? = some x, fun i H => ∃ xs : List V, SqT K H a xs ∧ xs.length = i⟩
theorem tup_apart {h : Heap} {a it : Addr} {its : Array Value} {i : Nat} (p : h.IsTuple a its) (q : h.IsTupleIter it a i) : a ≠ it := fun e => by
  subst e
  obtain ⟨o, h1, c1, _⟩ := p
  obtain ⟨o2, h2, c2, _⟩ := q
  rw [h1] at h2
  cases h2
  rw [c1] at c2
  injection c2 with e
  exact absurd e (by decide)
theorem turn_enumT {P : Program} {w : World} {K : PySem.W.Frag} {elts : List Expr} {kk : Nat} {tpos : Pos} (a e it : Addr) :
    Turn P w K (.Tuple elts kk tpos) (IteT K a) [e, it] e (fun i h => (∃ old, IsEnum h e it ((i : Nat) : Int) old) ∧ h.IsTupleIter it a i ∧ e ≠ it) where
  mem := by simp
  obj := fun i h st b hb => by
    obtain ⟨⟨old, he⟩, ⟨o, ho, hc, hd⟩, _⟩ := st
    rcases (by simpa using hb : b = e ∨ b = it) with z | z
    · subst z; exact ⟨_, he, fun v q => nomatch q⟩
    · subst z; exact ⟨o, ho, fun v q => by rw [hd] at q; cases q⟩
  keep := fun i h h' st k => by
    obtain ⟨⟨old, he⟩, hi, hne⟩ := st
    exact ⟨⟨old, k e (by simp) _ he⟩, hi.at (fun o q => k it (by simp) o q), hne⟩
  item := by
    intro X hP hw hK hc i pins s σ H E I hf st hg
    subst hP hw hK
    obtain ⟨⟨old, he⟩, hit, hne⟩ := st
    obtain ⟨xs, x, hq, hx⟩ := hg
    obtain ⟨its, rv, p, hz⟩ := I.tuple hq
    have p : s.heap.IsTuple a its.toArray := p
    obtain ⟨u, hu, ru⟩ := rv.get hx
    have hel : e < s.heap.objs.size := Heap.lt_size he
    have hil : it < s.heap.objs.size := by obtain ⟨_, q, _⟩ := hit; exact Heap.lt_size q
    have hai := tup_apart p hit
    have hae : e ≠ a := fun z => by
      subst z
      obtain ⟨o, h1, c1, _⟩ := p
      rw [show s.heap.get? e = _ from he] at h1
      cases h1
      injection c1 with e
      exact absurd e (by decide)
    have hu' : its.toArray[i]? = some u := by simpa using hu
    have hlt : i < its.toArray.size := (Array.getElem?_eq_some_iff.mp hu').1
    have D := Draws.tuple (prog := X.prog) (w := X.w) (A := X.A.in1) (I.ok.hd hc) it a hai its.toArray
    refine wpAny_pyNext_enum_itemD D he ⟨hit, p⟩ hlt hne (by simp [hne, hae]) fun y h' tk hP ho hst hT hsz hk => ?_
    have hy : y = u := by have hP : its.toArray[i]? = some y := hP; rw [hu'] at hP; exact (Option.some.inj hP).symm
    subst hy
    refine ⟨_, rfl, wpAny_letOwnedTupleGo_enum (s := { s with heap := h', toks := tk + 1 }) ho fun h'' he' sb => ?_⟩
    have hT2 : h''.get? s.heap.objs.size = some { cls := .type "tuple", data := .seq #[.int i tk, y] } := (sb.2 _ (Nat.ne_of_gt hel)).trans hT
    have new : ObjOk X.prog X.w (upd H s.heap.objs.size (.tup [.int (i : Nat), x])) h'' s.heap.objs.size (.tup [.int (i : Nat), x]) :=
      ⟨by show 2 ≤ sizeLine; decide, [.int i tk, y], .cons ⟨_, rfl⟩ (.cons ru .nil), ⟨_, hT2, rfl, _, rfl⟩⟩
    have I1 : Inv X pins σ (upd H s.heap.objs.size (.tup [.int (i : Nat), x])) { s with heap := h'', toks := tk + 1 } :=
      I.turnedNew (ch := [e, it]) (fun b ob hb q => (sb.2 b (fun z => hb (by simp [z]))).trans (hk b ob (fun z => hb (by simp [z])) (fun z => hb (by simp [z])) q)) hf (Nat.le_refl _) new
    refine ⟨.ref s.heap.objs.size, _, I1, rfl, ⟨_, x, rfl, I.hok.fresh (Nat.le_refl _), rfl, fun ys hy => by rw [I.tuple_inj hy hq]; exact hx⟩, ⟨⟨y, ?_⟩, hst.1.at (fun o q => (sb.2 it (Ne.symm hne)).trans q), hne⟩, fun b hb => ?_⟩
    · rw [show ((i + 1 : Nat) : Int) = (i : Int) + 1 by omega]; exact he'
    · have hb' : b < s.heap.objs.size := by
        rcases (by simpa using hb : b = e ∨ b = it) with z | z
        · rw [z]; exact hel
        · rw [z]; exact hil
      rw [upd_ne (Nat.ne_of_lt hb')]
      exact (hf b hb).1
  done := by
    intro X hP hw hK hc i pins s σ H E I hf st hg
    subst hP hw hK
    obtain ⟨⟨old, he⟩, hit, hne⟩ := st
    obtain ⟨xs, hq, hx⟩ := hg
    obtain ⟨its, rv, p, hz⟩ := I.tuple hq
    have p : s.heap.IsTuple a its.toArray := p
    obtain ⟨f0, f1, f2, f3, f4, f5⟩ := hf it (by simp)
    have hl := rv.length
    have D := Draws.tuple (prog := X.prog) (w := X.w) (A := X.A.in1) (I.ok.hd hc) it a (tup_apart p hit) its.toArray
    have hn : its.toArray.size = i := by simp; omega
    refine wpAny_pyNext_enum_endD D he ⟨by rw [hn]; exact hit, p⟩ fun h' eb => ⟨rfl, ?_⟩
    exact I.turned (t' := s.toks) (fun b o hb q => eb b o hb q) f0 f1 f3 f4 f5
  self := fun A i s Q E st h => by
    obtain ⟨⟨_, he⟩, _⟩ := st
    exact wpAny_pyIter_enum he h
end Bh

set_option maxHeartbeats 1000000
/-! What is walked: sources of loops and comprehensions. -/
namespace Bh
open PySem PySem.Spec PyProof.Rows L2

structure Gen (K : PySem.W.Frag) (J : It) (al : List Addr) (Z : Hp) (k : IK) (ds items : List D) : Prop where
  go : ∀ al' Z' G S H i d, Le al Z al' Z' → StR K al' Z' G S H → srcI k ds S = some items → items[i]? = some d → J.go i H
  yld : ∀ al' Z' G S H i d, Le al Z al' Z' → StR K al' Z' G S H → srcI k ds S = some items → items[i]? = some d → ∀ x H', J.yld i H x H' → ∃ Z2, Le al' Z' al' Z2 ∧ StR K al' Z2 G S H' ∧ RV K al' Z2 d x
  stop : ∀ al' Z' G S H, Le al Z al' Z' → StR K al' Z' G S H → srcI k ds S = some items → J.stop items.length H
def tI (X : Cx) (g : Gx) (k : IK) (src : List E) : TI := fun σ H R => ∃ al Z G s S, StR X.K al Z G S H ∧ RF X.K al Z s σ ∧ PRx X g σ G al Z (g.evs src s S) (fun al' Z' ds S' H' => ∃ items, srcI k ds S' = some items ∧ ∀ J, Gen X.K J al' Z' k ds items → R J H')
section
variable {K : PySem.W.Frag} {al : List Addr} {Z G H : Hp} {S : Store}
/-- a walked list or tuple, by its shape -/
inductive WK where | l | t
def WK.of : D → WK
  | .tup _ => .t
  | .ctup _ => .t
  | _ => .l
theorem walk_l {d : D} {v : V} {items : List D} (st : StR K al Z G S H) (r : RV K al Z d v) (e : walkI S d = some items) (w : WK.of d = .l) : ∃ a vs, v = .ref a ∧ SqL K H a vs ∧ RVs K al Z items vs := by
  unfold walkI at e
  split at e
  · cases w
  · cases w
  · cases e
    obtain ⟨a, rfl, h⟩ := r.scrI st
    refine ⟨a, _, rfl, h, ?_⟩
    rename_i ns
    clear h r
    induction ns with
    | nil => exact .nil
    | cons n ns ih => exact .cons (.int _) (ih w)
  · split at e
    · rename_i l hl
      cases e
      obtain ⟨a, vs, rfl, ha, rv⟩ := look_lst st r hl
      exact ⟨a, vs, rfl, .of ha, rv⟩
    · cases e
theorem walk_t {d : D} {v : V} {items : List D} (st : StR K al Z G S H) (r : RV K al Z d v) (e : walkI S d = some items) (w : WK.of d = .t) : ∃ a vs, v = .ref a ∧ SqT K H a vs ∧ RVs K al Z items vs := by
  unfold walkI at e
  split at e
  · cases e
    obtain ⟨a, vs, rfl, ha, rv⟩ := r.tupI st
    exact ⟨a, vs, rfl, .of ha, rv⟩
  · cases e
    cases r with
    | ctup h rv => exact ⟨_, _, rfl, sqT_mono st.zle h, rv⟩
  · cases w
  · rename_i h1 h2 h3
    exfalso
    cases d <;> first | exact h1 _ rfl | exact h2 _ rfl | exact absurd w (by simp [WK.of])
theorem gen_l {d : D} {a : Addr} {items : List D} (r : RV K al Z d (.ref a)) (w : WK.of d = .l) : Gen K (Itl K a) al Z .seq [d] items where
  go := fun al' Z' G S H i x l st e hi => by
    obtain ⟨a', vs, ea, hq, rv⟩ := walk_l st (r.mono l) e w
    cases ea
    obtain ⟨v, hv, _⟩ := rv.get hi
    exact ⟨vs, v, hq, hv⟩
  yld := fun al' Z' G S H i x l st e hi y H' hy => by
    obtain ⟨a', vs, ea, hq, rv⟩ := walk_l st (r.mono l) e w
    cases ea
    obtain ⟨rfl, hy⟩ := hy
    obtain ⟨v, hv, rx⟩ := rv.get hi
    have := hy vs hq
    rw [hv] at this
    cases this
    exact ⟨Z', Le.refl, st, rx⟩
  stop := fun al' Z' G S H l st e => by
    obtain ⟨a', vs, ea, hq, rv⟩ := walk_l st (r.mono l) e w
    cases ea
    exact ⟨vs, hq, by rw [rv.length]; exact Nat.le_refl _⟩
theorem gen_t {d : D} {a : Addr} {items : List D} (r : RV K al Z d (.ref a)) (w : WK.of d = .t) : Gen K (Itt K a) al Z .seq [d] items where
  go := fun al' Z' G S H i x l st e hi => by
    obtain ⟨a', vs, ea, hq, rv⟩ := walk_t st (r.mono l) e w
    cases ea
    obtain ⟨v, hv, _⟩ := rv.get hi
    exact ⟨vs, v, hq, hv⟩
  yld := fun al' Z' G S H i x l st e hi y H' hy => by
    obtain ⟨a', vs, ea, hq, rv⟩ := walk_t st (r.mono l) e w
    cases ea
    obtain ⟨rfl, hy⟩ := hy
    obtain ⟨v, hv, rx⟩ := rv.get hi
    have := hy vs hq
    rw [hv] at this
    cases this
    exact ⟨Z', Le.refl, st, rx⟩
  stop := fun al' Z' G S H l st e => by
    obtain ⟨a', vs, ea, hq, rv⟩ := walk_t st (r.mono l) e w
    cases ea
    exact ⟨vs, hq, by rw [rv.length]; exact Nat.le_refl _⟩
theorem numI_get : ∀ (l : List D) (n i : Nat) (d : D), (numI n l)[i]? = some d → ∃ x, l[i]? = some x ∧ d = .tup [.int ((n + i : Nat) : Int), x]
  | [], n, i, d, h => by simp [numI] at h
  | y :: l, n, 0, d, h => by
    simp [numI] at h
    exact ⟨y, by simp, h.symm⟩
  | y :: l, n, i + 1, d, h => by
    simp only [numI, List.getElem?_cons_succ] at h
    obtain ⟨x, h1, h2⟩ := numI_get l (n + 1) i d h
    exact ⟨x, by simpa using h1, by rw [h2, show n + 1 + i = n + (i + 1) by omega]⟩
theorem numI_len : ∀ (l : List D) (n : Nat), (numI n l).length = l.length
  | [], _ => rfl
  | _ :: l, n => by simp [numI, numI_len l]
theorem gen_el {d : D} {a : Addr} {items : List D} (r : RV K al Z d (.ref a)) (w : WK.of d = .l) : Gen K (Ite K a) al Z .enum [d] items where
  go := fun al' Z' G S H i x l st e hi => by
    simp only [srcI, Option.map_eq_some_iff] at e
    obtain ⟨l0, e, rfl⟩ := e
    obtain ⟨a', vs, ea, hq, rv⟩ := walk_l st (r.mono l) e w
    cases ea
    obtain ⟨z, hz, _⟩ := numI_get _ _ _ _ hi
    obtain ⟨v, hv, _⟩ := rv.get hz
    exact ⟨vs, v, hq, hv⟩
  yld := fun al' Z' G S H i x l st e hi y H' hy => by
    simp only [srcI, Option.map_eq_some_iff] at e
    obtain ⟨l0, e, rfl⟩ := e
    obtain ⟨a', vs, ea, hq, rv⟩ := walk_l st (r.mono l) e w
    cases ea
    obtain ⟨q, u, rfl, hn, rfl, hy⟩ := hy
    obtain ⟨z, hz, ex⟩ := numI_get _ _ _ _ hi
    rw [Nat.zero_add] at ex
    subst ex
    obtain ⟨v, hv, rx⟩ := rv.get hz
    have := hy vs hq
    rw [hv] at this
    cases this
    exact ⟨upd Z' q _, le_upd (st.zp hn), st.newZ hn, .tup upd_same (.cons (.int _) (.cons (rx.mono (le_upd (st.zp hn))) .nil))⟩
  stop := fun al' Z' G S H l st e => by
    simp only [srcI, Option.map_eq_some_iff] at e
    obtain ⟨l0, e, rfl⟩ := e
    obtain ⟨a', vs, ea, hq, rv⟩ := walk_l st (r.mono l) e w
    cases ea
    exact ⟨vs, hq, by rw [numI_len, rv.length]; exact Nat.le_refl _⟩
theorem gen_et {d : D} {a : Addr} {items : List D} (r : RV K al Z d (.ref a)) (w : WK.of d = .t) : Gen K (IteT K a) al Z .enum [d] items where
  go := fun al' Z' G S H i x l st e hi => by
    simp only [srcI, Option.map_eq_some_iff] at e
    obtain ⟨l0, e, rfl⟩ := e
    obtain ⟨a', vs, ea, hq, rv⟩ := walk_t st (r.mono l) e w
    cases ea
    obtain ⟨z, hz, _⟩ := numI_get _ _ _ _ hi
    obtain ⟨v, hv, _⟩ := rv.get hz
    exact ⟨vs, v, hq, hv⟩
  yld := fun al' Z' G S H i x l st e hi y H' hy => by
    simp only [srcI, Option.map_eq_some_iff] at e
    obtain ⟨l0, e, rfl⟩ := e
    obtain ⟨a', vs, ea, hq, rv⟩ := walk_t st (r.mono l) e w
    cases ea
    obtain ⟨q, u, rfl, hn, rfl, hy⟩ := hy
    obtain ⟨z, hz, ex⟩ := numI_get _ _ _ _ hi
    rw [Nat.zero_add] at ex
    subst ex
    obtain ⟨v, hv, rx⟩ := rv.get hz
    have := hy vs hq
    rw [hv] at this
    cases this
    exact ⟨upd Z' q _, le_upd (st.zp hn), st.newZ hn, .tup upd_same (.cons (.int _) (.cons (rx.mono (le_upd (st.zp hn))) .nil))⟩
  stop := fun al' Z' G S H l st e => by
    simp only [srcI, Option.map_eq_some_iff] at e
    obtain ⟨l0, e, rfl⟩ := e
    obtain ⟨a', vs, ea, hq, rv⟩ := walk_t st (r.mono l) e w
    cases ea
    exact ⟨vs, hq, by rw [numI_len, rv.length]⟩
theorem gen_r {k : IK} {ds items : List D} {lo : Int} {n : Nat} (hit : items = (List.range n).map fun i => .int (lo + (i : Nat))) : Gen K (Itr lo n) al Z k ds items where
  go := fun al' Z' G S H i x l st e hi => by
    subst hit
    have := (List.getElem?_eq_some_iff.mp hi).1
    simp at this
    exact this
  yld := fun al' Z' G S H i x l st e hi y H' hy => by
    subst hit
    obtain ⟨rfl, rfl⟩ := hy
    have h1 := (List.getElem?_eq_some_iff.mp hi).1
    simp at h1
    simp [h1] at hi
    subst hi
    exact ⟨Z', Le.refl, st, .int _⟩
  stop := fun al' Z' G S H l st e => by
    subst hit
    simp [Itr]
end
theorem srcI_rng1 {ds items : List D} {S : Store} (h : srcI .rng1 ds S = some items) : ∃ n, ds = [.int n] ∧ small n = true ∧ items = (List.range n.toNat).map fun i => .int (i : Nat) := by
  rcases ds with _ | ⟨d, _ | ⟨e, l⟩⟩
  · exact absurd h (by simp [srcI])
  · cases d <;> first | exact absurd (show (none : Option (List D)) = some items from h) (by simp) | skip
    rename_i n
    have h : (if small n = true then some ((List.range n.toNat).map fun i => D.int (i : Nat)) else none) = some items := h
    split at h
    · cases h; exact ⟨n, rfl, by assumption, rfl⟩
    · cases h
  · exact absurd h (by simp [srcI])
theorem srcI_rng2 {ds items : List D} {S : Store} (h : srcI .rng2 ds S = some items) : ∃ a b, ds = [.int a, .int b] ∧ (small a && small b) = true ∧ items = (List.range (b - a).toNat).map fun i => .int (a + (i : Nat)) := by
  rcases ds with _ | ⟨d, _ | ⟨e, _ | ⟨f, l⟩⟩⟩
  · exact absurd h (by simp [srcI])
  · exact absurd h (by simp [srcI])
  · cases d <;> first | exact absurd (show (none : Option (List D)) = some items from h) (by simp) | skip
    cases e <;> first | exact absurd (show (none : Option (List D)) = some items from h) (by simp) | skip
    rename_i a b
    have h : (if (small a && small b) = true then some ((List.range (b - a).toNat).map fun i => D.int (a + (i : Nat))) else none) = some items := h
    split at h
    · cases h; exact ⟨a, b, rfl, by assumption, rfl⟩
    · cases h
  · exact absurd h (by simp [srcI])
section
variable {X : Cx} {g : Gx} {pos p : Pos} {tg : Expr}
/-- a source of one value -/
theorem src1 {k : IK} {e' : E} {σ : L2.St} {H : Hp} {R : It → Hp → Prop} (h : tI X g k [e'] σ H R) :
    tE X g e' σ H fun v H1 => ∃ al Z G S d items, StR X.K al Z G S H1 ∧ RV X.K al Z d v ∧ srcI k [d] S = some items ∧ ∀ J, Gen X.K J al Z k [d] items → R J H1 := by
  obtain ⟨al, Z, G, s, S, st, rf, h⟩ := h
  simp only [evs] at h
  refine ⟨al, Z, G, s, S, st, rf, (PostR.bind h).imp fun al1 Z1 d S1 H1 _ l1 st1 h1 v rv => ?_⟩
  obtain ⟨items, h2, h3⟩ := PostR.ok h1 st1
  exact ⟨al1, Z1, G, S1, d, items, st1, rv, h2, h3⟩
theorem pi_seq {e : Expr} {e' : E} (he : PE X e (tE X g e')) : PI X tg e (tI X g .seq [e']) := by
  refine ⟨fun pins s σ H R I h => ?_⟩
  refine thn (he.run pins s σ H _ I (src1 h)) fun v s1 ⟨x, H1, I1, r1, al, Z, G, S, d, items, st, rv, hs, q⟩ => ?_
  cases w : WK.of d with
  | l =>
    obtain ⟨a, vs, rfl, hq, rvs⟩ := walk_l st rv hs w
    cases r1
    obtain ⟨its, rv', pl, hz⟩ := I1.list hq
    exact wpAny_pyIter_list pl.isList (pi_one (tk := s1.toks) I1 _ (turn_list a _) ⟨_, Heap.get?_push_size _ rfl, rfl, rfl⟩ (q _ (gen_l rv w)))
  | t =>
    obtain ⟨a, vs, rfl, hq, rvs⟩ := walk_t st rv hs w
    cases r1
    obtain ⟨its, rv', pl, hz⟩ := I1.tuple hq
    exact wpAny_pyIter_tuple (show s1.heap.IsTuple a its.toArray from pl) (pi_one (tk := s1.toks) I1 _ (turn_tuple a _) ⟨_, Heap.get?_push_size _ rfl, rfl, rfl⟩ (q _ (gen_t rv w)))
theorem PI.wk {e : Expr} {t t' : TI} (h : PI X tg e t) (f : ∀ σ H R, t' σ H R → t σ H R) : PI X tg e t' := ⟨fun pins s σ H R I q => h.run pins s σ H R I (f _ _ _ q)⟩
theorem star1 {e : Expr} (h : notStar e = true) (env : Env) : starEach [e] env = [(false, eval e env)] := by rw [star_of h]; rfl
theorem pi_rng1' {e : Expr} {e' : E} (hg : Gl X "range") (hm : X.mg "range" = none) (he : PE X e (tE X g e')) (hs : notStar e = true) : PI X tg (.Call (.Name "range" p) [e] [] pos) (tI X g .rng1 [e']) := by
  refine PI.wk (pi_range1 hg hm (pa_of (.cons he hs .nil)) (star1 hs _)) fun σ H R h => ?_
  obtain ⟨al, Z, G, s, S, st, rf, h⟩ := h
  refine ⟨al, Z, G, s, S, st, rf, PostR.imp h fun al1 Z1 ds S1 H1 _ l1 st1 h1 vs rv => ?_⟩
  obtain ⟨items, h2, h3⟩ := h1
  obtain ⟨n, rfl, hz, rfl⟩ := srcI_rng1 h2
  cases rv with
  | cons r t =>
    cases t
    cases r
    simp [small] at hz
    exact ⟨n, rfl, by omega, by omega, h3 _ (gen_r (by simp))⟩
theorem pi_rng2' {e f : Expr} {e' f' : E} (hg : Gl X "range") (hm : X.mg "range" = none) (he : PE X e (tE X g e')) (hf : PE X f (tE X g f')) (hs : notStar e = true) (hs2 : notStar f = true) : PI X tg (.Call (.Name "range" p) [e, f] [] pos) (tI X g .rng2 [e', f']) := by
  refine PI.wk (pi_range2 hg hm (pa_of (.cons he hs (.cons hf hs2 .nil))) (by rw [star_of hs, star1 hs2]) (star1 hs2 _)) fun σ H R h => ?_
  obtain ⟨al, Z, G, s, S, st, rf, h⟩ := h
  refine ⟨al, Z, G, s, S, st, rf, PostR.imp h fun al1 Z1 ds S1 H1 _ l1 st1 h1 vs rv => ?_⟩
  obtain ⟨items, h2, h3⟩ := h1
  obtain ⟨a, b, rfl, hz, rfl⟩ := srcI_rng2 h2
  cases rv with
  | cons r t =>
    cases t with
    | cons r2 t =>
      cases t
      cases r; cases r2
      simp [small] at hz
      exact ⟨a, b, rfl, ⟨by omega, by omega, by omega, by omega⟩, h3 _ (gen_r rfl)⟩
theorem pi_enum' {e : Expr} {e' : E} {tpos : Pos} {elts : List Expr} {kk : Nat} (hg : Gl X "enumerate") (hm : X.mg "enumerate" = none) (he : PE X e (tE X g e')) (hs : notStar e = true) :
    PI X (.Tuple elts kk tpos) (.Call (.Name "enumerate" p) [e] [] pos) (tI X g .enum [e']) := by
  refine ⟨fun pins s σ H R I h => ?_⟩
  have ha : PA X [e] _ := pa_cons he pa_nil (star_of hs _ _)
  refine Call_ (ld_blt I hg hm boot_enumerate (PyProof.Rows.callWith_type1 (thn (ha.run pos pins s σ H (fun us H1 => ∃ v, us = [v] ∧ ∃ al Z G S d items, StR X.K al Z G S H1 ∧ RV X.K al Z d v ∧ srcI .enum [d] S = some items ∧ ∀ J, Gen X.K J al Z .enum [d] items → R J H1) I ?_) fun us s1 ⟨vs, H1, I1, r1, q1⟩ => ?_) (star1 hs _) rfl))
  · obtain ⟨al, Z, G, s, S, st, rf, h⟩ := src1 h
    exact ⟨al, Z, G, s, S, st, rf, PostR.imp h fun al1 Z1 d S1 H1 _ l1 st1 h1 v rv => ⟨v, rfl, h1 v rv⟩⟩
  obtain ⟨v, rfl, al, Z, G, S, d, items, st, rv, hsrc, q⟩ := q1
  obtain ⟨u, rfl, ru⟩ := vals1 r1
  have hsrc0 := hsrc
  simp only [srcI, Option.map_eq_some_iff] at hsrc
  obtain ⟨l0, hw, rfl⟩ := hsrc
  have low : ∀ b, b = s1.heap.objs.size + 1 ∨ b = s1.heap.objs.size → s1.heap.objs.size ≤ b := fun b e' => by
    rcases e' with z | z
    · rw [z]; exact Nat.le_add_right _ _
    · rw [z]; exact Nat.le_refl _
  cases w : WK.of d with
  | l =>
    obtain ⟨a, vs, rfl, hq, rvs⟩ := walk_l st rv hw w
    cases ru
    obtain ⟨its, rv', p', hz⟩ := I1.list hq
    refine call_enumerate_list p'.isList fun h' he hit hsz hk => wpAny_pyIter_enum he ?_
    have I2 : Inv X pins σ H1 { s1 with heap := h' } := I1.kept (t' := s1.toks) hk
    refine ⟨_, [s1.heap.objs.size + 1, s1.heap.objs.size], _, _, H1, rfl, I2, turn_enum a _ s1.heap.objs.size, ⟨⟨.none, he⟩, hit, Nat.succ_ne_self _⟩, fun b hb => ?_, q _ (gen_el rv w)⟩
    have hle := low b (by simpa using hb)
    exact I1.fpOk hle (I1.hok.fresh hle)
  | t =>
    obtain ⟨a, vs, rfl, hq, rvs⟩ := walk_t st rv hw w
    cases ru
    obtain ⟨its, rv', p', hz⟩ := I1.tuple hq
    refine bh_call_enumerate_tuple (show s1.heap.IsTuple a its.toArray from p') fun h' he hit hsz hk => wpAny_pyIter_enum he ?_
    have I2 : Inv X pins σ H1 { s1 with heap := h' } := I1.kept (t' := s1.toks) hk
    refine ⟨_, [s1.heap.objs.size + 1, s1.heap.objs.size], _, _, H1, rfl, I2, turn_enumT a _ s1.heap.objs.size, ⟨⟨.none, he⟩, hit, Nat.succ_ne_self _⟩, fun b hb => ?_, q _ (gen_et rv w)⟩
    have hle := low b (by simpa using hb)
    exact I1.fpOk hle (I1.hok.fresh hle)
end
end Bh

set_option maxHeartbeats 1000000
/-! Targets, comprehensions. -/
namespace Bh
open PySem PySem.Spec PyProof.Rows L2
/-! ### the hidden list -/
section
variable {K : PySem.W.Frag} {al : List Addr} {Z G H : Hp} {S : Store} {p : Addr} {o o' : HO}
theorem StR.zG (x : StR K al Z (upd G p o) S H) : Z p = none := x.zg p o upd_same
theorem StR.alG (x : StR K al Z (upd G p o) S H) {n : Nat} {a : Addr} (h : al[n]? = some a) : a ≠ p := fun e => by
  have := (x.zal n a h).2
  rw [e, upd_same] at this
  cases this
theorem StR.setG (x : StR K al Z (upd G p o) S H) : StR K al Z (upd G p o') S (upd H p o') where
  len := x.len
  zle := fun a u h => by rw [upd_ne (ne_of_none h x.zG)]; exact x.zle _ _ h
  gle := fun a u h => by
    by_cases e : a = p
    · subst e; rw [upd_same] at h ⊢; exact h
    · rw [upd_ne e] at h ⊢; exact x.gle _ _ (by rw [upd_ne e]; exact h)
  obj := fun n a u h1 h2 => (x.obj n a u h1 h2).mono Le.refl (upd_ne (x.alG h1))
  zal := fun n a h => ⟨(x.zal n a h).1, by have := (x.zal n a h).2; rw [upd_ne (x.alG h)] at this ⊢; exact this⟩
  inj := x.inj
  zg := fun a u h => by
    by_cases e : a = p
    · subst e; exact x.zG
    · rw [upd_ne e] at h; exact x.zg a u (by rw [upd_ne e]; exact h)
theorem StR.gz (x : StR K al Z (upd G p o) S H) (hg : G p = none) : StR K al (upd Z p o) G S H where
  len := x.len
  zle := fun a u h => by
    by_cases e : a = p
    · subst e; exact x.gle _ _ (by rw [upd_same] at h ⊢; exact h)
    · rw [upd_ne e] at h; exact x.zle _ _ h
  gle := fun a u h => x.gle _ _ (by rw [upd_ne (ne_of_none h hg)]; exact h)
  obj := fun n a u h1 h2 => (x.obj n a u h1 h2).mono (le_upd x.zG) rfl
  zal := fun n a h => by
    obtain ⟨h1, h2⟩ := x.zal n a h
    rw [upd_ne (x.alG h)] at h2 ⊢
    exact ⟨h1, h2⟩
  inj := x.inj
  zg := fun a u h => by
    have e := ne_of_none h hg
    rw [upd_ne e]
    exact x.zg a u (by rw [upd_ne e]; exact h)
theorem StR.gs (x : StR K al Z (upd G p o) S H) (hg : G p = none) {q : O} (hq : OR K (al ++ [p]) Z H p q) : StR K (al ++ [p]) Z G (S ++ [q]) H where
  len := by simp [x.len]
  zle := x.zle
  gle := fun a u h => x.gle _ _ (by rw [upd_ne (ne_of_none h hg)]; exact h)
  obj := fun n a u h1 h2 => by
    by_cases hn : n < al.length
    · rw [List.getElem?_append_left hn] at h1
      rw [List.getElem?_append_left (by rw [← x.len]; exact hn)] at h2
      exact (x.obj n a u h1 h2).mono le_al rfl
    · have e1 : n = al.length := by
        have := (List.getElem?_eq_some_iff.mp h1).1
        simp at this; omega
      subst e1
      rw [List.getElem?_append_right (Nat.le_refl _)] at h1
      rw [x.len, List.getElem?_append_right (Nat.le_refl _)] at h2
      simp at h1 h2
      subst h1 h2
      exact hq
  zal := fun n a h => by
    by_cases hn : n < al.length
    · rw [List.getElem?_append_left hn] at h
      obtain ⟨h1, h2⟩ := x.zal n a h
      rw [upd_ne (x.alG h)] at h2
      exact ⟨h1, h2⟩
    · have e1 : n = al.length := by
        have := (List.getElem?_eq_some_iff.mp h).1
        simp at this; omega
      subst e1
      rw [List.getElem?_append_right (Nat.le_refl _)] at h
      simp at h
      subst h
      exact ⟨x.zG, hg⟩
  inj := fun n m a h1 h2 => by
    have key : ∀ k, (al ++ [p])[k]? = some a → (k < al.length ∧ al[k]? = some a) ∨ (k = al.length ∧ a = p) := fun k h => by
      by_cases hk : k < al.length
      · rw [List.getElem?_append_left hk] at h; exact .inl ⟨hk, h⟩
      · have e1 : k = al.length := by
          have := (List.getElem?_eq_some_iff.mp h).1
          simp at this; omega
        subst e1
        rw [List.getElem?_append_right (Nat.le_refl _)] at h
        simp at h
        exact .inr ⟨rfl, h.symm⟩
    rcases key n h1 with ⟨a1, b1⟩ | ⟨a1, b1⟩ <;> rcases key m h2 with ⟨a2, b2⟩ | ⟨a2, b2⟩
    · exact x.inj n m a b1 b2
    · subst b2; exact absurd rfl (x.alG b1)
    · subst b1; exact absurd rfl (x.alG b2)
    · rw [a1, a2]
  zg := fun a u h => x.zg a u (by rw [upd_ne (ne_of_none h hg)]; exact h)
theorem hid_done {own : Bool} {l : List D} {vs : List V} {Wx : WXs} {Q : VK} {al0 : List Addr} {Z0 : Hp} (h : PV K G Wx al0 Z0 (newL own l S) Q) (le : Le al0 Z0 al Z) (st : StR K al Z (upd G p (.lst vs)) S H) (hg : G p = none) (r : RVs K al Z l vs) : Q (.ref p) H := by
  have e := newL_len h
  unfold newL at h
  rw [if_pos e] at h
  cases own with
  | true =>
    have h : PV K G Wx al0 Z0 (.ok (.ref S.length) (S ++ [.lst l])) Q := h
    refine h _ _ _ (le.trans le_al) (st.gs hg ⟨vs, st.gle _ _ upd_same, r.mono le_al⟩) _ (.ref ?_)
    rw [← st.len]
    simp
  | false =>
    have h : PV K G Wx al0 Z0 (.ok (.lst l) S) Q := h
    exact h _ _ _ (le.trans (le_upd st.zG)) (st.gz hg) _ (.lst upd_same (r.mono (le_upd st.zG)))
end
/-! ### wiping -/
theorem RF.wipe {K : PySem.W.Frag} {al : List Addr} {Z : Hp} {s : Fr} {σ : L2.St} (x : RF K al Z s σ) : ∀ l : List Nat, RF K al Z (wipeF s l) (L2.wipe σ l)
  | [] => x
  | i :: l => (RF.wipe x l).unset i
theorem wipe_set {σ : L2.St} {i : Nat} {v : Option V} : ∀ {l : List Nat}, i ∈ l → L2.wipe (σ.set i v) l = L2.wipe σ l
  | j :: l, h => by
    unfold L2.wipe
    by_cases e : i ∈ l
    · rw [wipe_set e]
    · have e2 : i = j := by
        rcases List.mem_cons.mp h with z | z
        · exact z
        · exact absurd z e
      subst e2
      clear h
      have key : ∀ l : List Nat, i ∉ l → (L2.wipe (σ.set i v) l) = (L2.wipe σ l).set i v := fun l => by
        induction l with
        | nil => intro _; rfl
        | cons k l ih =>
          intro h
          simp only [List.mem_cons, not_or] at h
          show (L2.wipe (σ.set i v) l).set k none = ((L2.wipe σ l).set k none).set i v
          rw [ih h.2, List.set_comm _ _ h.1]
      rw [key l e, List.set_set]
/-! ### targets -/
def tG (X : Cx) (t : T) : TG := fun v σ H Q => ∃ al Z G s S d s', StR X.K al Z G S H ∧ RF X.K al Z s σ ∧ RV X.K al Z d v ∧ bindT s d t = some s' ∧
  ∀ σ', RF X.K al Z s' σ' → (∀ l, (∀ i ∈ tgs t, i ∈ l) → L2.wipe σ' l = L2.wipe σ l) → Q σ' H
inductive TNs (X : Cx) : List Expr → List Nat → Prop
  | nil : TNs X [] []
  | cons {x : Str} {pos : Pos} {i : Nat} {es : List Expr} {l : List Nat} : PG X (.Name x pos) (gName i) → TNs X es l → TNs X (.Name x pos :: es) (i :: l)
def setAll (s : Fr) (is : List Nat) (l : List D) : Fr := (is.zip l).foldl (fun s p => s.set p.1 (some p.2)) s
def tGs (X : Cx) (is : List Nat) : TGs := fun vs σ H Q => ∃ al Z s ds, RF X.K al Z s σ ∧ RVs X.K al Z ds vs ∧ ds.length = is.length ∧
  ∀ σ', RF X.K al Z (setAll s is ds) σ' → (∀ l, (∀ i ∈ is, i ∈ l) → L2.wipe σ' l = L2.wipe σ l) → Q σ' H
section
variable {X : Cx} {g : Gx} {pos : Pos}
theorem PG.wk {e : Expr} {t t' : TG} (h : PG X e t) (f : ∀ v σ H Q, t' v σ H Q → t v σ H Q) : PG X e t' := ⟨fun pins s σ H v u Q I r q => h.run pins s σ H v u Q I r (f _ _ _ _ q)⟩
theorem PGs.wk {e : List Expr} {t t' : TGs} (h : PGs X e t) (f : ∀ v σ H Q, t' v σ H Q → t v σ H Q) : PGs X e t' := ⟨fun pins s σ H v u Q I r q => h.run pins s σ H v u Q I r (f _ _ _ _ q)⟩
theorem pgs_of : ∀ {es : List Expr} {is : List Nat}, TNs X es is → PGs X es (tGs X is)
  | _, _, .nil => PGs.wk pgs_nil fun vs σ H Q ⟨al, Z, s, ds, rf, rv, hl, h⟩ => by
    cases ds with
    | nil => cases rv; exact ⟨rfl, h _ rf fun _ _ => rfl⟩
    | cons d ds => simp at hl
  | _, _, @TNs.cons _ x pos i es is hx t => PGs.wk (pgs_cons hx (pgs_of t)) fun vs σ H Q ⟨al, Z, s, ds, rf, rv, hl, h⟩ => by
    cases ds with
    | nil => simp at hl
    | cons d ds =>
      cases rv with
      | cons r rv =>
        refine ⟨_, _, rfl, al, Z, s.set i (some d), ds, rf.set r, rv, by simpa using hl, fun σ' rf' hw => h σ' rf' fun l hi => ?_⟩
        rw [hw l fun j hj => hi j (List.mem_cons_of_mem _ hj)]
        exact wipe_set (hi i List.mem_cons_self)
theorem tns_len : ∀ {es : List Expr} {is : List Nat}, TNs X es is → (assignEach es X.env).length = is.length ∧ (assignEach es X.env).findIdx? (·.1) = none
  | _, _, .nil => ⟨rfl, rfl⟩
  | _, _, @TNs.cons _ x pos i es is hx t => by
    obtain ⟨h1, h2⟩ := tns_len t
    constructor
    · show (assignEach es X.env).length + 1 = is.length + 1
      rw [h1]
    · show List.findIdx? (·.1) ((false, assign (.Name x pos) X.env) :: assignEach es X.env) = none
      rw [List.findIdx?_cons]
      simp [h2]
theorem pg_tup' {es : List Expr} {k : Nat} {is : List Nat} (hc : X.calm = true) (t : TNs X es is) : PG X (.Tuple es k pos) (tG X (.tup is)) := by
  obtain ⟨h1, h2⟩ := tns_len t
  refine PG.wk (pg_tup hc (pgs_of t) h1 h2) fun v σ H Q ⟨al, Z, G, s, S, d, s', st, rf, rv, hb, h⟩ => ?_
  simp only [bindT] at hb
  split at hb
  · rename_i l
    split at hb
    · rename_i hl
      cases hb
      obtain ⟨a, vs, rfl, ha, rvs⟩ := rv.tupI st
      exact ⟨a, vs, rfl, .of ha, by rw [← rvs.length]; exact hl, al, Z, s, l, rf, rvs, hl, fun σ' rf' hw => h σ' rf' hw⟩
    · cases hb
  · cases hb
theorem pg_nm' {x : Str} {i : Nat} (h : PG X (.Name x pos) (gName i)) : PG X (.Name x pos) (tG X (.nm i)) := by
  refine PG.wk h fun v σ H Q ⟨al, Z, G, s, S, d, s', st, rf, rv, hb, h⟩ => ?_
  simp only [bindT] at hb
  cases hb
  exact h _ (rf.set rv) fun l hi => wipe_set (hi i (by simp [tgs]))
end
/-! ### loops over hidden lists -/
def LoopW (J : It) (Qend : Hp → Prop) (body : V → Hp → (Hp → Prop) → Prop) (H0 : Hp) : Prop :=
  ∃ W : Nat → Nat → Hp → Prop, (∃ m, W 0 m H0) ∧ ∀ i m H, W i m H → (J.stop i H ∧ Qend H) ∨ (J.go i H ∧ ∃ Nx : Hp → Prop, (∀ H', Nx H' → ∃ m', m' < m ∧ W (i + 1) m' H') ∧ ∀ x H', J.yld i H x H' → body x H' Nx)
theorem lcD_ne_exc {k : IK} {ds items : List D} {f : D → Store → R (List D)} : ∀ (l : List D) (S : Store) (c : Str) (x : Option (Str × D)) (S' : Store), lcD k ds items f l S ≠ .exc c x S'
  | [], S, c, x, S', h => by
    unfold lcD at h
    split at h <;> cases h
  | d :: l, S, c, x, S', h => by
    unfold lcD at h
    split at h
    · split at h
      · split at h <;> cases h
      · cases h
    · cases h
section
variable {K : PySem.W.Frag} {J : It} {al0 : List Addr} {Z0 G H0 : Hp} {p : Addr} {k : IK} {ds items : List D} {f : D → Store → R (List D)} {S0 Se : Store} {acc0 tot : List D} {vs0 : List V} {Qend : Hp → Prop} {body : V → Hp → (Hp → Prop) → Prop} {al1 : List Addr} {Z1 : Hp}
theorem loopW (gen : Gen K J al1 Z1 k ds items) (l1 : Le al1 Z1 al0 Z0) (e : lcD k ds items f items S0 = .ok tot Se) (hz : acc0.length + tot.length ≤ sizeLine) (st0 : StR K al0 Z0 (upd G p (.lst vs0)) S0 H0) (r0 : RVs K al0 Z0 acc0 vs0)
    (hend : ∀ al Z vs H, Le al0 Z0 al Z → StR K al Z (upd G p (.lst vs)) Se H → RVs K al Z (acc0 ++ tot) vs → Qend H)
    (hbody : ∀ al Z S acc vs d r S' x H' (Nx : Hp → Prop), Le al0 Z0 al Z → StR K al Z (upd G p (.lst vs)) S H' → RVs K al Z acc vs → RV K al Z d x → f d S = .ok r S' → acc.length + r.length ≤ sizeLine →
      (∀ al3 Z3 vs' H3, Le al Z al3 Z3 → StR K al3 Z3 (upd G p (.lst vs')) S' H3 → RVs K al3 Z3 (acc ++ r) vs' → Nx H3) → body x H' Nx) : LoopW J Qend body H0 := by
  refine ⟨fun i m H => m = items.length - i ∧ i ≤ items.length ∧ ∃ al Z S acc vs rr, Le al0 Z0 al Z ∧ StR K al Z (upd G p (.lst vs)) S H ∧ RVs K al Z acc vs ∧ lcD k ds items f (items.drop i) S = .ok rr Se ∧ acc ++ rr = acc0 ++ tot,
    ⟨items.length, by simp, Nat.zero_le _, al0, Z0, S0, acc0, vs0, tot, Le.refl, st0, r0, by simpa using e, rfl⟩, ?_⟩
  rintro i m H ⟨rfl, hi, al, Z, S, acc, vs, rr, l, st, rv, ee, et⟩
  by_cases hlt : i < items.length
  · rw [List.drop_eq_getElem_cons hlt] at ee
    unfold lcD at ee
    split at ee
    · rename_i hsrc
      split at ee
      · rename_i r S' hf
        split at ee
        · rename_i r' S'' hr
          cases ee
          have hg := List.getElem?_eq_getElem hlt
          refine .inr ⟨gen.go al Z _ S H i _ (l1.trans l) st hsrc hg, fun H' => ∃ al Z S acc vs rr, Le al0 Z0 al Z ∧ StR K al Z (upd G p (.lst vs)) S H' ∧ RVs K al Z acc vs ∧ lcD k ds items f (items.drop (i + 1)) S = .ok rr Se ∧ acc ++ rr = acc0 ++ tot,
            fun H' h => ⟨items.length - (i + 1), by omega, rfl, hlt, h⟩, fun x H' hy => ?_⟩
          obtain ⟨Z2, l2, st2, rx⟩ := gen.yld al Z _ S H i _ (l1.trans l) st hsrc hg x H' hy
          refine hbody al Z2 S acc vs _ r S' x H' _ (l.trans l2) st2 (rv.mono l2) rx hf ?_ fun al3 Z3 vs' H3 l3 st3 rv3 => ?_
          · have := congrArg List.length et
            simp at this
            omega
          · exact ⟨al3, Z3, S', acc ++ r, vs', r', (l.trans l2).trans l3, st3, rv3, hr, by rw [← et, List.append_assoc]⟩
        · cases ee
      · cases ee
    · cases ee
  · have hi' : i = items.length := by omega
    subst hi'
    rw [List.drop_length] at ee
    unfold lcD at ee
    split at ee
    · rename_i hsrc
      cases ee
      rw [List.append_nil] at et
      subst et
      exact .inl ⟨gen.stop al Z _ _ H (l1.trans l) st hsrc, hend al Z vs H l st rv⟩
    · cases ee
end
/-- no exception is wanted within a comprehension -/
def Gx.still (g : Gx) : Gx := ⟨g.con, g.call, fun _ _ _ _ => False⟩
section
variable {X : Cx} {g : Gx} {pos : Pos}
theorem PTs.wk {e : List Expr} {t t' : TT} (h : PTs X e t) (f : ∀ σ H Q, t' σ H Q → t σ H Q) : PTs X e t' := ⟨fun pins s σ H Q I q => h.run pins s σ H Q I (f _ _ _ q)⟩
theorem pts_nil' : PTs X [] (tAll X g []) := PTs.wk pts_nil fun σ H Q q => all_nil q
theorem pts_one' {e : Expr} {e' : E} (h : PT X e (tT X g e')) : PTs X [e] (tAll X g [e']) := PTs.wk (pts_one h) fun σ H Q q => by
  obtain ⟨al, Z, G, s, S, st, rf, h⟩ := all_step q
  refine ⟨al, Z, G, s, S, st, rf, PostR.imp h fun al1 Z1 d S1 H1 _ l1 st1 ⟨b, e, q⟩ => ⟨b, e, ?_⟩⟩
  cases b with
  | true => exact all_nil (ofT q)
  | false => exact ofF q
/-- what an element gives: its turn in the evaluator -/
def turnE (g : Gx) (elt : E) (t : T) (ifs : List E) (s : Fr) (d : D) (S2 : Store) : R (List D) := match bindT s d t with
  | some s' => (evAnd g.con g.call ifs s' S2).bind fun b S3 => match b with
    | .bl true => (g.ev elt s' S3).bind fun v S4 => .ok [v] S4
    | .bl false => .ok [] S3
    | _ => .bad
  | none => .bad
theorem R.bind_ok {α β : Type} {r : R α} {f : α → Store → R β} {b : β} {S' : Store} (h : r.bind f = .ok b S') : ∃ a S, r = .ok a S ∧ f a S = .ok b S' := by
  cases r with
  | ok a S => exact ⟨a, S, rfl, h⟩
  | exc c x S => cases h
  | bad => cases h
theorem turn_ok {elt : E} {t : T} {ifs : List E} {s : Fr} {σ : L2.St} {al : List Addr} {Z G : Hp} {S S' : Store} {H' : Hp} {p : Addr} {acc r : List D} {vs : List V} {d : D} {x : V} {Nx : Hp → Prop} {vw : List Nat} {σ0 : L2.St}
    (hsub : ∀ i ∈ tgs t, i ∈ vw) (hσ : σ0 = L2.wipe σ vw) (rf : RF X.K al Z s σ0) (st : StR X.K al Z (upd G p (.lst vs)) S H') (rv : RVs X.K al Z acc vs) (rd : RV X.K al Z d x) (e : turnE g elt t ifs s d S = .ok r S') (hz : acc.length + r.length ≤ sizeLine)
    (hn : ∀ al3 Z3 vs' H3, Le al Z al3 Z3 → StR X.K al3 Z3 (upd G p (.lst vs')) S' H3 → RVs X.K al3 Z3 (acc ++ r) vs' → Nx H3) :
    tG X t x σ0 H' fun σ2 H2 => L2.wipe σ2 vw = σ0 ∧ tAll X g.still ifs σ2 H2 fun b H3 =>
      if b = true then tE X g.still elt σ2 H3 fun y H4 => ∃ acc, H4 p = some (.lst acc) ∧ acc.length < sizeLine ∧ Nx (upd H4 p (.lst (acc ++ [y]))) else Nx H3 := by
  unfold turnE at e
  split at e
  · rename_i s' hb
    refine ⟨al, Z, _, s, S, d, s', st, rf, rd, hb, fun σ2 rf2 hw => ⟨?_, ?_⟩⟩
    · rw [hw vw hsub, hσ]
      have idem : ∀ l : List Nat, (∀ i ∈ l, i ∈ vw) → L2.wipe (L2.wipe σ l) vw = L2.wipe σ vw := fun l => by
        induction l with
        | nil => intro _; rfl
        | cons i l ih =>
          intro h
          show L2.wipe ((L2.wipe σ l).set i none) vw = _
          rw [wipe_set (h i List.mem_cons_self)]
          exact ih fun j hj => h j (List.mem_cons_of_mem _ hj)
      exact idem vw fun _ h => h
    · obtain ⟨b, S3, e1, e2⟩ := R.bind_ok e
      refine ⟨al, Z, _, s', S, st, rf2, ?_⟩
      show TB X g.still σ2 _ al Z (evAnd g.con g.call ifs s' S) _
      rw [e1]
      intro al4 Z4 H4 l4 st4
      split at e2
      · refine ⟨true, rfl, ifT ?_⟩
        obtain ⟨v, S4, e3, e4⟩ := R.bind_ok e2
        cases e4
        refine ⟨al4, Z4, _, s', S3, st4, rf2.mono l4, ?_⟩
        show PVx X g.still σ2 _ al4 Z4 (g.ev elt s' S3) _
        rw [e3]
        intro al5 Z5 H5 l5 st5 y ry
        refine ⟨vs, st5.gle _ _ upd_same, ?_, hn al5 Z5 _ _ (l4.trans l5) st5.setG ?_⟩
        · rw [← rv.length]; simp at hz; omega
        · exact (rv.mono (l4.trans l5)).append (.cons ry .nil)
      · cases e2
        refine ⟨false, rfl, ifF ?_⟩
        exact hn al4 Z4 vs H4 l4 st4 (by rw [List.append_nil]; exact rv.mono l4)
      · cases e2
  · cases e
theorem lc_step {own : Bool} {elt : E} {t : T} {k : IK} {src ifs : List E} {σ : L2.St} {H : Hp} {Q : VK} (h : tE X g (.lc own elt t k src ifs) σ H Q) : tLc (tI X g k src) (tG X t) (tAll X g.still ifs) (tE X g.still elt) (tgs t) σ H Q := by
  obtain ⟨al, Z, G, s, S, st, rf, h⟩ := h
  simp only [ev] at h
  refine ⟨al, Z, G, s, S, st, rf, (PostR.bind h).imp fun al1 Z1 ds S1 H1 _ l1 st1 h1 => ?_⟩
  split at h1
  · rename_i items hsrc
    refine ⟨items, hsrc, fun J gen p hp => ?_⟩
    have h1 : PRx X g σ G al1 Z1 ((lcD k ds items (turnE g elt t ifs (wipeF s (tgs t))) items S1).bind fun l S2 => newL own l S2) (fun al' Z' d _ H' => ∀ v, RV X.K al' Z' d v → Q v H') := h1
    cases e : lcD k ds items (turnE g elt t ifs (wipeF s (tgs t))) items S1 with
    | bad => rw [e] at h1; exact False.elim h1
    | exc c x S' => exact absurd e (lcD_ne_exc _ _ _ _ _)
    | ok tot Se =>
      rw [e] at h1
      have h1 : PV X.K G (wx X.K g.W σ) al1 Z1 (newL own tot Se) Q := h1
      have hz := newL_len h1
      have hgp := st1.gp hp
      exact loopW gen Le.refl e (acc0 := []) (by simpa using hz) (st1.newG hp) .nil (fun al2 Z2 vs H2 l2 st2 rv2 => hid_done h1 l2 st2 hgp (by simpa using rv2))
        fun al2 Z2 S2 acc vs d r S' x H' Nx l2 st2 rv2 rd hf hz2 hn => turn_ok (fun _ h => h) rfl (((rf.mono l1).mono l2).wipe _) st2 rv2 rd hf hz2 hn
  · exact False.elim h1
theorem lc2_step {own : Bool} {elt : E} {t t2 : T} {k k2 : IK} {src ifs src2 ifs2 : List E} {σ : L2.St} {H : Hp} {Q : VK} (h : tE X g (.lc2 own elt t k src ifs t2 k2 src2 ifs2) σ H Q) :
    tLc2 (tI X g k src) (tG X t) (tAll X g.still ifs) (tI X g.still k2 src2) (tG X t2) (tAll X g.still ifs2) (tE X g.still elt) (tgs t ++ tgs t2) (tgs t2) σ H Q := by
  obtain ⟨al, Z, G, s, S, st, rf, h⟩ := h
  simp only [ev] at h
  refine ⟨al, Z, G, s, S, st, rf, (PostR.bind h).imp fun al1 Z1 ds S1 H1 _ l1 st1 h1 => ?_⟩
  split at h1
  · rename_i items hsrc
    refine ⟨items, hsrc, fun J gen p hp => ?_⟩
    generalize hF : (fun d S2 => match bindT (wipeF s (tgs t ++ tgs t2)) d t with
        | some s' => (evAnd g.con g.call ifs s' S2).bind fun b S3 => match b with
          | .bl true => (evs g.con g.call src2 s' S3).bind fun ds2 S4 => match srcI k2 ds2 S4 with
            | some items2 => lcD k2 ds2 items2 (turnE g elt t2 ifs2 (wipeF s' (tgs t2))) items2 S4
            | none => .bad
          | .bl false => .ok [] S3
          | _ => .bad
        | none => .bad : D → Store → R (List D)) = F
    have h1 : PRx X g σ G al1 Z1 ((lcD k ds items F items S1).bind fun l S2 => newL own l S2) (fun al' Z' d _ H' => ∀ v, RV X.K al' Z' d v → Q v H') := by rw [← hF]; exact h1
    cases e : lcD k ds items F items S1 with
    | bad => rw [e] at h1; exact False.elim h1
    | exc c x S' => exact absurd e (lcD_ne_exc _ _ _ _ _)
    | ok tot Se =>
      rw [e] at h1
      have h1 : PV X.K G (wx X.K g.W σ) al1 Z1 (newL own tot Se) Q := h1
      have hz := newL_len h1
      have hgp := st1.gp hp
      refine loopW gen Le.refl e (acc0 := []) (by simpa using hz) (st1.newG hp) .nil (fun al2 Z2 vs H2 l2 st2 rv2 => hid_done h1 l2 st2 hgp (by simpa using rv2)) ?_
      intro al2 Z2 S2 acc vs d r S' x H' Nx l2 st2 rv2 rd hf hz2 hn
      rw [← hF] at hf
      simp only at hf
      split at hf
      · rename_i s' hb
        refine ⟨al2, Z2, _, _, S2, d, s', st2, ((rf.mono l1).mono l2).wipe _, rd, hb, fun σ2 rf2 hw => ⟨?_, ?_⟩⟩
        · rw [hw _ fun i hi => List.mem_append_left _ hi]
          have idem : ∀ l : List Nat, (∀ i ∈ l, i ∈ tgs t ++ tgs t2) → L2.wipe (L2.wipe σ l) (tgs t ++ tgs t2) = L2.wipe σ (tgs t ++ tgs t2) := fun l => by
            induction l with
            | nil => intro _; rfl
            | cons i l ih =>
              intro h
              show L2.wipe ((L2.wipe σ l).set i none) _ = _
              rw [wipe_set (h i List.mem_cons_self)]
              exact ih fun j hj => h j (List.mem_cons_of_mem _ hj)
          exact idem _ fun _ h => h
        · obtain ⟨b, S3, e1, e2⟩ := R.bind_ok hf
          refine ⟨al2, Z2, _, s', S2, st2, rf2, ?_⟩
          show TB X g.still σ2 _ al2 Z2 (evAnd g.con g.call ifs s' S2) _
          rw [e1]
          intro al4 Z4 H4 l4 st4
          split at e2
          · refine ⟨true, rfl, ifT ?_⟩
            obtain ⟨ds2, S4, e3, e4⟩ := R.bind_ok e2
            refine ⟨al4, Z4, _, s', S3, st4, rf2.mono l4, ?_⟩
            show PRx X g.still σ2 _ al4 Z4 (evs g.con g.call src2 s' S3) _
            rw [e3]
            intro al5 Z5 H5 l5 st5
            split at e4
            · rename_i items2 hs2
              refine ⟨items2, hs2, fun J2 gen2 => ?_⟩
              refine loopW gen2 Le.refl e4 hz2 st5 (rv2.mono (l4.trans l5)) (fun al6 Z6 vs6 H6 l6 st6 rv6 => hn al6 Z6 vs6 H6 ((l4.trans l5).trans l6) st6 rv6) ?_
              intro al6 Z6 S6 acc6 vs6 d6 r6 S6' x6 H6 Nx6 l6 st6 rv6 rd6 hf6 hz6 hn6
              exact turn_ok (fun _ h => h) rfl ((rf2.mono ((l4.trans l5).trans l6)).wipe _) st6 rv6 rd6 hf6 hz6 hn6
            · cases e4
          · cases e2
            refine ⟨false, rfl, ifF ?_⟩
            exact hn al4 Z4 vs H4 l4 st4 (by rw [List.append_nil]; exact rv2.mono l4)
          · cases e2
      · cases hf
  · exact False.elim h1
end
end Bh

set_option maxHeartbeats 1000000
/-! Statements. -/
namespace Bh
open PySem PySem.Spec PyProof.Rows L2
def PostS (X : Cx) (g : Gx) (G : Hp) (al : List Addr) (Z : Hp) (r : F) (D : Ends) : Prop := match r with
  | .next s S => ∀ al' Z' σ H, Le al Z al' Z' → StR X.K al' Z' G S H → RF X.K al' Z' s σ → D.nx σ H
  | .cont s S => ∀ al' Z' σ H, Le al Z al' Z' → StR X.K al' Z' G S H → RF X.K al' Z' s σ → D.ct σ H
  | .ret d S => ∀ al' Z' H v, Le al Z al' Z' → StR X.K al' Z' G S H → RV X.K al' Z' d v → D.rt v H
  | .exc c x s S => ∀ al' Z' σ H dd, Le al Z al' Z' → StR X.K al' Z' G S H → RF X.K al' Z' s σ → XR X.K al' Z' x dd → g.W (.ref (He.ga X.K c)) dd σ H
  | .bad => False
abbrev Gx.ex (g : Gx) := Bh.ex g.con g.call
abbrev Gx.exs (g : Gx) := Bh.exs g.con g.call
def tS (X : Cx) (g : Gx) (st : Sm) : TS := fun D σ H => ∃ al Z G s S, StR X.K al Z G S H ∧ RF X.K al Z s σ ∧ PostS X g G al Z (g.ex st s S) D
def tSs (X : Cx) (g : Gx) (l : List Sm) : TS := fun D σ H => ∃ al Z G s S, StR X.K al Z G S H ∧ RF X.K al Z s σ ∧ PostS X g G al Z (g.exs l s S) D
section
variable {X : Cx} {g : Gx} {pos : Pos}
theorem PS.wk {e : Stmt} {t t' : TS} (h : PS X e t) (f : ∀ D σ H, t' D σ H → t D σ H) : PS X e t' := ⟨fun pins s σ H D I q => h.run pins s σ H D I (f _ _ _ q)⟩
theorem PSs.wk {e : List Stmt} {t t' : TS} (h : PSs X e t) (f : ∀ D σ H, t' D σ H → t D σ H) : PSs X e t' := ⟨fun pins s σ H D I q => h.run pins s σ H D I (f _ _ _ q)⟩
theorem PostS.mono {G : Hp} {al al' : List Addr} {Z Z' : Hp} {r : F} {D : Ends} (l : Le al Z al' Z') (h : PostS X g G al Z r D) : PostS X g G al' Z' r D := by
  cases r with
  | next s S => exact fun al2 Z2 σ H l2 => h al2 Z2 σ H (l.trans l2)
  | cont s S => exact fun al2 Z2 σ H l2 => h al2 Z2 σ H (l.trans l2)
  | ret d S => exact fun al2 Z2 H v l2 => h al2 Z2 H v (l.trans l2)
  | exc c x s S => exact fun al2 Z2 σ H dd l2 => h al2 Z2 σ H dd (l.trans l2)
  | bad => exact h
theorem PostS.thn {α : Type} {G : Hp} {al : List Addr} {Z : Hp} {r : R α} {s : Fr} {σ : L2.St} {f : α → Store → F} {D : Ends} (rf : RF X.K al Z s σ) (h : PostS X g G al Z (r.thn s f) D) :
    PRx X g σ G al Z r (fun al1 Z1 a S1 _ => PostS X g G al1 Z1 (f a S1) D) := by
  cases r with
  | ok a S => exact fun al2 Z2 H l2 st => PostS.mono l2 h
  | exc c x S => exact fun al2 Z2 H dd l2 st xr => h al2 Z2 σ H dd l2 st (rf.mono l2) xr
  | bad => exact h
/-- an expression, then something -/
theorem sstep1 {a : E} {σ : L2.St} {H : Hp} {f : Fr → D → Store → F} {D : Ends} {r : V → Hp → Prop}
    (hr : ∀ al Z G s S d v H, StR X.K al Z G S H → RF X.K al Z s σ → RV X.K al Z d v → PostS X g G al Z (f s d S) D → r v H)
    (h : ∃ al Z G s S, StR X.K al Z G S H ∧ RF X.K al Z s σ ∧ PostS X g G al Z ((g.ev a s S).thn s fun x S1 => f s x S1) D) : tE X g a σ H r := by
  obtain ⟨al, Z, G, s, S, st, rf, h⟩ := h
  exact ⟨al, Z, G, s, S, st, rf, (PostS.thn rf h).imp fun al1 Z1 d S1 H1 _ l1 st1 h1 v rv => hr al1 Z1 G s S1 d v H1 st1 (rf.mono l1) rv h1⟩
/-! ### blocks -/
theorem pss_nil' : PSs X [] (tSs X g []) := PSs.wk pss_nil fun D σ H ⟨al, Z, G, s, S, st, rf, h⟩ => by
  simp only [exs] at h
  exact h al Z σ H Le.refl st rf
theorem pss_cons' {a : Stmt} {l : List Stmt} {a' : Sm} {l' : List Sm} (h1 : PS X a (tS X g a')) (h2 : PSs X l (tSs X g l')) : PSs X (a :: l) (tSs X g (a' :: l')) :=
  PSs.wk (pss_cons h1 h2) fun D σ H ⟨al, Z, G, s, S, st, rf, h⟩ => by
    simp only [exs] at h
    refine ⟨al, Z, G, s, S, st, rf, ?_⟩
    show PostS X g G al Z (Bh.ex g.con g.call a' s S) _
    cases e : Bh.ex g.con g.call a' s S with
    | next s' S' =>
      rw [e] at h
      exact fun al2 Z2 σ2 H2 l2 st2 rf2 => ⟨al2, Z2, G, s', S', st2, rf2, PostS.mono l2 h⟩
    | cont s' S' => rw [e] at h; exact h
    | ret d S' => rw [e] at h; exact h
    | exc c x s' S' => rw [e] at h; exact h
    | bad => rw [e] at h; exact h
/-! ### small statements -/
theorem ps_pass' : PS X (.Pass pos) (tS X g .pass) := PS.wk ps_pass fun D σ H ⟨al, Z, G, s, S, st, rf, h⟩ => by
  simp only [ex] at h
  exact h al Z σ H Le.refl st rf
theorem ps_cont' : PS X (.Continue pos) (tS X g .cont) := PS.wk ps_continue fun D σ H ⟨al, Z, G, s, S, st, rf, h⟩ => by
  simp only [ex] at h
  exact h al Z σ H Le.refl st rf
theorem ps_retN' : PS X (.Return none pos) (tS X g .retN) := PS.wk ps_retN fun D σ H ⟨al, Z, G, s, S, st, rf, h⟩ => by
  simp only [ex] at h
  exact h al Z H _ Le.refl st .non
theorem ps_ret' {e : Expr} {e' : E} (he : PE X e (tE X g e')) : PS X (.Return (some e) pos) (tS X g (.ret e')) := PS.wk (ps_ret he) fun D σ H h => by
  simp only [tS, ex] at h
  exact sstep1 (f := fun _ d S1 => .ret d S1) (fun al Z G s S d v H st rf r h => h al Z H v Le.refl st r) h
theorem ps_expr' {e : Expr} {e' : E} (he : PE X e (tE X g e')) (hs : swapsWith e none pos.line X.env = pure false) : PS X (.Expr e pos) (tS X g (.expr e')) := PS.wk (ps_expr he hs) fun D σ H h => by
  simp only [tS, ex] at h
  exact sstep1 (f := fun s _ S1 => .next s S1) (fun al Z G s S d v H st rf r h => h al Z σ H Le.refl st rf) h
theorem ps_doc' {x : Str} {j : Nat} {pos' : Pos} : PS X (.Expr (.Constant (.str x) j pos) pos') (tS X g .pass) := PS.wk ps_doc fun D σ H ⟨al, Z, G, s, S, st, rf, h⟩ => by
  simp only [ex] at h
  exact h al Z σ H Le.refl st rf
theorem ps_if' {c : Expr} {a b : List Stmt} {c' : E} {a' b' : List Sm} (hc : PT X c (tT X g c')) (ha : PSs X a (tSs X g a')) (hb : PSs X b (tSs X g b')) : PS X (.If c a b pos) (tS X g (.ite c' a' b')) :=
  PS.wk (ps_if hc ha hb) fun D σ H ⟨al, Z, G, s, S, st, rf, h⟩ => by
    simp only [ex] at h
    refine ⟨al, Z, G, s, S, st, rf, (PostS.thn rf h).imp fun al1 Z1 d S1 H1 _ l1 st1 h1 => ?_⟩
    split at h1
    · exact ⟨true, rfl, ifT ⟨al1, Z1, G, s, S1, st1, rf.mono l1, h1⟩⟩
    · exact ⟨false, rfl, ifF ⟨al1, Z1, G, s, S1, st1, rf.mono l1, h1⟩⟩
    · exact False.elim h1
/-! ### assignments -/
theorem asg_step {e : E} {t : T} {D : Ends} {σ : L2.St} {H : Hp} (h : tS X g (.asg t e) D σ H) : tE X g e σ H fun x H1 => tG X t x σ H1 D.nx := by
  simp only [tS, ex] at h
  refine sstep1 (f := fun s d S1 => match bindT s d t with
    | some s' => .next s' S1
    | none => .bad) (fun al Z G s S d v H st rf r h => ?_) h
  split at h
  · rename_i s' hb
    exact ⟨al, Z, G, s, S, d, s', st, rf, r, hb, fun σ' rf' _ => h al Z σ' H Le.refl st rf'⟩
  · exact False.elim h
theorem nm_step {i : Nat} {v : V} {σ : L2.St} {H : Hp} {Q : L2.St → Hp → Prop} (h : tG X (.nm i) v σ H Q) : gName i v σ H Q := by
  obtain ⟨al, Z, G, s, S, d, s', st, rf, rv, hb, h⟩ := h
  simp only [bindT] at hb
  cases hb
  exact h _ (rf.set rv) fun l hi => wipe_set (hi i (by simp [tgs]))
theorem ps_set' {i : Nat} {x : Str} {e : Expr} {e' : E} {pos' : Pos} (hN : X.N.Nodup) (hi : X.N[i]? = some x) (hx : Loc X.env.scope x) (he : PE X e (tE X g e')) (hs : swapsWith e (some (.Name x pos')) pos.line X.env = pure false) (hf : X.fn x = true ∨ X.env.scope.names.lookup x = some .local) :
    PS X (.Assign [.Name x pos'] e pos) (tS X g (.asg (.nm i) e')) := PS.wk (ps_set hN hi hx he hs hf) fun D σ H h => by
  obtain ⟨al, Z, G, s, S, st, rf, h⟩ := asg_step h
  exact ⟨al, Z, G, s, S, st, rf, PostR.imp h fun al1 Z1 d S1 H1 _ l1 st1 h1 v rv => nm_step (h1 v rv)⟩
theorem ps_asg' {tg e : Expr} {t : T} {e' : E} (he : PE X e (tE X g e')) (hg : PG X tg (tG X t)) (hs : swapsWithSole [tg] e pos.line X.env = pure false) (hw : swappedStores [tg] e X.env = pure none) (h1 : (assignEach [tg] X.env).map (·.2) = [assign tg X.env]) :
    PS X (.Assign [tg] e pos) (tS X g (.asg t e')) := PS.wk (ps_asg he hg hs hw h1) fun D σ H h => asg_step h
theorem ps_par' {i j : Nat} {x y : Str} {a b : Expr} {a' b' : E} {px py pt : Pos} {kt k2 pt2} (hc : X.calm = true) (hN : X.N.Nodup) (hi : X.N[i]? = some x) (hj : X.N[j]? = some y) (hij : i ≠ j)
    (hx : X.env.scope.names.lookup x = some .local) (hy : X.env.scope.names.lookup y = some .local) (ha : PE X a (tE X g a')) (hb : PE X b (tE X g b')) (n1 : notStar a = true) (n2 : notStar b = true)
    (hw : swappedStores [.Tuple [.Name x px, .Name y py] kt pt] (.Tuple [a, b] k2 pt2) X.env = pure (some [x, y])) (hs : swapsWithSole [.Tuple [.Name x px, .Name y py] kt pt] (.Tuple [a, b] k2 pt2) pos.line X.env = pure false) :
    PS X (.Assign [.Tuple [.Name x px, .Name y py] kt pt] (.Tuple [a, b] k2 pt2) pos) (tS X g (.par i j a' b')) :=
  PS.wk (ps_par hc hN hi hj hij hx hy (pa_cons ha (pa_cons hb pa_nil (star_of n2 _ _)) (star_of n1 _ _)) hw hs) fun D σ H h => by
    simp only [tS, ex] at h
    refine sstep1 (f := fun s x S1 => (Bh.ev g.con g.call b' s S1).thn s fun y S2 => .next ((s.set i (some x)).set j (some y)) S2) (fun al Z G s S d v H st rf r h => ?_) h
    refine ⟨al, Z, G, s, S, st, rf, (PostS.thn rf h).imp fun al1 Z1 d1 S1 H1 _ l1 st1 h1 v1 rv1 => ?_⟩
    exact ⟨v, v1, rfl, h1 al1 Z1 _ H1 Le.refl st1 (((rf.mono l1).set (r.mono l1)).set rv1)⟩
theorem ps_aug' {i : Nat} {x : Str} {e : Expr} {e' : E} {op : BO} {pos' : Pos} (hop : op ≠ .pow) (hN : X.N.Nodup) (hi : X.N[i]? = some x) (hx : Loc X.env.scope x) (he : PE X e (tE X g e')) (hf : X.fn x = true ∨ X.env.scope.names.lookup x = some .local) :
    PS X (.AugAssign (.Name x pos') op.op e pos) (tS X g (.aug i op e')) :=
  PS.wk (ps_aug hN hi hx he (op_aug op hop) hf) fun D σ H ⟨al, Z, G, s, S, st, rf, h⟩ => by
    simp only [ex] at h
    split at h
    · rename_i d hd
      obtain ⟨v, hv, rv⟩ := rf.get i d hd
      refine ⟨v, hv, al, Z, G, s, S, st, rf, (PostS.thn rf h).imp fun al1 Z1 d1 S1 H1 _ l1 st1 h1 v1 rv1 => ?_⟩
      refine ⟨al1, Z1, G, S1, wx X.K g.W σ, d, d1, st1, rv.mono l1, rv1, ?_⟩
      refine (PostS.thn (rf.mono l1) h1).imp fun al2 Z2 d2 S2 H2 _ l2 st2 h2 v2 rv2 => ?_
      exact h2 al2 Z2 _ H2 Le.refl st2 ((rf.mono (l1.trans l2)).set rv2)
    · exact False.elim h
/-! ### loops -/
theorem ps_for' {tg iter : Expr} {body : List Stmt} {t : T} {k : IK} {src : List E} {body' : List Sm} (hp : PassesOwn (model X.prog X.w) X.A X.env X.xe) (hc : X.calm = true) (hi : PI X tg iter (tI X g k src)) (hg : PG X tg (tG X t)) (hb : PSs X body (tSs X g body'))
    (hs : ∀ x, foldedSetIterable iter X.env x = pure x) : PS X (.For tg iter body [] pos) (tS X g (.for_ t k src body')) :=
  PS.wk (ps_for hp hc hi hg hb hs) fun D σ H ⟨al, Z, G, s, S, st, rf, h⟩ => by
    simp only [ex] at h
    refine ⟨al, Z, G, s, S, st, rf, (PostS.thn rf h).imp fun al1 Z1 ds S1 H1 _ l1 st1 h1 => ?_⟩
    split at h1
    · rename_i items hsrc
      refine ⟨items, hsrc, fun J gen => ?_⟩
      generalize hF : (fun d s' S' => match bindT s' d t with
        | some s2 => Bh.exs g.con g.call body' s2 S'
        | none => .bad : Bh.D → Fr → Store → Bh.F) = F at h1
      refine ⟨fun i m σ H => m = items.length - i ∧ i ≤ items.length ∧ ∃ al Z s S, Le al1 Z1 al Z ∧ StR X.K al Z G S H ∧ RF X.K al Z s σ ∧ PostS X g G al Z (forD k ds items F (items.drop i) s S) D,
        ⟨items.length, by simp, Nat.zero_le _, al1, Z1, s, S1, Le.refl, st1, rf.mono l1, by simpa using h1⟩, ?_⟩
      rintro i m σ2 H2 ⟨rfl, hi, al2, Z2, s2, S2, l2, st2, rf2, h2⟩
      by_cases hlt : i < items.length
      · rw [List.drop_eq_getElem_cons hlt] at h2
        unfold forD at h2
        split at h2
        · rename_i hsrc2
          have hg := List.getElem?_eq_getElem hlt
          refine .inr ⟨gen.go al2 Z2 G S2 H2 i _ l2 st2 hsrc2 hg, fun σ' H' => ∃ al Z s S, Le al1 Z1 al Z ∧ StR X.K al Z G S H' ∧ RF X.K al Z s σ' ∧ PostS X g G al Z (forD k ds items F (items.drop (i + 1)) s S) D,
            fun σ' H' q => ⟨items.length - (i + 1), by omega, rfl, hlt, q⟩, fun x H' hy => ?_⟩
          obtain ⟨Z3, l3, st3, rx⟩ := gen.yld al2 Z2 G S2 H2 i _ l2 st2 hsrc2 hg x H' hy
          rw [← hF] at h2
          simp only at h2
          cases hb : bindT s2 items[i] t with
          | none => rw [hb] at h2; exact False.elim h2
          | some s4 =>
            rw [hb] at h2
            simp only at h2
            refine ⟨al2, Z3, G, s2, S2, _, s4, st3, rf2.mono l3, rx, hb, fun σ4 rf4 _ => ⟨al2, Z3, G, s4, S2, st3, rf4, ?_⟩⟩
            show PostS X g G al2 Z3 (Bh.exs g.con g.call body' s4 S2) _
            have h2 := PostS.mono l3 h2
            cases e : Bh.exs g.con g.call body' s4 S2 with
            | next s5 S5 =>
              rw [e] at h2
              exact fun al5 Z5 σ5 H5 l5 st5 rf5 => ⟨al5, Z5, s5, S5, (l2.trans l3).trans l5, st5, rf5, by rw [← hF]; exact PostS.mono l5 h2⟩
            | cont s5 S5 =>
              rw [e] at h2
              exact fun al5 Z5 σ5 H5 l5 st5 rf5 => ⟨al5, Z5, s5, S5, (l2.trans l3).trans l5, st5, rf5, by rw [← hF]; exact PostS.mono l5 h2⟩
            | ret d S' => rw [e] at h2; exact h2
            | exc c x s' S' => rw [e] at h2; exact h2
            | bad => rw [e] at h2; exact h2
        · exact False.elim h2
      · have hi' : i = items.length := by omega
        subst hi'
        rw [List.drop_length] at h2
        unfold forD at h2
        split at h2
        · rename_i hsrc2
          exact .inl ⟨gen.stop al2 Z2 G S2 H2 l2 st2 hsrc2, h2 al2 Z2 σ2 H2 Le.refl st2 rf2⟩
        · exact False.elim h2
    · exact False.elim h1
theorem ps_whl' {c : Expr} {body : List Stmt} {c' : E} {n : Nat} {body' : List Sm} (hp : PassesOwn (model X.prog X.w) X.A X.env X.xe) (hc : PT X c (tT X g c')) (hb : PSs X body (tSs X g body')) : PS X (.While c body [] pos) (tS X g (.whl n c' body')) :=
  PS.wk (ps_while hp hc hb) fun D σ H ⟨al, Z, G, s, S, st, rf, h⟩ => by
    simp only [ex] at h
    refine ⟨fun m σ H => ∃ al Z s S, StR X.K al Z G S H ∧ RF X.K al Z s σ ∧ PostS X g G al Z (whlD (Bh.ev g.con g.call c') (Bh.exs g.con g.call body') m s S) D, ⟨n, al, Z, s, S, st, rf, h⟩, ?_⟩
    rintro m σ2 H2 ⟨al2, Z2, s2, S2, st2, rf2, h2⟩
    cases m with
    | zero => exact False.elim h2
    | succ m =>
      unfold whlD at h2
      refine ⟨al2, Z2, G, s2, S2, st2, rf2, (PostS.thn rf2 h2).imp fun al3 Z3 d S3 H3 _ l3 st3 h3 => ?_⟩
      split at h3
      · refine ⟨true, rfl, ifT ⟨fun σ' H' => ∃ al Z s S, StR X.K al Z G S H' ∧ RF X.K al Z s σ' ∧ PostS X g G al Z (whlD (Bh.ev g.con g.call c') (Bh.exs g.con g.call body') m s S) D, fun σ' H' q => ⟨m, by omega, q⟩, al3, Z3, G, s2, S3, st3, rf2.mono l3, ?_⟩⟩
        show PostS X g G al3 Z3 (Bh.exs g.con g.call body' s2 S3) _
        cases e : Bh.exs g.con g.call body' s2 S3 with
        | next s5 S5 =>
          rw [e] at h3
          exact fun al5 Z5 σ5 H5 l5 st5 rf5 => ⟨al5, Z5, s5, S5, st5, rf5, PostS.mono l5 h3⟩
        | cont s5 S5 =>
          rw [e] at h3
          exact fun al5 Z5 σ5 H5 l5 st5 rf5 => ⟨al5, Z5, s5, S5, st5, rf5, PostS.mono l5 h3⟩
        | ret d S' => rw [e] at h3; exact h3
        | exc c x s' S' => rw [e] at h3; exact h3
        | bad => rw [e] at h3; exact h3
      · exact ⟨false, rfl, ifF (h3 al3 Z3 σ2 H3 Le.refl st3 (rf2.mono l3))⟩
      · exact False.elim h3
/-! ### raise, of a class without __init__, with a text -/
structure Xc (X : Cx) (c : Str) : Prop where
  mg : X.mg c = some (.ref (He.ga X.K c))
  nd : (c == ("__debug__" : Str)) = false
  mkx : ∃ (B newId initId : String) (bm : List Value), ExcBaseFacts B newId initId bm ∧ PySem.W.excIn X.K (He.ga X.K c) bm newId = true
  kp : PySem.W.keepIn X.K (.ref (He.ga X.K c)) = true
  ra : Raises X (.ref (He.ga X.K c))
theorem ps_raise' {c m : Str} {j : Nat} {p p2 p3 : Pos} (hc : X.calm = true) (tk : L2N.Takes X g.W) (xc : Xc X c) (hg : Gl X c) :
    PS X (.Raise (some (.Call (.Name c p) [.Constant (.str m) j p2] [] p3)) none pos) (tS X g (.raise c none (.str m))) := by
  obtain ⟨B, newId, initId, bm, F, q⟩ := xc.mkx
  refine PS.wk (L2N.ps_raise hc tk (L2N.pmk_own (p2 := p2) (pos := p3) (p := p) (m := m) F q xc.mg xc.kp xc.ra hg xc.nd)) fun D σ H ⟨al, Z, G, s, S, st, rf, h⟩ => ?_
  simp only [ex, ev, R.thn] at h
  exact h al Z σ H none Le.refl st rf rfl
end
end Bh

set_option maxHeartbeats 2000000
/-! The checker: a tree of the text against an expression of the small language. -/
namespace Bh
open PySem PySem.Spec PyProof.Rows L2
/-- what is known of the module, and of the context -/
structure Cf where
  N : List Str
  tb : Tb
  cons : List Str
  blts : List Str
  exs : List Str
  xcs : List Str
  cm : Bool
def eqS (x y : Str) : Bool := decide (x = y)
theorem eqS_ok {x y : Str} (h : eqS x y = true) : x = y := of_decide_eq_true h
def inS (x : Str) : List Str → Bool
  | [] => false
  | y :: l => eqS y x || inS x l
theorem inS_ok {x : Str} : ∀ {l : List Str}, inS x l = true → x ∈ l
  | [], h => by cases h
  | y :: l, h => by
    rcases Bool.or_eq_true_iff.mp h with h | h
    · rw [eqS_ok h]; exact List.mem_cons_self
    · exact List.mem_cons_of_mem _ (inS_ok h)
def inP (x : Str × Str) : List (Str × Str) → Bool
  | [] => false
  | y :: l => (eqS y.1 x.1 && eqS y.2 x.2) || inP x l
theorem inP_ok {x : Str × Str} : ∀ {l : List (Str × Str)}, inP x l = true → x ∈ l
  | [], h => by cases h
  | y :: l, h => by
    rcases Bool.or_eq_true_iff.mp h with h | h
    · obtain ⟨h1, h2⟩ := Bool.and_eq_true_iff.mp h
      have : y = x := Prod.ext (eqS_ok h1) (eqS_ok h2)
      rw [this]; exact List.mem_cons_self
    · exact List.mem_cons_of_mem _ (inP_ok h)
def kB (sc : Scope) (x : Str) (k : NameKind) : Bool := decide (sc.names.lookup x = some k)
def glB (sc : Scope) (x : Str) : Bool := kB sc x .globalImplicit
def visB (sc : Scope) (x : Str) : Bool := kB sc x .local || (kB sc x .cell || kB sc x .free)
def locB (sc : Scope) (x : Str) : Bool := kB sc x .local || kB sc x .cell
def okN (x : Str) : Bool := !(x == ("__debug__" : Str)) && !(x == ("__classdict__" : Str))
def nIs (N : List Str) (i : Nat) (x : Str) : Bool := match N[i]? with
  | some y => eqS y x
  | none => false
theorem nIs_ok {N : List Str} {i : Nat} {x : Str} (h : nIs N i x = true) : N[i]? = some x := by
  unfold nIs at h
  split at h
  · rename_i y e; rw [e, eqS_ok h]
  · cases h
/-- the scope that runs, by the written one -/
structure ScOk (X : Cx) (sc : Scope) : Prop where
  gl : ∀ x, sc.names.lookup x = some .globalImplicit → Gl X x
  vis : ∀ x, Vis sc x → Vis X.env.scope x
  loc : ∀ x, Loc sc x → Loc X.env.scope x ∧ (X.fn x = true ∨ X.env.scope.names.lookup x = some .local)
  capt : ∀ x, sc.names.lookup x = some .cell ∨ sc.names.lookup x = some .free → X.env.scope.names.lookup x = some .cell ∨ X.env.scope.names.lookup x = some .free
def IsxOk (X : Cx) (g : Gx) (c : Str) : Prop := ∀ p p1 p2 pos i x, X.N[i]? = some x → Vis X.env.scope x → okN x = true → Gl X "isinstance" → Gl X c → PE X (.Call (.Name "isinstance" p) [.Name x p1, .Name c p2] [] pos) (tE X g (.isx i c))
structure CxOk (cf : Cf) (X : Cx) (g : Gx) (sc : Scope) : Prop where
  n : X.N = cf.N
  nd : X.N.Nodup
  sc : ScOk X sc
  cal : cf.cm = true → X.calm = true
  hu : X.A.units + 70 < cLine
  con : ∀ x ∈ cf.cons, ∃ d u v, g.con x = some d ∧ X.mg x = some u ∧ RelV v u ∧ ∀ al Z, RV X.K al Z d v
  blt : ∀ x ∈ cf.blts, X.mg x = none
  fns : cf.cm = true → ∃ k, Room (k + 1) X.A ∧ FnsOk X cf.tb g.call k ∧ L2N.Takes X g.W
  isx : ∀ c ∈ cf.xcs, IsxOk X g c
theorem vis_ok {sc : Scope} {x : Str} (h : visB sc x = true) : Vis sc x := by
  rcases Bool.or_eq_true_iff.mp h with h | h
  · exact .inl (of_decide_eq_true h)
  · rcases Bool.or_eq_true_iff.mp h with h | h
    · exact .inr (.inl (of_decide_eq_true h))
    · exact .inr (.inr (of_decide_eq_true h))
theorem loc_ok {sc : Scope} {x : Str} (h : locB sc x = true) : Loc sc x := by
  rcases Bool.or_eq_true_iff.mp h with h | h
  · exact .inl (of_decide_eq_true h)
  · exact .inr (of_decide_eq_true h)
theorem okN_ok {x : Str} (h : okN x = true) : (x == ("__debug__" : Str)) = false ∧ (x == ("__classdict__" : Str)) = false := by
  obtain ⟨h1, h2⟩ := Bool.and_eq_true_iff.mp h
  exact ⟨by simpa using h1, by simpa using h2⟩
/-! ### a comprehension's block -/
def ownOf (N : List Str) (l : List Nat) : List (Str × Nat) := l.map fun i => ((N[i]?).getD Str.empty, i)
def blkB (N : List Str) (sc scope : Scope) (l : List Nat) : Bool :=
  decide (scope.kind = .function) && (scope.names.all (fun y => decide (scope.names.lookup y.1 = some y.2)) && (l.all (fun i => (N[i]?).isSome) &&
    (scope.names.all (fun y => !(decide (y.2 = .free)) || (kB sc y.1 .cell || kB sc y.1 .free)) && scope.names.all (fun y => !(decide (y.2 = .local) || decide (y.2 = .cell)) || (inS y.1 ((ownOf N l).map (·.1)) || !(inS y.1 N))))))
theorem inS_of {x : Str} : ∀ {l : List Str}, x ∈ l → inS x l = true
  | y :: l, h => by
    rcases List.mem_cons.mp h with e | h
    · subst e; simp [inS, eqS]
    · simp [inS, inS_of h]
theorem own_snd (N : List Str) (l : List Nat) : (ownOf N l).map (·.2) = l := by
  unfold ownOf
  rw [List.map_map]
  have : ((·.2) ∘ fun i => ((N[i]?).getD Str.empty, i) : Nat → Nat) = id := rfl
  rw [this]; simp
theorem blk_ok {X : Cx} {N : List Str} {sc scope : Scope} {l : List Nat} (hs : ScOk X sc) (h : blkB N sc scope l = true) : BlkOk N X.env.scope scope (ownOf N l) := by
  unfold blkB at h
  obtain ⟨h1, h⟩ := Bool.and_eq_true_iff.mp h
  obtain ⟨h2, h⟩ := Bool.and_eq_true_iff.mp h
  obtain ⟨h3, h⟩ := Bool.and_eq_true_iff.mp h
  obtain ⟨h4, h5⟩ := Bool.and_eq_true_iff.mp h
  refine ⟨of_decide_eq_true h1, fun y hy => of_decide_eq_true (List.all_eq_true.mp h2 y hy), fun p hp => ?_, fun y hy e => ?_, fun y hy e => ?_⟩
  · obtain ⟨i, hi, rfl⟩ := List.mem_map.mp hp
    have := List.all_eq_true.mp h3 i hi
    obtain ⟨x, hx⟩ := Option.isSome_iff_exists.mp this
    show N[i]? = some ((N[i]?).getD Str.empty)
    rw [hx]; rfl
  · have := List.all_eq_true.mp h4 y hy
    rw [e] at this
    simp only [decide_true, Bool.not_true, Bool.false_or] at this
    refine hs.capt y.1 ?_
    rcases Bool.or_eq_true_iff.mp this with z | z
    · exact .inl (of_decide_eq_true z)
    · exact .inr (of_decide_eq_true z)
  · have := List.all_eq_true.mp h5 y hy
    have e2 : (decide (y.2 = NameKind.local) || decide (y.2 = NameKind.cell)) = true := by
      rcases e with e | e <;> simp [e]
    rw [e2] at this
    simp only [Bool.not_true, Bool.false_or] at this
    rcases Bool.or_eq_true_iff.mp this with z | z
    · exact .inl (inS_ok z)
    · refine .inr fun hm => ?_
      rw [inS_of hm] at z
      cases z
theorem relab_free {sc : Scope} {x : Str} : ∀ {l : List (Str × NameKind)}, l.lookup x = some .free →
    ∃ k, (l.map fun (n, k) => if (k == NameKind.free && sc.kind == .function && sc.names.lookup n == some .cell) then (n, NameKind.cell) else (n, k)).lookup x = some k ∧ (k = .free ∨ k = .cell)
  | [], h => by simp at h
  | (n, k) :: l, h => by
    have ih := @relab_free sc x l
    rw [List.lookup_cons] at h
    rw [List.map_cons]
    by_cases e : (x == n) = true
    · rw [e] at h
      cases h
      by_cases hc : (NameKind.free == NameKind.free && sc.kind == .function && sc.names.lookup n == some .cell) = true
      · exact ⟨.cell, by simp only [hc, if_true]; rw [List.lookup_cons, e], .inr rfl⟩
      · exact ⟨.free, by simp only [hc]; rw [if_neg (by simp), List.lookup_cons, e], .inl rfl⟩
    · have e' : (x == n) = false := by simpa using e
      rw [e'] at h
      obtain ⟨k', h1, h2⟩ := ih h
      refine ⟨k', ?_, h2⟩
      by_cases hc : (k == NameKind.free && sc.kind == .function && sc.names.lookup n == some .cell) = true
      · simp only [hc, if_true]; rw [List.lookup_cons, e']; exact h1
      · simp only [hc]; rw [if_neg (by simp), List.lookup_cons, e']; exact h1
theorem scOk_blk {X : Cx} {scope : Scope} (s : Shared) (H : Hp) (C : Addr) (cl : List (Str × Addr)) (fp : List Addr) : ScOk (X.blk s H scope (compEnvC scope cl C X.env) fp) scope where
  gl := fun x h => lookup_relS_keep (sc := X.env.scope) (by decide) h
  vis := fun x h => by
    rcases h with h | h | h
    · exact .inl (lookup_relS_keep (sc := X.env.scope) (by decide) h)
    · exact .inr (.inl (lookup_relS_keep (sc := X.env.scope) (by decide) h))
    · obtain ⟨k, h1, h2⟩ := relab_free (sc := X.env.scope) h
      rcases h2 with rfl | rfl
      · exact .inr (.inr h1)
      · exact .inr (.inl h1)
  loc := fun x h => by
    rcases h with h | h
    · have := lookup_relS_keep (sc := X.env.scope) (by decide) h
      exact ⟨.inl this, .inr this⟩
    · have := lookup_relS_keep (sc := X.env.scope) (by decide) h
      refine ⟨.inr this, .inl ?_⟩
      show (scope.names.lookup x == some .cell) = true
      rw [h]; rfl
  capt := fun x h => by
    rcases h with h | h
    · exact .inl (lookup_relS_keep (sc := X.env.scope) (by decide) h)
    · obtain ⟨k, h1, h2⟩ := relab_free (sc := X.env.scope) h
      rcases h2 with rfl | rfl
      · exact .inr h1
      · exact .inl h1
theorem CxOk.blk {cf : Cf} {X : Cx} {g : Gx} {sc scope : Scope} (h : CxOk cf X g sc) (hx : cf.xcs = []) (s : Shared) (H : Hp) (C : Addr) (cl : List (Str × Addr)) (fp : List Addr) : CxOk cf (X.blk s H scope (compEnvC scope cl C X.env) fp) g.still scope where
  n := h.n
  nd := h.nd
  sc := scOk_blk s H C cl fp
  cal := h.cal
  hu := h.hu
  con := h.con
  blt := h.blt
  fns := fun c => by
    obtain ⟨k, hr, F, tk⟩ := h.fns c
    refine ⟨k, hr, ⟨fun f hf => let ⟨a, b, c, d⟩ := F.fn f hf; ⟨a, b, c, ⟨d.fn⟩⟩, fun p hp => let ⟨a, b, c⟩ := F.mth p hp; ⟨a, b, ⟨c.fn⟩⟩, fun c hc => let ⟨a, b, c, d, e⟩ := F.mkr c hc; ⟨a, b, c, d, ⟨e.fn⟩⟩, F.fld⟩, fun u s' ⟨a, B, sI, pins, σ, H, cls, d, e, I, nb, up, sky, na, os, ag, w⟩ => w.elim⟩
  isx := fun c hc => by rw [hx] at hc; cases hc
/-! ### expressions -/
def chkL {α β : Type} (f : α → β → Bool) : List α → List β → Bool
  | [], [] => true
  | a :: l, b :: m => f a b && chkL f l m
  | _, _ => false
def chkO {α β : Type} (f : α → β → Bool) : Option α → Option β → Bool
  | none, none => true
  | some a, some b => f a b
  | _, _ => false
def plainT : Expr → Bool
  | .UnaryOp .Not _ _ => false
  | .BoolOp _ _ _ => false
  | .IfExp _ _ _ _ => false
  | .Compare _ _ _ _ => false
  | _ => true
def notSlice : Expr → Bool
  | .Slice _ _ _ _ => false
  | _ => true
def isSub : Expr → Bool
  | .Subscript _ _ _ => true
  | _ => false
def notSet : Expr → Bool
  | .Set _ _ _ => false
  | _ => true
/-- a target -/
def chkNs (cf : Cf) (sc : Scope) : List Expr → List Nat → Bool
  | [], [] => true
  | .Name x _ :: es, i :: l => nIs cf.N i x && (locB sc x && chkNs cf sc es l)
  | _, _ => false
def chkG (cf : Cf) (sc : Scope) : Expr → T → Bool
  | .Name x _, .nm i => nIs cf.N i x && locB sc x
  | .Tuple es _ _, .tup l => cf.cm && chkNs cf sc es l
  | _, _ => false
mutual
def chkE (cf : Cf) : Nat → Scope → Expr → E → Bool
  | 0, _, _, _ => false
  | n + 1, sc, e, e' => match e', e with
    | .bad, _ => true
    | .var i, .Name x _ => nIs cf.N i x && (visB sc x && okN x)
    | .non, .Constant .none _ _ => true
    | .bl b, .Constant (.bool c) _ _ => b == c
    | .int i, .Constant (.int j) _ _ => decide (i = j)
    | .str x, .Constant (.str y) _ _ => eqS x y
    | .con x, .Name y _ => eqS x y && (glB sc x && (inS x cf.cons && okN x))
    | .glo x, .Name y _ => cf.cm && (eqS x y && (glB sc x && inS x cf.tb.fns))
    | .bin op _ a b, .BinOp a0 o b0 _ => decide (o = op.op) && (chkE cf n sc a0 a && chkE cf n sc b0 b)
    | .neg a, .UnaryOp .USub a0 _ => chkE cf n sc a0 a
    | .cmp op a b, .Compare a0 [o] [b0] _ => decide (o = op.op) && (!(behindInMarks o b0) && (chkE cf n sc a0 a && chkE cf n sc b0 b))
    | .chain o1 o2 a b c, .Compare a0 [p1, p2] [b0, c0] _ => decide (p1 = o1.op) && (decide (p2 = o2.op) && (!(lastMarks [p1, p2] [b0, c0]) && (chkE cf n sc a0 a && (chkE cf n sc b0 b && chkE cf n sc c0 c))))
    | .and (a :: l), .BoolOp .And (a0 :: l0) _ => chkE cf n sc a0 a && chkL (chkE cf n sc) l0 l
    | .or (a :: l), .BoolOp .Or (a0 :: l0) _ => chkE cf n sc a0 a && chkL (chkE cf n sc) l0 l
    | .not a, .UnaryOp .Not a0 _ => chkE cf n sc a0 a
    | .ife t a b, .IfExp t0 a0 b0 _ => chkT cf n sc t0 t && (chkE cf n sc a0 a && chkE cf n sc b0 b)
    | .tup l, .Tuple es _ _ => chkA cf n sc es l
    | .lst _ l, .List es _ => chkA cf n sc es l
    | .ix a i, .Subscript a0 i0 _ => notSlice i0 && (chkE cf n sc a0 a && chkE cf n sc i0 i)
    | .slice _ a lo hi, .Subscript a0 (.Slice lo0 hi0 none _) _ => chkE cf n sc a0 a && (chkO (chkE cf n sc) lo0 lo && chkO (chkE cf n sc) hi0 hi)
    | .fld a f, .Attribute a0 f0 _ => eqS f f0 && (plainO a0 && chkE cf n sc a0 a)
    | .call _ f l, .Call (.Name f0 _) es [] _ => cf.cm && (eqS f f0 && (glB sc f && (inS f cf.tb.fns && chkA cf n sc es l)))
    | .callV _ fs f l, .Call f0 es [] _ => cf.cm && (isSub f0 && (fs.all (fun x => inS x cf.tb.fns) && (chkE cf n sc f0 f && chkA cf n sc es l)))
    | .make c l, .Call (.Name f0 _) es [] _ => cf.cm && (eqS c f0 && (glB sc c && (inS c cf.tb.mks && chkA cf n sc es l)))
    | .meth _ c o m l, .Call (.Attribute o0 m0 ap) es [] pos => cf.cm && (eqS m m0 && (inP (c, m) cf.tb.mths && (plainO o0 && ((ap.endLine == pos.line) && (decide (es.length < 20) && (chkE cf n sc o0 o && chkA cf n sc es l))))))
    | .bi f _ l, .Call (.Name f0 _) (e0 :: es) [] _ => cf.cm && (eqS f.nm f0 && (glB sc f.nm && (inS f.nm cf.blts && chkA cf n sc (e0 :: es) l)))
    | .bm m _ o l, .Call (.Attribute o0 m0 ap) es [] pos => eqS m.nm m0 && (plainO o0 && ((ap.endLine == pos.line) && (decide (es.length < 20) && (chkE cf n sc o0 o && chkA cf n sc es l))))
    | .isi a c, .Call (.Name f0 _) [a0, .Name t _] [] _ => eqS "isinstance" f0 && (eqS c.nm t && (glB sc "isinstance" && (inS "isinstance" cf.blts && (glB sc c.nm && (inS c.nm cf.blts && (notStar a0 && chkE cf n sc a0 a))))))
    | .isx i c, .Call (.Name f0 _) [.Name x _, .Name t _] [] _ => eqS "isinstance" f0 && (eqS c t && (nIs cf.N i x && (visB sc x && (okN x && (glB sc "isinstance" && (glB sc c && inS c cf.xcs))))))
    | .lrng _ l, .Call (.Name f0 _) [.Call (.Name r0 _) es [] _] [] _ => cf.cm && (eqS "list" f0 && (eqS "range" r0 && (glB sc "list" && (inS "list" cf.blts && (glB sc "range" && (inS "range" cf.blts && (decide (es.length = 1 ∨ es.length = 2) && chkA cf n sc es l)))))))
    | .lc _ elt tg k src ifs, .ListComp elt0 [⟨tg0, it0, ifs0, 0⟩] scope _ => cf.cm && (cf.xcs.isEmpty && (blkB cf.N sc scope (tgs tg) && (chkG cf scope tg0 tg && (chkI cf n sc tg0 it0 k src && (decide (ifs.length ≤ 1) && (chkL (chkT cf n scope) ifs0 ifs && chkE cf n scope elt0 elt))))))
    | .lc2 _ elt tg k src ifs tg2 k2 src2 ifs2, .ListComp elt0 [⟨tg0, it0, ifs0, 0⟩, ⟨tg1, it1, ifs1, 0⟩] scope _ => cf.cm && (cf.xcs.isEmpty && (blkB cf.N sc scope (tgs tg ++ tgs tg2) && (chkG cf scope tg0 tg && (chkI cf n sc tg0 it0 k src && (decide (ifs.length ≤ 1) && (chkL (chkT cf n scope) ifs0 ifs &&
        (chkG cf scope tg1 tg2 && (chkI cf n scope tg1 it1 k2 src2 && (decide (ifs2.length ≤ 1) && (chkL (chkT cf n scope) ifs1 ifs2 && chkE cf n scope elt0 elt))))))))))
    | _, _ => false
def chkT (cf : Cf) : Nat → Scope → Expr → E → Bool
  | 0, _, _, _ => false
  | n + 1, sc, e, e' => match e', e with
    | .bad, _ => true
    | .cmp op a b, .Compare a0 [o] [b0] _ => decide (o = op.op) && (!(behindInMarks o b0) && (chkE cf n sc a0 a && chkE cf n sc b0 b))
    | .chain o1 o2 a b c, .Compare a0 [p1, p2] [b0, c0] _ => decide (p1 = o1.op) && (decide (p2 = o2.op) && (!(lastMarks [p1, p2] [b0, c0]) && (chkE cf n sc a0 a && (chkE cf n sc b0 b && chkE cf n sc c0 c))))
    | .and (a :: l), .BoolOp .And (a0 :: l0) _ => chkT cf n sc a0 a && chkL (chkT cf n sc) l0 l
    | .or (a :: l), .BoolOp .Or (a0 :: l0) _ => chkT cf n sc a0 a && chkL (chkT cf n sc) l0 l
    | .not a, .UnaryOp .Not a0 _ => chkT cf n sc a0 a
    | e', e => plainT e && chkE cf n sc e e'
def chkA (cf : Cf) : Nat → Scope → List Expr → List E → Bool
  | 0, _, _, _ => false
  | n + 1, sc, es, l => chkL (fun e e' => notStar e && chkE cf n sc e e') es l
def chkI (cf : Cf) : Nat → Scope → Expr → Expr → IK → List E → Bool
  | 0, _, _, _, _, _ => false
  | n + 1, sc, tg, it, k, src => match k, src with
    | .seq, [e'] => notSet it && chkE cf n sc it e'
    | .rng1, [e'] => (match it with
      | .Call (.Name r0 _) [e] [] _ => eqS "range" r0 && (glB sc "range" && (inS "range" cf.blts && (notStar e && chkE cf n sc e e')))
      | _ => false)
    | .rng2, [e', f'] => (match it with
      | .Call (.Name r0 _) [e, f] [] _ => eqS "range" r0 && (glB sc "range" && (inS "range" cf.blts && (notStar e && (notStar f && (chkE cf n sc e e' && chkE cf n sc f f')))))
      | _ => false)
    | .enum, [e'] => (match tg, it with
      | .Tuple _ _ _, .Call (.Name r0 _) [e] [] _ => eqS "enumerate" r0 && (glB sc "enumerate" && (inS "enumerate" cf.blts && (notStar e && chkE cf n sc e e')))
      | _, _ => false)
    | _, _ => false
end
end Bh

set_option maxHeartbeats 4000000
/-! The checker is sound: expressions. -/
namespace Bh
open PySem PySem.Spec PyProof.Rows L2
theorem a2 {a b : Bool} (h : (a && b) = true) : a = true ∧ b = true := Bool.and_eq_true_iff.mp h
structure Snd (cf : Cf) (n : Nat) : Prop where
  e : ∀ {X g sc e e'}, CxOk cf X g sc → chkE cf n sc e e' = true → PE X e (tE X g e')
  t : ∀ {X g sc e e'}, CxOk cf X g sc → chkT cf n sc e e' = true → PT X e (tT X g e')
  a : ∀ {X g sc es l}, CxOk cf X g sc → chkA cf n sc es l = true → PAl X g es l
  i : ∀ {X g sc tg it k src}, CxOk cf X g sc → chkI cf n sc tg it k src = true → PI X tg it (tI X g k src) ∧ notSet it = true
section
variable {cf : Cf} {n : Nat} {X : Cx} {g : Gx} {sc : Scope}
theorem pel_of (S : Snd cf n) (c : CxOk cf X g sc) : ∀ {es : List Expr} {l : List E}, chkL (chkE cf n sc) es l = true → PEl X g es l
  | [], [], _ => .nil
  | [], _ :: _, h => by cases h
  | _ :: _, [], h => by cases h
  | _ :: _, _ :: _, h => .cons (S.e c (a2 h).1) (pel_of S c (a2 h).2)
theorem ptl_of (S : Snd cf n) (c : CxOk cf X g sc) : ∀ {es : List Expr} {l : List E}, chkL (chkT cf n sc) es l = true → PTl X g es l
  | [], [], _ => .nil
  | [], _ :: _, h => by cases h
  | _ :: _, [], h => by cases h
  | _ :: _, _ :: _, h => .cons (S.t c (a2 h).1) (ptl_of S c (a2 h).2)
theorem pal_of (S : Snd cf n) (c : CxOk cf X g sc) : ∀ {es : List Expr} {l : List E}, chkL (fun e e' => notStar e && chkE cf n sc e e') es l = true → PAl X g es l
  | [], [], _ => .nil
  | [], _ :: _, h => by cases h
  | _ :: _, [], h => by cases h
  | _ :: _, _ :: _, h => .cons (S.e c (a2 (a2 h).1).2) (a2 (a2 h).1).1 (pal_of S c (a2 h).2)
theorem po_of (S : Snd cf n) (c : CxOk cf X g sc) : ∀ {o : Option Expr} {o' : Option E}, chkO (chkE cf n sc) o o' = true → PO X o (tOpt X g o')
  | none, none, _ => PO.wk po_none fun σ H Q ⟨al, Z, G, s, S, st, rf, h⟩ => by
    simp only [evO] at h
    exact PostR.ok h st
  | none, some _, h => by cases h
  | some _, none, h => by cases h
  | some e, some e', h => by
    refine PO.wk (po_some (S.e c h)) fun σ H Q ⟨al, Z, G, s, S, st, rf, h⟩ => ?_
    simp only [evO] at h
    refine ⟨al, Z, G, s, S, st, rf, (PostR.bind h).imp fun al1 Z1 d S1 H1 _ l1 st1 h1 v rv => ?_⟩
    split at h1
    · cases rv
      exact ⟨_, rfl, PostR.ok h1 st1⟩
    · exact False.elim h1
theorem ptsl_of (S : Snd cf n) (c : CxOk cf X g sc) {es : List Expr} {l : List E} (hl : l.length ≤ 1) (h : chkL (chkT cf n sc) es l = true) : PTs X es (tAll X g l) := by
  match es, l, h with
  | [], [], _ => exact pts_nil'
  | [e], [e'], h => exact pts_one' (S.t c (a2 h).1)
  | [], _ :: _, h => cases h
  | _ :: _, [], h => cases h
  | [e], _ :: _ :: _, h => simp at hl
  | _ :: _ :: _, [e'], h => exact absurd (a2 h).2 (by simp [chkL])
  | _ :: _ :: _, _ :: _ :: _, h => simp at hl
theorem pgn_of (c : CxOk cf X g sc) {x : Str} {pos : Pos} {i : Nat} (h1 : nIs cf.N i x = true) (h2 : locB sc x = true) : PG X (.Name x pos) (gName i) := by
  obtain ⟨a, b⟩ := c.sc.loc x (loc_ok h2)
  exact pg_name c.nd (by rw [c.n]; exact nIs_ok h1) a b
theorem tns_of (c : CxOk cf X g sc) : ∀ {es : List Expr} {l : List Nat}, chkNs cf sc es l = true → TNs X es l
  | [], [], _ => .nil
  | .Name x p :: es, i :: l, h => .cons (pgn_of c (a2 h).1 (a2 (a2 h).2).1) (tns_of c (a2 (a2 h).2).2)
  | [], _ :: _, h => by cases h
  | e :: es, [], h => by cases e <;> cases h
  | .BoolOp .. :: _, _ :: _, h => by cases h
  | .NamedExpr .. :: _, _ :: _, h => by cases h
  | .BinOp .. :: _, _ :: _, h => by cases h
  | .UnaryOp .. :: _, _ :: _, h => by cases h
  | .Lambda .. :: _, _ :: _, h => by cases h
  | .IfExp .. :: _, _ :: _, h => by cases h
  | .Dict .. :: _, _ :: _, h => by cases h
  | .Set .. :: _, _ :: _, h => by cases h
  | .ListComp .. :: _, _ :: _, h => by cases h
  | .SetComp .. :: _, _ :: _, h => by cases h
  | .DictComp .. :: _, _ :: _, h => by cases h
  | .GeneratorExp .. :: _, _ :: _, h => by cases h
  | .Await .. :: _, _ :: _, h => by cases h
  | .Yield .. :: _, _ :: _, h => by cases h
  | .YieldFrom .. :: _, _ :: _, h => by cases h
  | .Compare .. :: _, _ :: _, h => by cases h
  | .Call .. :: _, _ :: _, h => by cases h
  | .FormattedValue .. :: _, _ :: _, h => by cases h
  | .JoinedStr .. :: _, _ :: _, h => by cases h
  | .Constant .. :: _, _ :: _, h => by cases h
  | .Attribute .. :: _, _ :: _, h => by cases h
  | .Subscript .. :: _, _ :: _, h => by cases h
  | .Starred .. :: _, _ :: _, h => by cases h
  | .List .. :: _, _ :: _, h => by cases h
  | .Tuple .. :: _, _ :: _, h => by cases h
  | .Slice .. :: _, _ :: _, h => by cases h
theorem pg_of (c : CxOk cf X g sc) {e : Expr} {t : T} (h : chkG cf sc e t = true) : PG X e (tG X t) := by
  unfold chkG at h
  split at h
  · exact pg_nm' (pgn_of c (a2 h).1 (a2 h).2)
  · exact pg_tup' (c.cal (a2 h).1) (tns_of c (a2 h).2)
  · cases h
theorem plainIx_of {b : Expr} (h : notSlice b = true) : PlainIx b := fun o i => by
  cases b <;> first | rfl | cases h
theorem fold_of {it : Expr} {env : Env} (h : notSet it = true) : ∀ x, foldedSetIterable it env x = pure x := fun x => by
  cases it <;> first | rfl | cases h
theorem plainT_of {e : Expr} (h : plainT e = true) (env : Env) (whole : Sem Value) : isTrue e env whole = (do let v ← whole; standAt e.pos; holding [v] (truthy v)) := by
  cases e with
  | UnaryOp op x p => cases op <;> first | rfl | cases h
  | _ => first | rfl | cases h
theorem pe_glo {x : Str} {k : Nat} {p : Pos} (F : FnsOk X cf.tb g.call k) (hf : x ∈ cf.tb.fns) (hg : Gl X x) : PE X (.Name x p) (tE X g (.glo x)) := by
  obtain ⟨hdb, hm, hk, _⟩ := F.fn x hf
  exact PE.wk (pe_glob hg hm (v := .ref (He.ga X.K x)) rfl hdb) fun σ H Q ⟨al, Z, G, s, S, st, rf, h⟩ => by
    simp only [ev] at h
    exact PV.val h st (.glo x)
end
theorem sound : ∀ (cf : Cf) (n : Nat), Snd cf n
  | cf, 0 => ⟨fun _ h => by simp [chkE] at h, fun _ h => by simp [chkT] at h, fun _ h => by simp [chkA] at h, fun _ h => by simp [chkI] at h⟩
  | cf, n + 1 => by
    have S := sound cf n
    refine ⟨?_, ?_, ?_, ?_⟩
    · intro X g sc e e' c h
      have gl : ∀ {x : Str}, glB sc x = true → Gl X x := fun h => c.sc.gl _ (of_decide_eq_true h)
      have bl : ∀ {x : Str}, inS x cf.blts = true → X.mg x = none := fun h => c.blt _ (inS_ok h)
      unfold chkE at h
      split at h
      · exact ⟨fun pins s σ H Q I ⟨al, Z, G, s', S', st, rf, h⟩ => by simp only [ev] at h; exact False.elim h⟩
      · obtain ⟨h1, h⟩ := a2 h
        obtain ⟨h2, h3⟩ := a2 h
        exact pe_var' (by rw [c.n]; exact nIs_ok h1) (c.sc.vis _ (vis_ok h2)) (okN_ok h3).1 (okN_ok h3).2
      · exact pe_non'
      · obtain rfl := eq_of_beq h
        exact pe_bl'
      · obtain rfl := of_decide_eq_true h
        exact pe_int'
      · obtain rfl := eqS_ok h
        exact pe_str'
      · obtain ⟨h1, h⟩ := a2 h
        obtain ⟨h2, h⟩ := a2 h
        obtain ⟨h3, h4⟩ := a2 h
        obtain rfl := eqS_ok h1
        obtain ⟨d, u, v, e1, e2, e3, e4⟩ := c.con _ (inS_ok h3)
        exact PE.wk (pe_glob (gl h2) e2 e3 (okN_ok h4).1) fun σ H Q ⟨al, Z, G, s, S, st, rf, h⟩ => by
          simp only [ev] at h
          exact PV.ofO h e1 st (e4 al Z)
      · obtain ⟨h0, h⟩ := a2 h
        obtain ⟨h1, h⟩ := a2 h
        obtain ⟨h2, h3⟩ := a2 h
        obtain rfl := eqS_ok h1
        obtain ⟨k, _, F, _⟩ := c.fns h0
        exact pe_glo F (inS_ok h3) (gl h2)
      · obtain ⟨h1, h⟩ := a2 h
        obtain ⟨h2, h3⟩ := a2 h
        obtain rfl := of_decide_eq_true h1
        exact pe_bin (S.e c h2) (S.e c h3)
      · exact pe_neg (S.e c h)
      · obtain ⟨h1, h⟩ := a2 h
        obtain ⟨h2, h⟩ := a2 h
        obtain ⟨h3, h4⟩ := a2 h
        obtain rfl := of_decide_eq_true h1
        exact pe_cmp' c.hu (S.e c h3) (S.e c h4) (by simpa using h2)
      · obtain ⟨h1, h⟩ := a2 h
        obtain ⟨h2, h⟩ := a2 h
        obtain ⟨h3, h⟩ := a2 h
        obtain ⟨h4, h⟩ := a2 h
        obtain ⟨h5, h6⟩ := a2 h
        obtain rfl := of_decide_eq_true h1
        obtain rfl := of_decide_eq_true h2
        exact pe_chain' c.hu (S.e c h4) (S.e c h5) (S.e c h6) (by simpa using h3)
      · exact pe_and' (S.e c (a2 h).1) (pel_of S c (a2 h).2)
      · exact pe_or' (S.e c (a2 h).1) (pel_of S c (a2 h).2)
      · exact pe_not' (S.e c h)
      · obtain ⟨h1, h⟩ := a2 h
        obtain ⟨h2, h3⟩ := a2 h
        exact pe_ife (S.t c h1) (S.e c h2) (S.e c h3)
      · exact pe_tup' (S.a c h)
      · exact pe_lst' (S.a c h)
      · obtain ⟨h1, h⟩ := a2 h
        obtain ⟨h2, h3⟩ := a2 h
        exact pe_ix' c.hu (S.e c h2) (S.e c h3) (plainIx_of h1)
      · obtain ⟨h1, h⟩ := a2 h
        obtain ⟨h2, h3⟩ := a2 h
        exact pe_slice' (S.e c h1) (po_of S c h2) (po_of S c h3)
      · obtain ⟨h1, h⟩ := a2 h
        obtain ⟨h2, h3⟩ := a2 h
        obtain rfl := eqS_ok h1
        exact pe_fld' (S.e c h3) (base_of h2 _ _ _)
      · obtain ⟨h0, h⟩ := a2 h
        obtain ⟨h1, h⟩ := a2 h
        obtain ⟨h2, h⟩ := a2 h
        obtain ⟨h3, h4⟩ := a2 h
        obtain rfl := eqS_ok h1
        obtain ⟨k, hr, F, tk⟩ := c.fns h0
        exact pe_call' F (inS_ok h3) (hr.mono (by omega)) tk (gl h2) (S.a c h4)
      · rename_i f0 _ _
        obtain ⟨h0, h⟩ := a2 h
        obtain ⟨h1, h⟩ := a2 h
        obtain ⟨h2, h⟩ := a2 h
        obtain ⟨h3, h4⟩ := a2 h
        obtain ⟨k, hr, F, tk⟩ := c.fns h0
        refine pe_callV F (fun f hf => inS_ok (List.all_eq_true.mp h2 f hf)) (hr.mono (by omega)) tk (S.e c h3) (S.a c h4) ?_
        cases f0 <;> first | rfl | cases h1
      · obtain ⟨h0, h⟩ := a2 h
        obtain ⟨h1, h⟩ := a2 h
        obtain ⟨h2, h⟩ := a2 h
        obtain ⟨h3, h4⟩ := a2 h
        obtain rfl := eqS_ok h1
        obtain ⟨k, hr, F, tk⟩ := c.fns h0
        exact pe_make' F (inS_ok h3) hr tk (gl h2) (S.a c h4)
      · obtain ⟨h0, h⟩ := a2 h
        obtain ⟨h1, h⟩ := a2 h
        obtain ⟨h2, h⟩ := a2 h
        obtain ⟨h3, h⟩ := a2 h
        obtain ⟨h4, h⟩ := a2 h
        obtain ⟨h5, h⟩ := a2 h
        obtain ⟨h6, h7⟩ := a2 h
        obtain rfl := eqS_ok h1
        obtain ⟨k, hr, F, tk⟩ := c.fns h0
        exact pe_meth' F (inP_ok h2) (hr.mono (by omega)) tk (S.e c h6) (S.a c h7) h3 h4 (of_decide_eq_true h5)
      · obtain ⟨h0, h⟩ := a2 h
        obtain ⟨h1, h⟩ := a2 h
        obtain ⟨h2, h⟩ := a2 h
        obtain ⟨h3, h4⟩ := a2 h
        obtain rfl := eqS_ok h1
        exact pe_bi' (c.cal h0) (gl h2) (bl h3) (S.a c h4)
      · obtain ⟨h1, h⟩ := a2 h
        obtain ⟨h2, h⟩ := a2 h
        obtain ⟨h3, h⟩ := a2 h
        obtain ⟨h4, h⟩ := a2 h
        obtain ⟨h5, h6⟩ := a2 h
        obtain rfl := eqS_ok h1
        exact pe_bm' c.hu (S.e c h5) (S.a c h6) h2 h3 (of_decide_eq_true h4) (bm_slot _).1 (bm_slot _).2
      · obtain ⟨h1, h⟩ := a2 h
        obtain ⟨h2, h⟩ := a2 h
        obtain ⟨h3, h⟩ := a2 h
        obtain ⟨h4, h⟩ := a2 h
        obtain ⟨h5, h⟩ := a2 h
        obtain ⟨h6, h⟩ := a2 h
        obtain ⟨h7, h8⟩ := a2 h
        obtain rfl := eqS_ok h1
        obtain rfl := eqS_ok h2
        exact pe_isi' (gl h3) (bl h4) (gl h5) (bl h6) (S.e c h8) h7
      · obtain ⟨h1, h⟩ := a2 h
        obtain ⟨h2, h⟩ := a2 h
        obtain ⟨h3, h⟩ := a2 h
        obtain ⟨h4, h⟩ := a2 h
        obtain ⟨h5, h⟩ := a2 h
        obtain ⟨h6, h⟩ := a2 h
        obtain ⟨h7, h8⟩ := a2 h
        obtain rfl := eqS_ok h1
        obtain rfl := eqS_ok h2
        exact c.isx _ (inS_ok h8) _ _ _ _ _ _ (by rw [c.n]; exact nIs_ok h3) (c.sc.vis _ (vis_ok h4)) h5 (gl h6) (gl h7)
      · obtain ⟨h0, h⟩ := a2 h
        obtain ⟨h1, h⟩ := a2 h
        obtain ⟨h2, h⟩ := a2 h
        obtain ⟨h3, h⟩ := a2 h
        obtain ⟨h4, h⟩ := a2 h
        obtain ⟨h5, h⟩ := a2 h
        obtain ⟨h6, h⟩ := a2 h
        obtain ⟨h7, h8⟩ := a2 h
        obtain rfl := eqS_ok h1
        obtain rfl := eqS_ok h2
        have hl := of_decide_eq_true h7
        have A := S.a c h8
        cases A with
        | nil => simp at hl
        | cons he hs t =>
          cases t with
          | nil => exact pe_lrng1 (c.cal h0) (gl h3) (bl h4) (gl h5) (bl h6) he hs
          | cons hf hs2 t =>
            cases t with
            | nil => exact pe_lrng2 (c.cal h0) (gl h3) (bl h4) (gl h5) (bl h6) he hf hs hs2
            | cons _ _ t => simp at hl
      · rename_i elt tg k src ifs _ _ _ _ scope pos
        obtain ⟨h0, h⟩ := a2 h
        obtain ⟨h1, h⟩ := a2 h
        obtain ⟨h2, h⟩ := a2 h
        obtain ⟨h3, h⟩ := a2 h
        obtain ⟨h4, h⟩ := a2 h
        obtain ⟨h5, h⟩ := a2 h
        obtain ⟨h6, h7⟩ := a2 h
        have hx : cf.xcs = [] := by simpa using h1
        obtain ⟨hi, hst⟩ := S.i c h4
        have ok : BlkOk X.N X.env.scope scope (ownOf cf.N (tgs tg)) := by rw [c.n]; exact blk_ok c.sc h2
        have := pe_lc (pos := pos) (g := tG X tg) (tt := tAll X g.still ifs) (te := tE X g.still elt) (c.cal h0) c.nd hi ok (fun s H C cl fp => pg_of (c.blk hx s H C cl fp) h3)
          (fun s H C cl fp => ptsl_of S (c.blk hx s H C cl fp) (of_decide_eq_true h5) h6) (fun s H C cl fp => S.e (c.blk hx s H C cl fp) h7) (fold_of hst)
        rw [own_snd] at this
        exact PE.wk this fun σ H Q h => lc_step h
      · rename_i elt tg k src ifs tg2 k2 src2 ifs2 _ _ _ _ _ _ _ scope pos
        obtain ⟨h0, h⟩ := a2 h
        obtain ⟨h1, h⟩ := a2 h
        obtain ⟨h2, h⟩ := a2 h
        obtain ⟨h3, h⟩ := a2 h
        obtain ⟨h4, h⟩ := a2 h
        obtain ⟨h5, h⟩ := a2 h
        obtain ⟨h6, h⟩ := a2 h
        obtain ⟨h7, h⟩ := a2 h
        obtain ⟨h8, h⟩ := a2 h
        obtain ⟨h9, h⟩ := a2 h
        obtain ⟨h10, h11⟩ := a2 h
        have hx : cf.xcs = [] := by simpa using h1
        obtain ⟨hi, hst⟩ := S.i c h4
        have ok : BlkOk X.N X.env.scope scope (ownOf cf.N (tgs tg ++ tgs tg2)) := by rw [c.n]; exact blk_ok c.sc h2
        have hst1 := (S.i (c.blk hx X.s_0 X.H_0 0 [] []) h8).2
        have := pe_lc2 (pos := pos) (g := tG X tg) (g1 := tG X tg2) (tt := tAll X g.still ifs) (tt1 := tAll X g.still ifs2) (wi1 := tI X g.still k2 src2) (te := tE X g.still elt) (vs1 := tgs tg2) (c.cal h0) c.nd hi ok (fun i hi => by rw [own_snd]; exact List.mem_append_right _ hi) (fun s H C cl fp => pg_of (c.blk hx s H C cl fp) h3)
          (fun s H C cl fp => ptsl_of S (c.blk hx s H C cl fp) (of_decide_eq_true h5) h6) (fun s H C cl fp => (S.i (c.blk hx s H C cl fp) h8).1) (fun s H C cl fp => pg_of (c.blk hx s H C cl fp) h7)
          (fun s H C cl fp => ptsl_of S (c.blk hx s H C cl fp) (of_decide_eq_true h9) h10) (fun s H C cl fp => S.e (c.blk hx s H C cl fp) h11) (fold_of hst) (fun env => fold_of hst1)
        rw [own_snd] at this
        exact PE.wk this fun σ H Q h => lc2_step h
      · cases h
    · intro X g sc e e' c h
      unfold chkT at h
      split at h
      · exact ⟨fun pins s σ H Q I ⟨al, Z, G, s', S', st, rf, h⟩ => by simp only [TB, ev] at h; exact False.elim h⟩
      · obtain ⟨h1, h⟩ := a2 h
        obtain ⟨h2, h⟩ := a2 h
        obtain ⟨h3, h4⟩ := a2 h
        obtain rfl := of_decide_eq_true h1
        exact pt_cmp' c.hu (S.e c h3) (S.e c h4) (by simpa using h2)
      · obtain ⟨h1, h⟩ := a2 h
        obtain ⟨h2, h⟩ := a2 h
        obtain ⟨h3, h⟩ := a2 h
        obtain ⟨h4, h⟩ := a2 h
        obtain ⟨h5, h6⟩ := a2 h
        obtain rfl := of_decide_eq_true h1
        obtain rfl := of_decide_eq_true h2
        exact pt_chain' c.hu (S.e c h4) (S.e c h5) (S.e c h6) (by simpa using h3)
      · exact pt_and' (S.t c (a2 h).1) (ptl_of S c (a2 h).2)
      · exact pt_or' (S.t c (a2 h).1) (ptl_of S c (a2 h).2)
      · exact pt_not' (S.t c h)
      · exact pt_val' (S.e c (a2 h).2) (plainT_of (a2 h).1 _)
    · intro X g sc es l c h
      unfold chkA at h
      exact pal_of S c h
    · intro X g sc tg it k src c h
      have gl : ∀ {x : Str}, glB sc x = true → Gl X x := fun h => c.sc.gl _ (of_decide_eq_true h)
      have bl : ∀ {x : Str}, inS x cf.blts = true → X.mg x = none := fun h => c.blt _ (inS_ok h)
      unfold chkI at h
      split at h
      · exact ⟨pi_seq (S.e c (a2 h).2), (a2 h).1⟩
      · split at h
        · obtain ⟨h1, h⟩ := a2 h
          obtain ⟨h2, h⟩ := a2 h
          obtain ⟨h3, h⟩ := a2 h
          obtain ⟨h4, h5⟩ := a2 h
          obtain rfl := eqS_ok h1
          exact ⟨pi_rng1' (gl h2) (bl h3) (S.e c h5) h4, rfl⟩
        · cases h
      · split at h
        · obtain ⟨h1, h⟩ := a2 h
          obtain ⟨h2, h⟩ := a2 h
          obtain ⟨h3, h⟩ := a2 h
          obtain ⟨h4, h⟩ := a2 h
          obtain ⟨h5, h⟩ := a2 h
          obtain ⟨h6, h7⟩ := a2 h
          obtain rfl := eqS_ok h1
          exact ⟨pi_rng2' (gl h2) (bl h3) (S.e c h6) (S.e c h7) h4 h5, rfl⟩
        · cases h
      · split at h
        · obtain ⟨h1, h⟩ := a2 h
          obtain ⟨h2, h⟩ := a2 h
          obtain ⟨h3, h⟩ := a2 h
          obtain ⟨h4, h5⟩ := a2 h
          obtain rfl := eqS_ok h1
          exact ⟨pi_enum' (gl h2) (bl h3) (S.e c h5) h4, rfl⟩
        · cases h
      · cases h
end Bh

set_option maxHeartbeats 2000000
/-! try: what handlers are wished to do. -/
namespace Bh
open PySem PySem.Spec PyProof.Rows L2
def tH (K : PySem.W.Frag) (kn : List Str) (hb : HB) (i : Option Nat) : Addr → Value → Option Addr → TS := fun a cls d D σ H => ∃ c x al Z G S, cls = .ref (He.ga K c) ∧ c ∈ kn ∧ XR K al Z x d ∧ StR K al Z G S H ∧ (∀ j, i = some j → σ[j]? = some (some (.ref a))) ∧ match hb with
  | .ret e => ∃ r, hev c x e = some r ∧ ∀ al' Z' H' v, Le al Z al' Z' → StR K al' Z' G S H' → RV K al' Z' r v → D.rt v H'
  | .cont => D.ct σ H
def Gx.wish (g : Gx) (W : WX) : Gx := ⟨g.con, g.call, W⟩
section
variable {X : Cx} {g : Gx} {pos : Pos}
/-- the suites of handlers, one behind another -/
theorem handle_exc {kn : List Str} {c h : Str} {x : Option (Str × D)} {s : Fr} {S : Store} {i : Option Nat} {hb : HB} {l : List (Str × Option Nat × HB)} {G : Hp} {al : List Addr} {Z : Hp} {D : Ends} (hp : PostS X g G al Z (handle kn c x s S ((h, i, hb) :: l)) D) :
    c ∈ kn ∧ (excSub c h = true → okI i s = true ∧ PostS X g G al Z (runH c x i s S hb) D) ∧ (excSub c h = false → PostS X g G al Z (handle kn c x s S l) D) := by
  unfold handle at hp
  split at hp
  · rename_i hm
    refine ⟨hm, fun e => ?_, fun e => ?_⟩
    · rw [if_pos e] at hp
      split at hp
      · rename_i ho; exact ⟨ho, hp⟩
      · exact False.elim hp
    · rw [e] at hp
      exact hp
  · exact False.elim hp
theorem handle_run {kn : List Str} {c : Str} {x : Option (Str × D)} {s : Fr} {S : Store} {i : Option Nat} {hb : HB} {G : Hp} {al al' : List Addr} {Z Z' : Hp} {D D' : Ends} {σ : L2.St} {H : Hp} {a : Addr} {d : Option Addr} (hm : c ∈ kn) (l : Le al Z al' Z') (st : StR X.K al' Z' G S H) (xr : XR X.K al' Z' x d)
    (hσ : ∀ j, i = some j → σ[j]? = some (some (.ref a))) (hrt : D'.rt = D.rt) {σ2 : L2.St} (hct : D.ct σ2 H → D'.ct σ H) (rf : RF X.K al' Z' (clrI i s) σ2) (h : PostS X g G al Z (runH c x i s S hb) D) : tH X.K kn hb i a (.ref (He.ga X.K c)) d D' σ H := by
  refine ⟨c, x, al', Z', G, S, rfl, hm, xr, st, hσ, ?_⟩
  cases hb with
  | ret e =>
    simp only [runH] at h ⊢
    split at h
    · rename_i r hr
      refine ⟨r, hr, fun al2 Z2 H2 v l2 st2 rv => ?_⟩
      rw [hrt]
      exact h al2 Z2 H2 v (l.trans l2) st2 rv
    · exact False.elim h
  | cont =>
    simp only [runH] at h ⊢
    exact hct (h al' Z' σ2 H l st rf)
theorem ps_tryAs {kn : List Str} {h n : Str} {i : Nat} {hb : HB} {body suite : List Stmt} {b₀ : Stmt} {body' : List Sm} {np pos' : Pos} (hs : X.stack = X.env :: X.outer) (hf : X.env.frame = some X.env.locals) (hN : X.N.Nodup) (hi : X.N[i]? = some n) (hln : X.env.kindOf n = some .local)
    (hc : Names X h (.ref (He.ga X.K h))) (tk : L2N.Takes X g.W) (hexm : ∀ c ∈ kn, PySem.W.exmOne X.K (.ref (He.ga X.K c)) (.ref (He.ga X.K h)) = some (excSub c h))
    (hbd : ∀ (W : WX) (pn : List (Addr × Obj)) (xe : Value → Shared → Prop), L2N.Takes (X.tr pn xe) W → PassesOwn (model X.prog X.w) X.A X.env xe → PSs (X.tr pn xe) body (tSs X (g.wish W) body'))
    (hsu : ∀ (a : Addr) (oe : Obj) (cls : Value) (d : Option Addr) (pn : List (Addr × Obj)), L2N.Zn cls d oe → (∃ vs, oe.data = .fields vs) → PSs (X.suite a ((a, oe) :: pn)) (b₀ :: suite) (tH X.K kn hb (some i) a cls d)) :
    PS X (.Try body [.ExceptHandler (some (.Name h np)) (some n) (b₀ :: suite) pos'] [] [] pos) (tS X g (.try_ kn body' [(h, some i, hb)])) := by
  refine PS.wk (L2N.ps_try_as (tb := fun W => tSs X (g.wish W) body') hs hf hN hi hln hc tk hbd hsu) fun D σ H ⟨al, Z, G, s, S, st, rf, h1⟩ => ⟨al, Z, G, s, S, st, rf, ?_⟩
  simp only [ex] at h1
  show PostS X (g.wish _) G al Z (Bh.exs g.con g.call body' s S) D
  cases e : Bh.exs g.con g.call body' s S with
  | next s' S' => rw [e] at h1; exact h1
  | cont s' S' => rw [e] at h1; exact h1
  | ret d S' => rw [e] at h1; exact h1
  | bad => rw [e] at h1; exact h1
  | exc c x s' S' =>
    rw [e] at h1
    intro al' Z' σ' H' dd l st' rf' xr
    obtain ⟨hm, h2, h3⟩ := handle_exc h1
    refine ⟨excSub c h, hexm c hm, fun eb a na => ?_, fun eb => ?_⟩
    · obtain ⟨ho, h2⟩ := h2 eb
      have hlt : i < σ'.length := by rw [← rf'.len]; exact of_decide_eq_true ho
      refine handle_run (D := D) hm l st' xr (fun j ej => ?_) rfl (σ2 := σ'.set i none) (fun q => ?_) (rf'.unset i) h2
      · cases ej
        rw [List.getElem?_set_self hlt]
      · show D.ct ((σ'.set i _).set i none) H'
        rw [List.set_set]
        exact q
    · have h3 := h3 eb
      exact h3 al' Z' σ' H' dd l st' rf' xr
theorem ps_try1 {kn : List Str} {h : Str} {hb : HB} {body suite : List Stmt} {b₀ : Stmt} {body' : List Sm} {np pos' : Pos} (hs : X.stack = X.env :: X.outer) (hf : X.env.frame = some X.env.locals)
    (hc : Names X h (.ref (He.ga X.K h))) (tk : L2N.Takes X g.W) (hexm : ∀ c ∈ kn, PySem.W.exmOne X.K (.ref (He.ga X.K c)) (.ref (He.ga X.K h)) = some (excSub c h))
    (hbd : ∀ (W : WX) (pn : List (Addr × Obj)) (xe : Value → Shared → Prop), L2N.Takes (X.tr pn xe) W → PassesOwn (model X.prog X.w) X.A X.env xe → PSs (X.tr pn xe) body (tSs X (g.wish W) body'))
    (hsu : ∀ (a : Addr) (oe : Obj) (cls : Value) (d : Option Addr) (pn : List (Addr × Obj)), L2N.Zn cls d oe → (∃ vs, oe.data = .fields vs) → PSs (X.suite a ((a, oe) :: pn)) (b₀ :: suite) (tH X.K kn hb none a cls d)) :
    PS X (.Try body [.ExceptHandler (some (.Name h np)) none (b₀ :: suite) pos'] [] [] pos) (tS X g (.try_ kn body' [(h, none, hb)])) := by
  refine PS.wk (L2N.ps_try_many (tb := fun W => tSs X (g.wish W) body') hs hf tk hbd (.cons hc hsu .nil)) fun D σ H ⟨al, Z, G, s, S, st, rf, h1⟩ => ⟨al, Z, G, s, S, st, rf, ?_⟩
  simp only [ex] at h1
  show PostS X (g.wish _) G al Z (Bh.exs g.con g.call body' s S) D
  cases e : Bh.exs g.con g.call body' s S with
  | next s' S' => rw [e] at h1; exact h1
  | cont s' S' => rw [e] at h1; exact h1
  | ret d S' => rw [e] at h1; exact h1
  | bad => rw [e] at h1; exact h1
  | exc c x s' S' =>
    rw [e] at h1
    intro al' Z' σ' H' dd l st' rf' xr
    obtain ⟨hm, h2, h3⟩ := handle_exc h1
    refine ⟨excSub c h, hexm c hm, fun eb a na => ?_, fun eb => ?_⟩
    · obtain ⟨ho, h2⟩ := h2 eb
      exact handle_run (D := D) (σ2 := σ') hm l st' xr (fun j ej => by cases ej) rfl (fun q => q) rf' h2
    · have h3 := h3 eb
      exact h3 al' Z' σ' H' dd l st' rf' xr
end
end Bh

set_option maxHeartbeats 4000000
/-! The checker: statements. -/
namespace Bh
open PySem PySem.Spec PyProof.Rows L2
/-- an expression of an except suite: i the slot of the caught one -/
def tHE (K : PySem.W.Frag) (kn : List Str) (he : HE) (i : Nat) (a : Addr) (cls : Value) (d : Option Addr) : TE := fun σ H Q => ∃ c x al Z G S r, cls = .ref (He.ga K c) ∧ c ∈ kn ∧ XR K al Z x d ∧ StR K al Z G S H ∧ σ[i]? = some (some (.ref a)) ∧ hev c x he = some r ∧
  ∀ al' Z' H' v, Le al Z al' Z' → StR K al' Z' G S H' → RV K al' Z' r v → Q v H'
def HeOk (X : Cx) (kn : List Str) (i : Nat) (e : Expr) (he : HE) : Prop := ∀ (a : Addr) (oe : Obj) (cls : Value) (d : Option Addr) (pn : List (Addr × Obj)), L2N.Zn cls d oe → (∃ vs, oe.data = .fields vs) → PE (X.suite a ((a, oe) :: pn)) e (tHE X.K kn he i a cls d)
/-- what is known of handlers -/
structure Hc where
  hcl : List Str
  kn : List Str
  wh : Bool
structure SxOk (cf : Cf) (hc : Hc) (X : Cx) (g : Gx) (sc : Scope) : Prop where
  c : CxOk cf X g sc
  env : X.env.scope = sc
  kind : sc.kind = .function
  po : cf.cm = true → PassesOwn (model X.prog X.w) X.A X.env X.xe
  stk : X.stack = X.env :: X.outer
  frm : X.env.frame = some X.env.locals
  exs : ∀ x ∈ cf.exs, Xc X x
  hcl : ∀ h ∈ hc.hcl, (h == ("__debug__" : Str)) = false ∧ X.mg h = some (.ref (He.ga X.K h))
  exm : ∀ x ∈ hc.kn, ∀ h ∈ hc.hcl, PySem.W.exmOne X.K (.ref (He.ga X.K x)) (.ref (He.ga X.K h)) = some (excSub x h)
  wh : hc.wh = true → ∀ (kn : List Str) (i : Nat) (x : Str) (p q pos : Pos), (∀ y ∈ kn, y ∈ hc.kn) → X.N[i]? = some x → Vis X.env.scope x → okN x = true → Gl X "_law_which" → HeOk X kn i (.Call (.Name "_law_which" p) [.Name x q] [] pos) .which
def isComp : Expr → Bool
  | .ListComp _ _ _ _ => true
  | .SetComp _ _ _ _ => true
  | .DictComp _ _ _ _ _ => true
  | _ => false
def isTup : Expr → Bool
  | .Tuple _ _ _ => true
  | _ => false
theorem sw_non {e : Expr} {t : Option Expr} {l : Nat} {env : Env} (h : isComp e = false) : swapsWith e t l env = pure false := by
  cases e <;> first | rfl | cases h
/-- does name = [..] swap -/
def swB (sc : Scope) (x : Str) (p : Pos) : Expr → Bool
  | .ListComp _ _ scope pos => kB sc x .local && ((p.line == pos.line) && !(scope.names.any fun (n, k) => n == x && (k == .local || k == .cell)))
  | .SetComp _ _ _ _ => true
  | .DictComp _ _ _ _ _ => true
  | _ => false
theorem sw_off {sc : Scope} {x : Str} {p : Pos} {e : Expr} {l : Nat} {env : Env} (hs : env.scope = sc) (hk : sc.kind = .function) (h : swB sc x p e = false) : swapsWith e (some (.Name x p)) l env = pure false := by
  cases e with
  | ListComp elt gs scope pos =>
    have hb : env.blockKind = .function := by unfold Env.blockKind; rw [hs, hk]; rfl
    unfold swapsWith
    simp only [hb, Expr.pos]
    show (pure _ : Sem Bool) = pure false
    congr 1
    have ky : env.kindOf x = sc.names.lookup x := by unfold Env.kindOf; rw [hs]
    rw [ky]
    unfold swB kB at h
    have e1 : (sc.names.lookup x == some NameKind.local) = decide (sc.names.lookup x = some NameKind.local) := by
      by_cases q : sc.names.lookup x = some NameKind.local <;> simp [q]
    rw [e1]
    cases q1 : decide (sc.names.lookup x = some NameKind.local) <;> cases q2 : (p.line == pos.line) <;> simp [q1, q2] at h ⊢
    exact h
  | SetComp _ _ _ _ => cases h
  | DictComp _ _ _ _ _ => cases h
  | _ => rfl
def parB (sc : Scope) (x y : Str) (px py : Pos) (a b : Expr) : Bool :=
  kB sc x .local && (kB sc y .local && ((px.line == py.line) && (!(eqS x y) && (notStar a && (notStar b && (!(foldedForSure 8 a && foldedForSure 8 b) && !(constantsAlone 8 a && constantsAlone 8 b)))))))
theorem par_sw {sc : Scope} {x y : Str} {px py pt pt2 : Pos} {kt k2 : Nat} {a b : Expr} {env : Env} (hs : env.scope = sc) (hk : sc.kind = .function) (h : parB sc x y px py a b = true) :
    swappedStores [.Tuple [.Name x px, .Name y py] kt pt] (.Tuple [a, b] k2 pt2) env = pure (some [x, y]) := by
  unfold parB at h
  simp only [Bool.and_eq_true_iff, Bool.not_eq_true'] at h
  obtain ⟨h1, h2, h3, h4, h5, h6, h7, h8⟩ := h
  have hb : env.blockKind = .function := by unfold Env.blockKind; rw [hs, hk]; rfl
  have kx : env.kindOf x = some NameKind.local := by unfold Env.kindOf; rw [hs, of_decide_eq_true h1]
  have ky : env.kindOf y = some NameKind.local := by unfold Env.kindOf; rw [hs, of_decide_eq_true h2]
  have l3 : py.line = px.line := (eq_of_beq h3).symm
  have hxy : ¬ x = y := fun e => by simp [eqS, e] at h4
  have hyx : ¬ y = x := fun e => hxy e.symm
  unfold swappedStores
  have st : (([a, b] : List Expr).any fun | .Starred .. => true | _ => false) = false := by
    clear h7 h8
    cases a <;> first | exact absurd (show false = true from h5) Bool.false_ne_true | (cases b <;> first | exact absurd (show false = true from h6) Bool.false_ne_true | rfl)
  have fm : (([.Name x px, .Name y py] : List Expr).filterMap fun
    | .Name id pos => if env.kindOf id == some .local && pos.line == px.line then some id else none
    | _ => none) = [x, y] := by simp [List.filterMap_cons, kx, ky, l3]
  have ed : ([x, y] : List Str).eraseDups.length = 2 := by
    have e1 : (y == x) = false := by simpa using hyx
    simp [List.eraseDups, List.eraseDupsBy, List.eraseDupsBy.loop, e1]
  have a1 : ([a, b] : List Expr).all (foldedForSure 8) = false := by simp only [List.all_cons, List.all_nil, Bool.and_true]; exact h7
  have a2' : ([a, b] : List Expr).all (constantsAlone 8) = false := by simp only [List.all_cons, List.all_nil, Bool.and_true]; exact h8
  show (do
    if !(([.Name x px, .Name y py] : List Expr).length == 2 || ([.Name x px, .Name y py] : List Expr).length == 3) || ([a, b] : List Expr).length != ([.Name x px, .Name y py] : List Expr).length || env.blockKind != .function then return none
    if ([a, b] : List Expr).any fun | .Starred .. => true | _ => false then return none
    let names := ([.Name x px, .Name y py] : List Expr).filterMap fun
      | .Name id pos => if env.kindOf id == some .local && pos.line == px.line then some id else none
      | _ => none
    if names.length != ([.Name x px, .Name y py] : List Expr).length || names.eraseDups.length != names.length then return none
    if ([a, b] : List Expr).all (foldedForSure 8) then return none
    if ([a, b] : List Expr).all (constantsAlone 8) then unsupported "assign.tuple-of-constant-expressions:order-of-the-stores"
    return some names : Sem (Option (List Str))) = pure (some [x, y])
  rw [hb, st, fm, a1, a2']
  simp only [ed]
  rfl
end Bh

set_option maxHeartbeats 4000000
/-! The checker: statements, sound. -/
namespace Bh
open PySem PySem.Spec PyProof.Rows L2
def chkHE (cf : Cf) (hc : Hc) (sc : Scope) (i : Nat) (e : Expr) (he : HE) : Bool := match he, e with
  | .which, .Call (.Name f0 _) [.Name x _] [] _ => hc.wh && (eqS "_law_which" f0 && (nIs cf.N i x && (visB sc x && (okN x && glB sc "_law_which"))))
  | .str x, .Constant (.str y) _ _ => eqS x y
  | .non, .Constant .none _ _ => true
  | .bl b, .Constant (.bool c) _ _ => b == c
  | _, _ => false
def chkHB (cf : Cf) (hc : Hc) (sc : Scope) (i : Option Nat) (b : List Stmt) (hb : HB) : Bool := match hb, b with
  | .cont, [.Continue _] => true
  | .ret he, [.Return (some e) _] => (match i with
    | some j => chkHE cf hc sc j e he
    | none => (match he, e with
      | .str x, .Constant (.str y) _ _ => eqS x y
      | .non, .Constant .none _ _ => true
      | .bl b, .Constant (.bool c) _ _ => b == c
      | _, _ => false))
  | _, _ => false
def allIn (l m : List Str) : Bool := l.all fun x => inS x m
mutual
def chkS (cf : Cf) (hc : Hc) : Nat → Scope → Stmt → Sm → Bool
  | 0, _, _, _ => false
  | n + 1, sc, st, st' => match st', st with
    | .bad, _ => true
    | .asg (.nm i) (.lc _ elt tg k src ifs), .Assign [.Name x p] (.ListComp elt0 [⟨tg0, it0, ifs0, 0⟩] scope pos) _ => nIs cf.N i x && (kB sc x .local && ((p.line == pos.line) && (!(scope.names.any fun (n, k) => n == x && (k == .local || k == .cell)) &&
        (cf.cm && (cf.xcs.isEmpty && (blkB cf.N sc scope (tgs tg) && (chkG cf scope tg0 tg && (chkI cf n sc tg0 it0 k src && (decide (ifs.length ≤ 1) && (chkL (chkT cf n scope) ifs0 ifs && chkE cf n scope elt0 elt))))))))))
    | .asg (.nm i) (.lc2 _ elt tg k src ifs tg2 k2 src2 ifs2), .Assign [.Name x p] (.ListComp elt0 [⟨tg0, it0, ifs0, 0⟩, ⟨tg1, it1, ifs1, 0⟩] scope pos) _ => nIs cf.N i x && (kB sc x .local && ((p.line == pos.line) && (!(scope.names.any fun (n, k) => n == x && (k == .local || k == .cell)) &&
        (cf.cm && (cf.xcs.isEmpty && (blkB cf.N sc scope (tgs tg ++ tgs tg2) && (chkG cf scope tg0 tg && (chkI cf n sc tg0 it0 k src && (decide (ifs.length ≤ 1) && (chkL (chkT cf n scope) ifs0 ifs &&
          (chkG cf scope tg1 tg2 && (chkI cf n scope tg1 it1 k2 src2 && (decide (ifs2.length ≤ 1) && (chkL (chkT cf n scope) ifs1 ifs2 && chkE cf n scope elt0 elt))))))))))))))
    | .asg (.nm i) e', .Assign [.Name x p] e _ => nIs cf.N i x && (locB sc x && (!(swB sc x p e) && chkE cf n sc e e'))
    | .asg (.tup l) e', .Assign [.Tuple es _ _] e _ => cf.cm && (chkNs cf sc es l && (!(isComp e) && (!(isTup e) && chkE cf n sc e e')))
    | .par i j a b, .Assign [.Tuple [.Name x px, .Name y py] _ _] (.Tuple [a0, b0] _ _) _ => cf.cm && (nIs cf.N i x && (nIs cf.N j y && (!(decide (i = j)) && (parB sc x y px py a0 b0 && (chkE cf n sc a0 a && chkE cf n sc b0 b)))))
    | .aug i op e', .AugAssign (.Name x _) o e _ => decide (o = op.op) && (!(decide (o = .Pow)) && (nIs cf.N i x && (locB sc x && chkE cf n sc e e')))
    | .expr e', .Expr e _ => !(isComp e) && chkE cf n sc e e'
    | .ret e', .Return (some e) _ => chkE cf n sc e e'
    | .retN, .Return none _ => true
    | .pass, .Pass _ => true
    | .pass, .Expr (.Constant (.str _) _ _) _ => true
    | .cont, .Continue _ => true
    | .ite t a b, .If t0 a0 b0 _ => chkT cf n sc t0 t && (chkSs cf hc n sc a0 a && chkSs cf hc n sc b0 b)
    | .for_ tg k src body, .For tg0 it0 b0 [] _ => cf.cm && (chkG cf sc tg0 tg && (chkI cf n sc tg0 it0 k src && chkSs cf hc n sc b0 body))
    | .whl _ t body, .While t0 b0 [] _ => cf.cm && (chkT cf n sc t0 t && chkSs cf hc n sc b0 body)
    | .raise c none (.str m), .Raise (some (.Call (.Name c0 _) [.Constant (.str m0) _ _] [] _)) none _ => cf.cm && (eqS c c0 && (eqS m m0 && (inS c cf.exs && glB sc c)))
    | .try_ kn body [(h, some i, hb)], .Try b0 [.ExceptHandler (some (.Name h0 _)) (some nm) (s0 :: su) _] [] [] _ => cf.cm && (eqS h h0 && (nIs cf.N i nm && (kB sc nm .local && (glB sc h && (inS h hc.hcl && (allIn kn hc.kn && (chkHB cf hc sc (some i) (s0 :: su) hb && chkSs cf hc n sc b0 body)))))))
    | .try_ kn body [(h, none, hb)], .Try b0 [.ExceptHandler (some (.Name h0 _)) none (s0 :: su) _] [] [] _ => cf.cm && (eqS h h0 && (glB sc h && (inS h hc.hcl && (allIn kn hc.kn && (chkHB cf hc sc none (s0 :: su) hb && chkSs cf hc n sc b0 body)))))
    | _, _ => false
def chkSs (cf : Cf) (hc : Hc) : Nat → Scope → List Stmt → List Sm → Bool
  | 0, _, _, _ => false
  | n + 1, sc, l, l' => chkL (chkS cf hc n sc) l l'
end
structure SndS (cf : Cf) (hc : Hc) (n : Nat) : Prop where
  s : ∀ {X g sc st st'}, SxOk cf hc X g sc → chkS cf hc n sc st st' = true → PS X st (tS X g st')
  ss : ∀ {X g sc st st'}, SxOk cf hc X g sc → chkSs cf hc n sc st st' = true → PSs X st (tSs X g st')
section
variable {cf : Cf} {hc : Hc} {n : Nat} {X : Cx} {g : Gx} {sc : Scope}
theorem pss_of (S : SndS cf hc n) (c : SxOk cf hc X g sc) : ∀ {es : List Stmt} {l : List Sm}, chkL (chkS cf hc n sc) es l = true → PSs X es (tSs X g l)
  | [], [], _ => pss_nil'
  | [], _ :: _, h => by cases h
  | _ :: _, [], h => by cases h
  | _ :: _, _ :: _, h => pss_cons' (S.s c (a2 h).1) (pss_of S c (a2 h).2)
/-- the context of a try's body -/
theorem SxOk.tr (c : SxOk cf hc X g sc) {W : WX} {pn : List (Addr × Obj)} {xe : Value → Shared → Prop} (tk : L2N.Takes (X.tr pn xe) W) (po : PassesOwn (model X.prog X.w) X.A X.env xe) (hx : cf.xcs = []) : SxOk cf hc (X.tr pn xe) (g.wish W) sc where
  c := ⟨c.c.n, c.c.nd, ⟨c.c.sc.gl, c.c.sc.vis, c.c.sc.loc, c.c.sc.capt⟩, c.c.cal, c.c.hu, c.c.con, c.c.blt, fun h => by
    obtain ⟨k, hr, F, _⟩ := c.c.fns h
    exact ⟨k, hr, ⟨fun f hf => let ⟨a, b, c, d⟩ := F.fn f hf; ⟨a, b, c, ⟨d.fn⟩⟩, fun p hp => let ⟨a, b, c⟩ := F.mth p hp; ⟨a, b, ⟨c.fn⟩⟩, fun c hc => let ⟨a, b, c, d, e⟩ := F.mkr c hc; ⟨a, b, c, d, ⟨e.fn⟩⟩, F.fld⟩, tk⟩, fun x h => by rw [hx] at h; cases h⟩
  env := c.env
  kind := c.kind
  po := fun _ => po
  stk := c.stk
  frm := c.frm
  exs := fun x h => let ⟨a, b, d, e, f⟩ := c.exs x h; ⟨a, b, d, e, f⟩
  hcl := c.hcl
  exm := c.exm
  wh := fun h kn i x p q pos a b d e f s oe cls dd pn2 hz hv => c.wh h kn i x p q pos a b d e f s oe cls dd pn2 hz hv
theorem allIn_ok {l m : List Str} (h : allIn l m = true) : ∀ x ∈ l, x ∈ m := fun x hx => inS_ok (List.all_eq_true.mp h x hx)
theorem str_ok {x : Str} {j : Nat} {p : Pos} {kn : List Str} {i : Nat} : HeOk X kn i (.Constant (.str x) j p) (.str x) := fun a oe cls d pn _ _ => PE.wk pe_str fun σ H Q ⟨c, y, al, Z, G, S, r, _, _, _, st, _, hr, h⟩ => by
  simp only [hev] at hr
  cases hr
  exact h al Z H _ Le.refl st (.str x)
theorem non_ok {j : Nat} {p : Pos} {kn : List Str} {i : Nat} : HeOk X kn i (.Constant .none j p) .non := fun a oe cls d pn _ _ => PE.wk pe_non fun σ H Q ⟨c, y, al, Z, G, S, r, _, _, _, st, _, hr, h⟩ => by
  simp only [hev] at hr
  cases hr
  exact h al Z H _ Le.refl st .non
theorem blb_ok {x : Bool} {j : Nat} {p : Pos} {kn : List Str} {i : Nat} : HeOk X kn i (.Constant (.bool x) j p) (.bl x) := fun a oe cls d pn _ _ => PE.wk pe_bl fun σ H Q ⟨c, y, al, Z, G, S, r, _, _, _, st, _, hr, h⟩ => by
  simp only [hev] at hr
  cases hr
  exact h al Z H _ Le.refl st (.bl x)
theorem he_of (c : SxOk cf hc X g sc) {kn : List Str} (hk : allIn kn hc.kn = true) {i : Nat} {e : Expr} {he : HE} (h : chkHE cf hc sc i e he = true) : HeOk X kn i e he := by
  unfold chkHE at h
  split at h
  · obtain ⟨h0, h⟩ := a2 h
    obtain ⟨h1, h⟩ := a2 h
    obtain ⟨h2, h⟩ := a2 h
    obtain ⟨h3, h⟩ := a2 h
    obtain ⟨h4, h5⟩ := a2 h
    obtain rfl := eqS_ok h1
    exact c.wh h0 kn i _ _ _ _ (allIn_ok hk) (by rw [c.c.n]; exact nIs_ok h2) (c.c.sc.vis _ (vis_ok h3)) h4 (c.c.sc.gl _ (of_decide_eq_true h5))
  · obtain rfl := eqS_ok h
    exact str_ok
  · exact non_ok
  · obtain rfl := eq_of_beq h
    exact blb_ok
  · cases h
/-- a suite -/
theorem hb_of (c : SxOk cf hc X g sc) {kn : List Str} (hk : allIn kn hc.kn = true) {i : Option Nat} {b : List Stmt} {hb : HB} (h : chkHB cf hc sc i b hb = true) (a : Addr) (oe : Obj) (cls : Value) (d : Option Addr) (pn : List (Addr × Obj)) (hz : L2N.Zn cls d oe) (hv : ∃ vs, oe.data = .fields vs) :
    PSs (X.suite a ((a, oe) :: pn)) b (tH X.K kn hb i a cls d) := by
  unfold chkHB at h
  split at h
  · exact PSs.wk (pss_one ps_continue) fun D σ H ⟨c, x, al, Z, G, S, _, _, _, _, _, q⟩ => q
  · cases i with
    | some j =>
      have := he_of c hk h a oe cls d pn hz hv
      exact PSs.wk (pss_one (ps_ret this)) fun D σ H ⟨c, x, al, Z, G, S, e1, e2, e3, e4, e5, r, hr, q⟩ => ⟨c, x, al, Z, G, S, r, e1, e2, e3, e4, e5 j rfl, hr, q⟩
    | none =>
      simp only at h
      split at h
      · obtain rfl := eqS_ok h
        exact PSs.wk (pss_one (ps_ret pe_str)) fun D σ H ⟨c, x, al, Z, G, S, e1, e2, e3, e4, e5, r, hr, q⟩ => by
          simp only [hev] at hr
          cases hr
          exact q al Z H _ Le.refl e4 (.str _)
      · exact PSs.wk (pss_one (ps_ret pe_non)) fun D σ H ⟨c, x, al, Z, G, S, e1, e2, e3, e4, e5, r, hr, q⟩ => by
          simp only [hev] at hr
          cases hr
          exact q al Z H _ Le.refl e4 .non
      · obtain rfl := eq_of_beq h
        exact PSs.wk (pss_one (ps_ret pe_bl)) fun D σ H ⟨c, x, al, Z, G, S, e1, e2, e3, e4, e5, r, hr, q⟩ => by
          simp only [hev] at hr
          cases hr
          exact q al Z H _ Le.refl e4 (.bl _)
      · cases h
  · cases h
end
theorem asg_end {X : Cx} {g : Gx} {i : Nat} {e : E} {D : Ends} {σ : L2.St} {H : Hp} (h : tS X g (.asg (.nm i) e) D σ H) : tE X g e σ H fun x H1 => gName i x σ H1 D.nx := by
  obtain ⟨al, Z, G, s, S, st, rf, h⟩ := asg_step h
  exact ⟨al, Z, G, s, S, st, rf, PostR.imp h fun al1 Z1 d S1 H1 _ l1 st1 h1 v rv => nm_step (h1 v rv)⟩
theorem sws_none {es : List Expr} {k : Nat} {p : Pos} {e : Expr} {env : Env} (h : isTup e = false) : swappedStores [.Tuple es k p] e env = pure none := by
  cases e <;> first | exact absurd (show true = false from h) (by decide) | rfl
theorem soundS : ∀ (cf : Cf) (hc : Hc) (n : Nat), (cf.cm = true → cf.xcs = []) → SndS cf hc n
  | cf, hc, 0, _ => ⟨fun _ h => by simp [chkS] at h, fun _ h => by simp [chkSs] at h⟩
  | cf, hc, n + 1, hxc => by
    have S := soundS cf hc n hxc
    have E := sound cf n
    refine ⟨?_, fun c h => by unfold chkSs at h; exact pss_of S c h⟩
    intro X g sc st st' c h
    have gl : ∀ {x : Str}, glB sc x = true → Gl X x := fun h => c.c.sc.gl _ (of_decide_eq_true h)
    have lk : ∀ {x : Str} {k : NameKind}, kB sc x k = true → X.env.scope.names.lookup x = some k := fun h => by rw [c.env]; exact of_decide_eq_true h
    unfold chkS at h
    split at h
    · exact ⟨fun pins s σ H Q I ⟨al, Z, G, s', S', st, rf, h⟩ => by simp only [ex] at h; exact False.elim h⟩
    · rename_i i own elt tg k src ifs x p _ _ _ _ scope pos spos
      obtain ⟨b1, h⟩ := a2 h
      obtain ⟨b2, h⟩ := a2 h
      obtain ⟨b3, h⟩ := a2 h
      obtain ⟨b4, h⟩ := a2 h
      obtain ⟨h0, h⟩ := a2 h
      obtain ⟨h1, h⟩ := a2 h
      obtain ⟨h2, h⟩ := a2 h
      obtain ⟨h3, h⟩ := a2 h
      obtain ⟨h4, h⟩ := a2 h
      obtain ⟨h5, h⟩ := a2 h
      obtain ⟨h6, h7⟩ := a2 h
      have hx : cf.xcs = [] := by simpa using h1
      obtain ⟨hi, hst⟩ := E.i c.c h4
      have ok : BlkOk X.N X.env.scope scope (ownOf cf.N (tgs tg)) := by rw [c.c.n]; exact blk_ok c.c.sc h2
      have := ps_setLc (i := i) (y := x) (py := p) (pos := pos) (spos := spos) (g := tG X tg) (tt := tAll X g.still ifs) (te := tE X g.still elt) (c.c.cal h0) c.c.nd (by rw [c.c.n]; exact nIs_ok b1) (lk b2)
        (sw_true (by rw [c.env]; exact c.kind) (lk b2) b3 (by simpa using b4)) hi ok (fun s H C cl fp => pg_of (c.c.blk hx s H C cl fp) h3)
        (fun s H C cl fp => ptsl_of E (c.c.blk hx s H C cl fp) (of_decide_eq_true h5) h6) (fun s H C cl fp => E.e (c.c.blk hx s H C cl fp) h7) (fold_of hst)
      rw [own_snd] at this
      exact PS.wk this fun D σ H h => lc_step (asg_end h)
    · rename_i i own elt tg k src ifs tg2 k2 src2 ifs2 x p _ _ _ _ _ _ _ scope pos spos
      obtain ⟨b1, h⟩ := a2 h
      obtain ⟨b2, h⟩ := a2 h
      obtain ⟨b3, h⟩ := a2 h
      obtain ⟨b4, h⟩ := a2 h
      obtain ⟨h0, h⟩ := a2 h
      obtain ⟨h1, h⟩ := a2 h
      obtain ⟨h2, h⟩ := a2 h
      obtain ⟨h3, h⟩ := a2 h
      obtain ⟨h4, h⟩ := a2 h
      obtain ⟨h5, h⟩ := a2 h
      obtain ⟨h6, h⟩ := a2 h
      obtain ⟨h7, h⟩ := a2 h
      obtain ⟨h8, h⟩ := a2 h
      obtain ⟨h9, h⟩ := a2 h
      obtain ⟨h10, h11⟩ := a2 h
      have hx : cf.xcs = [] := by simpa using h1
      obtain ⟨hi, hst⟩ := E.i c.c h4
      have ok : BlkOk X.N X.env.scope scope (ownOf cf.N (tgs tg ++ tgs tg2)) := by rw [c.c.n]; exact blk_ok c.c.sc h2
      have hst1 := (E.i (c.c.blk hx X.s_0 X.H_0 0 [] []) h8).2
      have := ps_setLc2 (i := i) (y := x) (py := p) (pos := pos) (spos := spos) (g := tG X tg) (g1 := tG X tg2) (tt := tAll X g.still ifs) (tt1 := tAll X g.still ifs2) (wi1 := tI X g.still k2 src2) (te := tE X g.still elt) (vs1 := tgs tg2) (c.c.cal h0) c.c.nd (by rw [c.c.n]; exact nIs_ok b1) (lk b2)
        (sw_true (by rw [c.env]; exact c.kind) (lk b2) b3 (by simpa using b4)) hi ok (fun i hi => by rw [own_snd]; exact List.mem_append_right _ hi) (fun s H C cl fp => pg_of (c.c.blk hx s H C cl fp) h3)
        (fun s H C cl fp => ptsl_of E (c.c.blk hx s H C cl fp) (of_decide_eq_true h5) h6) (fun s H C cl fp => (E.i (c.c.blk hx s H C cl fp) h8).1) (fun s H C cl fp => pg_of (c.c.blk hx s H C cl fp) h7)
        (fun s H C cl fp => ptsl_of E (c.c.blk hx s H C cl fp) (of_decide_eq_true h9) h10) (fun s H C cl fp => E.e (c.c.blk hx s H C cl fp) h11) (fold_of hst) (fun env => fold_of hst1)
      rw [own_snd] at this
      exact PS.wk this fun D σ H h => lc2_step (asg_end h)
    · obtain ⟨h1, h⟩ := a2 h
      obtain ⟨h2, h⟩ := a2 h
      obtain ⟨h3, h4⟩ := a2 h
      obtain ⟨l1, l2⟩ := c.c.sc.loc _ (loc_ok h2)
      exact ps_set' c.c.nd (by rw [c.c.n]; exact nIs_ok h1) l1 (E.e c.c h4) (sw_off c.env c.kind (by simpa using h3)) l2
    · rename_i e _
      obtain ⟨h0, h⟩ := a2 h
      obtain ⟨h1, h⟩ := a2 h
      obtain ⟨h2, h⟩ := a2 h
      obtain ⟨h3, h4⟩ := a2 h
      refine ps_asg' (E.e c.c h4) (pg_tup' (c.c.cal h0) (tns_of c.c h1)) (by rw [swapsWithSole]; exact sw_non (by simpa using h2)) (sws_none (by simpa using h3)) rfl
    · obtain ⟨h0, h⟩ := a2 h
      obtain ⟨h1, h⟩ := a2 h
      obtain ⟨h2, h⟩ := a2 h
      obtain ⟨h3, h⟩ := a2 h
      obtain ⟨h4, h⟩ := a2 h
      obtain ⟨h5, h6⟩ := a2 h
      have hp := h4
      unfold parB at hp
      simp only [Bool.and_eq_true_iff, Bool.not_eq_true'] at hp
      obtain ⟨p1, p2, p3, p4, p5, p6, p7, p8⟩ := hp
      exact ps_par' (c.c.cal h0) c.c.nd (by rw [c.c.n]; exact nIs_ok h1) (by rw [c.c.n]; exact nIs_ok h2) (by simpa using h3) (lk p1) (lk p2) (E.e c.c h5) (E.e c.c h6) p5 p6 (par_sw c.env c.kind h4) rfl
    · obtain ⟨h1, h⟩ := a2 h
      obtain ⟨h2, h⟩ := a2 h
      obtain ⟨h3, h⟩ := a2 h
      obtain ⟨h4, h5⟩ := a2 h
      obtain rfl := of_decide_eq_true h1
      obtain ⟨l1, l2⟩ := c.c.sc.loc _ (loc_ok h4)
      exact ps_aug' (fun e => by subst e; exact absurd h2 (by decide)) c.c.nd (by rw [c.c.n]; exact nIs_ok h3) l1 (E.e c.c h5) l2
    · exact ps_expr' (E.e c.c (a2 h).2) (sw_non (by simpa using (a2 h).1))
    · exact ps_ret' (E.e c.c h)
    · exact ps_retN'
    · exact ps_pass'
    · exact ps_doc'
    · exact ps_cont'
    · obtain ⟨h1, h⟩ := a2 h
      obtain ⟨h2, h3⟩ := a2 h
      exact ps_if' (E.t c.c h1) (S.ss c h2) (S.ss c h3)
    · obtain ⟨h0, h⟩ := a2 h
      obtain ⟨h1, h⟩ := a2 h
      obtain ⟨h2, h3⟩ := a2 h
      obtain ⟨hi, hst⟩ := E.i c.c h2
      exact ps_for' (c.po h0) (c.c.cal h0) hi (pg_of c.c h1) (S.ss c h3) (fold_of hst)
    · obtain ⟨h0, h⟩ := a2 h
      obtain ⟨h1, h2⟩ := a2 h
      exact ps_whl' (c.po h0) (E.t c.c h1) (S.ss c h2)
    · obtain ⟨h0, h⟩ := a2 h
      obtain ⟨h1, h⟩ := a2 h
      obtain ⟨h2, h⟩ := a2 h
      obtain ⟨h3, h4⟩ := a2 h
      obtain rfl := eqS_ok h1
      obtain rfl := eqS_ok h2
      obtain ⟨k, hr, F, tk⟩ := c.c.fns h0
      exact ps_raise' (c.c.cal h0) tk (c.exs _ (inS_ok h3)) (gl h4)
    · obtain ⟨h0, h⟩ := a2 h
      obtain ⟨h1, h⟩ := a2 h
      obtain ⟨h2, h⟩ := a2 h
      obtain ⟨h3, h⟩ := a2 h
      obtain ⟨h4, h⟩ := a2 h
      obtain ⟨h5, h⟩ := a2 h
      obtain ⟨h6, h⟩ := a2 h
      obtain ⟨h7, h8⟩ := a2 h
      obtain rfl := eqS_ok h1
      obtain ⟨k, hr, F, tk⟩ := c.c.fns h0
      obtain ⟨q1, q2⟩ := c.hcl _ (inS_ok h5)
      exact ps_tryAs c.stk c.frm c.c.nd (by rw [c.c.n]; exact nIs_ok h2) (lk h3) ⟨gl h4, q1, .inl q2⟩ tk (fun y hy => c.exm y (allIn_ok h6 y hy) _ (inS_ok h5)) (fun W pn xe tk' po' => S.ss (c.tr tk' po' (hxc h0)) h8) (hb_of c h6 h7)
    · obtain ⟨h0, h⟩ := a2 h
      obtain ⟨h1, h⟩ := a2 h
      obtain ⟨h4, h⟩ := a2 h
      obtain ⟨h5, h⟩ := a2 h
      obtain ⟨h6, h⟩ := a2 h
      obtain ⟨h7, h8⟩ := a2 h
      obtain rfl := eqS_ok h1
      obtain ⟨k, hr, F, tk⟩ := c.c.fns h0
      obtain ⟨q1, q2⟩ := c.hcl _ (inS_ok h5)
      exact ps_try1 c.stk c.frm ⟨gl h4, q1, .inl q2⟩ tk (fun y hy => c.exm y (allIn_ok h6 y hy) _ (inS_ok h5)) (fun W pn xe tk' po' => S.ss (c.tr tk' po' (hxc h0)) h8) (hb_of c h6 h7)
    · cases h
end Bh

set_option maxHeartbeats 4000000
/-! _law_which: which exception it was, asked within an except suite. -/
namespace Bh
open PySem PySem.Spec PyProof.Rows L2
def wP : List (Str × Str) := excs.map fun C => ("@" ++ C, C)
def conW (a : Nat) (c : Str) (y : Str) : Option D := if y = "@" then some (.adr a) else if y = "@ValueError" then some (.bl true) else (wP.lookup y).map fun C => .bl (decide (c = C))
def ixs (l : List Str) : List E := l.map fun C => .isx 0 C
def irWhich : List Sm := [
  .asg (.nm 1) (.lst true [.isx 0 "NoRules", .isx 0 "NoDeck", .isx 0 "NoLine", .isx 0 "NoPlayer"]),
  .expr (.bm .extend false (.var 1) [.lst false [.isx 0 "NoSaying", .isx 0 "NoWords", .isx 0 "NoPlan", .isx 0 "NoMove"]]),
  .expr (.bm .extend false (.var 1) [.lst false [.isx 0 "NoCount", .isx 0 "NoText", .isx 0 "TooMany", .isx 0 "NotLast"]]),
  .expr (.bm .extend false (.var 1) [.lst false [.isx 0 "NotSo", .isx 0 "Nothing"]]),
  .ite (.or [.cmp .ne (.bm .count false (.var 1) [.bl true]) (.int 1), .not (.isx 0 "ValueError")]) [.ret (.tup [.str "refused", .neg (.int 1)])] [],
  .ret (.tup [.str "refused", .bm .index false (.var 1) [.bl true]])]
theorem conW_at (a : Nat) (c : Str) : conW a c "@" = some (.adr a) := rfl
theorem conW_V (a : Nat) (c : Str) : conW a c ("@" ++ "ValueError") = some (.bl true) := rfl
theorem conW_C (a : Nat) (c : Str) : ∀ C ∈ excs, conW a c ("@" ++ C) = some (.bl (decide (c = C))) := by
  have h : ∀ C ∈ excs, ("@" ++ C : Str) ≠ "@" ∧ ("@" ++ C : Str) ≠ "@ValueError" ∧ wP.lookup ("@" ++ C) = some C := by decide +kernel
  intro C hC
  obtain ⟨h1, h2, h3⟩ := h C hC
  unfold conW
  rw [if_neg h1, if_neg h2, h3]
  rfl
section
variable {call : CallT} {s : Fr} {S : Store} {a : Nat} {c : Str}
theorem ev_isx {C : Str} (hs : s[0]? = some (some (.adr a))) (hC : C ∈ excs) : ev (conW a c) call (.isx 0 C) s S = .ok (.bl (decide (c = C))) S := by
  simp only [ev, hs, conW_at, if_true, conW_C a c C hC, R.ofO]
theorem ev_isV (hs : s[0]? = some (some (.adr a))) : ev (conW a c) call (.isx 0 "ValueError") s S = .ok (.bl true) S := by
  simp only [ev, hs, conW_at, if_true, conW_V, R.ofO]
theorem evs_isx (hs : s[0]? = some (some (.adr a))) : ∀ l : List Str, (∀ C ∈ l, C ∈ excs) → evs (conW a c) call (ixs l) s S = .ok (l.map fun C => .bl (decide (c = C))) S
  | [], _ => by simp [ixs, evs]
  | C :: l, h => by
    have ih := evs_isx hs l fun D hD => h D (List.mem_cons_of_mem _ hD)
    simp only [ixs, List.map_cons, evs] at ih ⊢
    rw [ev_isx hs (h C List.mem_cons_self)]
    simp only [R.bind]
    rw [ih]
theorem push_get {S : Store} {o : O} : (S ++ [o])[S.length]? = some o := by simp
theorem push_set {S : Store} {o o' : O} : (S ++ [o]).set S.length o' = S ++ [o'] := by simp
end
def bls (c : Str) (l : List Str) : List D := l.map fun C => .bl (decide (c = C))
theorem py_bls (S : Store) (c : Str) : ∀ l : List Str, mapO (py 38 S) (bls c l) = some (l.map fun C => .bool (decide (c = C)))
  | [] => rfl
  | C :: l => by
    have ih := py_bls S c l
    unfold bls at ih ⊢
    rw [List.map_cons, mapO, ih]
    rfl
theorem st_new (call : CallT) (S : Store) (a : Nat) (c : Str) (l : List Str) (hl : ∀ C ∈ l, C ∈ excs) (hz : l.length ≤ sizeLine) :
    ex (conW a c) call (.asg (.nm 1) (.lst true (ixs l))) [some (.adr a), none] S = .next [some (.adr a), some (.ref S.length)] (S ++ [.lst (bls c l)]) := by
  simp only [ex, ev, evs_isx (call := call) (s := [some (.adr a), none]) (S := S) rfl l hl, R.bind, newL, List.length_map, if_pos hz, if_true, R.thn, bindT, List.set_cons_succ, List.set_cons_zero, bls]
theorem st_ext (call : CallT) (S : Store) (a : Nat) (c : Str) (l : List Str) (xs : List D) (hl : ∀ C ∈ l, C ∈ excs) (hz : xs.length + l.length ≤ sizeLine) :
    ex (conW a c) call (.expr (.bm .extend false (.var 1) [.lst false (ixs l)])) [some (.adr a), some (.ref S.length)] (S ++ [.lst xs]) = .next [some (.adr a), some (.ref S.length)] (S ++ [.lst (xs ++ bls c l)]) := by
  have e := evs_isx (call := call) (s := [some (.adr a), some (.ref S.length)]) (S := S ++ [.lst xs]) (a := a) (c := c) rfl l hl
  have hz2 : l.length ≤ sizeLine := by omega
  have g1 : ([some (.adr a), some (.ref S.length)] : Fr)[1]? = some (some (.ref S.length)) := rfl
  simp only [ex, ev, g1, recv, lstE, look, push_get, Option.isSome_some, if_true, evs, e, R.bind, newL, List.length_map, if_pos hz2, Bool.false_eq_true, if_false, bmE, if_pos hz, R.thn, push_set, bls]
theorem st_cnt (call : CallT) (S : Store) (a : Nat) (c : Str) (l : List Str) (h1 : (l.countP fun C => decide (c = C)) = 1) :
    ex (conW a c) call (.ite (.or [.cmp .ne (.bm .count false (.var 1) [.bl true]) (.int 1), .not (.isx 0 "ValueError")]) [.ret (.tup [.str "refused", .neg (.int 1)])] []) [some (.adr a), some (.ref S.length)] (S ++ [.lst (bls c l)])
      = .next [some (.adr a), some (.ref S.length)] (S ++ [.lst (bls c l)]) := by
  have g1 : ([some (.adr a), some (.ref S.length)] : Fr)[1]? = some (some (.ref S.length)) := rfl
  have g0 : ([some (.adr a), some (.ref S.length)] : Fr)[0]? = some (some (.adr a)) := rfl
  have p1 : py 40 (S ++ [.lst (bls c l)]) (.bl true) = some (.bool true) := rfl
  have cn : (l.map fun C => PyData.bool (decide (c = C))).countP (fun z => PyData.eqv z (.bool true)) = 1 := by
    rw [List.countP_map, ← h1]
    congr 1
    funext C
    show PyData.eqv (.bool (decide (c = C))) (.bool true) = decide (c = C)
    cases decide (c = C) <;> rfl
  have q : eqD (S ++ [.lst (bls c l)]) (.int ((1 : Nat) : Int)) (.int 1) = some true := rfl
  simp only [ex, ev, evOr, g1, recv, lstE, look, push_get, Option.isSome_some, if_true, evs, R.bind, bmE, cixE, py_bls, p1, cn, cmpE, q, Option.map_some, R.ofO, Bool.not_true, g0, conW_at, conW_V, R.thn, exs]
theorem st_ix (call : CallT) (S : Store) (a : Nat) (c : Str) (l : List Str) (n : Nat) (h1 : (l.findIdx? fun C => decide (c = C)) = some n) :
    ex (conW a c) call (.ret (.tup [.str "refused", .bm .index false (.var 1) [.bl true]])) [some (.adr a), some (.ref S.length)] (S ++ [.lst (bls c l)]) = .ret (.tup [.str "refused", .int n]) (S ++ [.lst (bls c l)]) := by
  have g1 : ([some (.adr a), some (.ref S.length)] : Fr)[1]? = some (some (.ref S.length)) := rfl
  have p1 : py 40 (S ++ [.lst (bls c l)]) (.bl true) = some (.bool true) := rfl
  have cn : (l.map fun C => PyData.bool (decide (c = C))).findIdx? (fun z => PyData.eqv z (.bool true)) = some n := by
    rw [List.findIdx?_map, ← h1]
    congr 1
    funext C
    show PyData.eqv (.bool (decide (c = C))) (.bool true) = decide (c = C)
    cases decide (c = C) <;> rfl
  have hz : 2 ≤ sizeLine := by decide
  simp only [ex, ev, g1, recv, lstE, look, push_get, Option.isSome_some, if_true, evs, R.bind, bmE, cixE, py_bls, p1, cn, Option.map_some, R.ofO, List.length_cons, List.length_nil, if_pos hz, R.thn]
theorem which_ev (call : CallT) (S : Store) (a : Nat) (c : Str) (hc : c ∈ excs) (n : Nat) (hn : ixOf c excs 0 = some n) :
    exs (conW a c) call irWhich [some (.adr a), none] S = .ret (.tup [.str "refused", .int n]) (S ++ [.lst (bls c excs)]) := by
  have hsz := sizeLine_eq
  have s1 := st_new call S a c ["NoRules", "NoDeck", "NoLine", "NoPlayer"] (by decide +kernel) (by rw [hsz]; decide)
  have s2 := st_ext call S a c ["NoSaying", "NoWords", "NoPlan", "NoMove"] (bls c ["NoRules", "NoDeck", "NoLine", "NoPlayer"]) (by decide +kernel) (by simp [bls]; omega)
  have s3 := st_ext call S a c ["NoCount", "NoText", "TooMany", "NotLast"] (bls c ["NoRules", "NoDeck", "NoLine", "NoPlayer"] ++ bls c ["NoSaying", "NoWords", "NoPlan", "NoMove"]) (by decide +kernel) (by simp [bls]; omega)
  have s4 := st_ext call S a c ["NotSo", "Nothing"] (bls c ["NoRules", "NoDeck", "NoLine", "NoPlayer"] ++ bls c ["NoSaying", "NoWords", "NoPlan", "NoMove"] ++ bls c ["NoCount", "NoText", "TooMany", "NotLast"]) (by decide +kernel) (by simp [bls]; omega)
  have ee : bls c ["NoRules", "NoDeck", "NoLine", "NoPlayer"] ++ bls c ["NoSaying", "NoWords", "NoPlan", "NoMove"] ++ bls c ["NoCount", "NoText", "TooMany", "NotLast"] ++ bls c ["NotSo", "Nothing"] = bls c excs := rfl
  rw [ee] at s4
  have h1 : (excs.countP fun C => decide (c = C)) = 1 := by
    have : ∀ c ∈ excs, (excs.countP fun C => decide (c = C)) = 1 := by decide +kernel
    exact this c hc
  have h2 : (excs.findIdx? fun C => decide (c = C)) = some n := by
    have : ∀ c ∈ excs, (excs.findIdx? fun C => decide (c = C)) = ixOf c excs 0 := by decide +kernel
    rw [this c hc, hn]
  have s5 := st_cnt call S a c excs h1
  have s6 := st_ix call S a c excs n h2
  simp only [ixs, List.map_cons, List.map_nil] at s1 s2 s3 s4
  simp only [irWhich, exs, s1, s2, s3, s4, s5, s6]
end Bh

set_option maxHeartbeats 4000000
/-! _law_which keeps its promise. -/
namespace Bh
open PySem PySem.Spec PyProof.Rows L2
structure XF (K : PySem.W.Frag) (mg : Str → Option Value) : Prop where
  ec : ∀ c ∈ excs, ExcC K (He.ga K c)
  kit : ∀ c ∈ excs, ∀ h ∈ excs, PySem.W.kitOne K (.ref (He.ga K c)) (.ref (He.ga K h)) = some (decide (c = h))
  kv : ∀ c ∈ excs, PySem.W.kitOne K (.ref (He.ga K c)) (.type "ValueError") = some true
  mgc : ∀ c ∈ excs, mg c = some (.ref (He.ga K c))
  mgv : mg "ValueError" = none
  mgi : mg "isinstance" = none
theorem excs_nd : ∀ c ∈ excs, (c == ("__debug__" : Str)) = false := by decide +kernel
theorem call_isX {X : Cx} {a D : Addr} {oe : Obj} (C : ExcC X.K D) (hp : (a, oe) ∈ X.pn) (h1 : oe.cls = .ref D) (h2 : oe.dict = none) (hf : ∃ vs, oe.data = .fields vs) : CallR X (.builtin "isinstance") (rIsE X.K D a) := by
  intro pins s σ H xs us Q I r h
  obtain ⟨c, cv, b, rfl, hcv, e, q⟩ := h
  obtain ⟨vs, hv⟩ := hf
  have hget := (I.pin (a, oe) (List.mem_append.mpr (.inl hp))).1
  have J : PySem.W.InstAt s.heap a oe D none := by
    obtain ⟨oc, od, oda, osl⟩ := oe
    dsimp only at h1 h2 hv
    subst h1 h2 hv
    exact ⟨hget, rfl, rfl, trivial⟩
  cases r with
  | cons rx rr =>
    cases rr with
    | cons rt rr =>
      cases rr
      cases rx
      obtain rfl := hcv _ rt
      exact PySem.W.kia_one (PySem.W.handS_kitx_exc C.hg C.hk C.hs C.hd C.ha C.hn C.ht C.hm) I.kIn J e (fun z => nomatch z) fun tk => ⟨.bl b, H, I.kept (t' := tk) fun _ _ z => z, rfl, q⟩
section
variable {X : Cx} {call : CallT} {W : WX} {a : Addr} {oe : Obj} {c : Str}
theorem isx_ok (xf : XF X.K X.mg) (hc : c ∈ excs) (hp : (a, oe) ∈ X.pn) (h1 : oe.cls = .ref (He.ga X.K c)) (h2 : oe.dict = none) (hf : ∃ vs, oe.data = .fields vs) : ∀ C ∈ excs ++ [("ValueError" : Str)], IsxOk X ⟨conW a c, call, W⟩ C := by
  intro C hC p p1 p2 pos i x hN hv hd hg hgc
  have step : ∀ (σ : L2.St) (H : Hp) (Q : VK), tE X ⟨conW a c, call, W⟩ (.isx i C) σ H Q → ∃ v, σ[i]? = some (some v) ∧ v = .ref a ∧ ∀ b, conW a c ("@" ++ C) = some (.bl b) → Q (.bl b) H := by
    intro σ H Q ⟨al, Z, G, s, S, st, rf, h⟩
    simp only [ev] at h
    split at h
    · rename_i d hs
      split at h
      · rename_i hd'
        rw [conW_at] at hd'
        cases hd'
        obtain ⟨v, e1, rv⟩ := rf.get i _ hs
        cases rv
        refine ⟨_, e1, rfl, fun b hb => ?_⟩
        rw [hb] at h
        exact PV.val h st (.bl b)
      · exact False.elim h
    · exact False.elim h
  obtain ⟨d1, d2⟩ := okN_ok hd
  have call_ := call_isX (xf.ec c hc) hp h1 h2 hf
  rcases List.mem_append.mp hC with hC | hC
  · refine PE.wk (pe_callB call_ hg xf.mgi boot_isi (pa_cons (pe_var hN hv d1 d2) (pa_cons (pe_glob (v := .ref (He.ga X.K C)) hgc (xf.mgc C hC) rfl (excs_nd C hC)) pa_nil)) (by decide) (by decide) rfl rfl) fun σ H Q h => ?_
    obtain ⟨v, e1, rfl, q⟩ := step σ H Q h
    exact ⟨.ref a, e1, .ref (He.ga X.K C), .ref (He.ga X.K C), decide (c = C), rfl, fun u hu => hu, xf.kit c hc C hC, q _ (conW_C a c C hC)⟩
  · obtain rfl : C = "ValueError" := by simpa using hC
    refine PE.wk (pe_callB call_ hg xf.mgi boot_isi (pa_cons (pe_var hN hv d1 d2) (pa_cons (pe_bltn (v := .ty "ValueError") hgc xf.mgv (u := .type "ValueError") (by decide +kernel) rfl (by decide) (by decide)) pa_nil)) (by decide) (by decide) rfl rfl) fun σ H Q h => ?_
    obtain ⟨v, e1, rfl, q⟩ := step σ H Q h
    exact ⟨.ref a, e1, .ty "ValueError", .type "ValueError", true, rfl, fun u hu => hu, xf.kv c hc, q _ (conW_V a c)⟩
end
/-- what is promised of it -/
def WhP (P : Program) (w : World) (K : PySem.W.Frag) (mg : Str → Option Value) (base : Heap) (f : Addr) (fd : FuncData) : Prop :=
  ∀ (A : Around) (outer : List Env) (s : Shared) (H : Hp) (args : Args) (Q : VK) (E : XK) (a : Addr) (oe : Obj) (c : Str), L2H.RoomH 1 A → L2H.Hot1 A (a, oe) → L2H.PinOk outer H s (a, oe) → Env0 P w K mg base A outer s H → BindsTo s fd args [("e", .ref a)] →
    oe.cls = .ref (He.ga K c) → c ∈ excs → oe.dict = none →
    (∃ al Z G S n, StR K al Z G S H ∧ ixOf c excs 0 = some n ∧ ∀ al' Z' H' v, Le al Z al' Z' → StR K al' Z' G S H' → RV K al' Z' (.tup [.str "refused", .int (n : Nat)]) v → Q v H') →
    codeAny (model P w) A (.call (.ref f) args) (CR (L2N.CX P w) outer P w H s Q E) s
def cfW : Cf := ⟨["e", "own"], ⟨[], [], [], []⟩, [], ["isinstance"], [], excs ++ [("ValueError" : Str)], false⟩
def hcW : Hc := ⟨[], [], false⟩
theorem which_ok {P : Program} {w : World} {K : PySem.W.Frag} {mg : Str → Option Value} {base : Heap} {f : Addr} {fd : FuncData} {name qual : Str} {params : Arguments} {body : List Stmt} {scope : Scope} (F : FunD K name qual params body scope [] [] f fd) (xf : XF K mg)
    (Sc : FnScope ["e", "own"] ["e"] scope) (hck : chkSs cfW hcW 40 scope body irWhich = true) : WhP P w K mg base f fd := by
  obtain ⟨oc, od, dV, kV, doc, pm, an, cdv, ct, osl, rfl, lk, hcd, _, _⟩ := F.ex
  intro A outer s H args Q E a oe c hr hot hpin e0 hb h1 hc h2 ⟨al, Z, G, S, n, st, hn, hQ⟩
  have KX : K.In s.heap := e0.mod.kin.keeps fun b o e => (e0.bs b o e).1
  have nolim := e0.mod.nolimit.keeps fun b o e => (e0.bs b o e).1
  have hkind : ∀ y ∈ ([("e", Value.ref a)] : List (Str × Value)), scope.names.lookup y.1 = some .local ∨ (scope.names.lookup y.1 = some .cell ∧ ((cellsFrom (s.heap.objs.size + 1) scope.names []).lookup y.1).isSome = true) := fun y hy => by
    obtain rfl : y = (("e" : Str), Value.ref a) := by simpa using hy
    rcases Sc.par "e" (by simp) with q | q
    · exact .inl q
    · exact .inr ⟨q, PySem.W.cellsFrom_some _ _ _ (.inl q)⟩
  refine codeAny_call_function hr.depth (KX _ _ lk) rfl Sc.co Sc.gen rfl (PySem.W.codeRec_of KX hcd) (hb _ _ _ _ ?_)
  refine wpAny_newFunctionEnv_cells Sc.kind hkind fun env he s1 x => ?_
  subst he
  refine ⟨nolim.keeps x.toInCall.keep, codeAny_func ?_⟩
  have I : Inv (L2H.cxH (L2N.CX P w) P w K mg base ["e", "own"] qual scope f cdv A outer s H E (a, oe)) [] (L2.start ["e", "own"] [.ref a]) H s1 := L2H.inv_startH (us := [.ref a]) Sc hpin e0 rfl (.cons rfl .nil) x
  have hrm := hr.deeper (envOfC qual scope s.heap.objs.size f cdv)
  have ok : SxOk cfW hcW (L2H.cxH (L2N.CX P w) P w K mg base ["e", "own"] qual scope f cdv A outer s H E (a, oe)) ⟨conW a c, fun _ _ _ => .bad, fun _ _ _ _ => False⟩ scope := {
    c := { n := rfl, nd := Sc.nd, sc := ⟨fun _ h => h, fun _ h => h, fun _ h => ⟨h, .inl rfl⟩, fun _ h => h⟩, cal := fun h => absurd (show false = true from h) Bool.false_ne_true, hu := (by have := hrm.un; show (A.deeper _).units + 70 < cLine; omega), con := (fun x h => by cases h), blt := (fun x h => by
        obtain rfl : x = "isinstance" := by simpa [cfW] using h
        exact xf.mgi), fns := fun h => absurd (show false = true from h) Bool.false_ne_true, isx := fun C hC => isx_ok (X := L2H.cxH (L2N.CX P w) P w K mg base ["e", "own"] qual scope f cdv A outer s H E (a, oe)) xf hc (List.mem_singleton.mpr rfl) h1 h2 (let ⟨vs, e, _⟩ := hot.2; ⟨vs, e⟩) C hC }
    env := rfl, kind := Sc.kind, po := fun h => absurd (show false = true from h) Bool.false_ne_true, stk := rfl, frm := rfl, exs := (fun x h => by cases h), hcl := (fun x h => by cases h), exm := (fun x h => by cases h), wh := fun h => absurd (show false = true from h) Bool.false_ne_true }
  have run := ((soundS cfW hcW 40 (fun h => absurd (show false = true from h) Bool.false_ne_true)).ss ok hck).run [] s1 (L2.start ["e", "own"] [.ref a]) H { nx := fun _ H' => Q .non H', rt := Q } I ?_
  · refine wpAny_mono run (fun fl s' hs => ?_) fun e s' hs => hs
    cases fl with
    | ret u =>
      obtain ⟨v, σ', H', J, rv, q⟩ := hs
      exact ⟨v, H', J.os, J.bare, J.base, J.hok, rv, q⟩
    | next =>
      obtain ⟨σ', H', J, q⟩ := hs
      exact ⟨.non, H', J.os, J.bare, J.base, J.hok, rfl, q⟩
    | brk => obtain ⟨_, _, _, q⟩ := hs; exact False.elim q
    | cont => obtain ⟨_, _, _, q⟩ := hs; exact False.elim q
  · refine ⟨al, Z, G, [some (.adr a), none], S, st, ⟨rfl, fun i d h => ?_⟩, ?_⟩
    · match i, h with
      | 0, h => cases h; exact ⟨_, rfl, .adr a⟩
      | 1, h => cases h
      | i + 2, h => cases h
    · show PostS _ _ G al Z (exs (conW a c) (fun _ _ _ => .bad) irWhich [some (.adr a), none] S) _
      rw [which_ev _ S a c hc n hn]
      intro al' Z' H' v l st' rv
      have hp : PV K G (fun _ _ _ => False) al Z (pureR S (.ok (.tup [.str "refused", .int (n : Nat)]) (S ++ [.lst (bls c excs)]))) Q := by
        have e : pureR S (.ok (.tup [.str "refused", .int (n : Nat)]) (S ++ [.lst (bls c excs)])) = .ok (.tup [.str "refused", .int (n : Nat)]) S := by
          show (if List.take S.length (S ++ [O.lst (bls c excs)]) = S then R.ofO S (frz 12 S.length (S ++ [O.lst (bls c excs)]) (.tup [.str "refused", .int (n : Nat)])) else .bad) = _
          rw [if_pos (by simp)]
          rfl
        rw [e]
        exact fun al2 Z2 H2 l2 st2 v2 rv2 => hQ al2 Z2 H2 v2 l2 st2 rv2
      exact pure_ok st hp al' Z' H' l st' v rv
end Bh

set_option maxHeartbeats 4000000
/-! The call of _law_which in a suite; all defs keep the evaluator's promise. -/
namespace Bh
open PySem PySem.Spec PyProof.Rows L2
theorem ixOf_mem {c : Str} : ∀ {l : List Str} {k n : Nat}, ixOf c l k = some n → c ∈ l
  | [], _, _, h => by simp [ixOf] at h
  | a :: l, k, n, h => by
    unfold ixOf at h
    split at h
    · rename_i e; rw [e]; exact List.mem_cons_self
    · exact List.mem_cons_of_mem _ (ixOf_mem h)
theorem he_which {X : Cx} {f : Addr} {fd : FuncData} (whp : WhP X.prog X.w X.K X.mg X.base f fd) (hm : X.mg "_law_which" = some (.ref f)) (hk : PySem.W.keepIn X.K (.ref f) = true) (hb : Binds X.K fd ["e"] []) (hr : Room 1 X.A)
    (kn : List Str) (i : Nat) (x : Str) (p q pos : Pos) (hN : X.N[i]? = some x) (hv : Vis X.env.scope x) (hd : okN x = true) (hg : Gl X "_law_which") : HeOk X kn i (.Call (.Name "_law_which" p) [.Name x q] [] pos) .which := by
  intro a oe cls d pn hz hf
  refine ⟨fun pins s σ H Q I ⟨c, y, al, Z, G, S, r, e1, e2, xr, st, hσ, he, h⟩ => ?_⟩
  obtain ⟨d1, d2⟩ := okN_ok hd
  cases y with
  | some y => simp [hev] at he
  | none =>
    simp only [hev, Option.map_eq_some_iff] at he
    obtain ⟨n, hn, rfl⟩ := he
    have hc := ixOf_mem hn
    have hdn : d = none := xr
    subst hdn
    subst e1
    have ha : PA (X.suite a ((a, oe) :: pn)) [.Name x q] _ := pa_cons (pe_var (X := X.suite a ((a, oe) :: pn)) hN hv d1 d2) pa_nil
    refine wpAny_Call_Name_kw (ld_glob I hg hm ?_ (by decide))
    refine PySem.W.callWith_K (h₀ := X.base) I.ok.mod.kin hk (thn (ha.run pos pins s σ H (fun vs H1 => vs = [.ref a] ∧ H = H1) I ⟨.ref a, hσ, rfl, rfl⟩) fun us s1 ⟨vs, H1, I1, rr, ev, eH⟩ => ⟨I1.kIn, ?_⟩) rfl rfl
    subst ev
    subst eH
    obtain ⟨u, rfl, ru⟩ := vals1 rr
    obtain rfl : u = Value.ref a := ru
    have b := hb s1 [.ref a] I1.kIn rfl
    rw [List.append_nil] at b
    obtain ⟨vs, hvs⟩ := hf
    have P1 := I1.pin (a, oe) (List.mem_append_left _ List.mem_cons_self)
    refine wpAny_call (codeAny_mono (whp _ _ s1 H ⟨[.ref a], []⟩ Q (fun _ _ _ => False) a oe c ⟨hr.dp, hr.un⟩ ⟨rfl, vs, hvs, hz.2.2 vs hvs⟩ ⟨P1.1, P1.2.1, fun hm => (List.mem_cons.mp (I1.stkSub a hm)).elim P1.2.2.1 P1.2.2.2.1, P1.2.2.2.2⟩ I1.env0 b hz.1 hc hz.2.1 ⟨al, Z, G, S, n, st, hn, h⟩) fun r s' hq => ?_)
    cases r with
    | error e =>
      obtain ⟨_, _, _, _, _, _, _, _, _, _, _, _, z⟩ := hq
      exact z.elim
    | ok fl =>
      cases fl with
      | ret u => exact I1.after hq
      | next => exact False.elim hq
      | brk => exact False.elim hq
      | cont => exact False.elim hq
/-! ### the module -/
structure MD where
  key : Str
  d : He.DefD
  N : List Str
  ps : List Str
  fn : Fn
structure Mo where
  ds : List MD
  tb : Tb
  con : Str → Option D
  cons : List Str
  blts : List Str
  exs : List Str
  hc : Hc
def findD (f : Str) : List MD → Option MD
  | [] => none
  | m :: l => if eqS m.key f then some m else findD f l
theorem findD_mem {f : Str} : ∀ {l : List MD} {m : MD}, findD f l = some m → m ∈ l
  | [], _, h => by cases h
  | a :: l, m, h => by
    unfold findD at h
    split at h
    · cases h; exact List.mem_cons_self
    · exact List.mem_cons_of_mem _ (findD_mem h)
def Mo.tbl (M : Mo) (f : Str) : Option Fn := (findD f M.ds).map MD.fn
def Mo.cf (M : Mo) (N : List Str) : Cf := ⟨N, M.tb, M.cons, M.blts, M.exs, [], true⟩
/-- what is checked of a def -/
structure MdOk (M : Mo) (m : MD) : Prop where
  sc : FnScope m.N m.ps m.d.scope
  np : m.fn.np = m.ps.length
  nn : m.fn.nn = m.N.length
  ck : ∃ n, chkSs (M.cf m.N) M.hc n m.d.scope m.d.body m.fn.body = true
structure MoOk (P : Program) (w : World) (K : PySem.W.Frag) (mg : Str → Option Value) (base : Heap) (M : Mo) : Prop where
  ok : ∀ m ∈ M.ds, MdOk M m
  fn : ∀ m ∈ M.ds, ∃ fd, FunD K m.d.name m.d.qual m.d.params m.d.body m.d.scope [] [] (He.fAd K m.d.at_) fd ∧ Binds K fd m.ps []
  tfn : ∀ f ∈ M.tb.fns, (f == ("__debug__" : Str)) = false ∧ mg f = some (.ref (He.ga K f)) ∧ ∃ m, findD f M.ds = some m ∧ m.d.at_ = (f, none)
  tmt : ∀ p ∈ M.tb.mths, Cls K (He.ga K p.1) ∧ Meth K (He.ga K p.1) p.2 (He.ma K (He.ga K p.1) p.2) ∧ ∃ m, findD (p.1 ++ "." ++ p.2) M.ds = some m ∧ m.d.at_ = (p.1, some p.2)
  tmk : ∀ c ∈ M.tb.mks, (c == ("__debug__" : Str)) = false ∧ mg c = some (.ref (He.ga K c)) ∧ Cls K (He.ga K c) ∧ Mk K (He.ga K c) (He.ma K (He.ga K c) "__init__") ∧ ∃ m, findD (c ++ ".__init__") M.ds = some m ∧ m.d.at_ = (c, some ("__init__" : Str))
  fld : ∀ p ∈ M.tb.flds, NoAttr K (He.ga K p.1) p.2
  con : ∀ x ∈ M.cons, ∃ d u v, M.con x = some d ∧ mg x = some u ∧ RelV v u ∧ ∀ al Z, RV K al Z d v
  blt : ∀ x ∈ M.blts, mg x = none
  exs : ∀ c ∈ M.exs, (c == ("__debug__" : Str)) = false ∧ mg c = some (.ref (He.ga K c)) ∧ (∃ (B newId initId : String) (bm : List Value), ExcBaseFacts B newId initId bm ∧ PySem.W.excIn K (He.ga K c) bm newId = true) ∧ PySem.W.keepIn K (.ref (He.ga K c)) = true ∧
    PySem.W.subIn K (.ref (He.ga K c)) (.type "BaseException") = some true ∧ PySem.W.typeIn K (.ref (He.ga K c)) = some (.type "type")
  hcl : ∀ h ∈ M.hc.hcl, (h == ("__debug__" : Str)) = false ∧ mg h = some (.ref (He.ga K h))
  exm : ∀ x ∈ M.hc.kn, ∀ h ∈ M.hc.hcl, PySem.W.exmOne K (.ref (He.ga K x)) (.ref (He.ga K h)) = some (excSub x h)
  wh : M.hc.wh = true → ∃ f fd, WhP P w K mg base f fd ∧ mg "_law_which" = some (.ref f) ∧ PySem.W.keepIn K (.ref f) = true ∧ Binds K fd ["e"] []
section
variable {K : PySem.W.Frag} {al : List Addr} {Z : Hp}
theorem RF.start {ds : List D} {vs : List V} (r : RVs K al Z ds vs) (n : Nat) : RF K al Z (ds.map some ++ List.replicate n none) (vs.map some ++ List.replicate n none) := by
  refine ⟨by simp [r.length], fun i d h => ?_⟩
  have hi : i < ds.length := by
    by_cases hi : i < ds.length
    · exact hi
    · rw [List.getElem?_append_right (by simpa using hi), List.getElem?_replicate] at h
      split at h <;> cases h
  rw [List.getElem?_append_left (by simpa using hi), List.getElem?_map] at h
  cases e : ds[i]? with
  | none => rw [e] at h; cases h
  | some d' =>
    rw [e] at h
    cases h
    obtain ⟨v, hv, rv⟩ := r.get e
    exact ⟨v, by rw [List.getElem?_append_left (by rw [List.length_map, ← r.length]; exact hi), List.getElem?_map, hv]; rfl, rv⟩
end
/-- one def, from those that it calls -/
theorem fn_one {P : Program} {w : World} {K : PySem.W.Frag} {mg : Str → Option Value} {base : Heap} {M : Mo} (hM : MoOk P w K mg base M) {call : CallT} {k : Nat} (ih : ∀ X : Cx, X.prog = P → X.w = w → X.K = K → X.mg = mg → X.base = base → FnsOk X M.tb call k) {m : MD} (hm : m ∈ M.ds) {f : Addr} {fd : FuncData}
    (F : FunD K m.d.name m.d.qual m.d.params m.d.body m.d.scope [] [] f fd) {key : Str} : FnOk P w K mg base (L2N.CX P w) (k + 2) f fd m.ps (spC K (fun _ => runF M.con call m.fn) key m.ps.length) := by
  obtain ⟨sc, np, nn, n, ck⟩ := hM.ok m hm
  refine F.ok sc (fun vs H Q E h => ?_) fun cdv A outer s H vs Q E hr hsp => ⟨tSs (cxOf (L2N.CX P w) P w K mg base m.N m.d.qual m.d.scope f cdv A outer s H E) ⟨M.con, call, fun cls d _ H => E cls d H⟩ m.fn.body, ?_, ?_⟩
  · obtain ⟨al, Z, G, S, ds, st, rv, hl, _⟩ := h
    rw [← rv.length]; exact hl
  · have tk : L2N.Takes (cxOf (L2N.CX P w) P w K mg base m.N m.d.qual m.d.scope f cdv A outer s H E) (fun cls d _ H => E cls d H) := L2N.takes_of rfl rfl rfl rfl
    have ok : SxOk (M.cf m.N) M.hc (cxOf (L2N.CX P w) P w K mg base m.N m.d.qual m.d.scope f cdv A outer s H E) ⟨M.con, call, fun cls d _ H => E cls d H⟩ m.d.scope := {
      c := { n := rfl, nd := sc.nd, sc := ⟨fun _ h => h, fun _ h => h, fun _ h => ⟨h, .inl rfl⟩, fun _ h => h⟩, cal := fun _ => rfl, hu := (by have := hr.un; show (A.deeper _).units + 70 < cLine; omega), con := hM.con, blt := hM.blt, fns := fun _ => ⟨k, hr, ih _ rfl rfl rfl rfl rfl, tk⟩, isx := (fun x h => by cases h) }
      env := rfl, kind := sc.kind, po := fun _ => passes_of rfl, stk := rfl, frm := rfl
      exs := fun x h => let ⟨a, b, c, d, e, f⟩ := hM.exs x h; ⟨b, a, c, d, raises_own e f⟩
      hcl := hM.hcl, exm := hM.exm
      wh := fun h kn i x p q pos hkn hN hv hd hg => by
        obtain ⟨fw, fdw, w1, w2, w3, w4⟩ := hM.wh h
        exact he_which w1 w2 w3 w4 (hr.mono (by omega)) kn i x p q pos hN hv hd hg }
    exact (soundS (M.cf m.N) M.hc n (fun _ => rfl)).ss ok ck
  · obtain ⟨al, Z, G, S, ds, st, rv, hl, h⟩ := hsp
    refine ⟨al, Z, G, Bh.start m.fn.np m.fn.nn ds, S, st, ?_, ?_⟩
    · unfold Bh.start L2.start
      have e : m.fn.nn - m.fn.np = m.N.length - vs.length := by rw [np, nn, ← rv.length, hl]
      rw [e]
      exact RF.start rv _
    · simp only [runF, np, hl, if_true] at h
      show PostS _ _ G al Z (Bh.exs M.con call m.fn.body (Bh.start m.fn.np m.fn.nn ds) S) _
      rw [np]
      cases e : Bh.exs M.con call m.fn.body (Bh.start m.ps.length m.fn.nn ds) S with
      | next s' S' => rw [e] at h; exact fun al' Z' σ H' l st' rf => h al' Z' H' l st' _ .non
      | cont s' S' => rw [e] at h; exact False.elim h
      | ret d S' => rw [e] at h; exact fun al' Z' H' v l st' rv => h al' Z' H' l st' v rv
      | exc c x s' S' => rw [e] at h; exact fun al' Z' σ H' dd l st' rf xr => h al' Z' H' dd l st' xr
      | bad => rw [e] at h; exact False.elim h
theorem fns_ok {P : Program} {w : World} {K : PySem.W.Frag} {mg : Str → Option Value} {base : Heap} {M : Mo} (hM : MoOk P w K mg base M) : ∀ (n : Nat) (X : Cx), X.prog = P → X.w = w → X.K = K → X.mg = mg → X.base = base → FnsOk X M.tb (callF M.con M.tbl n) (2 * n)
  | 0, X, e1, e2, e3, e4, e5 => by
    subst e1 e2 e3 e4 e5
    have nil : ∀ {f : Str} {m : MD} {a : Addr}, m ∈ M.ds → (He.fAd X.K m.d.at_ = a) → FnC X (callF M.con M.tbl 0) 0 f a := fun {f m a} hm ha => by
      obtain ⟨fd, F, b⟩ := hM.fn m hm
      rw [ha] at F
      refine ⟨fd, m.ps, b, ⟨fun vs H Q E h => ?_, fun A outer s H args us vs Q E _ _ _ _ h => ?_⟩, fun ds S h => absurd rfl h⟩
      · obtain ⟨al, Z, G, S, ds, st, rv, hl, _⟩ := h
        rw [← rv.length]; exact hl
      · obtain ⟨al, Z, G, S, ds, st, rv, hl, z⟩ := h
        exact False.elim z
    refine ⟨fun f hf => ?_, fun p hp => ?_, fun c hc => ?_, hM.fld⟩
    · obtain ⟨a, b, m, h1, h2⟩ := hM.tfn f hf
      obtain ⟨fd, F, _⟩ := hM.fn m (findD_mem h1)
      rw [h2] at F
      exact ⟨a, b, F.kp, nil (findD_mem h1) (by rw [h2]; rfl)⟩
    · obtain ⟨a, b, m, h1, h2⟩ := hM.tmt p hp
      exact ⟨a, b, nil (findD_mem h1) (by rw [h2]; rfl)⟩
    · obtain ⟨a, b, c', d, m, h1, h2⟩ := hM.tmk c hc
      exact ⟨a, b, c', d, nil (findD_mem h1) (by rw [h2]; rfl)⟩
  | n + 1, X, e1, e2, e3, e4, e5 => by
    subst e1 e2 e3 e4 e5
    have ih := fns_ok hM n
    have one : ∀ {f : Str} {m : MD} {a : Addr}, findD f M.ds = some m → (He.fAd X.K m.d.at_ = a) → FnC X (callF M.con M.tbl (n + 1)) (2 * (n + 1)) f a := fun {f m a} hf ha => by
      have hm := findD_mem hf
      obtain ⟨fd, F, b⟩ := hM.fn m hm
      rw [ha] at F
      have ec : ∀ ds S, callF M.con M.tbl (n + 1) f ds S = runF M.con (callF M.con M.tbl n) m.fn ds S := fun ds S => by
        have : M.tbl f = some m.fn := by unfold Mo.tbl; rw [hf]; rfl
        simp only [callF, this]
      refine ⟨fd, m.ps, b, (fn_one hM ih hm F (key := f)).imp fun vs H Q E ⟨al, Z, G, S, ds, st, rv, hl, h⟩ => ⟨al, Z, G, S, ds, st, rv, hl, by rw [ec] at h; exact h⟩, fun ds S h => ?_⟩
      rw [ec] at h
      unfold runF at h
      by_cases q : ds.length = m.fn.np
      · rw [q, (hM.ok m hm).np]
      · rw [if_neg q] at h; exact absurd rfl h
    refine ⟨fun f hf => ?_, fun p hp => ?_, fun c hc => ?_, hM.fld⟩
    · obtain ⟨a, b, m, h1, h2⟩ := hM.tfn f hf
      obtain ⟨fd, F, _⟩ := hM.fn m (findD_mem h1)
      rw [h2] at F
      exact ⟨a, b, F.kp, one h1 (by rw [h2]; rfl)⟩
    · obtain ⟨a, b, m, h1, h2⟩ := hM.tmt p hp
      exact ⟨a, b, one h1 (by rw [h2]; rfl)⟩
    · obtain ⟨a, b, c', d, m, h1, h2⟩ := hM.tmk c hc
      exact ⟨a, b, c', d, one h1 (by rw [h2]; rfl)⟩
end Bh

set_option maxHeartbeats 4000000
/-! The evaluator grows with its calls. -/
namespace Bh
open PySem
def Lr {α : Type} (a b : R α) : Prop := a ≠ .bad → b = a
def Lf (a b : F) : Prop := a ≠ .bad → b = a
def Lc (c d : CallT) : Prop := ∀ f ds S, Lr (c f ds S) (d f ds S)
theorem Lr.refl {α : Type} (a : R α) : Lr a a := fun _ => rfl
theorem Lf.refl (a : F) : Lf a a := fun _ => rfl
theorem Lr.bad {α : Type} (b : R α) : Lr .bad b := fun h => absurd rfl h
theorem Lf.bad (b : F) : Lf .bad b := fun h => absurd rfl h
theorem Lr.trans {α : Type} {a b c : R α} (h : Lr a b) (k : Lr b c) : Lr a c := fun n => by
  have e := h n
  rw [k (by rw [e]; exact n), e]
theorem Lr.bind {α β : Type} {a b : R α} {f g : α → Store → R β} (h : Lr a b) (k : ∀ x S, Lr (f x S) (g x S)) : Lr (a.bind f) (b.bind g) := by
  cases a with
  | bad => exact Lr.bad _
  | exc c x S => rw [h (by simp)]; exact Lr.refl _
  | ok x S => rw [h (by simp)]; exact k x S
theorem Lr.thn {α : Type} {a b : R α} {s : Fr} {f g : α → Store → F} (h : Lr a b) (k : ∀ x S, Lf (f x S) (g x S)) : Lf (a.thn s f) (b.thn s g) := by
  cases a with
  | bad => exact Lf.bad _
  | exc c x S => rw [h (by simp)]; exact Lf.refl _
  | ok x S => rw [h (by simp)]; exact k x S
theorem Lr.pure {S : Store} {a b : R D} (h : Lr a b) : Lr (pureR S a) (pureR S b) := by
  cases a with
  | bad => exact Lr.bad _
  | exc c x S => rw [h (by simp)]; exact Lr.refl _
  | ok x S => rw [h (by simp)]; exact Lr.refl _
theorem Lr.close {S : Store} {a b : R D} (h : Lr a b) : Lr (closeR S a) (closeR S b) := by
  cases a with
  | bad => exact Lr.bad _
  | exc c x S => rw [h (by simp)]; exact Lr.refl _
  | ok x S => rw [h (by simp)]; exact Lr.refl _
theorem lcD_le {k : IK} {ds items : List D} {f g : D → Store → R (List D)} (h : ∀ d S, Lr (f d S) (g d S)) : ∀ (l : List D) (S : Store), Lr (lcD k ds items f l S) (lcD k ds items g l S)
  | [], S => Lr.refl _
  | d :: l, S => by
    unfold lcD
    split
    · have h1 := h d S
      cases e : f d S with
      | bad => exact Lr.bad _
      | exc c x S' => exact Lr.bad _
      | ok r S' =>
        rw [e] at h1
        rw [h1 (by simp)]
        have h2 := lcD_le (k := k) (ds := ds) (items := items) h l S'
        simp only
        cases e2 : lcD k ds items f l S' with
        | bad => exact Lr.bad _
        | exc c x S'' => exact Lr.bad _
        | ok r' S'' =>
          rw [e2] at h2
          rw [h2 (by simp)]
          exact Lr.refl _
    · exact Lr.bad _
theorem forD_le {k : IK} {ds items : List D} {f g : D → Fr → Store → F} (h : ∀ d s S, Lf (f d s S) (g d s S)) : ∀ (l : List D) (s : Fr) (S : Store), Lf (forD k ds items f l s S) (forD k ds items g l s S)
  | [], s, S => Lf.refl _
  | d :: l, s, S => by
    unfold forD
    split
    · have h1 := h d s S
      cases e : f d s S with
      | bad => exact Lf.bad _
      | next s' S' => rw [e] at h1; rw [h1 (by simp)]; exact forD_le h l s' S'
      | cont s' S' => rw [e] at h1; rw [h1 (by simp)]; exact forD_le h l s' S'
      | ret d S' => rw [e] at h1; rw [h1 (by simp)]; exact Lf.refl _
      | exc c x s' S' => rw [e] at h1; rw [h1 (by simp)]; exact Lf.refl _
    · exact Lf.bad _
theorem whlD_le {t u : Fr → Store → R D} {f g : Fr → Store → F} (ht : ∀ s S, Lr (t s S) (u s S)) (h : ∀ s S, Lf (f s S) (g s S)) : ∀ (n : Nat) (s : Fr) (S : Store), Lf (whlD t f n s S) (whlD u g n s S)
  | 0, s, S => Lf.bad _
  | n + 1, s, S => by
    unfold whlD
    refine Lr.thn (ht s S) fun d S1 => ?_
    split
    · have h1 := h s S1
      cases e : f s S1 with
      | bad => exact Lf.bad _
      | next s' S' => rw [e] at h1; rw [h1 (by simp)]; exact whlD_le ht h n s' S'
      | cont s' S' => rw [e] at h1; rw [h1 (by simp)]; exact whlD_le ht h n s' S'
      | ret d S' => rw [e] at h1; rw [h1 (by simp)]; exact Lf.refl _
      | exc c x s' S' => rw [e] at h1; rw [h1 (by simp)]; exact Lf.refl _
    · exact Lf.refl _
    · exact Lf.bad _
section
variable {con : Str → Option D} {c d : CallT} (hc : Lc c d)
include hc
theorem callM_le (p : Bool) (f : Str) (ds : List D) (S : Store) : Lr (callM c p f ds S) (callM d p f ds S) := by
  unfold callM
  split
  · split
    · exact (hc f ds []).close
    · exact (hc f ds S).pure
  · exact hc f ds S
mutual
theorem ev_le : ∀ (e : E) (s : Fr) (S : Store), Lr (ev con c e s S) (ev con d e s S)
  | .var i, s, S => by simp only [ev]; exact Lr.refl _
  | .non, s, S => by simp only [ev]; exact Lr.refl _
  | .bl b, s, S => by simp only [ev]; exact Lr.refl _
  | .int b, s, S => by simp only [ev]; exact Lr.refl _
  | .str b, s, S => by simp only [ev]; exact Lr.refl _
  | .con b, s, S => by simp only [ev]; exact Lr.refl _
  | .glo b, s, S => by simp only [ev]; exact Lr.refl _
  | .bad, s, S => by simp only [ev]; exact Lr.refl _
  | .isx i b, s, S => by simp only [ev]; exact Lr.refl _
  | .dict0 b, s, S => by simp only [ev]; exact Lr.refl _
  | .bin op own a b, s, S => by
    simp only [ev]
    exact (ev_le a s S).bind fun x S1 => (ev_le b s S1).bind fun y S2 => Lr.refl _
  | .neg a, s, S => by
    simp only [ev]
    exact (ev_le a s S).bind fun x S1 => Lr.refl _
  | .cmp op a b, s, S => by
    simp only [ev]
    exact (ev_le a s S).bind fun x S1 => (ev_le b s S1).bind fun y S2 => Lr.refl _
  | .chain o1 o2 a b e, s, S => by
    simp only [ev]
    refine (ev_le a s S).bind fun x S1 => (ev_le b s S1).bind fun y S2 => ?_
    split
    · exact (ev_le e s S2).bind fun z S3 => Lr.refl _
    · exact Lr.refl _
    · exact Lr.refl _
  | .and l, s, S => by simp only [ev]; exact evAnd_le l s S
  | .or l, s, S => by simp only [ev]; exact evOr_le l s S
  | .not a, s, S => by
    simp only [ev]
    exact (ev_le a s S).bind fun x S1 => Lr.refl _
  | .ife t a b, s, S => by
    simp only [ev]
    refine (ev_le t s S).bind fun x S1 => ?_
    split
    · exact ev_le a s S1
    · exact ev_le b s S1
    · exact Lr.refl _
  | .tup l, s, S => by
    simp only [ev]
    exact (evs_le l s S).bind fun x S1 => Lr.refl _
  | .lst own l, s, S => by
    simp only [ev]
    exact (evs_le l s S).bind fun x S1 => Lr.refl _
  | .ix a i, s, S => by
    simp only [ev]
    exact (ev_le a s S).bind fun x S1 => (ev_le i s S1).bind fun y S2 => Lr.refl _
  | .slice own a lo hi, s, S => by
    simp only [ev]
    exact (ev_le a s S).bind fun x S1 => (evO_le lo s S1).bind fun y S2 => (evO_le hi s S2).bind fun z S3 => Lr.refl _
  | .fld a f, s, S => by
    simp only [ev]
    exact (ev_le a s S).bind fun x S1 => Lr.refl _
  | .call p f l, s, S => by
    simp only [ev]
    exact (evs_le l s S).bind fun x S1 => callM_le hc p f x S1
  | .callV p fs f l, s, S => by
    simp only [ev]
    refine (ev_le f s S).bind fun x S1 => ?_
    split
    · split
      · exact (evs_le l s S1).bind fun y S2 => callM_le hc p _ y S2
      · exact Lr.refl _
    · exact Lr.refl _
  | .make k l, s, S => by
    simp only [ev]
    exact (evs_le l s S).bind fun x S1 => (hc _ _ _).bind fun y S2 => Lr.refl _
  | .meth p k o m l, s, S => by
    simp only [ev]
    refine (ev_le o s S).bind fun x S1 => ?_
    split
    · split
      · exact (evs_le l s S1).bind fun y S2 => callM_le hc p _ _ S2
      · exact Lr.refl _
    · exact Lr.refl _
  | .bi f own l, s, S => by
    simp only [ev]
    exact (evs_le l s S).bind fun x S1 => Lr.refl _
  | .bm m own o l, s, S => by
    simp only [ev]
    refine (ev_le o s S).bind fun x S1 => ?_
    split
    · exact (evs_le l s S1).bind fun y S2 => Lr.refl _
    · exact Lr.refl _
  | .isi a k, s, S => by
    simp only [ev]
    exact (ev_le a s S).bind fun x S1 => Lr.refl _
  | .lc own elt tg k src ifs, s, S => by
    simp only [ev]
    refine (evs_le src s S).bind fun ds S1 => ?_
    split
    · refine (lcD_le (fun x S2 => ?_) _ S1).bind fun l S2 => Lr.refl _
      split
      · refine (evAnd_le ifs _ S2).bind fun b S3 => ?_
        split
        · exact (ev_le elt _ S3).bind fun v S4 => Lr.refl _
        · exact Lr.refl _
        · exact Lr.refl _
      · exact Lr.refl _
    · exact Lr.refl _
  | .lc2 own elt tg k src ifs tg2 k2 src2 ifs2, s, S => by
    simp only [ev]
    refine (evs_le src s S).bind fun ds S1 => ?_
    split
    · refine (lcD_le (fun x S2 => ?_) _ S1).bind fun l S2 => Lr.refl _
      split
      · refine (evAnd_le ifs _ S2).bind fun b S3 => ?_
        split
        · refine (evs_le src2 _ S3).bind fun ds2 S4 => ?_
          split
          · refine lcD_le (fun x2 S5 => ?_) _ S4
            split
            · refine (evAnd_le ifs2 _ S5).bind fun b S6 => ?_
              split
              · exact (ev_le elt _ S6).bind fun v S7 => Lr.refl _
              · exact Lr.refl _
              · exact Lr.refl _
            · exact Lr.refl _
          · exact Lr.refl _
        · exact Lr.refl _
        · exact Lr.refl _
      · exact Lr.refl _
    · exact Lr.refl _
  | .dict ks vs, s, S => by
    simp only [ev]
    exact (evs_le vs s S).bind fun x S1 => Lr.refl _
  | .lrng own l, s, S => by
    simp only [ev]
    exact (evs_le l s S).bind fun x S1 => Lr.refl _
theorem evs_le : ∀ (l : List E) (s : Fr) (S : Store), Lr (evs con c l s S) (evs con d l s S)
  | [], s, S => by simp only [evs]; exact Lr.refl _
  | e :: l, s, S => by
    simp only [evs]
    exact (ev_le e s S).bind fun x S1 => (evs_le l s S1).bind fun y S2 => Lr.refl _
theorem evAnd_le : ∀ (l : List E) (s : Fr) (S : Store), Lr (evAnd con c l s S) (evAnd con d l s S)
  | [], s, S => by simp only [evAnd]; exact Lr.refl _
  | e :: l, s, S => by
    simp only [evAnd]
    refine (ev_le e s S).bind fun x S1 => ?_
    split
    · exact evAnd_le l s S1
    · exact Lr.refl _
    · exact Lr.refl _
theorem evOr_le : ∀ (l : List E) (s : Fr) (S : Store), Lr (evOr con c l s S) (evOr con d l s S)
  | [], s, S => by simp only [evOr]; exact Lr.refl _
  | e :: l, s, S => by
    simp only [evOr]
    refine (ev_le e s S).bind fun x S1 => ?_
    split
    · exact evOr_le l s S1
    · exact Lr.refl _
    · exact Lr.refl _
theorem evO_le : ∀ (o : Option E) (s : Fr) (S : Store), Lr (evO con c o s S) (evO con d o s S)
  | none, s, S => by simp only [evO]; exact Lr.refl _
  | some e, s, S => by
    simp only [evO]
    exact (ev_le e s S).bind fun x S1 => Lr.refl _
end
mutual
theorem ex_le : ∀ (t : Sm) (s : Fr) (S : Store), Lf (ex con c t s S) (ex con d t s S)
  | .asg t e, s, S => by
    simp only [ex]
    exact (ev_le hc e s S).thn fun x S1 => Lf.refl _
  | .par i j a b, s, S => by
    simp only [ex]
    exact (ev_le hc a s S).thn fun x S1 => (ev_le hc b s S1).thn fun y S2 => Lf.refl _
  | .star i j e, s, S => by
    simp only [ex]
    exact (ev_le hc e s S).thn fun x S1 => Lf.refl _
  | .setF k o f e, s, S => by
    simp only [ex]
    exact (ev_le hc e s S).thn fun x S1 => (ev_le hc o s S1).thn fun y S2 => Lf.refl _
  | .setI o i e, s, S => by
    simp only [ex]
    exact (ev_le hc e s S).thn fun x S1 => (ev_le hc o s S1).thn fun y S2 => (ev_le hc i s S2).thn fun z S3 => Lf.refl _
  | .aug i op e, s, S => by
    simp only [ex]
    split
    · exact (ev_le hc e s S).thn fun x S1 => Lf.refl _
    · exact Lf.refl _
  | .augF k o f op e, s, S => by
    simp only [ex]
    refine (ev_le hc o s S).thn fun x S1 => ?_
    split
    · exact (ev_le hc e s S1).thn fun x S1 => Lf.refl _
    · exact Lf.refl _
  | .augI o i op e, s, S => by
    simp only [ex]
    refine (ev_le hc o s S).thn fun x S1 => (ev_le hc i s S1).thn fun y S2 => ?_
    split
    · exact (ev_le hc e s S2).thn fun x S1 => Lf.refl _
    · exact Lf.refl _
  | .expr e, s, S => by
    simp only [ex]
    exact (ev_le hc e s S).thn fun x S1 => Lf.refl _
  | .ret e, s, S => by
    simp only [ex]
    exact (ev_le hc e s S).thn fun x S1 => Lf.refl _
  | .retN, s, S => by simp only [ex]; exact Lf.refl _
  | .bad, s, S => by simp only [ex]; exact Lf.refl _
  | .pass, s, S => by simp only [ex]; exact Lf.refl _
  | .cont, s, S => by simp only [ex]; exact Lf.refl _
  | .ite t a b, s, S => by
    simp only [ex]
    refine (ev_le hc t s S).thn fun x S1 => ?_
    split
    · exact exs_le a s S1
    · exact exs_le b s S1
    · exact Lf.refl _
  | .for_ tg k src body, s, S => by
    simp only [ex]
    refine (evs_le hc src s S).thn fun ds S1 => ?_
    split
    · refine forD_le (fun x s' S' => ?_) _ s S1
      split
      · exact exs_le body _ S'
      · exact Lf.refl _
    · exact Lf.refl _
  | .whl n t body, s, S => by
    simp only [ex]
    exact whlD_le (ev_le hc t) (exs_le body) n s S
  | .raise k f e, s, S => by
    simp only [ex]
    exact (ev_le hc e s S).thn fun x S1 => Lf.refl _
  | .try_ kn body hs, s, S => by
    simp only [ex]
    have h := exs_le body s S
    cases e : exs con c body s S with
    | bad => exact Lf.bad _
    | next s' S' => rw [e] at h; rw [h (by simp)]; exact Lf.refl _
    | cont s' S' => rw [e] at h; rw [h (by simp)]; exact Lf.refl _
    | ret d S' => rw [e] at h; rw [h (by simp)]; exact Lf.refl _
    | exc c x s' S' => rw [e] at h; rw [h (by simp)]; exact Lf.refl _
theorem exs_le : ∀ (l : List Sm) (s : Fr) (S : Store), Lf (exs con c l s S) (exs con d l s S)
  | [], s, S => by simp only [exs]; exact Lf.refl _
  | t :: l, s, S => by
    simp only [exs]
    have h := ex_le t s S
    cases e : ex con c t s S with
    | bad => exact Lf.bad _
    | next s' S' => rw [e] at h; rw [h (by simp)]; exact exs_le l s' S'
    | cont s' S' => rw [e] at h; rw [h (by simp)]; exact Lf.refl _
    | ret d S' => rw [e] at h; rw [h (by simp)]; exact Lf.refl _
    | exc c x s' S' => rw [e] at h; rw [h (by simp)]; exact Lf.refl _
end
theorem runF_le (f : Fn) (ds : List D) (S : Store) : Lr (runF con c f ds S) (runF con d f ds S) := by
  unfold runF
  split
  · have h := exs_le (con := con) hc f.body (start f.np f.nn ds) S
    cases e : exs con c f.body (start f.np f.nn ds) S with
    | bad => exact Lr.bad _
    | next s' S' => rw [e] at h; rw [h (by simp)]; exact Lr.refl _
    | cont s' S' => rw [e] at h; rw [h (by simp)]; exact Lr.refl _
    | ret d S' => rw [e] at h; rw [h (by simp)]; exact Lr.refl _
    | exc c x s' S' => rw [e] at h; rw [h (by simp)]; exact Lr.refl _
  · exact Lr.bad _
end
theorem callF_up {con : Str → Option D} {tbl : Str → Option Fn} : ∀ n : Nat, Lc (callF con tbl n) (callF con tbl (n + 1))
  | 0 => fun f ds S => Lr.bad _
  | n + 1 => fun f ds S => by
    simp only [callF]
    split
    · exact runF_le (callF_up n) _ ds S
    · exact Lr.bad _
theorem callF_le {con : Str → Option D} {tbl : Str → Option Fn} {n m : Nat} (h : n ≤ m) : Lc (callF con tbl n) (callF con tbl m) := by
  induction m with
  | zero =>
    obtain rfl : n = 0 := by omega
    exact fun f ds S => Lr.refl _
  | succ m ih =>
    by_cases e : n = m + 1
    · subst e; exact fun f ds S => Lr.refl _
    · exact fun f ds S => (ih (by omega) f ds S).trans (callF_up m f ds S)
/-- calls where some are told by an oracle -/
def callO (con : Str → Option D) (tbl : Str → Option Fn) (orc : Str → Option (List D → Store → R D)) : Nat → CallT
  | 0, _, _, _ => .bad
  | n + 1, f, ds, S => match orc f with
    | some g => g ds S
    | none => match tbl f with
      | some fn => runF con (callO con tbl orc n) fn ds S
      | none => .bad
theorem callO_le {con : Str → Option D} {tbl : Str → Option Fn} {orc : Str → Option (List D → Store → R D)} {m : Nat} (h : ∀ f g, orc f = some g → ∀ ds S, Lr (g ds S) (callF con tbl m f ds S)) : ∀ n : Nat, Lc (callO con tbl orc n) (callF con tbl (n + m))
  | 0 => fun f ds S => Lr.bad _
  | n + 1 => fun f ds S => by
    have ih := callO_le h n
    unfold callO
    split
    · rename_i g hg
      exact (h f g hg ds S).trans (callF_le (by omega) f ds S)
    · rw [show n + 1 + m = (n + m) + 1 by omega]
      simp only [callF]
      cases tbl f with
      | some fn => exact runF_le ih _ ds S
      | none => exact Lr.bad _
end Bh

set_option maxHeartbeats 4000000
/-! The draws: _law_cell_at, _law_mixed, _law_draw. -/
namespace Bh
open PySem
def irCell : Fn := ⟨2, 4, [(.ite (.cmp .lt (.var 1) (.bi .len false [(.var 0)])) [(.ret (.ix (.var 0) (.var 1)))] []), (.ite (.cmp .eq (.var 0) (.lst false [])) [(.ret (.int 0))] []), (.asg (.nm 2) (.ix (.var 0) (.bin .mod false (.var 1) (.bi .len false [(.var 0)])))), (.for_ (.nm 3) .rng1 [(.bi .min false [(.bin .fdiv false (.var 1) (.bi .len false [(.var 0)])), (.int 60)])] [(.asg (.nm 2) (.bin .fdiv false (.var 2) (.int 1000003)))]), (.ret (.bin .add false (.bin .add false (.bin .mul false (.ix (.var 0) (.bin .mod false (.var 1) (.bi .len false [(.var 0)]))) (.int 31)) (.var 1)) (.bin .mul false (.var 2) (.int 101))))]⟩
def irMixed : Fn := ⟨3, 4, [(.asg (.nm 3) (.bin .mod false (.bin .add false (.bin .add false (.bin .mul false (.call true "_law_cell_at" [(.var 0), (.var 1)]) (.int 1103515245)) (.bin .mul false (.int 7919) (.var 1))) (.int 12345)) (.int 2147483647))), (.ret (.bin .mod false (.bin .mod false (.bin .mod false (.bin .pow false (.var 3) (.int 5)) (.int 2147483647)) (.int 999983)) (.var 2)))]⟩
def irDraw : Fn := ⟨3, 3, [(.expr (.bm .append false (.var 1) [(.int 0)])), (.ret (.call true "_law_mixed" [(.var 0), (.bi .len false [(.var 1)]), (.var 2)]))]⟩
theorem atI_nat {α : Type} (l : List α) (i : Nat) (h : i < l.length) : L2.atI l (i : Int) = some l[i] := by
  unfold L2.atI L2.ixN
  rw [if_pos (Int.natCast_nonneg i), if_pos (by omega)]
  simp
theorem eqD_scr (S : Store) (ns : List Int) : eqD S (.scr ns) (.lst []) = some (decide (ns = [])) := by
  unfold eqD
  simp only [py, mapO, Option.map_some]
  congr 1
  cases ns with
  | nil => rfl
  | cons n ns => rfl
theorem loop_ok (con : Str → Option D) (call : CallT) (ds items : List D) (hs : ∀ S, srcI .rng1 ds S = some items) (a b : D) : ∀ (l : List D) (r : Int) (z : Option D), ∃ r' : Int, ∃ z' : Option D, ∀ S,
    forD .rng1 ds items (fun d s' S' => match bindT s' d (.nm 3) with
      | some s2 => exs con call [.asg (.nm 2) (.bin .fdiv false (.var 2) (.int 1000003))] s2 S'
      | none => .bad) l [some a, some b, some (.int r), z] S = .next [some a, some b, some (.int r'), z'] S
  | [], r, z => ⟨r, z, fun S => by unfold forD; rw [if_pos (hs S)]⟩
  | d :: l, r, z => by
    obtain ⟨r', z', h⟩ := loop_ok con call ds items hs a b l (r / 1000003) (some d)
    refine ⟨r', z', fun S => ?_⟩
    unfold forD
    rw [if_pos (hs S)]
    have e : (match bindT [some a, some b, some (.int r), z] d (.nm 3) with
      | some s2 => exs con call [.asg (.nm 2) (.bin .fdiv false (.var 2) (.int 1000003))] s2 S
      | none => .bad) = .next [some a, some b, some (.int (r / 1000003)), some d] S := by
      simp [bindT, exs, ex, ev, R.bind, binE, small, R.thn]
    rw [e]
    exact h S
theorem cell_ok (con : Str → Option D) (call : CallT) (ns : List Int) (hl : ns.length ≤ 63) (k : Nat) (hk : k < 1000000) : ∃ c : Int, ∀ S, runF con call irCell [.scr ns, .int (k : Nat)] S = .ok (.int c) S := by
  by_cases h : k < ns.length
  · refine ⟨ns[k], fun S => ?_⟩
    have h' : (k : Int) < (ns.length : Int) := by omega
    simp [runF, irCell, start, exs, ex, ev, evs, R.bind, R.thn, biE, lenE, R.ofO, cmpE, intB, ixE, atI_nat ns k h, h]
  · by_cases hn : ns = []
    · subst hn
      refine ⟨0, fun S => ?_⟩
      have dl : decide ((k : Int) < ((0 : Nat) : Int)) = false := decide_eq_false (by omega)
      have st0 : ex con call (.ite (.cmp .lt (.var 1) (.bi .len false [(.var 0)])) [(.ret (.ix (.var 0) (.var 1)))] []) [some (.scr []), some (.int (k : Nat)), none, none] S = .next [some (.scr []), some (.int (k : Nat)), none, none] S := by
        simp only [ex, exs, ev, evs, R.bind, R.thn, biE, lenE, List.length_nil, R.ofO, cmpE, intB, Option.map_some, List.getElem?_cons_zero, List.getElem?_cons_succ, dl]
      have st1 : ex con call (.ite (.cmp .eq (.var 0) (.lst false [])) [(.ret (.int 0))] []) [some (.scr []), some (.int (k : Nat)), none, none] S = .ret (.int 0) S := by
        have hz : (0 : Nat) ≤ sizeLine := Nat.zero_le _
        simp only [ex, exs, ev, evs, R.bind, R.thn, newL, List.length_nil, hz, if_true, Bool.false_eq_true, if_false, cmpE, eqD_scr, decide_true, R.ofO, Option.map_some, List.getElem?_cons_zero]
      have e1 : exs con call irCell.body [some (.scr []), some (.int (k : Nat)), none, none] S = .ret (.int 0) S := by
        simp only [irCell, exs, st0, st1]
      have e0 : runF con call irCell [.scr [], .int (k : Nat)] S = (match exs con call irCell.body [some (.scr []), some (.int (k : Nat)), none, none] S with
        | .ret d S' => .ok d S'
        | .next _ S' => .ok .non S'
        | .exc c x _ S' => .exc c x S'
        | _ => .bad) := rfl
      rw [e0, e1]
    · have h0 : 0 < ns.length := List.length_pos_iff.mpr hn
      have hm : k % ns.length < ns.length := Nat.mod_lt _ h0
      have ex1 : ((k : Int) % (ns.length : Int)) = ((k % ns.length : Nat) : Int) := by omega
      have ex2 : ((k : Int) / (ns.length : Int)) = ((k / ns.length : Nat) : Int) := by omega
      have hd : k / ns.length ≤ k := Nat.div_le_self _ _
      generalize hmn : (if (60 : Int) < ((k / ns.length : Nat) : Int) then (60 : Int) else ((k / ns.length : Nat) : Int)) = mn
      have hmn1 : 0 ≤ mn ∧ mn ≤ 60 := by
        have nn := Int.natCast_nonneg (k / ns.length)
        rw [← hmn]
        split
        · exact ⟨by decide, by decide⟩
        · rename_i hq; exact ⟨nn, Int.not_lt.mp hq⟩
      have hsrc : ∀ S, srcI .rng1 [.int mn] S = some ((List.range mn.toNat).map fun i => .int (i : Nat)) := fun S => by
        have : small mn = true := by unfold small; simp only [Bool.and_eq_true_iff, decide_eq_true_eq]; omega
        simp [srcI, this]
      obtain ⟨r', z', hlp⟩ := loop_ok con call [.int mn] _ hsrc (.scr ns) (.int (k : Nat)) ((List.range mn.toNat).map fun i => .int (i : Nat)) ns[k % ns.length] none
      refine ⟨ns[k % ns.length] * 31 + k + r' * 101, fun S => ?_⟩
      have hsm : small (ns.length : Int) = true := by simp [small]; omega
      have hnl : ¬ ((k : Int) < (ns.length : Int)) := by omega
      have hmid : mid 31 = true := by decide
      have hmid2 : mid 101 = true := by decide
      have st2 : ex con call (.for_ (.nm 3) .rng1 [(.bi .min false [(.bin .fdiv false (.var 1) (.bi .len false [(.var 0)])), (.int 60)])] [(.asg (.nm 2) (.bin .fdiv false (.var 2) (.int 1000003)))]) [some (.scr ns), some (.int (k : Nat)), some (.int ns[k % ns.length]), none] S = .next [some (.scr ns), some (.int (k : Nat)), some (.int r'), z'] S := by
        have e1 : evs con call [(.bi .min false [(.bin .fdiv false (.var 1) (.bi .len false [(.var 0)])), (.int 60)])] [some (.scr ns), some (.int (k : Nat)), some (.int ns[k % ns.length]), none] S = .ok [.int mn] S := by
          have h0' : (0 : Int) < (ns.length : Int) := by omega
          simp only [evs, ev, R.bind, List.getElem?_cons_zero, List.getElem?_cons_succ, biE, lenE, Option.map_some, R.ofO, binE, hsm, h0', decide_true, Bool.and_true, if_true, ex2]
          simp only [hmn]
        simp only [ex, e1, R.thn, hsrc S]
        exact hlp S
      have h0' : (0 : Int) < (ns.length : Int) := by omega
      have dl : decide ((k : Int) < (ns.length : Int)) = false := decide_eq_false hnl
      have st0 : ex con call (.ite (.cmp .lt (.var 1) (.bi .len false [(.var 0)])) [(.ret (.ix (.var 0) (.var 1)))] []) [some (.scr ns), some (.int (k : Nat)), none, none] S = .next [some (.scr ns), some (.int (k : Nat)), none, none] S := by
        simp only [ex, exs, ev, evs, R.bind, R.thn, biE, lenE, R.ofO, cmpE, intB, Option.map_some, List.getElem?_cons_zero, List.getElem?_cons_succ, dl]
      have st1 : ex con call (.ite (.cmp .eq (.var 0) (.lst false [])) [(.ret (.int 0))] []) [some (.scr ns), some (.int (k : Nat)), none, none] S = .next [some (.scr ns), some (.int (k : Nat)), none, none] S := by
        have hz : (0 : Nat) ≤ sizeLine := Nat.zero_le _
        simp only [ex, exs, ev, evs, R.bind, R.thn, newL, List.length_nil, hz, if_true, Bool.false_eq_true, if_false, cmpE, eqD_scr, hn, decide_false, R.ofO, Option.map_some, List.getElem?_cons_zero]
      have stm : ∀ z : Option D, ∀ y : Option D, ev con call (.ix (.var 0) (.bin .mod false (.var 1) (.bi .len false [(.var 0)]))) [some (.scr ns), some (.int (k : Nat)), z, y] S = .ok (.int ns[k % ns.length]) S := fun z y => by
        simp only [ev, evs, R.bind, biE, lenE, R.ofO, Option.map_some, List.getElem?_cons_zero, List.getElem?_cons_succ, binE, h0', decide_true, if_true, ixE, ex1, atI_nat ns _ hm]
      have st1b : ex con call (.asg (.nm 2) (.ix (.var 0) (.bin .mod false (.var 1) (.bi .len false [(.var 0)])))) [some (.scr ns), some (.int (k : Nat)), none, none] S = .next [some (.scr ns), some (.int (k : Nat)), some (.int ns[k % ns.length]), none] S := by
        simp only [ex, stm, R.thn, bindT, List.set_cons_succ, List.set_cons_zero]
      have st3 : ex con call (.ret (.bin .add false (.bin .add false (.bin .mul false (.ix (.var 0) (.bin .mod false (.var 1) (.bi .len false [(.var 0)]))) (.int 31)) (.var 1)) (.bin .mul false (.var 2) (.int 101)))) [some (.scr ns), some (.int (k : Nat)), some (.int r'), z'] S = .ret (.int (ns[k % ns.length] * 31 + k + r' * 101)) S := by
        have em : ev con call (.bin .mul false (.ix (.var 0) (.bin .mod false (.var 1) (.bi .len false [(.var 0)]))) (.int 31)) [some (.scr ns), some (.int (k : Nat)), some (.int r'), z'] S = .ok (.int (ns[k % ns.length] * 31)) S := by
          rw [ev, stm]
          simp only [R.bind, ev, binE, hmid, Bool.or_true, if_true]
        rw [ex, ev, ev, em]
        simp only [R.bind, ev, binE, R.thn, hmid2, Bool.or_true, if_true, List.getElem?_cons_zero, List.getElem?_cons_succ]
      have e1 : exs con call irCell.body [some (.scr ns), some (.int (k : Nat)), none, none] S = .ret (.int (ns[k % ns.length] * 31 + k + r' * 101)) S := by
        simp only [irCell, exs, st0, st1, st1b, st2, st3]
      have e0 : runF con call irCell [.scr ns, .int (k : Nat)] S = (match exs con call irCell.body [some (.scr ns), some (.int (k : Nat)), none, none] S with
        | .ret d S' => .ok d S'
        | .next _ S' => .ok .non S'
        | .exc c x _ S' => .exc c x S'
        | _ => .bad) := rfl
      rw [e0, e1]
/-- a draw's number, before its bound -/
theorem mix_ok (con : Str → Option D) (call : CallT) (ns : List Int) (k : Nat) (c : Int) (hc : ∀ S, call "_law_cell_at" [.scr ns, .int (k : Nat)] S = .ok (.int c) S) : ∃ x : Int, 0 ≤ x ∧ ∀ (b : Int), 0 < b → ∀ S, runF con call irMixed [.scr ns, .int (k : Nat), .int b] S = .ok (.int (x % b)) S := by
  generalize hd : (c * 1103515245 + 7919 * (k : Int) + 12345) % 2147483647 = d
  have hd1 : 0 ≤ d ∧ d < 2147483647 := by omega
  refine ⟨d ^ 5 % 2147483647 % 999983, by omega, fun b hb S => ?_⟩
  have cl : callM call true "_law_cell_at" [.scr ns, .int (k : Nat)] S = .ok (.int c) S := by
    simp only [callM, if_true, D.cls, D.cl, Bool.and_true, hc, closeR, frz, R.ofO]
  have m1 : mid 1103515245 = true := by decide
  have m2 : mid 7919 = true := by decide
  have p1 : decide ((0 : Int) < 2147483647) = true := by decide
  have p2 : decide ((0 : Int) < 999983) = true := by decide
  have p3 : decide (0 < b) = true := decide_eq_true hb
  have st1 : ex con call (.asg (.nm 3) (.bin .mod false (.bin .add false (.bin .add false (.bin .mul false (.call true "_law_cell_at" [(.var 0), (.var 1)]) (.int 1103515245)) (.bin .mul false (.int 7919) (.var 1))) (.int 12345)) (.int 2147483647))) [some (.scr ns), some (.int (k : Nat)), some (.int b), none] S
      = .next [some (.scr ns), some (.int (k : Nat)), some (.int b), some (.int d)] S := by
    simp only [ex, ev, evs, R.bind, List.getElem?_cons_zero, List.getElem?_cons_succ, cl, binE, m1, m2, Bool.or_true, Bool.true_or, if_true, p1, R.thn, bindT, List.set_cons_succ, List.set_cons_zero, hd]
    simp [hd]
  have q1 : (decide ((0 : Int) ≤ 5) && decide ((5 : Int) ≤ 1000) && decide (d.natAbs < 4294967296)) = true := by
    have : d.natAbs < 4294967296 := by omega
    simp [this]
  have st2 : ex con call (.ret (.bin .mod false (.bin .mod false (.bin .mod false (.bin .pow false (.var 3) (.int 5)) (.int 2147483647)) (.int 999983)) (.var 2))) [some (.scr ns), some (.int (k : Nat)), some (.int b), some (.int d)] S = .ret (.int (d ^ 5 % 2147483647 % 999983 % b)) S := by
    have q2 : (if ((decide ((0 : Int) ≤ 5) && decide ((5 : Int) ≤ 1000) && decide (d.natAbs < 4294967296)) = true) then (R.ok (D.int (d ^ (5 : Int).toNat)) S) else R.bad) = R.ok (D.int (d ^ 5)) S := by rw [if_pos q1]; rfl
    simp only [ex, ev, R.bind, List.getElem?_cons_zero, List.getElem?_cons_succ, binE, R.thn]
    simp only [q2]
    simp [hb]
  have e1 : exs con call irMixed.body [some (.scr ns), some (.int (k : Nat)), some (.int b), none] S = .ret (.int (d ^ 5 % 2147483647 % 999983 % b)) S := by
    simp only [irMixed, exs, st1, st2]
  have e0 : runF con call irMixed [.scr ns, .int (k : Nat), .int b] S = (match exs con call irMixed.body [some (.scr ns), some (.int (k : Nat)), some (.int b), none] S with
    | .ret d S' => .ok d S'
    | .next _ S' => .ok .non S'
    | .exc c x _ S' => .exc c x S'
    | _ => .bad) := rfl
  rw [e0, e1]
theorem draw_run (con : Str → Option D) (call : CallT) (ns : List Int) (x b : Int) (t : Nat) (l : List D) (S : Store) (ht : S[t]? = some (.lst l)) (hl : l.length < sizeLine) (hx : ∀ T, call "_law_mixed" [.scr ns, .int ((l.length + 1 : Nat) : Int), .int b] T = .ok (.int (x % b)) T) :
    runF con call irDraw [.scr ns, .ref t, .int b] S = .ok (.int (x % b)) (S.set t (.lst (l ++ [.int 0]))) := by
  have htl : t < S.length := (List.getElem?_eq_some_iff.mp ht).1
  have g1 : ∀ o : O, (S.set t o)[t]? = some o := fun o => List.getElem?_set_self htl
  have st1 : ex con call (.expr (.bm .append false (.var 1) [(.int 0)])) [some (.scr ns), some (.ref t), some (.int b)] S = .next [some (.scr ns), some (.ref t), some (.int b)] (S.set t (.lst (l ++ [.int 0]))) := by
    simp only [ex, ev, evs, R.bind, List.getElem?_cons_zero, List.getElem?_cons_succ, recv, lstE, look, ht, Option.isSome_some, if_true, bmE, hl, R.thn]
  have cl : ∀ T, callM call true "_law_mixed" [.scr ns, .int ((l.length + 1 : Nat) : Int), .int b] T = .ok (.int (x % b)) T := fun T => by
    simp only [callM, if_true, D.cls, D.cl, Bool.and_true, hx, closeR, frz, R.ofO]
  have ll : (l ++ [D.int 0]).length = l.length + 1 := by simp
  have st2 : ex con call (.ret (.call true "_law_mixed" [(.var 0), (.bi .len false [(.var 1)]), (.var 2)])) [some (.scr ns), some (.ref t), some (.int b)] (S.set t (.lst (l ++ [.int 0]))) = .ret (.int (x % b)) (S.set t (.lst (l ++ [.int 0]))) := by
    simp only [ex, ev, evs, R.bind, List.getElem?_cons_zero, List.getElem?_cons_succ, biE, lenE, look, g1, Option.map_some, R.ofO, ll, cl, R.thn]
  have e1 : exs con call irDraw.body [some (.scr ns), some (.ref t), some (.int b)] S = .ret (.int (x % b)) (S.set t (.lst (l ++ [.int 0]))) := by
    simp only [irDraw, exs, st1, st2]
  have e0 : runF con call irDraw [.scr ns, .ref t, .int b] S = (match exs con call irDraw.body [some (.scr ns), some (.ref t), some (.int b)] S with
    | .ret d S' => .ok d S'
    | .next _ S' => .ok .non S'
    | .exc c x _ S' => .exc c x S'
    | _ => .bad) := rfl
  rw [e0, e1]
/-- all draws of a script -/
theorem draws {con : Str → Option D} {tbl : Str → Option Fn} (h1 : tbl "_law_cell_at" = some irCell) (h2 : tbl "_law_mixed" = some irMixed) (h3 : tbl "_law_draw" = some irDraw) (ns : List Int) (hl : ns.length ≤ 63) :
    ∃ mx : Nat → Int, (∀ k, 0 ≤ mx k) ∧ ∀ (b : Int) (t : Nat) (l : List D) (S : Store), 0 < b → S[t]? = some (.lst l) → l.length < 900000 → callF con tbl 3 "_law_draw" [.scr ns, .ref t, .int b] S = .ok (.int (mx l.length % b)) (S.set t (.lst (l ++ [.int 0]))) := by
  have all : ∀ k : Nat, ∃ x : Int, 0 ≤ x ∧ (k < 900000 → ∀ b : Int, 0 < b → ∀ S, callF con tbl 2 "_law_mixed" [.scr ns, .int ((k + 1 : Nat) : Int), .int b] S = .ok (.int (x % b)) S) := fun k => by
    by_cases hk : k < 900000
    · obtain ⟨c, hc⟩ := cell_ok con (callF con tbl 0) ns hl (k + 1) (by omega)
      obtain ⟨x, hx0, hx⟩ := mix_ok con (callF con tbl 1) ns (k + 1) c (fun S => by simp only [callF, h1]; exact hc S)
      exact ⟨x, hx0, fun _ b hb S => by simp only [callF, h2] at hx ⊢; exact hx b hb S⟩
    · exact ⟨0, Int.le_refl _, fun h => absurd h hk⟩
  refine ⟨fun k => (all k).choose, fun k => (all k).choose_spec.1, fun b t l S hb ht hk => ?_⟩
  have hx := (all l.length).choose_spec.2 hk b hb
  have hz := sizeLine_eq
  have := draw_run con (callF con tbl 2) ns (all l.length).choose b t l S ht (by omega) hx
  rw [callF, h3]
  exact this
end Bh

set_option maxHeartbeats 4000000
/-! What the head is asked of the module, and what follows. -/
namespace Bh
open PySem PySem.Spec PyProof.Rows L2
/-! ### the hook -/
def seenB (c : PySem.W.Frag → Bool) (fn : List He.DefD) (K : PySem.W.Frag) : Bool × List He.FnW := (c K && fn.all fun x => x.ok K, fn.map fun x => He.fnW K x.at_)
def wantB (fn : List He.DefD) : Bool × List He.FnW := (true, fn.map He.DefD.val)
abbrev ToldB (c : PySem.W.Frag → Bool) (fn : List He.DefD) (K : PySem.W.Frag) : Prop := seenB c fn K = wantB fn
def lookB (n : Nat) (c : PySem.W.Frag → Bool) (fn : List He.DefD) (g : Addr → Option Obj) : Bool × List He.FnW := seenB c fn (He.frG g (He.asD g n))
def hookB (n : Nat) (c : PySem.W.Frag → Bool) (fn : List He.DefD) : PySem.W.Hook :=
  ⟨Bool × List He.FnW, fun s => lookB n c fn s.heap.get?, fun _ => wantB fn, fun _ h => ∃ K : PySem.W.Frag, K.In h ∧ ToldB c fn K, fun _ _ e => ⟨_, He.frG_in, e⟩, fun _ _ _ ⟨K, k1, k2⟩ k => ⟨K, PySem.W.Frag.In.keeps k1 k, k2⟩⟩
theorem lookB_eq {n : Nat} {c : PySem.W.Frag → Bool} {fn : List He.DefD} {g : Addr → Option Obj} {s : Shared} (h : ∀ a, g a = s.heap.get? a) : lookB n c fn g = (hookB n c fn).obs s := by
  obtain rfl : g = s.heap.get? := funext h
  rfl
theorem told_c {c : PySem.W.Frag → Bool} {fn : List He.DefD} {K : PySem.W.Frag} (t : ToldB c fn K) : c K = true := (a2 (show (c K && fn.all fun x => x.ok K) = true from congrArg Prod.fst t)).1
theorem told_d {c : PySem.W.Frag → Bool} {fn : List He.DefD} {K : PySem.W.Frag} (t : ToldB c fn K) {x : He.DefD} (hx : x ∈ fn) : ∃ fd, FunD K x.name x.qual x.params x.body x.scope (x.dvs K) (x.kws K) (He.fAd K x.at_) fd := by
  have t1 := (a2 (show (c K && fn.all fun x => x.ok K) = true from congrArg Prod.fst t)).2
  have t2 : fn.map (fun x => He.fnW K x.at_) = fn.map He.DefD.val := congrArg Prod.snd t
  exact He.DefD.funD (List.map_inj_left.mp t2 x hx) (List.all_eq_true.mp t1 x hx)
/-! ### facts -/
def exB (K : PySem.W.Frag) (c : Str) : Bool :=
  He.eqO (PySem.W.findIn K (.ref (He.ga K c)) "__getattribute__") (some (some (.builtin "BaseException.__getattribute__"))) && (He.eqO (PySem.W.findIn K (.ref (He.ga K c)) "__getattr__") (some none) && (decide (PySem.W.subIn K (.ref (He.ga K c)) (.type "BaseException") = some true) &&
    (PySem.W.hasDictIn K (He.ga K c) && (He.eqO (PySem.W.findIn K (.ref (He.ga K c)) "__class__") (some (some (.builtin "object.__class__"))) && (He.eqO (PySem.W.specialIn K (.builtin "object.__class__") "__get__") (some (some (.builtin "getset_descriptor.__get__"))) &&
      (decide (PySem.W.takesIn K (.builtin "object.__class__") = some true) && decide (PySem.W.mroIn K (He.ga K c) (.type "object") = some true)))))))
theorem exB_ok {K : PySem.W.Frag} {c : Str} (h : exB K c = true) : ExcC K (He.ga K c) := by
  obtain ⟨h1, h⟩ := a2 h
  obtain ⟨h2, h⟩ := a2 h
  obtain ⟨h3, h⟩ := a2 h
  obtain ⟨h4, h⟩ := a2 h
  obtain ⟨h5, h⟩ := a2 h
  obtain ⟨h6, h⟩ := a2 h
  obtain ⟨h7, h8⟩ := a2 h
  exact ⟨He.eqO_ok h1, He.eqO_ok h2, of_decide_eq_true h3, h4, He.eqO_ok h5, He.eqO_ok h6, of_decide_eq_true h7, of_decide_eq_true h8⟩
def xfB (K : PySem.W.Frag) : Bool :=
  excs.all (exB K) && (excs.all (fun c => excs.all fun h => decide (PySem.W.kitOne K (.ref (He.ga K c)) (.ref (He.ga K h)) = some (decide (c = h)))) && (excs.all (fun c => decide (PySem.W.kitOne K (.ref (He.ga K c)) (.type "ValueError") = some true)) &&
    (excs.all (fun c => (He.Fa.glo c).ok K) && ((He.Fa.free "ValueError").ok K && (He.Fa.free "isinstance").ok K))))
theorem xfB_ok {K : PySem.W.Frag} {h : Heap} {mg : Str → Option Value} (X : K.In h) (G : h.Ns mainGlobals mg) (c : xfB K = true) : XF K mg := by
  obtain ⟨h1, c⟩ := a2 c
  obtain ⟨h2, c⟩ := a2 c
  obtain ⟨h3, c⟩ := a2 c
  obtain ⟨h4, c⟩ := a2 c
  obtain ⟨h5, h6⟩ := a2 c
  exact ⟨fun x hx => exB_ok (List.all_eq_true.mp h1 x hx), fun x hx y hy => of_decide_eq_true (List.all_eq_true.mp (List.all_eq_true.mp h2 x hx) y hy), fun x hx => of_decide_eq_true (List.all_eq_true.mp h3 x hx), fun x hx => He.glo_ok X G (List.all_eq_true.mp h4 x hx), He.free_ok X G h5, He.free_ok X G h6⟩
def ndB (x : Str) : Bool := !(x == ("__debug__" : Str))
theorem ndB_ok {x : Str} (h : ndB x = true) : (x == ("__debug__" : Str)) = false := by simpa [ndB] using h
/-- what the head is asked -/
def moB (M : Mo) (K : PySem.W.Frag) : Bool :=
  M.tb.fns.all (fun f => (He.Fa.glo f).ok K) && (M.blts.all (fun x => (He.Fa.free x).ok K) && (M.cons.all (fun x => (match M.con x with
      | some (.int i) => (He.Fa.int x i).ok K
      | _ => false)) && (M.exs.all (fun c => (He.Fa.glo c).ok K && (He.Fa.exc c).ok K) && (M.hc.hcl.all (fun h => (He.Fa.glo h).ok K) && (M.hc.kn.all (fun x => M.hc.hcl.all fun h => (He.Fa.exm x h (excSub x h)).ok K) &&
    ((!M.hc.wh || (xfB K && (He.Fa.glo "_law_which").ok K)) && (M.tb.mths.all (fun p => (He.Fa.cls p.1).ok K && (He.Fa.meth p.1 p.2).ok K) && (M.tb.mks.all (fun c => (He.Fa.glo c).ok K && ((He.Fa.cls c).ok K && (He.Fa.mkr c).ok K)) && M.tb.flds.all (fun p => (He.Fa.noat p.1 p.2).ok K)))))))))
/-- what is read off the module alone -/
def moS (M : Mo) : Bool :=
  M.tb.fns.all (fun f => ndB f && (match findD f M.ds with
    | some m => decide (m.d.at_ = (f, none))
    | none => false)) && (M.exs.all ndB && (M.hc.hcl.all ndB && (M.tb.mks.all (fun c => ndB c && (match findD (c ++ ".__init__") M.ds with
    | some m => decide (m.d.at_ = (c, some ("__init__" : Str)))
    | none => false)) && M.tb.mths.all (fun p => (match findD (p.1 ++ "." ++ p.2) M.ds with
    | some m => decide (m.d.at_ = (p.1, some p.2))
    | none => false)))))
abbrev BindP (x : He.DefD) (ps : List Str) : Prop := ∀ (kV doc pm : Value) (an : Option Addr) (cdv ct : Value) (us : List Value), us.length = ps.length → bindArgs (PySem.W.fnOf x.name x.qual x.params x.body x.scope .none kV doc pm an cdv ct) ⟨us, []⟩ = pure (ps.zip us)
/-- what is proved of each def's text -/
structure DefP (M : Mo) (m : MD) : Prop where
  ok : MdOk M m
  bind : BindP m.d m.ps
  dfl : m.d.dfl = [] ∧ m.d.kwd = []
theorem find_of {f : Str} {M : Mo} {p : Str × Option Str} (h : (match findD f M.ds with
    | some m => decide (m.d.at_ = p)
    | none => false) = true) : ∃ m, findD f M.ds = some m ∧ m.d.at_ = p := by
  cases e : findD f M.ds with
  | none => rw [e] at h; cases h
  | some m => rw [e] at h; exact ⟨m, rfl, of_decide_eq_true h⟩
theorem mo_ok {P : Program} {w : World} {K : PySem.W.Frag} {h base : Heap} {mg : Str → Option Value} {M : Mo} {fn : List He.DefD} (X : K.In h) (G : h.Ns mainGlobals mg) (t : ToldB (moB M) fn K) (hs : moS M = true) (hfn : ∀ m ∈ M.ds, m.d ∈ fn) (hp : ∀ m ∈ M.ds, DefP M m)
    (dW : He.DefD) (hW : M.hc.wh = true → dW ∈ fn ∧ dW.at_ = (("_law_which" : Str), none) ∧ dW.dfl = [] ∧ dW.kwd = [] ∧ BindP dW ["e"] ∧ FnScope ["e", "own"] ["e"] dW.scope ∧ chkSs cfW hcW 40 dW.scope dW.body irWhich = true) : MoOk P w K mg base M := by
  have c := told_c t
  unfold moB at c
  obtain ⟨c1, c⟩ := a2 c
  obtain ⟨c2, c⟩ := a2 c
  obtain ⟨c3, c⟩ := a2 c
  obtain ⟨c4, c⟩ := a2 c
  obtain ⟨c5, c⟩ := a2 c
  obtain ⟨c6, c⟩ := a2 c
  obtain ⟨c7, c⟩ := a2 c
  obtain ⟨c8, c⟩ := a2 c
  obtain ⟨c9, c10⟩ := a2 c
  unfold moS at hs
  obtain ⟨s1, hs⟩ := a2 hs
  obtain ⟨s2, hs⟩ := a2 hs
  obtain ⟨s3, hs⟩ := a2 hs
  obtain ⟨s4, s5⟩ := a2 hs
  refine ⟨fun m hm => (hp m hm).ok, fun m hm => ?_, fun f hf => ?_, fun p hp' => ?_, fun x hx => ?_, fun p hp' => He.noat_ok (List.all_eq_true.mp c10 p hp'), fun x hx => ?_, fun x hx => He.free_ok X G (List.all_eq_true.mp c2 x hx), fun x hx => ?_, fun x hx => ⟨ndB_ok (List.all_eq_true.mp s3 x hx), He.glo_ok X G (List.all_eq_true.mp c5 x hx)⟩,
    fun x hx y hy => He.exm_ok (List.all_eq_true.mp (List.all_eq_true.mp c6 x hx) y hy), fun hw => ?_⟩
  · obtain ⟨fd, F⟩ := told_d t (hfn m hm)
    have d1 : m.d.dvs K = [] := by unfold He.DefD.dvs; rw [(hp m hm).dfl.1]; rfl
    have d2 : m.d.kws K = [] := by unfold He.DefD.kws; rw [(hp m hm).dfl.2]; rfl
    rw [d1, d2] at F
    exact ⟨fd, F, F.bindsN (hp m hm).bind⟩
  · obtain ⟨q1, q2⟩ := a2 (List.all_eq_true.mp s1 f hf)
    exact ⟨ndB_ok q1, He.glo_ok X G (List.all_eq_true.mp c1 f hf), find_of q2⟩
  · obtain ⟨q1, q2⟩ := a2 (List.all_eq_true.mp c8 p hp')
    exact ⟨He.cls_ok q1, He.meth_ok q2, find_of (List.all_eq_true.mp s5 p hp')⟩
  · obtain ⟨q1, q⟩ := a2 (List.all_eq_true.mp c9 x hx)
    obtain ⟨q2, q3⟩ := a2 q
    obtain ⟨r1, r2⟩ := a2 (List.all_eq_true.mp s4 x hx)
    exact ⟨ndB_ok r1, He.glo_ok X G q1, He.cls_ok q2, He.mkr_ok q3, find_of r2⟩
  · have q := List.all_eq_true.mp c3 x hx
    cases e : M.con x with
    | none => rw [e] at q; cases q
    | some d =>
      rw [e] at q
      cases d with
      | int i =>
        obtain ⟨t, ht⟩ := He.int_ok X G q
        exact ⟨.int i, _, .int i, rfl, ht, ⟨t, rfl⟩, fun _ _ => .int i⟩
      | _ => cases q
  · obtain ⟨q1, q2⟩ := a2 (List.all_eq_true.mp c4 x hx)
    obtain ⟨e1, e2, e3, e4⟩ := He.exc_ok q2
    exact ⟨ndB_ok (List.all_eq_true.mp s2 x hx), He.glo_ok X G q1, ⟨_, _, _, _, PySem.F.excBase_ValueError, e1⟩, e2, e3, e4⟩
  · rw [hw] at c7
    simp only [Bool.not_true, Bool.false_or] at c7
    obtain ⟨q1, q2⟩ := a2 c7
    obtain ⟨w1, w2, w3, w4, w5, w6, w7⟩ := hW hw
    obtain ⟨fd, F⟩ := told_d t w1
    have d1 : dW.dvs K = [] := by unfold He.DefD.dvs; rw [w3]; rfl
    have d2 : dW.kws K = [] := by unfold He.DefD.kws; rw [w4]; rfl
    rw [d1, d2, w2] at F
    exact ⟨He.ga K "_law_which", fd, which_ok F (xfB_ok X G q1) w6 w7, He.glo_ok X G q2, F.kp, F.bindsN w5⟩
/-! ### the law -/
/-- exceptions of any world -/
def CXA : CXT := fun outer H s E u s' => ∃ P w, L2N.CX P w outer H s E u s'
theorem fnok_any {P : Program} {w : World} {K : PySem.W.Frag} {mg : Str → Option Value} {base : Heap} {k : Nat} {f : Addr} {fd : FuncData} {ps : List Str} {sp : Sp} (F : FnOk P w K mg base (L2N.CX P w) k f fd ps sp) : FnOk P w K mg base CXA k f fd ps sp := by
  refine ⟨F.len, fun A outer s H args us vs Q E hr e0 hb r h => codeAny_mono (F.run A outer s H args us vs Q E hr e0 hb r h) fun r s' q => ?_⟩
  cases r with
  | error e => exact ⟨P, w, q⟩
  | ok fl => cases fl <;> exact q
def spLaw (K : PySem.W.Frag) : Sp := fun vs H Q _ => ∃ (a : Addr) (ns : List Int), vs = [.ref a] ∧ ns.length ≤ 63 ∧ SqL K H a (ns.map V.int) ∧ ∀ H', Q (.bl true) H'
theorem law_ok {P : Program} {w : World} {K : PySem.W.Frag} {mg : Str → Option Value} {base : Heap} {M : Mo} (hM : MoOk P w K mg base M) {m : MD} (hm : m ∈ M.ds) (hps : m.ps = [("script" : Str)]) {n : Nat} {f : Addr} {fd : FuncData} (F : FunD K m.d.name m.d.qual m.d.params m.d.body m.d.scope [] [] f fd)
    (hl : ∀ ns : List Int, ns.length ≤ 63 → ∃ S, runF M.con (callF M.con M.tbl n) m.fn [.scr ns] [] = .ok (.bl true) S) : FnOk P w K mg base CXA (2 * n + 2) f fd ["script"] (spLaw K) := by
  have one := fn_one hM (fns_ok hM n) hm F (key := "law")
  rw [hps] at one
  refine fnok_any (one.imp fun vs H Q E ⟨a, ns, hv, hn, hS, hQ⟩ => ?_)
  subst hv
  obtain ⟨S, e⟩ := hl ns hn
  refine ⟨[], H, fun _ => none, [], [.scr ns], ⟨rfl, fun _ _ h => h, fun _ _ h => (by cases h), fun n a o h => (by simp at h), fun n a h => (by simp at h), fun n m a h => (by simp at h), fun a o h => (by cases h)⟩, .cons (.scr hS) .nil, rfl, ?_⟩
  show PV K _ _ [] H (runF M.con (callF M.con M.tbl n) m.fn [.scr ns] []) Q
  rw [e]
  intro al' Z' H' l st v rv
  cases rv
  exact hQ H'
end Bh

set_option maxHeartbeats 0
namespace Bh
open PySem PySem.Spec PyProof.Rows L2
/-! ### the defs -/
def kn : List Str := ["NoRules", "TooMany"]
def f_is_whole : Fn := ⟨3, 3, [(.ret (.and [(.isi (.var 0) .int), (.not (.isi (.var 0) .bool)), (.chain .le .le (.var 1) (.var 0) (.var 2))]))]⟩
def f_is_rules : Fn := ⟨1, 6, [(.ite (.or [(.not (.isi (.var 0) .tuple)), (.cmp .ne (.bi .len false [(.var 0)]) (.int 6)), (.not (.isi (.ix (.var 0) (.int 1)) .tuple))]) [(.ret (.bl false))] []), (.ite (.or [(.not (.chain .le .le (.int 1) (.bi .len false [(.ix (.var 0) (.int 1))]) (.int 3))), (.not (.bi .all false [(.lc false (.call true "is_whole" [(.var 2), (.int 1), (.int 3)]) (.nm 2) .seq [(.ix (.var 0) (.int 1))] [])]))]) [(.ret (.bl false))] []), (.asg (.nm 1) (.tup [(.tup [(.int 0), (.int 1), (.int 3)]), (.tup [(.int 2), (.int 2), (.int 3)]), (.tup [(.int 3), (.int 1), (.int 3)]), (.tup [(.int 4), (.int 0), (.int 4)]), (.tup [(.int 5), (.int 1), (.int 3)])])), (.ite (.not (.bi .all false [(.lc false (.call true "is_whole" [(.ix (.var 0) (.var 3)), (.var 4), (.var 5)]) (.tup [3, 4, 5]) .seq [(.var 1)] [])])) [(.ret (.bl false))] []), (.ret (.chain .le .le (.bin .mul false (.ix (.var 0) (.int 2)) (.ix (.var 0) (.int 3))) (.bin .mul false (.ix (.var 0) (.int 0)) (.bi .sum false [(.ix (.var 0) (.int 1))])) (.con "CARDS")))]⟩
def f_need_rules : Fn := ⟨1, 1, [(.ite (.not (.call true "is_rules" [(.var 0)])) [(.raise "NoRules" none (.str "no rules"))] [])]⟩
def f_kinds_of : Fn := ⟨1, 3, [(.ret (.lc2 false (.tup [(.var 1), (.var 2)]) (.nm 1) .rng1 [(.ix (.var 0) (.int 0))] [] (.nm 2) .rng2 [(.int 1), (.bin .add false (.bi .len false [(.ix (.var 0) (.int 1))]) (.int 1))] []))]⟩
def f_copies_of : Fn := ⟨2, 2, [(.ret (.ix (.ix (.var 0) (.int 1)) (.bin .sub false (.ix (.var 1) (.int 1)) (.int 1))))]⟩
def f_lot_of : Fn := ⟨1, 3, [(.ret (.lc2 false (.var 1) (.nm 1) .seq [(.call true "kinds_of" [(.var 0)])] [] (.nm 2) .rng1 [(.call true "copies_of" [(.var 0), (.var 1)])] []))]⟩
def f_lot : Fn := ⟨1, 1, [(.expr (.call true "need_rules" [(.var 0)])), (.ret (.call true "lot_of" [(.var 0)]))]⟩
def f_ways : Fn := ⟨1, 3, [(.asg (.nm 1) (.int 1)), (.for_ (.nm 2) .rng2 [(.int 2), (.bin .add false (.var 0) (.int 1))] [(.aug 1 .mul (.var 2))]), (.ret (.var 1))]⟩
def f_count_of : Fn := ⟨1, 3, [(.asg (.nm 1) (.call true "ways" [(.bi .len false [(.call true "lot_of" [(.var 0)])])])), (.for_ (.nm 2) .seq [(.call true "kinds_of" [(.var 0)])] [(.aug 1 .fdiv (.call true "ways" [(.call true "copies_of" [(.var 0), (.var 2)])]))]), (.ret (.var 1))]⟩
def f_how_many : Fn := ⟨1, 1, [(.expr (.call true "need_rules" [(.var 0)])), (.ret (.call true "count_of" [(.var 0)]))]⟩
def f_orders : Fn := ⟨1, 6, [(.ite (.cmp .eq (.var 0) (.lst false [])) [(.ret (.lst false [(.tup [])]))] []), (.par 1 2 (.lst true []) .non), (.for_ (.tup [3, 4]) .enum [(.var 0)] [(.ite (.cmp .ne (.var 4) (.var 2)) [(.expr (.bm .extend false (.var 1) [(.lc false (.bin .add false (.tup [(.var 4)]) (.var 5)) (.nm 5) .seq [(.call true "orders" [(.bin .add false (.slice false (.var 0) none (some (.var 3))) (.slice false (.var 0) (some (.bin .add false (.var 3) (.int 1))) none))])] [])]))] []), (.asg (.nm 2) (.var 4))]), (.ret (.var 1))]⟩
def f_need_few : Fn := ⟨1, 1, [(.ite (.cmp .gt (.call true "count_of" [(.var 0)]) (.con "DECKS")) [(.raise "TooMany" none (.str "too many decks"))] [])]⟩
def f_decks : Fn := ⟨1, 1, [(.expr (.call true "need_rules" [(.var 0)])), (.expr (.call true "need_few" [(.var 0)])), (.ret (.call true "orders" [(.call true "lot_of" [(.var 0)])]))]⟩
def f_is_kind : Fn := ⟨2, 2, [(.ite (.or [(.not (.isi (.var 1) .tuple)), (.cmp .ne (.bi .len false [(.var 1)]) (.int 2))]) [(.ret (.bl false))] []), (.ret (.and [(.call true "is_whole" [(.ix (.var 1) (.int 0)), (.int 0), (.bin .sub false (.ix (.var 0) (.int 0)) (.int 1))]), (.call true "is_whole" [(.ix (.var 1) (.int 1)), (.int 1), (.bi .len false [(.ix (.var 0) (.int 1))])])]))]⟩
def f_good_deck : Fn := ⟨2, 3, [(.ite (.or [(.not (.isi (.var 1) .tuple)), (.not (.bi .all false [(.lc false (.call true "is_kind" [(.var 0), (.var 2)]) (.nm 2) .seq [(.var 1)] [])]))]) [(.ret (.bl false))] []), (.ret (.cmp .eq .bad (.call true "lot_of" [(.var 0)])))]⟩
def f_is_deck : Fn := ⟨2, 2, [(.expr (.call true "need_rules" [(.var 0)])), (.ret (.call true "good_deck" [(.var 0), (.var 1)]))]⟩
def f__law_cell_at : Fn := ⟨2, 4, [(.ite (.cmp .lt (.var 1) (.bi .len false [(.var 0)])) [(.ret (.ix (.var 0) (.var 1)))] []), (.ite (.cmp .eq (.var 0) (.lst false [])) [(.ret (.int 0))] []), (.asg (.nm 2) (.ix (.var 0) (.bin .mod false (.var 1) (.bi .len false [(.var 0)])))), (.for_ (.nm 3) .rng1 [(.bi .min false [(.bin .fdiv false (.var 1) (.bi .len false [(.var 0)])), (.int 60)])] [(.asg (.nm 2) (.bin .fdiv false (.var 2) (.int 1000003)))]), (.ret (.bin .add false (.bin .add false (.bin .mul false (.ix (.var 0) (.bin .mod false (.var 1) (.bi .len false [(.var 0)]))) (.int 31)) (.var 1)) (.bin .mul false (.var 2) (.int 101))))]⟩
def f__law_mixed : Fn := ⟨3, 4, [(.asg (.nm 3) (.bin .mod false (.bin .add false (.bin .add false (.bin .mul false (.call true "_law_cell_at" [(.var 0), (.var 1)]) (.int 1103515245)) (.bin .mul false (.int 7919) (.var 1))) (.int 12345)) (.int 2147483647))), (.ret (.bin .mod false (.bin .mod false (.bin .mod false (.bin .pow false (.var 3) (.int 5)) (.int 2147483647)) (.int 999983)) (.var 2)))]⟩
def f__law_draw : Fn := ⟨3, 3, [(.expr (.bm .append false (.var 1) [(.int 0)])), (.ret (.call true "_law_mixed" [(.var 0), (.bi .len false [(.var 1)]), (.var 2)]))]⟩
def f__law_pick : Fn := ⟨3, 3, [(.ret (.ix (.var 2) (.call false "_law_draw" [(.var 0), (.var 1), (.bi .len false [(.var 2)])])))]⟩
def f__law_some_rules : Fn := ⟨2, 3, [(.asg (.nm 2) (.lst false [(.tup [(.int 2), (.tup [(.int 2), (.int 1)]), (.int 2), (.int 2)]), (.tup [(.int 1), (.tup [(.int 2), (.int 2), (.int 1)]), (.int 2), (.int 2)]), (.tup [(.int 2), (.tup [(.int 2), (.int 1)]), (.int 3), (.int 1)]), (.tup [(.int 2), (.tup [(.int 1), (.int 1)]), (.int 2), (.int 1)]), (.tup [(.int 1), (.tup [(.int 2), (.int 1), (.int 1)]), (.int 2), (.int 1)])])), (.asg (.nm 2) (.bin .add false (.var 2) (.lst false [(.tup [(.int 2), (.tup [(.int 1), (.int 1)]), (.int 2), (.int 2)]), (.tup [(.int 1), (.tup [(.int 3), (.int 2)]), (.int 2), (.int 2)]), (.tup [(.int 1), (.tup [(.int 3), (.int 2), (.int 1)]), (.int 2), (.int 2)]), (.tup [(.int 1), (.tup [(.int 2), (.int 2), (.int 2)]), (.int 3), (.int 2)]), (.tup [(.int 2), (.tup [(.int 2), (.int 1)]), (.int 2), (.int 1)])]))), (.asg (.nm 2) (.bin .add false (.var 2) (.lst false [(.tup [(.int 1), (.tup [(.int 2), (.int 1), (.int 1)]), (.int 3), (.int 1)]), (.tup [(.int 2), (.tup [(.int 2), (.int 1)]), (.int 2), (.int 3)]), (.tup [(.int 2), (.tup [(.int 1), (.int 2)]), (.int 2), (.int 2)]), (.tup [(.int 1), (.tup [(.int 1), (.int 2), (.int 3)]), (.int 2), (.int 2)])]))), (.ret (.bin .add false (.call false "_law_pick" [(.var 0), (.var 1), (.var 2)]) (.tup [(.call false "_law_draw" [(.var 0), (.var 1), (.int 5)]), (.bin .add false (.int 1) (.call false "_law_draw" [(.var 0), (.var 1), (.int 3)]))])))]⟩
def f__law_lot : Fn := ⟨1, 5, [(.asg (.nm 1) (.lst true [])), (.for_ (.nm 2) .rng1 [(.ix (.var 0) (.int 0))] [(.for_ (.tup [3, 4]) .enum [(.ix (.var 0) (.int 1))] [(.expr (.bm .extend false (.var 1) [(.bin .mul false (.lst false [(.tup [(.var 2), (.bin .add false (.var 3) (.int 1))])]) (.var 4))]))])]), (.ret (.var 1))]⟩
def f__law_none : Fn := ⟨2, 3, [(.asg (.nm 2) (.lst true [.non, (.int 5), (.tup []), (.tup [(.int 2), (.tup [(.int 2), (.int 1)]), (.int 2), (.int 2), (.int 2)]), (.lst false [(.int 2), (.tup [(.int 2), (.int 1)]), (.int 2), (.int 2), (.int 2), (.int 1)]), (.tup [(.int 0), (.tup [(.int 2), (.int 1)]), (.int 2), (.int 1), (.int 2), (.int 1)]), (.tup [(.int 4), (.tup [(.int 1)]), (.int 2), (.int 1), (.int 2), (.int 1)])])), (.asg (.nm 2) (.bin .add true (.var 2) (.lst false [(.tup [(.int 2), (.tup []), (.int 2), (.int 1), (.int 2), (.int 1)]), (.tup [(.int 2), (.tup [(.int 1), (.int 1), (.int 1), (.int 1)]), (.int 2), (.int 1), (.int 2), (.int 1)]), (.tup [(.int 2), (.tup [(.int 4)]), (.int 2), (.int 1), (.int 2), (.int 1)]), (.tup [(.int 2), (.tup [(.int 0), (.int 2)]), (.int 2), (.int 1), (.int 2), (.int 1)])]))), (.asg (.nm 2) (.bin .add true (.var 2) (.lst false [(.tup [(.int 2), (.lst false [(.int 2), (.int 1)]), (.int 2), (.int 1), (.int 2), (.int 1)]), (.tup [(.int 2), (.tup [(.int 2), (.int 1)]), (.int 1), (.int 1), (.int 2), (.int 1)]), (.tup [(.int 2), (.tup [(.int 2), (.int 1)]), (.int 4), (.int 1), (.int 2), (.int 1)]), (.tup [(.int 2), (.tup [(.int 2), (.int 1)]), (.int 2), (.int 0), (.int 2), (.int 1)])]))), (.asg (.nm 2) (.bin .add true (.var 2) (.lst false [(.tup [(.int 2), (.tup [(.int 2), (.int 1)]), (.int 2), (.int 4), (.int 2), (.int 1)]), (.tup [(.int 2), (.tup [(.int 2), (.int 1)]), (.int 2), (.int 2), (.int 5), (.int 1)]), (.tup [(.int 2), (.tup [(.int 2), (.int 1)]), (.int 2), (.int 2), (.neg (.int 1)), (.int 1)]), (.tup [(.int 2), (.tup [(.int 2), (.int 1)]), (.int 2), (.int 2), (.int 2), (.int 0)])]))), (.asg (.nm 2) (.bin .add true (.var 2) (.lst false [(.tup [(.int 2), (.tup [(.int 2), (.int 1)]), (.int 2), (.int 2), (.int 2), (.int 4)]), (.tup [(.int 1), (.tup [(.int 1), (.int 1)]), (.int 3), (.int 1), (.int 2), (.int 1)]), (.tup [(.int 3), (.tup [(.int 2), (.int 1)]), (.int 2), (.int 2), (.int 2), (.int 1)])]))), (.expr (.bm .append false (.var 2) [(.tup [(.bl true), (.tup [(.int 2), (.int 1)]), (.int 2), (.int 1), (.int 2), (.int 1)])])), (.expr (.bm .append false (.var 2) [(.tup [(.int 2), (.tup [(.int 2), (.int 2)]), (.int 2), (.int 4), (.int 2), (.int 1)])])), (.ret (.call false "_law_pick" [(.var 0), (.var 1), (.bin .add false (.var 2) (.lst false [(.str "rules"), (.tup [(.int 2), (.tup [(.int 2), (.str "1")]), (.int 2), (.int 1), (.int 2), (.int 1)]), (.tup [(.int 2), (.tup [(.int 2), (.int 1)]), (.int 2), (.int 1), (.int 2), (.bl true)])]))]))]⟩
def f__law_ask : Fn := ⟨2, 3, [(.try_ kn [(.ret (.ife (.cmp .eq (.var 0) (.int 0)) (.call true "is_deck" [(.var 1), .non]) (.callV true ["lot", "how_many", "decks"] (.ix (.lst false [(.glo "lot"), (.glo "how_many"), (.glo "decks")]) (.bin .sub false (.var 0) (.int 1))) [(.var 1)])))] [("HandError", (some 2), (.ret .which))])]⟩
def f_law : Fn := ⟨1, 7, [(.asg (.nm 1) (.lst true [])), (.asg (.nm 2) (.call false "_law_some_rules" [(.var 0), (.var 1)])), (.ite (.or [(.cmp .isNot (.call true "is_rules" [(.var 2)]) (.bl true)), (.cmp .ne (.call true "lot" [(.var 2)]) (.call true "_law_lot" [(.var 2)]))]) [(.ret (.bl false))] []), (.asg (.nm 3) (.call false "_law_none" [(.var 0), (.var 1)])), (.ite (.or [(.cmp .isNot (.call true "is_rules" [(.var 3)]) (.bl false)), (.cmp .ne (.lc false (.call true "_law_ask" [(.var 6), (.var 3)]) (.nm 6) .rng1 [(.int 4)] []) (.bin .mul false (.lst false [(.tup [(.str "refused"), (.int 0)])]) (.int 4)))]) [(.ret (.bl false))] []), (.asg (.nm 4) (.call false "_law_draw" [(.var 0), (.var 1), (.int 6)])), (.asg (.nm 5) (.call false "_law_pick" [(.var 0), (.var 1), (.lst false [.non, (.neg (.int 1)), (.int 9), (.str "2"), (.bl true), (.ife (.cmp .ne (.var 4) (.int 1)) (.tup [(.int 2)]) (.tup [(.int 4)])), (.lst false [(.int 2), (.int 1)])])])), (.ite (.cmp .isNot (.call true "is_rules" [(.bin .add false (.bin .add false (.slice false (.var 2) none (some (.var 4))) (.tup [(.var 5)])) (.slice false (.var 2) (some (.bin .add false (.var 4) (.int 1))) none))]) (.bl false)) [(.ret (.bl false))] []), (.ite (.or [(.cmp .ne (.call true "_law_ask" [(.int 3), (.tup [(.int 2), (.tup [(.int 2), (.int 1), (.int 1)]), (.int 2), (.int 2), (.int 0), (.int 1)])]) (.tup [(.str "refused"), (.int 10)])), (.cmp .ne (.call true "how_many" [(.tup [(.int 2), (.tup [(.int 2), (.int 1), (.int 1)]), (.int 2), (.int 2), (.int 0), (.int 1)])]) (.int 10080))]) [(.ret (.bl false))] []), (.ret (.and [(.cmp .is (.call true "is_rules" [(.tup [(.int 1), (.tup [(.int 3), (.int 3)]), (.int 3), (.int 2), (.int 4), (.int 3)])]) (.bl true)), (.cmp .is (.call true "is_rules" [(.tup [(.int 3), (.tup [(.int 1)]), (.int 3), (.int 1), (.int 0), (.int 1)])]) (.bl true))]))]⟩
def top (i : Nat) : Stmt := PySem.Challenge.pw_blindhands_k01_rules.main.body.getD i (.Pass ⟨0, 0, 0, 0⟩)
def d_is_whole : He.DefD := ⟨("is_whole", none), "is_whole", "is_whole", defArgs (top 19), defBody (top 19), defScope (top 19), [], []⟩
def d_is_rules : He.DefD := ⟨("is_rules", none), "is_rules", "is_rules", defArgs (top 20), defBody (top 20), defScope (top 20), [], []⟩
def d_need_rules : He.DefD := ⟨("need_rules", none), "need_rules", "need_rules", defArgs (top 21), defBody (top 21), defScope (top 21), [], []⟩
def d_kinds_of : He.DefD := ⟨("kinds_of", none), "kinds_of", "kinds_of", defArgs (top 22), defBody (top 22), defScope (top 22), [], []⟩
def d_copies_of : He.DefD := ⟨("copies_of", none), "copies_of", "copies_of", defArgs (top 23), defBody (top 23), defScope (top 23), [], []⟩
def d_lot_of : He.DefD := ⟨("lot_of", none), "lot_of", "lot_of", defArgs (top 24), defBody (top 24), defScope (top 24), [], []⟩
def d_lot : He.DefD := ⟨("lot", none), "lot", "lot", defArgs (top 25), defBody (top 25), defScope (top 25), [], []⟩
def d_ways : He.DefD := ⟨("ways", none), "ways", "ways", defArgs (top 26), defBody (top 26), defScope (top 26), [], []⟩
def d_count_of : He.DefD := ⟨("count_of", none), "count_of", "count_of", defArgs (top 27), defBody (top 27), defScope (top 27), [], []⟩
def d_how_many : He.DefD := ⟨("how_many", none), "how_many", "how_many", defArgs (top 28), defBody (top 28), defScope (top 28), [], []⟩
def d_orders : He.DefD := ⟨("orders", none), "orders", "orders", defArgs (top 29), defBody (top 29), defScope (top 29), [], []⟩
def d_need_few : He.DefD := ⟨("need_few", none), "need_few", "need_few", defArgs (top 30), defBody (top 30), defScope (top 30), [], []⟩
def d_decks : He.DefD := ⟨("decks", none), "decks", "decks", defArgs (top 31), defBody (top 31), defScope (top 31), [], []⟩
def d_is_kind : He.DefD := ⟨("is_kind", none), "is_kind", "is_kind", defArgs (top 32), defBody (top 32), defScope (top 32), [], []⟩
def d_good_deck : He.DefD := ⟨("good_deck", none), "good_deck", "good_deck", defArgs (top 33), defBody (top 33), defScope (top 33), [], []⟩
def d_is_deck : He.DefD := ⟨("is_deck", none), "is_deck", "is_deck", defArgs (top 34), defBody (top 34), defScope (top 34), [], []⟩
def d__law_cell_at : He.DefD := ⟨("_law_cell_at", none), "_law_cell_at", "_law_cell_at", defArgs (top 36), defBody (top 36), defScope (top 36), [], []⟩
def d__law_mixed : He.DefD := ⟨("_law_mixed", none), "_law_mixed", "_law_mixed", defArgs (top 37), defBody (top 37), defScope (top 37), [], []⟩
def d__law_draw : He.DefD := ⟨("_law_draw", none), "_law_draw", "_law_draw", defArgs (top 38), defBody (top 38), defScope (top 38), [], []⟩
def d__law_pick : He.DefD := ⟨("_law_pick", none), "_law_pick", "_law_pick", defArgs (top 39), defBody (top 39), defScope (top 39), [], []⟩
def d__law_some_rules : He.DefD := ⟨("_law_some_rules", none), "_law_some_rules", "_law_some_rules", defArgs (top 40), defBody (top 40), defScope (top 40), [], []⟩
def d__law_lot : He.DefD := ⟨("_law_lot", none), "_law_lot", "_law_lot", defArgs (top 41), defBody (top 41), defScope (top 41), [], []⟩
def d__law_which : He.DefD := ⟨("_law_which", none), "_law_which", "_law_which", defArgs (top 42), defBody (top 42), defScope (top 42), [], []⟩
def d__law_none : He.DefD := ⟨("_law_none", none), "_law_none", "_law_none", defArgs (top 43), defBody (top 43), defScope (top 43), [], []⟩
def d__law_ask : He.DefD := ⟨("_law_ask", none), "_law_ask", "_law_ask", defArgs (top 44), defBody (top 44), defScope (top 44), [], []⟩
def d_law : He.DefD := ⟨("law", none), "law", "law", defArgs (top 45), defBody (top 45), defScope (top 45), [], []⟩
def m_is_whole : MD := ⟨"is_whole", d_is_whole, ["thing", "low", "high"], ["thing", "low", "high"], f_is_whole⟩
def m_is_rules : MD := ⟨"is_rules", d_is_rules, ["thing", "bounds", "many", "at", "low", "high"], ["thing"], f_is_rules⟩
def m_need_rules : MD := ⟨"need_rules", d_need_rules, ["thing"], ["thing"], f_need_rules⟩
def m_kinds_of : MD := ⟨"kinds_of", d_kinds_of, ["rules", "colour", "rank"], ["rules"], f_kinds_of⟩
def m_copies_of : MD := ⟨"copies_of", d_copies_of, ["rules", "kind"], ["rules", "kind"], f_copies_of⟩
def m_lot_of : MD := ⟨"lot_of", d_lot_of, ["rules", "kind", "turn"], ["rules"], f_lot_of⟩
def m_lot : MD := ⟨"lot", d_lot, ["rules"], ["rules"], f_lot⟩
def m_ways : MD := ⟨"ways", d_ways, ["many", "made", "number"], ["many"], f_ways⟩
def m_count_of : MD := ⟨"count_of", d_count_of, ["rules", "made", "kind"], ["rules"], f_count_of⟩
def m_how_many : MD := ⟨"how_many", d_how_many, ["rules"], ["rules"], f_how_many⟩
def m_orders : MD := ⟨"orders", d_orders, ["left", "made", "last", "at", "kind", "rest"], ["left"], f_orders⟩
def m_need_few : MD := ⟨"need_few", d_need_few, ["rules"], ["rules"], f_need_few⟩
def m_decks : MD := ⟨"decks", d_decks, ["rules"], ["rules"], f_decks⟩
def m_is_kind : MD := ⟨"is_kind", d_is_kind, ["rules", "thing"], ["rules", "thing"], f_is_kind⟩
def m_good_deck : MD := ⟨"good_deck", d_good_deck, ["rules", "thing", "card"], ["rules", "thing"], f_good_deck⟩
def m_is_deck : MD := ⟨"is_deck", d_is_deck, ["rules", "thing"], ["rules", "thing"], f_is_deck⟩
def m__law_cell_at : MD := ⟨"_law_cell_at", d__law_cell_at, ["script", "k", "rest", "again"], ["script", "k"], f__law_cell_at⟩
def m__law_mixed : MD := ⟨"_law_mixed", d__law_mixed, ["script", "k", "bound", "drawn"], ["script", "k", "bound"], f__law_mixed⟩
def m__law_draw : MD := ⟨"_law_draw", d__law_draw, ["script", "town", "bound"], ["script", "town", "bound"], f__law_draw⟩
def m__law_pick : MD := ⟨"_law_pick", d__law_pick, ["script", "town", "some"], ["script", "town", "some"], f__law_pick⟩
def m__law_some_rules : MD := ⟨"_law_some_rules", d__law_some_rules, ["script", "town", "some"], ["script", "town"], f__law_some_rules⟩
def m__law_lot : MD := ⟨"_law_lot", d__law_lot, ["rules", "made", "colour", "number", "many"], ["rules"], f__law_lot⟩
def m__law_none : MD := ⟨"_law_none", d__law_none, ["script", "town", "some"], ["script", "town"], f__law_none⟩
def m__law_ask : MD := ⟨"_law_ask", d__law_ask, ["what", "thing", "e"], ["what", "thing"], f__law_ask⟩
def m_law : MD := ⟨"law", d_law, ["script", "town", "rules", "bad", "at", "wrong", "what"], ["script"], f_law⟩
def fnN : List Str := ["is_whole", "is_rules", "need_rules", "kinds_of", "copies_of", "lot_of", "lot", "ways", "count_of", "how_many", "orders", "need_few", "decks", "is_kind", "good_deck", "is_deck", "_law_cell_at", "_law_mixed", "_law_draw", "_law_pick", "_law_some_rules", "_law_lot", "_law_none", "_law_ask", "law"]
def conM (x : Str) : Option D := ([("CARDS", 8), ("DECKS", 2000)] : List (Str × Int)).lookup x |>.map D.int
def mo : Mo := ⟨[m_is_whole, m_is_rules, m_need_rules, m_kinds_of, m_copies_of, m_lot_of, m_lot, m_ways, m_count_of, m_how_many, m_orders, m_need_few, m_decks, m_is_kind, m_good_deck, m_is_deck, m__law_cell_at, m__law_mixed, m__law_draw, m__law_pick, m__law_some_rules, m__law_lot, m__law_none, m__law_ask, m_law], ⟨fnN, [], [], []⟩, conM, ["CARDS", "DECKS"], ["all", "bool", "enumerate", "int", "isinstance", "len", "min", "range", "sum", "tuple"], kn, ⟨["HandError"], kn, true⟩⟩
def fnD : List He.DefD := [d_is_whole, d_is_rules, d_need_rules, d_kinds_of, d_copies_of, d_lot_of, d_lot, d_ways, d_count_of, d_how_many, d_orders, d_need_few, d_decks, d_is_kind, d_good_deck, d_is_deck, d__law_cell_at, d__law_mixed, d__law_draw, d__law_pick, d__law_some_rules, d__law_lot, d__law_which, d__law_none, d__law_ask, d_law]
def names : List PySem.Str := (["__name__", "HandError", "NoRules", "NoDeck", "NoLine", "NoPlayer", "NoSaying", "NoWords", "NoPlan", "NoMove", "NoCount", "NoText", "TooMany", "NotLast", "NotSo", "Nothing", "CARDS", "DECKS", "is_whole", "is_rules", "need_rules", "kinds_of", "copies_of", "lot_of", "lot", "ways", "count_of", "how_many", "orders", "need_few"] : List PySem.Str) ++ (["decks", "is_kind", "good_deck", "is_deck", "_law_cell_at", "_law_mixed", "_law_draw", "_law_pick", "_law_some_rules", "_law_lot", "_law_which", "_law_none", "_law_ask"] : List PySem.Str)
-- LAWIX 45
end Bh

set_option maxHeartbeats 0
namespace Bh
open PySem
abbrev cN (n : Nat) : CallT := callF mo.con mo.tbl n
def rl : List (List D) := [[.int 2, .tup [.int 2, .int 1], .int 2, .int 2], [.int 1, .tup [.int 2, .int 2, .int 1], .int 2, .int 2], [.int 2, .tup [.int 2, .int 1], .int 3, .int 1], [.int 2, .tup [.int 1, .int 1], .int 2, .int 1], [.int 1, .tup [.int 2, .int 1, .int 1], .int 2, .int 1],
  [.int 2, .tup [.int 1, .int 1], .int 2, .int 2], [.int 1, .tup [.int 3, .int 2], .int 2, .int 2], [.int 1, .tup [.int 3, .int 2, .int 1], .int 2, .int 2], [.int 1, .tup [.int 2, .int 2, .int 2], .int 3, .int 2], [.int 2, .tup [.int 2, .int 1], .int 2, .int 1],
  [.int 1, .tup [.int 2, .int 1, .int 1], .int 3, .int 1], [.int 2, .tup [.int 2, .int 1], .int 2, .int 3], [.int 2, .tup [.int 1, .int 2], .int 2, .int 2], [.int 1, .tup [.int 1, .int 2, .int 3], .int 2, .int 2]]
def rls (i j k : Nat) : List D := rl.getD i [] ++ [.int (j : Nat), .int (1 + (k : Nat))]
abbrev I3 := Nat × Nat × Nat
def cA : List I3 := (List.range 14).flatMap fun i => (List.range 5).flatMap fun j => (List.range 3).map fun k => (i, j, k)
def sL (i : Nat) : Sm := f_law.body.getD i .bad

def cJK : List (Nat × Nat) := (List.range 5).flatMap fun j => (List.range 3).map fun k => (j, k)
def wr (a : Nat) : List D := [.non, .int (-1), .int 9, .str "2", .bl true, if a = 1 then .tup [.int 4] else .tup [.int 2], .lst [.int 2, .int 1]]
def cJW : List I3 := (List.range 5).flatMap fun j => (List.range 3).flatMap fun k => (List.range 7).map fun w => (j, k, w)
def frA (ns : List Int) (i : Nat) (v : Nat × Nat) : Fr := [some (.scr ns), some (.ref 0), some (.tup (rls i v.1 v.2)), none, none, none, none]
def frC (ns : List Int) (i a : Nat) (b : D) (v : I3) : Fr := [some (.scr ns), some (.ref 0), some (.tup (rls i v.1 v.2.1)), some b, some (.int (a : Nat)), some ((wr a).getD v.2.2 .non), none]
abbrev PA_ (i : Nat) : Prop := ∀ (ns : List Int) (S : Store), cJK.map (fun v => ex mo.con (cN 23) (sL 2) (frA ns i v) S) = cJK.map (fun v => .next (frA ns i v) S)
abbrev PC_ (i a : Nat) : Prop := ∀ (ns : List Int) (b : D) (S : Store), cJW.map (fun v => ex mo.con (cN 23) (sL 7) (frC ns i a b v) S) = cJW.map (fun v => .next (frC ns i a b v) S)

theorem tA_0 : PA_ 0 := by intro ns S; kernel_rfl
theorem tA_1 : PA_ 1 := by intro ns S; kernel_rfl
theorem tA_2 : PA_ 2 := by intro ns S; kernel_rfl
theorem tA_3 : PA_ 3 := by intro ns S; kernel_rfl
theorem tA_4 : PA_ 4 := by intro ns S; kernel_rfl
theorem tA_5 : PA_ 5 := by intro ns S; kernel_rfl
theorem tA_6 : PA_ 6 := by intro ns S; kernel_rfl
theorem tA_7 : PA_ 7 := by intro ns S; kernel_rfl
theorem tA_8 : PA_ 8 := by intro ns S; kernel_rfl
theorem tA_9 : PA_ 9 := by intro ns S; kernel_rfl
theorem tA_10 : PA_ 10 := by intro ns S; kernel_rfl
theorem tA_11 : PA_ 11 := by intro ns S; kernel_rfl
theorem tA_12 : PA_ 12 := by intro ns S; kernel_rfl
theorem tA_13 : PA_ 13 := by intro ns S; kernel_rfl
end Bh

set_option maxHeartbeats 0
namespace Bh
open PySem
theorem tC_0_0 : PC_ 0 0 := by intro ns b S; kernel_rfl
theorem tC_0_1 : PC_ 0 1 := by intro ns b S; kernel_rfl
theorem tC_0_2 : PC_ 0 2 := by intro ns b S; kernel_rfl
theorem tC_0_3 : PC_ 0 3 := by intro ns b S; kernel_rfl
theorem tC_0_4 : PC_ 0 4 := by intro ns b S; kernel_rfl
theorem tC_0_5 : PC_ 0 5 := by intro ns b S; kernel_rfl
theorem tC_1_0 : PC_ 1 0 := by intro ns b S; kernel_rfl
theorem tC_1_1 : PC_ 1 1 := by intro ns b S; kernel_rfl
theorem tC_1_2 : PC_ 1 2 := by intro ns b S; kernel_rfl
theorem tC_1_3 : PC_ 1 3 := by intro ns b S; kernel_rfl
theorem tC_1_4 : PC_ 1 4 := by intro ns b S; kernel_rfl
theorem tC_1_5 : PC_ 1 5 := by intro ns b S; kernel_rfl
theorem tC_2_0 : PC_ 2 0 := by intro ns b S; kernel_rfl
theorem tC_2_1 : PC_ 2 1 := by intro ns b S; kernel_rfl
theorem tC_2_2 : PC_ 2 2 := by intro ns b S; kernel_rfl
theorem tC_2_3 : PC_ 2 3 := by intro ns b S; kernel_rfl
theorem tC_2_4 : PC_ 2 4 := by intro ns b S; kernel_rfl
theorem tC_2_5 : PC_ 2 5 := by intro ns b S; kernel_rfl
theorem tC_3_0 : PC_ 3 0 := by intro ns b S; kernel_rfl
theorem tC_3_1 : PC_ 3 1 := by intro ns b S; kernel_rfl
theorem tC_3_2 : PC_ 3 2 := by intro ns b S; kernel_rfl
theorem tC_3_3 : PC_ 3 3 := by intro ns b S; kernel_rfl
theorem tC_3_4 : PC_ 3 4 := by intro ns b S; kernel_rfl
theorem tC_3_5 : PC_ 3 5 := by intro ns b S; kernel_rfl
theorem tC_4_0 : PC_ 4 0 := by intro ns b S; kernel_rfl
theorem tC_4_1 : PC_ 4 1 := by intro ns b S; kernel_rfl
theorem tC_4_2 : PC_ 4 2 := by intro ns b S; kernel_rfl
theorem tC_4_3 : PC_ 4 3 := by intro ns b S; kernel_rfl
theorem tC_4_4 : PC_ 4 4 := by intro ns b S; kernel_rfl
theorem tC_4_5 : PC_ 4 5 := by intro ns b S; kernel_rfl
theorem tC_5_0 : PC_ 5 0 := by intro ns b S; kernel_rfl
theorem tC_5_1 : PC_ 5 1 := by intro ns b S; kernel_rfl
theorem tC_5_2 : PC_ 5 2 := by intro ns b S; kernel_rfl
theorem tC_5_3 : PC_ 5 3 := by intro ns b S; kernel_rfl
theorem tC_5_4 : PC_ 5 4 := by intro ns b S; kernel_rfl
theorem tC_5_5 : PC_ 5 5 := by intro ns b S; kernel_rfl
theorem tC_6_0 : PC_ 6 0 := by intro ns b S; kernel_rfl
theorem tC_6_1 : PC_ 6 1 := by intro ns b S; kernel_rfl
theorem tC_6_2 : PC_ 6 2 := by intro ns b S; kernel_rfl
theorem tC_6_3 : PC_ 6 3 := by intro ns b S; kernel_rfl
theorem tC_6_4 : PC_ 6 4 := by intro ns b S; kernel_rfl
theorem tC_6_5 : PC_ 6 5 := by intro ns b S; kernel_rfl
theorem tC_7_0 : PC_ 7 0 := by intro ns b S; kernel_rfl
theorem tC_7_1 : PC_ 7 1 := by intro ns b S; kernel_rfl
theorem tC_7_2 : PC_ 7 2 := by intro ns b S; kernel_rfl
theorem tC_7_3 : PC_ 7 3 := by intro ns b S; kernel_rfl
theorem tC_7_4 : PC_ 7 4 := by intro ns b S; kernel_rfl
theorem tC_7_5 : PC_ 7 5 := by intro ns b S; kernel_rfl
theorem tC_8_0 : PC_ 8 0 := by intro ns b S; kernel_rfl
theorem tC_8_1 : PC_ 8 1 := by intro ns b S; kernel_rfl
theorem tC_8_2 : PC_ 8 2 := by intro ns b S; kernel_rfl
theorem tC_8_3 : PC_ 8 3 := by intro ns b S; kernel_rfl
theorem tC_8_4 : PC_ 8 4 := by intro ns b S; kernel_rfl
theorem tC_8_5 : PC_ 8 5 := by intro ns b S; kernel_rfl
theorem tC_9_0 : PC_ 9 0 := by intro ns b S; kernel_rfl
theorem tC_9_1 : PC_ 9 1 := by intro ns b S; kernel_rfl
theorem tC_9_2 : PC_ 9 2 := by intro ns b S; kernel_rfl
theorem tC_9_3 : PC_ 9 3 := by intro ns b S; kernel_rfl
theorem tC_9_4 : PC_ 9 4 := by intro ns b S; kernel_rfl
theorem tC_9_5 : PC_ 9 5 := by intro ns b S; kernel_rfl
theorem tC_10_0 : PC_ 10 0 := by intro ns b S; kernel_rfl
theorem tC_10_1 : PC_ 10 1 := by intro ns b S; kernel_rfl
theorem tC_10_2 : PC_ 10 2 := by intro ns b S; kernel_rfl
theorem tC_10_3 : PC_ 10 3 := by intro ns b S; kernel_rfl
theorem tC_10_4 : PC_ 10 4 := by intro ns b S; kernel_rfl
theorem tC_10_5 : PC_ 10 5 := by intro ns b S; kernel_rfl
theorem tC_11_0 : PC_ 11 0 := by intro ns b S; kernel_rfl
theorem tC_11_1 : PC_ 11 1 := by intro ns b S; kernel_rfl
theorem tC_11_2 : PC_ 11 2 := by intro ns b S; kernel_rfl
theorem tC_11_3 : PC_ 11 3 := by intro ns b S; kernel_rfl
theorem tC_11_4 : PC_ 11 4 := by intro ns b S; kernel_rfl
theorem tC_11_5 : PC_ 11 5 := by intro ns b S; kernel_rfl
theorem tC_12_0 : PC_ 12 0 := by intro ns b S; kernel_rfl
theorem tC_12_1 : PC_ 12 1 := by intro ns b S; kernel_rfl
theorem tC_12_2 : PC_ 12 2 := by intro ns b S; kernel_rfl
theorem tC_12_3 : PC_ 12 3 := by intro ns b S; kernel_rfl
theorem tC_12_4 : PC_ 12 4 := by intro ns b S; kernel_rfl
theorem tC_12_5 : PC_ 12 5 := by intro ns b S; kernel_rfl
theorem tC_13_0 : PC_ 13 0 := by intro ns b S; kernel_rfl
theorem tC_13_1 : PC_ 13 1 := by intro ns b S; kernel_rfl
theorem tC_13_2 : PC_ 13 2 := by intro ns b S; kernel_rfl
theorem tC_13_3 : PC_ 13 3 := by intro ns b S; kernel_rfl
theorem tC_13_4 : PC_ 13 4 := by intro ns b S; kernel_rfl
theorem tC_13_5 : PC_ 13 5 := by intro ns b S; kernel_rfl
end Bh

set_option maxHeartbeats 4000000
namespace Bh
open PySem
theorem exs_app {con : Str → Option D} {call : CallT} : ∀ (a b : List Sm) (s : Fr) (S : Store) (s' : Fr) (S' : Store), exs con call a s S = .next s' S' → exs con call (a ++ b) s S = exs con call b s' S'
  | [], b, s, S, s', S', h => by simp only [exs] at h; cases h; rfl
  | t :: a, b, s, S, s', S', h => by
    simp only [List.cons_append, exs] at h ⊢
    cases e : ex con call t s S with
    | next s1 S1 => rw [e] at h; exact exs_app a b s1 S1 s' S' h
    | cont s1 S1 => rw [e] at h; cases h
    | ret d S1 => rw [e] at h; cases h
    | exc c x s1 S1 => rw [e] at h; cases h
    | bad => rw [e] at h; cases h
theorem exs_one {con : Str → Option D} {call : CallT} {t : Sm} {b : List Sm} {s : Fr} {S : Store} {s' : Fr} {S' : Store} (h : ex con call t s S = .next s' S') : exs con call (t :: b) s S = exs con call b s' S' := by
  simp only [exs, h]
theorem run_ret {con : Str → Option D} {call : CallT} {f : Fn} {ds : List D} {S : Store} {d : D} {S' : Store} (hn : ds.length = f.np) (h : exs con call f.body (start f.np f.nn ds) S = .ret d S') : runF con call f ds S = .ok d S' := by
  unfold runF
  rw [if_pos hn, h]
/-- what is drawn from a script, whatever the fuel -/
structure Dr (con : Str → Option D) (tbl : Str → Option Fn) (ns : List Int) : Prop where
  draw : ∀ k : Nat, ∃ x : Int, 0 ≤ x ∧ ∀ (m : Nat) (b : Int) (t : Nat) (l : List D) (S : Store), 3 ≤ m → l.length = k → k < 900000 → 0 < b → S[t]? = some (.lst l) → callF con tbl m "_law_draw" [.scr ns, .ref t, .int b] S = .ok (.int (x % b)) (S.set t (.lst (l ++ [.int 0])))
theorem dr_ok {con : Str → Option D} {tbl : Str → Option Fn} (h1 : tbl "_law_cell_at" = some irCell) (h2 : tbl "_law_mixed" = some irMixed) (h3 : tbl "_law_draw" = some irDraw) (ns : List Int) (hl : ns.length ≤ 63) : Dr con tbl ns := by
  obtain ⟨mx, m0, h⟩ := draws (con := con) h1 h2 h3 ns hl
  refine ⟨fun k => ⟨mx k, m0 k, fun m b t l S hm hk hk2 hb ht => ?_⟩⟩
  subst hk
  have e := h b t l S hb ht hk2
  rw [callF_le hm "_law_draw" _ S (by rw [e]; simp), e]
def irPick : Fn := ⟨3, 3, [(.ret (.ix (.var 2) (.call false "_law_draw" [(.var 0), (.var 1), (.bi .len false [(.var 2)])])))]⟩
section
variable {con : Str → Option D} {tbl : Str → Option Fn} {ns : List Int}
/-- a draw as a whole number below its bound -/
theorem Dr.num (d : Dr con tbl ns) (k b : Nat) (hk : k < 900000) (hb : 0 < b) : ∃ r : Nat, r < b ∧ ∀ (m t : Nat) (l : List D) (S : Store), 3 ≤ m → l.length = k → S[t]? = some (.lst l) → callF con tbl m "_law_draw" [.scr ns, .ref t, .int (b : Nat)] S = .ok (.int (r : Nat)) (S.set t (.lst (l ++ [.int 0]))) := by
  obtain ⟨x, x0, h⟩ := d.draw k
  have hb' : (0 : Int) < (b : Int) := by omega
  have h1 := Int.emod_nonneg x (Int.ne_of_gt hb')
  have h2 := Int.emod_lt_of_pos x hb'
  refine ⟨(x % (b : Int)).toNat, by omega, fun m t l S hm hl ht => ?_⟩
  rw [h m (b : Int) t l S hm hl hk hb' ht, Int.toNat_of_nonneg h1]
theorem Dr.pick (d : Dr con tbl ns) (hp : tbl "_law_pick" = some irPick) (k : Nat) (L : List D) (hk : k < 900000) (hL : 0 < L.length) : ∃ r : Nat, r < L.length ∧ ∀ (m t : Nat) (l : List D) (S : Store), 4 ≤ m → l.length = k → S[t]? = some (.lst l) → callF con tbl m "_law_pick" [.scr ns, .ref t, .lst L] S = .ok (L.getD r .non) (S.set t (.lst (l ++ [.int 0]))) := by
  obtain ⟨r, hr, h⟩ := d.num k L.length hk hL
  refine ⟨r, hr, fun m t l S hm hl ht => ?_⟩
  obtain ⟨m, rfl⟩ : ∃ m', m = m' + 1 := ⟨m - 1, by omega⟩
  rw [callF, hp]
  refine run_ret rfl ?_
  have e := h m t l S (by omega) hl ht
  have eg : L.getD r .non = L[r] := by simp [List.getD_eq_getElem?_getD, hr]
  rw [eg]
  show exs con (callF con tbl m) irPick.body [some (.scr ns), some (.ref t), some (.lst L)] S = _
  simp only [irPick, exs, ex, ev, evs, R.bind, List.getElem?_cons_zero, List.getElem?_cons_succ, biE, lenE, look, Option.map_some, R.ofO, callM, Bool.false_eq_true, if_false, e, ixE, atI_nat L r hr, R.thn]
end
theorem tb_cell : mo.tbl "_law_cell_at" = some irCell := by kernel_rfl
theorem tb_mixed : mo.tbl "_law_mixed" = some irMixed := by kernel_rfl
theorem tb_draw : mo.tbl "_law_draw" = some irDraw := by kernel_rfl
theorem tb_pick : mo.tbl "_law_pick" = some irPick := by kernel_rfl
theorem tb_some : mo.tbl "_law_some_rules" = some f__law_some_rules := by kernel_rfl
theorem tb_none : mo.tbl "_law_none" = some f__law_none := by kernel_rfl
theorem tb_law : mo.tbl "law" = some f_law := by kernel_rfl
def z (n : Nat) : List D := List.replicate n (.int 0)
theorem rl_len : ∀ i, i < 14 → (rl.getD i []).length = 4 := by decide
theorem rl_get : ∀ i, i < 14 → (rl.map D.tup).getD i .non = .tup (rl.getD i []) := by decide
theorem some_ok {ns : List Int} (d : Dr mo.con mo.tbl ns) : ∃ i j k, i < 14 ∧ j < 5 ∧ k < 3 ∧ cN 23 "_law_some_rules" [.scr ns, .ref 0] [.lst []] = .ok (.tup (rls i j k)) [.lst (z 3)] := by
  obtain ⟨i, hi, h1⟩ := d.pick tb_pick 0 (rl.map D.tup) (by decide) (by decide)
  obtain ⟨j, hj, h2⟩ := d.num 1 5 (by decide) (by decide)
  obtain ⟨k, hk, h3⟩ := d.num 2 3 (by decide) (by decide)
  have hi' : i < 14 := hi
  refine ⟨i, j, k, hi', hj, hk, ?_⟩
  have e0 : exs mo.con (cN 22) (f__law_some_rules.body.take 3) [some (.scr ns), some (.ref 0), none] [.lst []] = .next [some (.scr ns), some (.ref 0), some (.lst (rl.map D.tup))] [.lst []] := by kernel_rfl
  have g1 := h1 22 0 [] [.lst []] (by decide) rfl rfl
  have g2 := h2 22 0 (z 1) [.lst (z 1)] (by decide) rfl rfl
  have g3 := h3 22 0 (z 2) [.lst (z 2)] (by decide) rfl rfl
  have er : (rl.map D.tup).getD i .non = .tup (rl.getD i []) := rl_get i hi'
  rw [er] at g1
  show callF mo.con mo.tbl (22 + 1) "_law_some_rules" _ _ = _
  rw [callF, tb_some]
  refine run_ret rfl ?_
  show exs mo.con (cN 22) (f__law_some_rules.body.take 3 ++ f__law_some_rules.body.drop 3) [some (.scr ns), some (.ref 0), none] [.lst []] = _
  rw [exs_app _ _ _ _ _ _ e0]
  have eb : f__law_some_rules.body.drop 3 = [(.ret (.bin .add false (.call false "_law_pick" [(.var 0), (.var 1), (.var 2)]) (.tup [(.call false "_law_draw" [(.var 0), (.var 1), (.int 5)]), (.bin .add false (.int 1) (.call false "_law_draw" [(.var 0), (.var 1), (.int 3)]))])))] := rfl
  rw [eb]
  have s1 : ([.lst []] : Store).set 0 (.lst ([] ++ [.int 0])) = [.lst (z 1)] := rfl
  have s2 : ([.lst (z 1)] : Store).set 0 (.lst (z 1 ++ [.int 0])) = [.lst (z 2)] := rfl
  have s3 : ([.lst (z 2)] : Store).set 0 (.lst (z 2 ++ [.int 0])) = [.lst (z 3)] := rfl
  rw [s1] at g1
  rw [s2] at g2
  rw [s3] at g3
  have hz : 2 ≤ sizeLine := by rw [sizeLine_eq]; decide
  have hz6 : (rl.getD i []).length + 2 ≤ sizeLine := by rw [rl_len i hi', sizeLine_eq]; decide
  have g2' : callF mo.con mo.tbl 22 "_law_draw" [.scr ns, .ref 0, .int 5] [.lst (z 1)] = .ok (.int (j : Nat)) [.lst (z 2)] := g2
  have g3' : callF mo.con mo.tbl 22 "_law_draw" [.scr ns, .ref 0, .int 3] [.lst (z 2)] = .ok (.int (k : Nat)) [.lst (z 3)] := g3
  simp only [exs, ex, ev, evs, R.bind, List.getElem?_cons_zero, List.getElem?_cons_succ, callM, Bool.false_eq_true, if_false, g1, g2', g3', binE, List.length_cons, List.length_nil, if_pos hz, if_pos hz6, R.thn, rls]
def stB : F := exs mo.con (cN 0) (f__law_none.body.take 7) [none, some (.ref 0), none] [.lst (z 3)]
def garb : Store := match stB with
  | .next _ S => S.drop 1
  | _ => []
def badL : List D := match ev mo.con (cN 0) (.bin .add false (.var 2) (.lst false [(.str "rules"), (.tup [(.int 2), (.tup [(.int 2), (.str "1")]), (.int 2), (.int 1), (.int 2), (.int 1)]), (.tup [(.int 2), (.tup [(.int 2), (.int 1)]), (.int 2), (.int 1), (.int 2), (.bl true)])])) [none, some (.ref 0), some (.ref 5)] (.lst (z 3) :: garb) with
  | .ok (.lst l) _ => l
  | _ => []
theorem none_ok {ns : List Int} (d : Dr mo.con mo.tbl ns) : ∃ r, r < 27 ∧ cN 23 "_law_none" [.scr ns, .ref 0] [.lst (z 3)] = .ok (badL.getD r .non) (.lst (z 4) :: garb) := by
  have hb : badL.length = 27 := by kernel_rfl
  obtain ⟨r, hr, h1⟩ := d.pick tb_pick 3 badL (by decide) (by rw [hb]; decide)
  refine ⟨r, by rw [← hb]; exact hr, ?_⟩
  have e0 : exs mo.con (cN 22) (f__law_none.body.take 7) [some (.scr ns), some (.ref 0), none] [.lst (z 3)] = .next [some (.scr ns), some (.ref 0), some (.ref 5)] (.lst (z 3) :: garb) := by kernel_rfl
  have e1 : ev mo.con (cN 22) (.bin .add false (.var 2) (.lst false [(.str "rules"), (.tup [(.int 2), (.tup [(.int 2), (.str "1")]), (.int 2), (.int 1), (.int 2), (.int 1)]), (.tup [(.int 2), (.tup [(.int 2), (.int 1)]), (.int 2), (.int 1), (.int 2), (.bl true)])])) [some (.scr ns), some (.ref 0), some (.ref 5)] (.lst (z 3) :: garb) = .ok (.lst badL) (.lst (z 3) :: garb) := by kernel_rfl
  have g1 := h1 22 0 (z 3) (.lst (z 3) :: garb) (by decide) rfl rfl
  have s1 : (.lst (z 3) :: garb : Store).set 0 (.lst (z 3 ++ [.int 0])) = .lst (z 4) :: garb := rfl
  rw [s1] at g1
  show callF mo.con mo.tbl (22 + 1) "_law_none" _ _ = _
  rw [callF, tb_none]
  refine run_ret rfl ?_
  show exs mo.con (cN 22) (f__law_none.body.take 7 ++ f__law_none.body.drop 7) [some (.scr ns), some (.ref 0), none] [.lst (z 3)] = _
  rw [exs_app _ _ _ _ _ _ e0]
  have eb : f__law_none.body.drop 7 = [(.ret (.call false "_law_pick" [(.var 0), (.var 1), (.bin .add false (.var 2) (.lst false [(.str "rules"), (.tup [(.int 2), (.tup [(.int 2), (.str "1")]), (.int 2), (.int 1), (.int 2), (.int 1)]), (.tup [(.int 2), (.tup [(.int 2), (.int 1)]), (.int 2), (.int 1), (.int 2), (.bl true)])]))]))] := rfl
  rw [eb]
  generalize (E.bin .add false (.var 2) (.lst false [(.str "rules"), (.tup [(.int 2), (.tup [(.int 2), (.str "1")]), (.int 2), (.int 1), (.int 2), (.int 1)]), (.tup [(.int 2), (.tup [(.int 2), (.int 1)]), (.int 2), (.int 1), (.int 2), (.bl true)])])) = B at e1 ⊢
  simp only [exs, ex, ev, evs, e1, R.bind, List.getElem?_cons_zero, List.getElem?_cons_succ, callM, Bool.false_eq_true, if_false, g1, R.thn]
def frB (ns : List Int) (r : D) (b : D) : Fr := [some (.scr ns), some (.ref 0), some r, some b, none, none, none]
theorem tB (ns : List Int) (r : D) (S : Store) : (List.range 27).map (fun i => ex mo.con (cN 23) (sL 4) (frB ns r (badL.getD i .non)) S) = (List.range 27).map (fun i => .next (frB ns r (badL.getD i .non)) S) := by
  kernel_rfl
theorem tD1 (ns : List Int) (r b a w : D) (S : Store) : ex mo.con (cN 23) (sL 8) [some (.scr ns), some (.ref 0), some r, some b, some a, some w, none] S = .next [some (.scr ns), some (.ref 0), some r, some b, some a, some w, none] S := by
  kernel_rfl
theorem tD2 (ns : List Int) (r b a w : D) (S : Store) : ex mo.con (cN 23) (sL 9) [some (.scr ns), some (.ref 0), some r, some b, some a, some w, none] S = .ret (.bl true) S := by
  kernel_rfl
end Bh

set_option maxHeartbeats 4000000
namespace Bh
open PySem
theorem allA : ∀ i, i < 14 → PA_ i
  | 0, _ => tA_0
  | 1, _ => tA_1
  | 2, _ => tA_2
  | 3, _ => tA_3
  | 4, _ => tA_4
  | 5, _ => tA_5
  | 6, _ => tA_6
  | 7, _ => tA_7
  | 8, _ => tA_8
  | 9, _ => tA_9
  | 10, _ => tA_10
  | 11, _ => tA_11
  | 12, _ => tA_12
  | 13, _ => tA_13
  | n + 14, h => absurd h (by omega)
theorem allC : ∀ i a, i < 14 → a < 6 → PC_ i a
  | 0, 0, _, _ => tC_0_0
  | 0, 1, _, _ => tC_0_1
  | 0, 2, _, _ => tC_0_2
  | 0, 3, _, _ => tC_0_3
  | 0, 4, _, _ => tC_0_4
  | 0, 5, _, _ => tC_0_5
  | 0, n + 6, _, h => absurd h (by omega)
  | 1, 0, _, _ => tC_1_0
  | 1, 1, _, _ => tC_1_1
  | 1, 2, _, _ => tC_1_2
  | 1, 3, _, _ => tC_1_3
  | 1, 4, _, _ => tC_1_4
  | 1, 5, _, _ => tC_1_5
  | 1, n + 6, _, h => absurd h (by omega)
  | 2, 0, _, _ => tC_2_0
  | 2, 1, _, _ => tC_2_1
  | 2, 2, _, _ => tC_2_2
  | 2, 3, _, _ => tC_2_3
  | 2, 4, _, _ => tC_2_4
  | 2, 5, _, _ => tC_2_5
  | 2, n + 6, _, h => absurd h (by omega)
  | 3, 0, _, _ => tC_3_0
  | 3, 1, _, _ => tC_3_1
  | 3, 2, _, _ => tC_3_2
  | 3, 3, _, _ => tC_3_3
  | 3, 4, _, _ => tC_3_4
  | 3, 5, _, _ => tC_3_5
  | 3, n + 6, _, h => absurd h (by omega)
  | 4, 0, _, _ => tC_4_0
  | 4, 1, _, _ => tC_4_1
  | 4, 2, _, _ => tC_4_2
  | 4, 3, _, _ => tC_4_3
  | 4, 4, _, _ => tC_4_4
  | 4, 5, _, _ => tC_4_5
  | 4, n + 6, _, h => absurd h (by omega)
  | 5, 0, _, _ => tC_5_0
  | 5, 1, _, _ => tC_5_1
  | 5, 2, _, _ => tC_5_2
  | 5, 3, _, _ => tC_5_3
  | 5, 4, _, _ => tC_5_4
  | 5, 5, _, _ => tC_5_5
  | 5, n + 6, _, h => absurd h (by omega)
  | 6, 0, _, _ => tC_6_0
  | 6, 1, _, _ => tC_6_1
  | 6, 2, _, _ => tC_6_2
  | 6, 3, _, _ => tC_6_3
  | 6, 4, _, _ => tC_6_4
  | 6, 5, _, _ => tC_6_5
  | 6, n + 6, _, h => absurd h (by omega)
  | 7, 0, _, _ => tC_7_0
  | 7, 1, _, _ => tC_7_1
  | 7, 2, _, _ => tC_7_2
  | 7, 3, _, _ => tC_7_3
  | 7, 4, _, _ => tC_7_4
  | 7, 5, _, _ => tC_7_5
  | 7, n + 6, _, h => absurd h (by omega)
  | 8, 0, _, _ => tC_8_0
  | 8, 1, _, _ => tC_8_1
  | 8, 2, _, _ => tC_8_2
  | 8, 3, _, _ => tC_8_3
  | 8, 4, _, _ => tC_8_4
  | 8, 5, _, _ => tC_8_5
  | 8, n + 6, _, h => absurd h (by omega)
  | 9, 0, _, _ => tC_9_0
  | 9, 1, _, _ => tC_9_1
  | 9, 2, _, _ => tC_9_2
  | 9, 3, _, _ => tC_9_3
  | 9, 4, _, _ => tC_9_4
  | 9, 5, _, _ => tC_9_5
  | 9, n + 6, _, h => absurd h (by omega)
  | 10, 0, _, _ => tC_10_0
  | 10, 1, _, _ => tC_10_1
  | 10, 2, _, _ => tC_10_2
  | 10, 3, _, _ => tC_10_3
  | 10, 4, _, _ => tC_10_4
  | 10, 5, _, _ => tC_10_5
  | 10, n + 6, _, h => absurd h (by omega)
  | 11, 0, _, _ => tC_11_0
  | 11, 1, _, _ => tC_11_1
  | 11, 2, _, _ => tC_11_2
  | 11, 3, _, _ => tC_11_3
  | 11, 4, _, _ => tC_11_4
  | 11, 5, _, _ => tC_11_5
  | 11, n + 6, _, h => absurd h (by omega)
  | 12, 0, _, _ => tC_12_0
  | 12, 1, _, _ => tC_12_1
  | 12, 2, _, _ => tC_12_2
  | 12, 3, _, _ => tC_12_3
  | 12, 4, _, _ => tC_12_4
  | 12, 5, _, _ => tC_12_5
  | 12, n + 6, _, h => absurd h (by omega)
  | 13, 0, _, _ => tC_13_0
  | 13, 1, _, _ => tC_13_1
  | 13, 2, _, _ => tC_13_2
  | 13, 3, _, _ => tC_13_3
  | 13, 4, _, _ => tC_13_4
  | 13, 5, _, _ => tC_13_5
  | 13, n + 6, _, h => absurd h (by omega)
  | n + 14, _, h, _ => absurd h (by omega)
def eW : E := .lst false [.non, (.neg (.int 1)), (.int 9), (.str "2"), (.bl true), (.ife (.cmp .ne (.var 4) (.int 1)) (.tup [(.int 2)]) (.tup [(.int 4)])), (.lst false [(.int 2), (.int 1)])]
abbrev PW_ (a : Nat) : Prop := ∀ (ns : List Int) (r b : D) (S : Store), ev mo.con (cN 23) eW [some (.scr ns), some (.ref 0), some r, some b, some (.int (a : Nat)), none, none] S = .ok (.lst (wr a)) S
theorem tW_0 : PW_ 0 := by intro ns r b S; kernel_rfl
theorem tW_1 : PW_ 1 := by intro ns r b S; kernel_rfl
theorem tW_2 : PW_ 2 := by intro ns r b S; kernel_rfl
theorem tW_3 : PW_ 3 := by intro ns r b S; kernel_rfl
theorem tW_4 : PW_ 4 := by intro ns r b S; kernel_rfl
theorem tW_5 : PW_ 5 := by intro ns r b S; kernel_rfl
theorem allW : ∀ a, a < 6 → PW_ a
  | 0, _ => tW_0
  | 1, _ => tW_1
  | 2, _ => tW_2
  | 3, _ => tW_3
  | 4, _ => tW_4
  | 5, _ => tW_5
  | n + 6, h => absurd h (by omega)
theorem memJK : ∀ j, j < 5 → ∀ k, k < 3 → (j, k) ∈ cJK := by decide
theorem memJW (j : Nat) (hj : j < 5) (k : Nat) (hk : k < 3) (w : Nat) (hw : w < 7) : ((j, k, w) : I3) ∈ cJW := List.mem_flatMap.mpr ⟨j, List.mem_range.mpr hj, List.mem_flatMap.mpr ⟨k, List.mem_range.mpr hk, List.mem_map.mpr ⟨w, List.mem_range.mpr hw, rfl⟩⟩⟩
theorem body_eq : f_law.body = [sL 0, sL 1, sL 2, sL 3, sL 4, sL 5, sL 6, sL 7, sL 8, sL 9] := rfl
theorem law_true (ns : List Int) (hl : ns.length ≤ 63) : ∃ S, runF mo.con (callF mo.con mo.tbl 23) m_law.fn [.scr ns] [] = .ok (.bl true) S := by
  have d : Dr mo.con mo.tbl ns := dr_ok tb_cell tb_mixed tb_draw ns hl
  obtain ⟨i, j, k, hi, hj, hk, e1⟩ := some_ok d
  obtain ⟨q, hq, e3⟩ := none_ok d
  obtain ⟨a, ha, e5⟩ := d.num 4 6 (by decide) (by decide)
  have hwl : ∀ a : Nat, (wr a).length = 7 := fun a => rfl
  obtain ⟨w, hw, e6⟩ := d.pick tb_pick 5 (wr a) (by decide) (by rw [hwl]; decide)
  have g5 := e5 23 0 (z 4) (.lst (z 4) :: garb) (by decide) rfl rfl
  have g6 := e6 23 0 (z 5) (.lst (z 5) :: garb) (by decide) rfl rfl
  have s5 : (.lst (z 4) :: garb : Store).set 0 (.lst (z 4 ++ [.int 0])) = .lst (z 5) :: garb := rfl
  have s6 : (.lst (z 5) :: garb : Store).set 0 (.lst (z 5 ++ [.int 0])) = .lst (z 6) :: garb := rfl
  rw [s5] at g5
  rw [s6] at g6
  have g5' : callF mo.con mo.tbl 23 "_law_draw" [.scr ns, .ref 0, .int 6] (.lst (z 4) :: garb) = .ok (.int (a : Nat)) (.lst (z 5) :: garb) := g5
  refine ⟨.lst (z 6) :: garb, ?_⟩
  show runF mo.con (cN 23) f_law [.scr ns] [] = _
  refine run_ret rfl ?_
  rw [body_eq]
  show exs mo.con (cN 23) _ [some (.scr ns), none, none, none, none, none, none] [] = _
  have t0 : ex mo.con (cN 23) (sL 0) [some (.scr ns), none, none, none, none, none, none] [] = .next [some (.scr ns), some (.ref 0), none, none, none, none, none] [.lst []] := by kernel_rfl
  rw [exs_one t0]
  have t1 : ex mo.con (cN 23) (sL 1) [some (.scr ns), some (.ref 0), none, none, none, none, none] [.lst []] = .next (frA ns i (j, k)) [.lst (z 3)] := by
    show ex mo.con (cN 23) (.asg (.nm 2) (.call false "_law_some_rules" [(.var 0), (.var 1)])) _ _ = _
    simp only [ex, ev, evs, R.bind, List.getElem?_cons_zero, List.getElem?_cons_succ, callM, Bool.false_eq_true, if_false, e1, R.thn, bindT, List.set_cons_succ, List.set_cons_zero, frA]
  rw [exs_one t1]
  have t2 : ex mo.con (cN 23) (sL 2) (frA ns i (j, k)) [.lst (z 3)] = .next (frA ns i (j, k)) [.lst (z 3)] := List.map_inj_left.mp (allA i hi ns [.lst (z 3)]) (j, k) (memJK j hj k hk)
  rw [exs_one t2]
  have t3 : ex mo.con (cN 23) (sL 3) (frA ns i (j, k)) [.lst (z 3)] = .next (frB ns (.tup (rls i j k)) (badL.getD q .non)) (.lst (z 4) :: garb) := by
    show ex mo.con (cN 23) (.asg (.nm 3) (.call false "_law_none" [(.var 0), (.var 1)])) _ _ = _
    simp only [ex, ev, evs, R.bind, frA, List.getElem?_cons_zero, List.getElem?_cons_succ, callM, Bool.false_eq_true, if_false, e3, R.thn, bindT, List.set_cons_succ, List.set_cons_zero, frB]
  rw [exs_one t3]
  have t4 : ex mo.con (cN 23) (sL 4) (frB ns (.tup (rls i j k)) (badL.getD q .non)) (.lst (z 4) :: garb) = .next (frB ns (.tup (rls i j k)) (badL.getD q .non)) (.lst (z 4) :: garb) :=
    List.map_inj_left.mp (tB ns (.tup (rls i j k)) (.lst (z 4) :: garb)) q (List.mem_range.mpr hq)
  rw [exs_one t4]
  have t5 : ex mo.con (cN 23) (sL 5) (frB ns (.tup (rls i j k)) (badL.getD q .non)) (.lst (z 4) :: garb) = .next [some (.scr ns), some (.ref 0), some (.tup (rls i j k)), some (badL.getD q .non), some (.int (a : Nat)), none, none] (.lst (z 5) :: garb) := by
    show ex mo.con (cN 23) (.asg (.nm 4) (.call false "_law_draw" [(.var 0), (.var 1), (.int 6)])) _ _ = _
    simp only [ex, ev, evs, R.bind, frB, List.getElem?_cons_zero, List.getElem?_cons_succ, callM, Bool.false_eq_true, if_false, g5', R.thn, bindT, List.set_cons_succ, List.set_cons_zero]
  rw [exs_one t5]
  have t6 : ex mo.con (cN 23) (sL 6) [some (.scr ns), some (.ref 0), some (.tup (rls i j k)), some (badL.getD q .non), some (.int (a : Nat)), none, none] (.lst (z 5) :: garb) = .next (frC ns i a (badL.getD q .non) (j, k, w)) (.lst (z 6) :: garb) := by
    show ex mo.con (cN 23) (.asg (.nm 5) (.call false "_law_pick" [(.var 0), (.var 1), eW])) _ _ = _
    have ew := allW a ha ns (.tup (rls i j k)) (badL.getD q .non) (.lst (z 5) :: garb)
    generalize eW = W at ew ⊢
    simp only [ex, ev, evs, R.bind, ew, List.getElem?_cons_zero, List.getElem?_cons_succ, callM, Bool.false_eq_true, if_false, g6, R.thn, bindT, List.set_cons_succ, List.set_cons_zero, frC]
  rw [exs_one t6]
  have t7 : ex mo.con (cN 23) (sL 7) (frC ns i a (badL.getD q .non) (j, k, w)) (.lst (z 6) :: garb) = .next (frC ns i a (badL.getD q .non) (j, k, w)) (.lst (z 6) :: garb) := List.map_inj_left.mp (allC i a hi ha ns (badL.getD q .non) (.lst (z 6) :: garb)) (j, k, w) (memJW j hj k hk w hw)
  rw [exs_one t7]
  unfold frC
  rw [exs_one (tD1 ns _ _ _ _ _)]
  simp only [exs, tD2]
end Bh

set_option maxHeartbeats 0
namespace Bh
open PySem PySem.Spec PyProof.Rows L2
theorem bd_is_whole : BindP d_is_whole m_is_whole.ps := fun _ _ _ _ _ _ us hl => match us, hl with | [_, _, _], _ => rfl
theorem dp_is_whole : DefP mo m_is_whole := ⟨⟨⟨rfl, rfl, rfl, by decide +kernel, rfl, by decide +kernel, by decide +kernel⟩, rfl, rfl, ⟨80, by decide +kernel⟩⟩, bd_is_whole, rfl, rfl⟩
theorem bd_is_rules : BindP d_is_rules m_is_rules.ps := fun _ _ _ _ _ _ us hl => match us, hl with | [_], _ => rfl
theorem dp_is_rules : DefP mo m_is_rules := ⟨⟨⟨rfl, rfl, rfl, by decide +kernel, rfl, by decide +kernel, by decide +kernel⟩, rfl, rfl, ⟨80, by decide +kernel⟩⟩, bd_is_rules, rfl, rfl⟩
theorem bd_need_rules : BindP d_need_rules m_need_rules.ps := fun _ _ _ _ _ _ us hl => match us, hl with | [_], _ => rfl
theorem dp_need_rules : DefP mo m_need_rules := ⟨⟨⟨rfl, rfl, rfl, by decide +kernel, rfl, by decide +kernel, by decide +kernel⟩, rfl, rfl, ⟨80, by decide +kernel⟩⟩, bd_need_rules, rfl, rfl⟩
theorem bd_kinds_of : BindP d_kinds_of m_kinds_of.ps := fun _ _ _ _ _ _ us hl => match us, hl with | [_], _ => rfl
theorem dp_kinds_of : DefP mo m_kinds_of := ⟨⟨⟨rfl, rfl, rfl, by decide +kernel, rfl, by decide +kernel, by decide +kernel⟩, rfl, rfl, ⟨80, by decide +kernel⟩⟩, bd_kinds_of, rfl, rfl⟩
theorem bd_copies_of : BindP d_copies_of m_copies_of.ps := fun _ _ _ _ _ _ us hl => match us, hl with | [_, _], _ => rfl
theorem dp_copies_of : DefP mo m_copies_of := ⟨⟨⟨rfl, rfl, rfl, by decide +kernel, rfl, by decide +kernel, by decide +kernel⟩, rfl, rfl, ⟨80, by decide +kernel⟩⟩, bd_copies_of, rfl, rfl⟩
theorem bd_lot_of : BindP d_lot_of m_lot_of.ps := fun _ _ _ _ _ _ us hl => match us, hl with | [_], _ => rfl
theorem dp_lot_of : DefP mo m_lot_of := ⟨⟨⟨rfl, rfl, rfl, by decide +kernel, rfl, by decide +kernel, by decide +kernel⟩, rfl, rfl, ⟨80, by decide +kernel⟩⟩, bd_lot_of, rfl, rfl⟩
theorem bd_lot : BindP d_lot m_lot.ps := fun _ _ _ _ _ _ us hl => match us, hl with | [_], _ => rfl
theorem dp_lot : DefP mo m_lot := ⟨⟨⟨rfl, rfl, rfl, by decide +kernel, rfl, by decide +kernel, by decide +kernel⟩, rfl, rfl, ⟨80, by decide +kernel⟩⟩, bd_lot, rfl, rfl⟩
theorem bd_ways : BindP d_ways m_ways.ps := fun _ _ _ _ _ _ us hl => match us, hl with | [_], _ => rfl
theorem dp_ways : DefP mo m_ways := ⟨⟨⟨rfl, rfl, rfl, by decide +kernel, rfl, by decide +kernel, by decide +kernel⟩, rfl, rfl, ⟨80, by decide +kernel⟩⟩, bd_ways, rfl, rfl⟩
theorem bd_count_of : BindP d_count_of m_count_of.ps := fun _ _ _ _ _ _ us hl => match us, hl with | [_], _ => rfl
theorem dp_count_of : DefP mo m_count_of := ⟨⟨⟨rfl, rfl, rfl, by decide +kernel, rfl, by decide +kernel, by decide +kernel⟩, rfl, rfl, ⟨80, by decide +kernel⟩⟩, bd_count_of, rfl, rfl⟩
theorem bd_how_many : BindP d_how_many m_how_many.ps := fun _ _ _ _ _ _ us hl => match us, hl with | [_], _ => rfl
theorem dp_how_many : DefP mo m_how_many := ⟨⟨⟨rfl, rfl, rfl, by decide +kernel, rfl, by decide +kernel, by decide +kernel⟩, rfl, rfl, ⟨80, by decide +kernel⟩⟩, bd_how_many, rfl, rfl⟩
theorem bd_orders : BindP d_orders m_orders.ps := fun _ _ _ _ _ _ us hl => match us, hl with | [_], _ => rfl
theorem dp_orders : DefP mo m_orders := ⟨⟨⟨rfl, rfl, rfl, by decide +kernel, rfl, by decide +kernel, by decide +kernel⟩, rfl, rfl, ⟨80, by decide +kernel⟩⟩, bd_orders, rfl, rfl⟩
theorem bd_need_few : BindP d_need_few m_need_few.ps := fun _ _ _ _ _ _ us hl => match us, hl with | [_], _ => rfl
theorem dp_need_few : DefP mo m_need_few := ⟨⟨⟨rfl, rfl, rfl, by decide +kernel, rfl, by decide +kernel, by decide +kernel⟩, rfl, rfl, ⟨80, by decide +kernel⟩⟩, bd_need_few, rfl, rfl⟩
theorem bd_decks : BindP d_decks m_decks.ps := fun _ _ _ _ _ _ us hl => match us, hl with | [_], _ => rfl
theorem dp_decks : DefP mo m_decks := ⟨⟨⟨rfl, rfl, rfl, by decide +kernel, rfl, by decide +kernel, by decide +kernel⟩, rfl, rfl, ⟨80, by decide +kernel⟩⟩, bd_decks, rfl, rfl⟩
theorem bd_is_kind : BindP d_is_kind m_is_kind.ps := fun _ _ _ _ _ _ us hl => match us, hl with | [_, _], _ => rfl
theorem dp_is_kind : DefP mo m_is_kind := ⟨⟨⟨rfl, rfl, rfl, by decide +kernel, rfl, by decide +kernel, by decide +kernel⟩, rfl, rfl, ⟨80, by decide +kernel⟩⟩, bd_is_kind, rfl, rfl⟩
theorem bd_good_deck : BindP d_good_deck m_good_deck.ps := fun _ _ _ _ _ _ us hl => match us, hl with | [_, _], _ => rfl
theorem dp_good_deck : DefP mo m_good_deck := ⟨⟨⟨rfl, rfl, rfl, by decide +kernel, rfl, by decide +kernel, by decide +kernel⟩, rfl, rfl, ⟨80, by decide +kernel⟩⟩, bd_good_deck, rfl, rfl⟩
theorem bd_is_deck : BindP d_is_deck m_is_deck.ps := fun _ _ _ _ _ _ us hl => match us, hl with | [_, _], _ => rfl
theorem dp_is_deck : DefP mo m_is_deck := ⟨⟨⟨rfl, rfl, rfl, by decide +kernel, rfl, by decide +kernel, by decide +kernel⟩, rfl, rfl, ⟨80, by decide +kernel⟩⟩, bd_is_deck, rfl, rfl⟩
theorem bd__law_cell_at : BindP d__law_cell_at m__law_cell_at.ps := fun _ _ _ _ _ _ us hl => match us, hl with | [_, _], _ => rfl
theorem dp__law_cell_at : DefP mo m__law_cell_at := ⟨⟨⟨rfl, rfl, rfl, by decide +kernel, rfl, by decide +kernel, by decide +kernel⟩, rfl, rfl, ⟨80, by decide +kernel⟩⟩, bd__law_cell_at, rfl, rfl⟩
theorem bd__law_mixed : BindP d__law_mixed m__law_mixed.ps := fun _ _ _ _ _ _ us hl => match us, hl with | [_, _, _], _ => rfl
theorem dp__law_mixed : DefP mo m__law_mixed := ⟨⟨⟨rfl, rfl, rfl, by decide +kernel, rfl, by decide +kernel, by decide +kernel⟩, rfl, rfl, ⟨80, by decide +kernel⟩⟩, bd__law_mixed, rfl, rfl⟩
theorem bd__law_draw : BindP d__law_draw m__law_draw.ps := fun _ _ _ _ _ _ us hl => match us, hl with | [_, _, _], _ => rfl
theorem dp__law_draw : DefP mo m__law_draw := ⟨⟨⟨rfl, rfl, rfl, by decide +kernel, rfl, by decide +kernel, by decide +kernel⟩, rfl, rfl, ⟨80, by decide +kernel⟩⟩, bd__law_draw, rfl, rfl⟩
theorem bd__law_pick : BindP d__law_pick m__law_pick.ps := fun _ _ _ _ _ _ us hl => match us, hl with | [_, _, _], _ => rfl
theorem dp__law_pick : DefP mo m__law_pick := ⟨⟨⟨rfl, rfl, rfl, by decide +kernel, rfl, by decide +kernel, by decide +kernel⟩, rfl, rfl, ⟨80, by decide +kernel⟩⟩, bd__law_pick, rfl, rfl⟩
theorem bd__law_some_rules : BindP d__law_some_rules m__law_some_rules.ps := fun _ _ _ _ _ _ us hl => match us, hl with | [_, _], _ => rfl
theorem dp__law_some_rules : DefP mo m__law_some_rules := ⟨⟨⟨rfl, rfl, rfl, by decide +kernel, rfl, by decide +kernel, by decide +kernel⟩, rfl, rfl, ⟨80, by decide +kernel⟩⟩, bd__law_some_rules, rfl, rfl⟩
theorem bd__law_lot : BindP d__law_lot m__law_lot.ps := fun _ _ _ _ _ _ us hl => match us, hl with | [_], _ => rfl
theorem dp__law_lot : DefP mo m__law_lot := ⟨⟨⟨rfl, rfl, rfl, by decide +kernel, rfl, by decide +kernel, by decide +kernel⟩, rfl, rfl, ⟨80, by decide +kernel⟩⟩, bd__law_lot, rfl, rfl⟩
theorem bd__law_which : BindP d__law_which ["e"] := fun _ _ _ _ _ _ us hl => match us, hl with | [_], _ => rfl
theorem bd__law_none : BindP d__law_none m__law_none.ps := fun _ _ _ _ _ _ us hl => match us, hl with | [_, _], _ => rfl
theorem dp__law_none : DefP mo m__law_none := ⟨⟨⟨rfl, rfl, rfl, by decide +kernel, rfl, by decide +kernel, by decide +kernel⟩, rfl, rfl, ⟨80, by decide +kernel⟩⟩, bd__law_none, rfl, rfl⟩
theorem bd__law_ask : BindP d__law_ask m__law_ask.ps := fun _ _ _ _ _ _ us hl => match us, hl with | [_, _], _ => rfl
theorem dp__law_ask : DefP mo m__law_ask := ⟨⟨⟨rfl, rfl, rfl, by decide +kernel, rfl, by decide +kernel, by decide +kernel⟩, rfl, rfl, ⟨80, by decide +kernel⟩⟩, bd__law_ask, rfl, rfl⟩
theorem bd_law : BindP d_law m_law.ps := fun _ _ _ _ _ _ us hl => match us, hl with | [_], _ => rfl
theorem dp_law : DefP mo m_law := ⟨⟨⟨rfl, rfl, rfl, by decide +kernel, rfl, by decide +kernel, by decide +kernel⟩, rfl, rfl, ⟨80, by decide +kernel⟩⟩, bd_law, rfl, rfl⟩
theorem dp_all : ∀ m ∈ mo.ds, DefP mo m := by
  show ∀ m ∈ [m_is_whole, m_is_rules, m_need_rules, m_kinds_of, m_copies_of, m_lot_of, m_lot, m_ways, m_count_of, m_how_many, m_orders, m_need_few, m_decks, m_is_kind, m_good_deck, m_is_deck, m__law_cell_at, m__law_mixed, m__law_draw, m__law_pick, m__law_some_rules, m__law_lot, m__law_none, m__law_ask, m_law], DefP mo m
  simp only [List.forall_mem_cons]
  exact ⟨dp_is_whole, dp_is_rules, dp_need_rules, dp_kinds_of, dp_copies_of, dp_lot_of, dp_lot, dp_ways, dp_count_of, dp_how_many, dp_orders, dp_need_few, dp_decks, dp_is_kind, dp_good_deck, dp_is_deck, dp__law_cell_at, dp__law_mixed, dp__law_draw, dp__law_pick, dp__law_some_rules, dp__law_lot, dp__law_none, dp__law_ask, dp_law, fun _ h => nomatch h⟩
theorem fn_all : ∀ m ∈ mo.ds, m.d ∈ fnD := by
  show ∀ m ∈ [m_is_whole, m_is_rules, m_need_rules, m_kinds_of, m_copies_of, m_lot_of, m_lot, m_ways, m_count_of, m_how_many, m_orders, m_need_few, m_decks, m_is_kind, m_good_deck, m_is_deck, m__law_cell_at, m__law_mixed, m__law_draw, m__law_pick, m__law_some_rules, m__law_lot, m__law_none, m__law_ask, m_law], m.d ∈ fnD
  simp only [List.forall_mem_cons]
  exact ⟨List.mem_of_getElem? (i := 0) rfl, List.mem_of_getElem? (i := 1) rfl, List.mem_of_getElem? (i := 2) rfl, List.mem_of_getElem? (i := 3) rfl, List.mem_of_getElem? (i := 4) rfl, List.mem_of_getElem? (i := 5) rfl, List.mem_of_getElem? (i := 6) rfl, List.mem_of_getElem? (i := 7) rfl, List.mem_of_getElem? (i := 8) rfl, List.mem_of_getElem? (i := 9) rfl, List.mem_of_getElem? (i := 10) rfl, List.mem_of_getElem? (i := 11) rfl, List.mem_of_getElem? (i := 12) rfl, List.mem_of_getElem? (i := 13) rfl, List.mem_of_getElem? (i := 14) rfl, List.mem_of_getElem? (i := 15) rfl, List.mem_of_getElem? (i := 16) rfl, List.mem_of_getElem? (i := 17) rfl, List.mem_of_getElem? (i := 18) rfl, List.mem_of_getElem? (i := 19) rfl, List.mem_of_getElem? (i := 20) rfl, List.mem_of_getElem? (i := 21) rfl, List.mem_of_getElem? (i := 23) rfl, List.mem_of_getElem? (i := 24) rfl, List.mem_of_getElem? (i := 25) rfl, fun _ h => nomatch h⟩
theorem wh_ok : mo.hc.wh = true → d__law_which ∈ fnD ∧ d__law_which.at_ = (("_law_which" : Str), none) ∧ d__law_which.dfl = [] ∧ d__law_which.kwd = [] ∧ BindP d__law_which ["e"] ∧ FnScope ["e", "own"] ["e"] d__law_which.scope ∧ chkSs cfW hcW 40 d__law_which.scope d__law_which.body irWhich = true :=
  fun _ => ⟨List.mem_of_getElem? (i := 22) rfl, rfl, rfl, rfl, bd__law_which, ⟨rfl, rfl, rfl, by decide +kernel, rfl, by decide +kernel, by decide +kernel⟩, by decide +kernel⟩
theorem mo_st : moS mo = true := by decide +kernel
abbrev Rw : PySem.W.OpenRow := PySem.W.OpenLaw.row PySem.Challenge.rw_blindhands_k01_rules
abbrev hkL : PySem.W.Hook := hookB 4 (moB mo) fnD
def obL (s : PySem.W.SharedT) : Bool × List He.FnW := lookB 4 (moB mo) fnD (HandSHeadRun.getT s)
theorem obL_eq (s : PySem.W.SharedT) : obL s = hkL.obs s.abs := lookB_eq (HandSHeadRun.getT_eq s)
theorem runL (w : World) : HandSHeadRun.RunEq Rw (PySem.W.view Rw.prog [45]) hkL obL 8000 names w := by
  intro os
  kernel_rfl
theorem factsL {w : World} {K : PySem.W.Frag} {h : Heap} {mg : Str → Option Value} {f : Addr} (X : K.In h) (G : h.Ns mainGlobals mg) (hfa : mg ("law" : Str) = some (.ref f)) (c : ToldB (moB mo) fnD K) :
    ∃ fd : FuncData, (∀ (s : Shared) (v : Value), BindsTo s fd ⟨[v], []⟩ [("script", v)]) ∧ ∀ base : Heap, K.In base → base.Ns mainGlobals mg → FnOk (PySem.Challenge.rw_blindhands_k01_rules).prog w K mg base CXA 48 f fd ["script"] (spLaw K) := by
  have hM : ∀ base : Heap, MoOk (PySem.Challenge.rw_blindhands_k01_rules).prog w K mg base mo := fun base => mo_ok X G c mo_st fn_all dp_all d__law_which wh_ok
  have hm : m_law ∈ mo.ds := List.mem_of_getElem? (i := 24) rfl
  obtain ⟨fd, F⟩ := told_d c (fn_all m_law hm)
  have ef : He.fAd K m_law.d.at_ = f := by
    have e := hfa.symm.trans ((hM h).tfn "law" (inS_ok (by decide +kernel))).2.1
    cases e
    rfl
  rw [ef] at F
  have b := FunD.bindsA (ps := ["script"]) F bd_law
  exact ⟨fd, fun s v => b s [v] rfl, fun base _ _ => law_ok (n := 23) (hM base) hm rfl F law_true⟩
end Bh
open PySem PySem.W PySem.Calls PyProof.Rows
theorem PySem.Challenge.cw_blindhands_k01_rules_holds : PySem.Challenge.rw_blindhands_k01_rules.Holds := by
  w_on; o_law
  refine HandSHeadRun.head_any (r := OpenLaw.row PySem.Challenge.rw_blindhands_k01_rules) (q := view (OpenLaw.row PySem.Challenge.rw_blindhands_k01_rules).prog [45]) (H := Bh.hkL) (ob := Bh.obL) (M := 8000) (loose := Bh.names) (d := HandSHeadRun.topDef (OpenLaw.row PySem.Challenge.rw_blindhands_k01_rules).prog 45) (kwd := []) Bh.obL_eq
    (by kernel_rfl) (fun s => by kernel_rfl) Bh.runL (by kernel_rfl) (by kernel_rfl) (by kernel_rfl) (by rfl) (by first | assumption | decide +kernel) (by decide +kernel) ⟨rfl, rfl, rfl, rfl, rfl, by decide +kernel⟩ ?hw ?hc
  case hw => w_witness2
  case hc =>
    refine L2.walk_ofE (l := PySem.Challenge.rw_blindhands_k01_rules) (n := 63) (k := 48) (x := "script") (CX := Bh.CXA) rfl (by decide) (by kernel_rfl) ⟨rfl, by decide, by decide⟩ ?F (fun _ _ _ _ ⟨_, _, _, _, _, _, _, _, _, _, _, _, _, _, q⟩ => q)
    intro w mg fa h Y G hmg0
    obtain ⟨K, KX, c⟩ := Y
    have hmg : mg ("law" : PySem.Str) = some (.ref fa) := by
      have e : (HandSHeadRun.topDef (OpenLaw.row PySem.Challenge.rw_blindhands_k01_rules).prog 45).name = ("law" : PySem.Str) := by kernel_rfl
      rw [← e]
      exact hmg0
    obtain ⟨fd, hb, hF⟩ := Bh.factsL (w := w) KX G hmg c
    exact ⟨K, fd, Bh.spLaw K, KX, hb, fun H a ns hl _ hS => ⟨a, ns, rfl, hl, hS, fun _ => rfl⟩, hF⟩

