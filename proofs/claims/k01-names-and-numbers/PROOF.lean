import PyProof.Rows.All
import Wide.All
import OpenK.AllK
import Wide.FinOn
import HandS.ForMost
import HandS.Exc
import HandS.ExcOwn
import HandS.WordsExc
import HandS.Wide
import HandS.TupAny
import HandS.Deep
import HandS.Codes
import HandS.IsInst
import HandS.More
import HandS.Style
import HandS.StrMore
import HandS.TupLen
import HandS.Flow
import HandS.Conv
import HandS.Defaults
import HandS.Ends
import HandS.EndBits
import HandS.Head0
import HandS.Head1
import HandS.Head2
import HandS.HeadHook1
import HandS.HeadHook2
import PySem.Challenge.RW_againbook_k01_names_and_numbers
set_option Elab.async false
set_option linter.all false
set_option maxRecDepth 100000
set_option maxHeartbeats 0
namespace DL

/-- a value; tuples are values, what may be changed stands at an address -/
inductive D where
  | non
  | bl (b : Bool)
  | int (i : Int)
  | str (s : List Nat)
  | tup (ds : List D)
  | ref (a : Nat)
  /-- a list that is only read; a tuple of the module's top -/
  | rol (ds : List D)
  | ktup (ds : List D)
instance : Inhabited D := ⟨.non⟩
/-- sequences that never change; those that are tuples -/
def conS : D → Option (List D)
  | .tup ds => some ds
  | .ktup ds => some ds
  | .rol ds => some ds
  | _ => none
def tupS : D → Option (List D)
  | .tup ds => some ds
  | .ktup ds => some ds
  | _ => none

/-- what stands at an address: a list, a dict by ints and texts, a dict by tuples, an instance of class c -/
inductive MO where
  | lst (ds : List D)
  | dK (kvs : List (D × D))
  | dT (kvs : List (D × D))
  | ins (c : Nat) (fs : List (List Nat × D))

abbrev Mem := Nat → Option MO
def upd (m : Mem) (a : Nat) (o : MO) : Mem := fun b => if b = a then some o else m b
theorem upd_same {m : Mem} {a : Nat} {o : MO} : upd m a o a = some o := if_pos rfl
theorem upd_ne {m : Mem} {a b : Nat} {o : MO} (h : b ≠ a) : upd m a o b = m b := if_neg h
theorem upd_upd {m : Mem} {a : Nat} {o u : MO} : upd (upd m a o) a u = upd m a u := by
  funext b; unfold upd; split <;> rfl
theorem upd_self {m : Mem} {a : Nat} {o : MO} (h : m a = some o) : upd m a o = m := by
  funext b; unfold upd; split
  · rename_i e; rw [e, h]
  · rfl
theorem ne_of_none {m : Mem} {a b : Nat} {o : MO} (h : m a = some o) (h' : m b = none) : a ≠ b := by
  intro e; subst e; rw [h] at h'; cases h'
/-- what stands in m stands in m' as well -/
def Sub (m m' : Mem) : Prop := ∀ a o, m a = some o → m' a = some o
theorem Sub.refl (m : Mem) : Sub m m := fun _ _ h => h
theorem Sub.trans {a b c : Mem} (h : Sub a b) (h' : Sub b c) : Sub a c := fun x o e => h' x o (h x o e)
theorem Sub.new {m : Mem} {p : Nat} {o : MO} (h : m p = none) : Sub m (upd m p o) := fun a u e => by rw [upd_ne (ne_of_none e h)]; exact e
theorem Sub.mut {m m' : Mem} {p : Nat} {o : MO} (e : Sub m m') (h : m p = none) : Sub m (upd m' p o) := fun a u q => by rw [upd_ne (ne_of_none q h)]; exact e a u q
theorem Sub.free {m m' : Mem} {p : Nat} (e : Sub m m') (h : m' p = none) : m p = none := by
  cases q : m p with
  | none => rfl
  | some o => rw [e p o q] at h; cases h

/-- an exception: its class, its fields -/
structure Exc where
  cls : Nat
  fs : List (List Nat × D)

abbrev St := List (Option D)
abbrev Kt := D → Mem → Prop
abbrev XK := St → Exc → Mem → Prop
abbrev Sp := List D → Mem → Kt → (Exc → Mem → Prop) → Prop

def sget : St → Nat → Option D
  | [], _ => none
  | o :: _, 0 => o
  | _ :: r, n + 1 => sget r n
def sset : St → Nat → D → St
  | [], _, _ => []
  | _ :: r, 0, d => some d :: r
  | o :: r, n + 1, d => o :: sset r n d
def swipe1 : St → Nat → St
  | [], _ => []
  | _ :: r, 0 => none :: r
  | o :: r, n + 1 => o :: swipe1 r n
def swipe (σ : St) : List Nat → St
  | [] => σ
  | v :: vs => swipe1 (swipe σ vs) v

inductive BOp where
  | add | sub | mul | fdiv | mod | pow
  deriving DecidableEq
inductive COp where
  | eq | ne | lt | le | gt | ge | isin | notin | is | isnot
  deriving DecidableEq
/-- built-ins -/
inductive Blt where
  | len | int | str | list | tuple | all | any | sum | max2 | min2 | max1 | sorted | dict | isInt | isBool | isStr | isList | isTuple | isDict | abs
  deriving DecidableEq
/-- methods of built-in types -/
inductive Bm where
  | append | extend | pop | popAt | insert | index | join | split | strip | rstrip | replace | get1 | get2 | count | clear | reverse | update | items | values | isdigit | isalpha
  deriving DecidableEq

inductive Tg where
  | name (i : Nat)
  | pair (a b : Tg)
  | trip (a b c : Tg)
  | quad (a b c d : Tg)
  deriving DecidableEq

mutual
inductive Ex where
  | var (i : Nat) | int (i : Int) | str (s : List Nat) | bl (b : Bool) | non | glob (g : Nat)
  | bin (o : BOp) (a b : Ex) | neg (a : Ex)
  | cmp (o : COp) (a b : Ex) | cmp2 (o o' : COp) (a b c : Ex)
  | and (a b : Ex) | or (a b : Ex) | not (a : Ex) | ite (c a b : Ex)
  | ix (a i : Ex) | sl (a lo hi : Ex) | part0
  | tup (es : Exs) | lst (es : Exs) | dn
  | call (f : Nat) (es : Exs) | new (c : Nat) (es : Exs) | mth (m : List Nat) (o : Ex) (es : Exs)
  | blt (b : Blt) (es : Exs) | bm (m : Bm) (o : Ex) (es : Exs)
  | fld (o : Ex) (f : List Nat)
  | lc (vs : List Nat) (tg : Tg) (src : Src) (c : Ex) (elt : Ex)
  | lrg (src : Src)
  | cmpN (a : Ex) (ch : Chn)
/-- a chain of comparisons, from the second place on -/
inductive Chn where
  | one (o : COp) (e : Ex)
  | more (o : COp) (e : Ex) (r : Chn)
inductive Exs where
  | n
  | c (e : Ex) (r : Exs)
inductive Src where
  | of (e : Ex) | rng1 (a : Ex) | rng2 (a b : Ex) | rng3 (a b c : Ex) | enum (a : Ex) | zip (a b : Ex) | rev (a : Ex)
end
mutual
inductive Sm where
  | set (i : Nat) (e : Ex) | setT (t : Tg) (e : Ex) | setIx (o i e : Ex) | setF (o : Ex) (f : List Nat) (e : Ex)
  | aug (i : Nat) (op : BOp) (e : Ex) | augF (o : Ex) (f : List Nat) (op : BOp) (e : Ex)
  | expr (e : Ex) | ret (e : Ex) | retN
  | ite (c : Ex) (a b : Sms) | whl (c : Ex) (b : Sms) | for_ (t : Tg) (src : Src) (b : Sms)
  | raise (c : Nat) (es : Exs)
  | pass | brk | cont
inductive Sms where
  | n
  | c (s : Sm) (r : Sms)
end

mutual
def D.noRef : D → Bool
  | .ref _ => false
  | .rol _ => false
  | .ktup _ => false
  | .tup ds => D.noRefs ds
  | _ => true
def D.noRefs : List D → Bool
  | [] => true
  | d :: ds => D.noRef d && D.noRefs ds
end
mutual
/-- no address, texts of real signs, at most n deep -/
def D.plain : Nat → D → Bool
  | _, .non => true
  | _, .bl _ => true
  | _, .int _ => true
  | _, .str s => s.all (· < 1114112)
  | 0, .tup _ => false
  | n + 1, .tup ds => D.plains n ds
  | _, .ref _ => false
  | _, .rol _ => false
  | _, .ktup _ => false
def D.plains : Nat → List D → Bool
  | _, [] => true
  | n, d :: ds => D.plain n d && D.plains n ds
end
mutual
/-- == of values without addresses -/
def D.eqv : D → D → Bool
  | .non, .non => true
  | .bl a, .bl b => a == b
  | .bl a, .int j => (if a then 1 else 0) == j
  | .int i, .bl b => i == (if b then 1 else 0)
  | .int i, .int j => i == j
  | .str x, .str y => x == y
  | .tup xs, .tup ys => D.eqvs xs ys
  | .non, .bl _ => false | .non, .int _ => false | .non, .str _ => false | .non, .tup _ => false | .non, .ref _ => false | .non, .rol _ => false | .non, .ktup _ => false
  | .bl _, .non => false | .bl _, .str _ => false | .bl _, .tup _ => false | .bl _, .ref _ => false | .bl _, .rol _ => false | .bl _, .ktup _ => false
  | .int _, .non => false | .int _, .str _ => false | .int _, .tup _ => false | .int _, .ref _ => false | .int _, .rol _ => false | .int _, .ktup _ => false
  | .str _, .non => false | .str _, .bl _ => false | .str _, .int _ => false | .str _, .tup _ => false | .str _, .ref _ => false | .str _, .rol _ => false | .str _, .ktup _ => false
  | .tup _, .non => false | .tup _, .bl _ => false | .tup _, .int _ => false | .tup _, .str _ => false | .tup _, .ref _ => false | .tup _, .rol _ => false | .tup _, .ktup _ => false
  | .ref _, _ => false
  | .rol _, _ => false
  | .ktup _, _ => false
def D.eqvs : List D → List D → Bool
  | [], [] => true
  | x :: xs, y :: ys => D.eqv x y && D.eqvs xs ys
  | [], _ :: _ => false
  | _ :: _, [] => false
end
/-- .. of whole data: lists opened -/
inductive F where
  | non | bl (b : Bool) | int (i : Int) | str (s : List Nat) | tup (ds : List F) | lst (ds : List F)
mutual
def F.eqv : F → F → Bool
  | .non, .non => true
  | .bl a, .bl b => a == b
  | .bl a, .int j => (if a then 1 else 0) == j
  | .int i, .bl b => i == (if b then 1 else 0)
  | .int i, .int j => i == j
  | .str x, .str y => x == y
  | .tup xs, .tup ys => F.eqvs xs ys
  | .lst xs, .lst ys => F.eqvs xs ys
  | .non, .bl _ => false | .non, .int _ => false | .non, .str _ => false | .non, .tup _ => false | .non, .lst _ => false
  | .bl _, .non => false | .bl _, .str _ => false | .bl _, .tup _ => false | .bl _, .lst _ => false
  | .int _, .non => false | .int _, .str _ => false | .int _, .tup _ => false | .int _, .lst _ => false
  | .str _, .non => false | .str _, .bl _ => false | .str _, .int _ => false | .str _, .tup _ => false | .str _, .lst _ => false
  | .tup _, .non => false | .tup _, .bl _ => false | .tup _, .int _ => false | .tup _, .str _ => false | .tup _, .lst _ => false
  | .lst _, .non => false | .lst _, .bl _ => false | .lst _, .int _ => false | .lst _, .str _ => false | .lst _, .tup _ => false
def F.eqvs : List F → List F → Bool
  | [], [] => true
  | x :: xs, y :: ys => F.eqv x y && F.eqvs xs ys
  | [], _ :: _ => false
  | _ :: _, [] => false
end
mutual
/-- d is the data f, its lists read in m, at most n deep -/
def Opn (m : Mem) : Nat → D → F → Prop
  | _, .non, .non => True
  | _, .bl a, .bl b => a = b
  | _, .int a, .int b => a = b
  | _, .str a, .str b => a = b ∧ a.all (· < 1114112) = true
  | n + 1, .tup ds, .tup fs => Opns m n ds fs
  | n + 1, .ktup ds, .tup fs => Opns m n ds fs
  | n + 1, .ref a, .lst fs => ∃ ds, m a = some (.lst ds) ∧ Opns m n ds fs
  | _, _, _ => False
def Opns (m : Mem) : Nat → List D → List F → Prop
  | _, [], [] => True
  | n, d :: ds, f :: fs => Opn m n d f ∧ Opns m n ds fs
  | _, _, _ => False
end

/-- a place of a sequence: from the end where negative -/
def dIx (n : Nat) (i : Int) : Option Nat := if 0 ≤ i then (if i < n then some i.toNat else none) else if -(n : Int) ≤ i then some (i + n).toNat else none
def atI {α : Type} (xs : List α) (i : Int) : Option α := (dIx xs.length i).bind fun j => xs[j]?
/-- a slice's bound -/
def dSx (n d : Nat) : Option Int → Nat
  | none => d
  | some i => if i < 0 then (i + n).toNat else min i.toNat n
def cut {α : Type} (xs : List α) (lo hi : Option Int) : List α := (xs.drop (dSx xs.length 0 lo)).take (dSx xs.length xs.length hi - dSx xs.length 0 lo)

def lk (fs : List (List Nat × D)) (f : List Nat) : Option D := fs.lookup f
def putF (f : List Nat) (v : D) : List (List Nat × D) → List (List Nat × D)
  | [] => [(f, v)]
  | q :: r => if q.1 = f then (f, v) :: r else q :: putF f v r

/-- an object that is new -/
abbrev New (m : Mem) (o : MO) (k : Kt) : Prop := ∀ p, m p = none → k (.ref p) (upd m p o)
theorem New.by {m : Mem} {o : MO} {k : Kt} (h : ∀ p M, m p = none → M = upd m p o → Sub m M → M p = some o → (∀ q, M q = none → m q = none ∧ q ≠ p) → k (.ref p) M) : New m o k := fun p hp => h p _ hp rfl (Sub.new hp) upd_same fun q hq => by
  unfold upd at hq
  split at hq
  · cases hq
  · rename_i e
    exact ⟨hq, e⟩
def big : Nat := 16000000
def rBin : BOp → D → D → Mem → Kt → Prop
  | .add, .int i, .int j, m, k => k (.int (i + j)) m
  | .add, .str a, .str b, m, k => a.length + b.length ≤ big ∧ k (.str (a ++ b)) m
  | .add, .tup a, .tup b, m, k => a.length + b.length ≤ big ∧ k (.tup (a ++ b)) m
  | .add, .ref a, .ref b, m, k => ∃ xs ys, m a = some (.lst xs) ∧ m b = some (.lst ys) ∧ xs.length + ys.length ≤ big ∧ New m (.lst (xs ++ ys)) k
  | .sub, .int i, .int j, m, k => k (.int (i - j)) m
  | .mul, .int i, .int j, m, k => ((-(2 ^ 64) < i ∧ i < 2 ^ 64) ∨ (-(2 ^ 64) < j ∧ j < 2 ^ 64)) ∧ k (.int (i * j)) m
  | .mul, .str a, .int j, m, k => ∃ c, a = [c] ∧ 0 ≤ j ∧ j ≤ 1000000 ∧ k (.str (List.replicate j.toNat c)) m
  | .fdiv, .int i, .int j, m, k => (0 < j ∧ j < 2 ^ 200) ∧ k (.int (i / j)) m
  | .mod, .int i, .int j, m, k => 0 < j ∧ k (.int (i % j)) m
  | .pow, .int i, .int j, m, k => ((0 ≤ j ∧ j ≤ 1000000) ∧ i.natAbs < 2 ^ 64) ∧ k (.int (i ^ j.toNat)) m
  | _, _, _, _, _ => False
def rEq (x y : D) (m : Mem) (k : Bool → Prop) : Prop :=
  (D.plain 60 x = true ∧ D.plain 60 y = true ∧ k (D.eqv x y)) ∨ ∃ f g, Opn m 60 x f ∧ Opn m 60 y g ∧ k (F.eqv f g)
/-- flat: told apart by value -/
def D.flat : D → Bool
  | .non => true | .bl _ => true | .int _ => true | .str s => s.all (· < 1114112)
  | _ => false
def hasKey (kvs : List (D × D)) (x : D) : Bool := kvs.any fun q => D.eqv q.1 x
def getKey (kvs : List (D × D)) (x : D) : Option D := (kvs.find? fun q => D.eqv q.1 x).map (·.2)
def keyK : D → Bool
  | .int _ => true | .str _ => true | _ => false
def keyT : D → Bool
  | .tup ds => ds.all keyK | _ => false
def rIn (x y : D) (m : Mem) (k : Bool → Prop) : Prop :=
  match conS y with
  | some ds => (D.flat x = true ∧ ds.all D.flat = true) ∧ k (ds.any fun y => D.eqv y x)
  | none => match y with
    | .str t => ∃ c, x = .str [c] ∧ k (decide (c ∈ t))
    | .ref a => match m a with
      | some (.lst ds) => (D.plain 50 x = true ∧ D.plains 50 ds = true) ∧ k (ds.any fun y => D.eqv y x)
      | some (.dK kvs) => keyK x = true ∧ k (hasKey kvs x)
      | some (.dT kvs) => keyT x = true ∧ k (hasKey kvs x)
      | _ => False
    | _ => False
def strLt (a b : List Nat) : Bool := decide (a < b)
def rLt (x y : D) (k : Bool → Prop) : Prop :=
  match x, y with
  | .int i, .int j => k (decide (i < j))
  | .str a, .str b => k (strLt a b)
  | _, _ => False
def rLe (x y : D) (k : Bool → Prop) : Prop :=
  match x, y with
  | .int i, .int j => k (decide (i ≤ j))
  | .str a, .str b => k (!strLt b a)
  | _, _ => False
def rIs (x y : D) (k : Bool → Prop) : Prop :=
  match x, y with
  | .non, .non => k true
  | .bl _, .non => k false | .int _, .non => k false | .str _, .non => k false | .tup _, .non => k false | .ref _, .non => k false | .rol _, .non => k false | .ktup _, .non => k false
  | .bl a, .bl b => k (decide (a = b))
  | _, _ => False
def rCmp : COp → D → D → Mem → (Bool → Prop) → Prop
  | .eq, x, y, m, k => rEq x y m k
  | .ne, x, y, m, k => rEq x y m fun b => k (!b)
  | .lt, x, y, _, k => rLt x y k
  | .le, x, y, _, k => rLe x y k
  | .gt, x, y, _, k => rLt y x k
  | .ge, x, y, _, k => rLe y x k
  | .isin, x, y, m, k => rIn x y m k
  | .notin, x, y, m, k => rIn x y m fun b => k (!b)
  | .is, x, y, _, k => rIs x y k
  | .isnot, x, y, _, k => rIs x y fun b => k (!b)
def rTru (x : D) (m : Mem) (k : Bool → Prop) : Prop :=
  match conS x with
  | some ds => k (!ds.isEmpty)
  | none => match x with
    | .non => k false
    | .bl b => k b
    | .int i => k (i != 0)
    | .str s => s.length ≤ big ∧ k (!s.isEmpty)
    | .ref a => match m a with
      | some (.lst ds) => k (!ds.isEmpty)
      | some (.dK kvs) => k (!kvs.isEmpty)
      | _ => False
    | _ => False
def rIx (x i : D) (m : Mem) (k : Kt) : Prop :=
  match conS x, i with
  | some ds, .int i => ∃ d, atI ds i = some d ∧ k d m
  | some _, _ => False
  | none, i => match x, i with
    | .str s, .int i => s.length ≤ big ∧ ∃ c, atI s i = some c ∧ k (.str [c]) m
    | .ref a, i => match m a, i with
      | some (.lst ds), .int i => ∃ d, atI ds i = some d ∧ k d m
      | some (.dK kvs), i => keyK i = true ∧ ∃ d, getKey kvs i = some d ∧ k d m
      | some (.dT kvs), i => keyT i = true ∧ ∃ d, getKey kvs i = some d ∧ k d m
      | _, _ => False
    | _, _ => False
def rSl (x : D) (lo hi : Option Int) (m : Mem) (k : Kt) : Prop :=
  match x with
  | .tup ds => k (.tup (cut ds lo hi)) m
  | .str s => s.length ≤ big ∧ k (.str (cut s lo hi)) m
  | .rol ds => New m (.lst (cut ds lo hi)) k
  | .ref a => match m a with
    | some (.lst ds) => New m (.lst (cut ds lo hi)) k
    | _ => False
  | _ => False
def putKey (kvs : List (D × D)) (x v : D) : List (D × D) := if hasKey kvs x then kvs.map fun q => if D.eqv q.1 x then (q.1, v) else q else kvs ++ [(x, v)]
def rSet (o i v : D) (m : Mem) (k : Mem → Prop) : Prop :=
  match o with
  | .ref a => match m a, i with
    | some (.lst ds), .int i => ∃ j, dIx ds.length i = some j ∧ k (upd m a (.lst (ds.set j v)))
    | some (.dK kvs), i => keyK i = true ∧ kvs.length < big ∧ k (upd m a (.dK (putKey kvs i v)))
    | some (.dT kvs), i => keyT i = true ∧ kvs.length < big ∧ k (upd m a (.dT (putKey kvs i v)))
    | _, _ => False
  | _ => False
def allBl : List D → Option (List Bool)
  | [] => some []
  | .bl b :: r => (allBl r).map (b :: ·)
  | _ :: _ => none
def allInt : List D → Option (List Int)
  | [] => some []
  | .int b :: r => (allInt r).map (b :: ·)
  | _ :: _ => none
def allStr : List D → Option (List (List Nat))
  | [] => some []
  | .str b :: r => (allStr r).map (b :: ·)
  | _ :: _ => none
def lstOf (m : Mem) (d : D) : Option (List D) :=
  match d with
  | .ref a => match m a with
    | some (.lst ds) => some ds
    | _ => none
  | _ => none
/-- a list's or tuple's items -/
def seqOf (m : Mem) (d : D) : Option (List D) :=
  match conS d with
  | some ds => some ds
  | none => lstOf m d
/-- the figures of a number -/
def digN (n : Nat) : List Nat := if n < 10 then [48 + n] else digN (n / 10) ++ [48 + n % 10]
def isTy (t : Blt) (own : Blt) (k : Bool → Prop) : Prop :=
  match t with
  | .isInt => k (decide (own = .isInt) || decide (own = .isBool))
  | .isBool => k (decide (own = .isBool))
  | .isStr => k (decide (own = .isStr))
  | .isList => k (decide (own = .isList))
  | .isTuple => k (decide (own = .isTuple))
  | .isDict => k (decide (own = .isDict))
  | _ => False
def rIsT (t : Blt) (x : D) (m : Mem) (k : Bool → Prop) : Prop :=
  match x with
  | .int _ => isTy t .isInt k
  | .bl _ => isTy t .isBool k
  | .non => isTy t .len k
  | .str _ => isTy t .isStr k
  | .tup _ => isTy t .isTuple k
  | .ktup _ => isTy t .isTuple k
  | .rol _ => False
  | .ref a => match m a with
    | some (.lst _) => isTy t .isList k
    | some (.dK _) => isTy t .isDict k
    | some (.dT _) => isTy t .isDict k
    | _ => False
/-- built-ins by values -/
def rBlt : Blt → List D → Mem → Kt → Prop
  | .len, [x], m, k => match conS x with
    | some ds => k (.int ds.length) m
    | none => match x with
      | .str s => s.length ≤ big ∧ k (.int s.length) m
      | .ref a => match m a with
        | some (.lst ds) => k (.int ds.length) m
        | some (.dK kvs) => k (.int kvs.length) m
        | some (.dT kvs) => k (.int kvs.length) m
        | _ => False
      | _ => False
  | .int, [.bl b], m, k => k (.int (if b then 1 else 0)) m
  | .int, [.int i], m, k => k (.int i) m
  | .str, [.int i], m, k => (0 ≤ i ∧ i < 2 ^ 1900) ∧ k (.str (digN i.toNat)) m
  | .list, [x], m, k => ∃ ds, seqOf m x = some ds ∧ New m (.lst ds) k
  | .tuple, [x], m, k => ∃ ds, seqOf m x = some ds ∧ k (.tup ds) m
  | .all, [x], m, k => ∃ ds bs, lstOf m x = some ds ∧ allBl ds = some bs ∧ k (.bl (bs.all id)) m
  | .any, [x], m, k => ∃ ds bs, lstOf m x = some ds ∧ allBl ds = some bs ∧ k (.bl (bs.any id)) m
  | .sum, [x], m, k => ∃ ds ns, lstOf m x = some ds ∧ allInt ds = some ns ∧ k (.int ns.sum) m
  | .max2, [.int i, .int j], m, k => k (.int (if j > i then j else i)) m
  | .min2, [.int i, .int j], m, k => k (.int (if j < i then j else i)) m
  | .isInt, [x], m, k => rIsT .isInt x m fun b => k (.bl b) m
  | .isBool, [x], m, k => rIsT .isBool x m fun b => k (.bl b) m
  | .isStr, [x], m, k => rIsT .isStr x m fun b => k (.bl b) m
  | .isList, [x], m, k => rIsT .isList x m fun b => k (.bl b) m
  | .isTuple, [x], m, k => rIsT .isTuple x m fun b => k (.bl b) m
  | .isDict, [x], m, k => rIsT .isDict x m fun b => k (.bl b) m
  | _, _, _, _ => False
def joinS (a : List Nat) : List (List Nat) → List Nat
  | [] => []
  | [x] => x
  | x :: y :: r => x ++ (a ++ joinS a (y :: r))
/-- parts between single signs -/
def splitS (c : Nat) : List Nat → List (List Nat)
  | [] => [[]]
  | x :: r => match splitS c r with
    | [] => [[]]
    | p :: ps => if x = c then [] :: p :: ps else (x :: p) :: ps
/-- of which type the receiver of a method is -/
def okLst (x : D) (m : Mem) : Prop := match x with
  | .ref a => match m a with
    | some (.lst _) => True
    | _ => False
  | _ => False
def okDic (x : D) (m : Mem) : Prop := match x with
  | .ref a => match m a with
    | some (.dK _) => True
    | some (.dT _) => True
    | _ => False
  | _ => False
def okStr (x : D) : Prop := match x with
  | .str _ => True
  | _ => False
def bmOk (b : Bm) (x : D) (m : Mem) : Prop :=
  match b with
  | .join => okStr x | .split => okStr x | .strip => okStr x | .rstrip => okStr x | .replace => okStr x | .isdigit => okStr x | .isalpha => okStr x
  | .get1 => okDic x m | .get2 => okDic x m | .update => okDic x m | .items => okDic x m | .values => okDic x m
  | _ => okLst x m
def rBm : Bm → D → List D → Mem → Kt → Prop
  | .append, .ref a, [v], m, k => match m a with
    | some (.lst ds) => ds.length < big ∧ k .non (upd m a (.lst (ds ++ [v])))
    | _ => False
  | .extend, .ref a, [.ref b], m, k => match m a, m b with
    | some (.lst ds), some (.lst es) => ds.length + es.length ≤ big ∧ k .non (upd m a (.lst (ds ++ es)))
    | _, _ => False
  | .pop, .ref a, [], m, k => match m a with
    | some (.lst ds) => ∃ d, ds[ds.length - 1]? = some d ∧ k d (upd m a (.lst ds.dropLast))
    | _ => False
  | .join, .str a, [x], m, k => ∃ ds ss, seqOf m x = some ds ∧ allStr ds = some ss ∧ (ss.map List.length).sum + ss.length * a.length ≤ big ∧ k (.str (joinS a ss)) m
  | .split, .str a, [.str s], m, k => ∃ c, s = [c] ∧ c < 256 ∧ a.length + 2 ≤ big ∧ New m (.lst ((splitS c a).map D.str)) k
  | .get2, .ref a, [x, v], m, k => match m a with
    | some (.dK kvs) => keyK x = true ∧ k ((getKey kvs x).getD v) m
    | some (.dT kvs) => keyT x = true ∧ k ((getKey kvs x).getD v) m
    | _ => False
  | _, _, _, _, _ => False

structure En where
  fn : Nat → Sp
  gl : Nat → D
  mt : Nat → List Nat → Sp
  ini : Nat → Sp

def rTg : Tg → D → St → Mem → (St → Mem → Prop) → Prop
  | .name i, d, σ, m, k => k (sset σ i d) m
  | .pair a b, d, σ, m, k => ∃ x y, tupS d = some [x, y] ∧ rTg a x σ m fun σ1 m1 => rTg b y σ1 m1 k
  | .trip a b c, d, σ, m, k => ∃ x y z, tupS d = some [x, y, z] ∧ rTg a x σ m fun σ1 m1 => rTg b y σ1 m1 fun σ2 m2 => rTg c z σ2 m2 k
  | .quad a b c e, d, σ, m, k => ∃ x y z w, tupS d = some [x, y, z, w] ∧ rTg a x σ m fun σ1 m1 => rTg b y σ1 m1 fun σ2 m2 => rTg c z σ2 m2 fun σ3 m3 => rTg e w σ3 m3 k
def pairUp : Nat → List D → List D
  | _, [] => []
  | i, d :: ds => .tup [.int i, d] :: pairUp (i + 1) ds
def zipUp : List D → List D → List D
  | x :: xs, y :: ys => .tup [x, y] :: zipUp xs ys
  | _, _ => []
/-- lo, lo + c, .. (n of them) -/
def rangeD (lo c : Int) : Nat → List D
  | 0 => []
  | n + 1 => .int lo :: rangeD (lo + c) c n
/-- a list's items as they stand at each turn -/
def Grd := Mem → Prop
def gTrue : Mem → Prop := fun _ => True
def gLst (a : Nat) (ds : List D) : Mem → Prop := fun m => m a = some (.lst ds)
def iter (x : D) (m : Mem) (k : (Mem → Prop) → List D → Prop) : Prop :=
  match conS x with
  | some ds => k gTrue ds
  | none => match x with
    | .str s => k gTrue (s.map fun c => .str [c])
    | .ref a => match m a with
      | some (.lst ds) => k (gLst a ds) ds
      | _ => False
    | _ => False
def i62 (i : Int) : Prop := -(2 ^ 62) ≤ i ∧ i < 2 ^ 62
/-- a comprehension's turns -/
def rLc (g : Mem → Prop) (tg : D → St → Mem → (St → Mem → Prop) → Prop) (tc : St → Mem → (Bool → Mem → Prop) → Prop) (te : St → Mem → Kt → Prop) (σ : St) : List D → List D → Mem → (List D → Mem → Prop) → Prop
  | [], acc, m, k => g m ∧ k acc m
  | d :: ds, acc, m, k => g m ∧ tg d σ m fun σ1 m1 => tc σ1 m1 fun b m2 => (b = true → te σ1 m2 fun v m3 => ∃ m4, Sub m4 m3 ∧ rLc g tg tc te σ ds (acc ++ [v]) m4 k) ∧ (b = false → ∃ m4, Sub m4 m2 ∧ rLc g tg tc te σ ds acc m4 k)

mutual
def rE (Γ : En) (E : XK) : Ex → St → Mem → Kt → Prop
  | .var i => fun σ m k => match sget σ i with
    | some d => k d m
    | none => False
  | .int i => fun _ m k => k (.int i) m
  | .str s => fun _ m k => k (.str s) m
  | .bl b => fun _ m k => k (.bl b) m
  | .non => fun _ m k => k .non m
  | .glob g => fun _ m k => k (Γ.gl g) m
  | .bin o a b => fun σ m k => rE Γ E a σ m fun x m1 => rE Γ E b σ m1 fun y m2 => rBin o x y m2 k
  | .neg a => fun σ m k => rE Γ E a σ m fun x m1 => match x with
    | .int i => k (.int (-i)) m1
    | _ => False
  | .cmp o a b => fun σ m k => rE Γ E a σ m fun x m1 => rE Γ E b σ m1 fun y m2 => rCmp o x y m2 fun c => k (.bl c) m2
  | .cmp2 o o' a b c => fun σ m k => rE Γ E a σ m fun x m1 => rE Γ E b σ m1 fun y m2 => rCmp o x y m2 fun p =>
      (p = true → rE Γ E c σ m2 fun z m3 => rCmp o' y z m3 fun q => k (.bl q) m3) ∧ (p = false → k (.bl false) m2)
  | .and a b => fun σ m k => rE Γ E a σ m fun x m1 => rTru x m1 fun p => (p = true → rE Γ E b σ m1 k) ∧ (p = false → k x m1)
  | .or a b => fun σ m k => rE Γ E a σ m fun x m1 => rTru x m1 fun p => (p = true → k x m1) ∧ (p = false → rE Γ E b σ m1 k)
  | .not a => fun σ m k => rE Γ E a σ m fun x m1 => rTru x m1 fun p => k (.bl (!p)) m1
  | .ite c a b => fun σ m k => rT Γ E c σ m fun p m1 => (p = true → rE Γ E a σ m1 k) ∧ (p = false → rE Γ E b σ m1 k)
  | .ix a i => fun σ m k => rE Γ E a σ m fun x m1 => rE Γ E i σ m1 fun y m2 => rIx x y m2 k
  | .sl a lo hi => fun σ m k => rE Γ E a σ m fun x m1 => rP Γ E lo σ m1 fun p m2 => rP Γ E hi σ m2 fun q m3 => rSl x p q m3 k
  | .part0 => fun _ _ _ => False
  | .tup es => fun σ m k => rEs Γ E es σ m fun ds m1 => k (.tup ds) m1
  | .lst es => fun σ m k => rEs Γ E es σ m fun ds m1 => New m1 (.lst ds) k
  | .dn => fun _ m k => (New m (.dK []) k) ∨ New m (.dT []) k
  | .call f es => fun σ m k => rEs Γ E es σ m fun ds m1 => Γ.fn f ds m1 k (E σ)
  | .new c es => fun σ m k => rEs Γ E es σ m fun ds m1 => ∀ p, m1 p = none → Γ.ini c (.ref p :: ds) (upd m1 p (.ins c [])) (fun d m2 => d = .non ∧ k (.ref p) m2) (E σ)
  | .mth n o es => fun σ m k => rE Γ E o σ m fun x m1 => ∃ a c fs, x = .ref a ∧ m1 a = some (.ins c fs) ∧ lk fs n = none ∧ rEs Γ E es σ m1 fun ds m2 => Γ.mt c n (.ref a :: ds) m2 k (E σ)
  | .blt b es => fun σ m k => rEs Γ E es σ m fun ds m1 => rBlt b ds m1 k
  | .bm b o es => fun σ m k => rE Γ E o σ m fun x m1 => bmOk b x m1 ∧ rEs Γ E es σ m1 fun ds m2 => rBm b x ds m2 k
  | .fld o f => fun σ m k => rE Γ E o σ m fun x m1 => ∃ a c fs v, x = .ref a ∧ m1 a = some (.ins c fs) ∧ lk fs f = some v ∧ k v m1
  | .lc vs tg src c elt => fun σ m k => rSrc Γ E src σ m fun g items m1 => items.length ≤ big ∧
      rLc g (rTg tg) (rT Γ (fun _ _ _ => False) c) (rE Γ (fun _ _ _ => False) elt) (swipe σ vs) items [] m1 fun ds m2 => New m2 (.lst ds) k
  | .lrg src => fun σ m k => rSrc Γ E src σ m fun _ items m1 => items.length ≤ big ∧ New m1 (.lst items) k
  | .cmpN _ _ => fun _ _ _ => False
/-- a chain's tests, from a value on -/
def rCh (Γ : En) (E : XK) : Chn → D → St → Mem → (Bool → Mem → Prop) → Prop
  | .one o e => fun y σ m k => rE Γ E e σ m fun z m1 => rCmp o y z m1 fun q => k q m1
  | .more o e r => fun y σ m k => rE Γ E e σ m fun z m1 => rCmp o y z m1 fun q => (q = true → rCh Γ E r z σ m1 k) ∧ (q = false → k false m1)
/-- a slice's part -/
def rP (Γ : En) (E : XK) : Ex → St → Mem → (Option Int → Mem → Prop) → Prop
  | .part0 => fun _ m k => k none m
  | .var i => fun σ m k => match sget σ i with
    | some (.int j) => k (some j) m
    | _ => False
  | .int i => fun _ m k => k (some i) m
  | .bin o a b => fun σ m k => rE Γ E a σ m fun x m1 => rE Γ E b σ m1 fun y m2 => rBin o x y m2 fun d m3 => ∃ j, d = .int j ∧ k (some j) m3
  | .blt b es => fun σ m k => rEs Γ E es σ m fun ds m1 => rBlt b ds m1 fun d m3 => ∃ j, d = .int j ∧ k (some j) m3
  | .call f es => fun σ m k => rEs Γ E es σ m fun ds m1 => Γ.fn f ds m1 (fun d m3 => ∃ j, d = .int j ∧ k (some j) m3) (E σ)
  | .neg (.int i) => fun _ m k => k (some (-i)) m
  | .fld o f => fun σ m k => rE Γ E o σ m fun x m1 => ∃ a c fs v, x = .ref a ∧ m1 a = some (.ins c fs) ∧ lk fs f = some (.int v) ∧ k (some v) m1
  | _ => fun _ _ _ => False
def rEs (Γ : En) (E : XK) : Exs → St → Mem → (List D → Mem → Prop) → Prop
  | .n => fun _ m k => k [] m
  | .c e r => fun σ m k => rE Γ E e σ m fun d m1 => rEs Γ E r σ m1 fun ds m2 => k (d :: ds) m2
/-- a test -/
def rT (Γ : En) (E : XK) : Ex → St → Mem → (Bool → Mem → Prop) → Prop
  | .and a b => fun σ m k => rT Γ E a σ m fun p m1 => (p = true → rT Γ E b σ m1 k) ∧ (p = false → k false m1)
  | .or a b => fun σ m k => rT Γ E a σ m fun p m1 => (p = true → k true m1) ∧ (p = false → rT Γ E b σ m1 k)
  | .not a => fun σ m k => rT Γ E a σ m fun p m1 => k (!p) m1
  | .cmp o a b => fun σ m k => rE Γ E a σ m fun x m1 => rE Γ E b σ m1 fun y m2 => rCmp o x y m2 fun c => k c m2
  | .bl b => fun _ m k => k b m
  | .var i => fun σ m k => match sget σ i with
    | some d => rTru d m fun p => k p m
    | none => False
  | .cmp2 o o' a b c => fun σ m k => rE Γ E a σ m fun x m1 => rE Γ E b σ m1 fun y m2 => rCmp o x y m2 fun p =>
      (p = true → rE Γ E c σ m2 fun z m3 => rCmp o' y z m3 fun q => k q m3) ∧ (p = false → k false m2)
  | .call f es => fun σ m k => rEs Γ E es σ m fun ds m1 => Γ.fn f ds m1 (fun d m3 => rTru d m3 fun p => k p m3) (E σ)
  | .mth n o es => fun σ m k => rE Γ E o σ m fun x m1 => ∃ a c fs, x = .ref a ∧ m1 a = some (.ins c fs) ∧ lk fs n = none ∧ rEs Γ E es σ m1 fun ds m2 => Γ.mt c n (.ref a :: ds) m2 (fun d m3 => rTru d m3 fun p => k p m3) (E σ)
  | .blt b es => fun σ m k => rEs Γ E es σ m fun ds m1 => rBlt b ds m1 fun d m3 => rTru d m3 fun p => k p m3
  | .bm b o es => fun σ m k => rE Γ E o σ m fun x m1 => bmOk b x m1 ∧ rEs Γ E es σ m1 fun ds m2 => rBm b x ds m2 fun d m3 => rTru d m3 fun p => k p m3
  | .fld o f => fun σ m k => rE Γ E o σ m fun x m1 => ∃ a c fs v, x = .ref a ∧ m1 a = some (.ins c fs) ∧ lk fs f = some v ∧ rTru v m1 fun p => k p m1
  | .ix a i => fun σ m k => rE Γ E a σ m fun x m1 => rE Γ E i σ m1 fun y m2 => rIx x y m2 fun d m3 => rTru d m3 fun p => k p m3
  | .cmpN a ch => fun σ m k => rE Γ E a σ m fun x m1 => rCh Γ E ch x σ m1 k
  | _ => fun _ _ _ => False
def rSrc (Γ : En) (E : XK) : Src → St → Mem → ((Mem → Prop) → List D → Mem → Prop) → Prop
  | .of e => fun σ m k => rE Γ E e σ m fun x m1 => iter x m1 fun g ds => k g ds m1
  | .rng1 a => fun σ m k => rE Γ E a σ m fun x m1 => ∃ j, x = .int j ∧ i62 j ∧ k gTrue (rangeD 0 1 j.toNat) m1
  | .rng2 a b => fun σ m k => rE Γ E a σ m fun x m1 => rE Γ E b σ m1 fun y m2 => ∃ i j, x = .int i ∧ y = .int j ∧ i62 i ∧ i62 j ∧ k gTrue (rangeD i 1 (j - i).toNat) m2
  | .rng3 _ _ _ => fun _ _ _ => False
  | .enum a => fun σ m k => rE Γ E a σ m fun x m1 => iter x m1 fun g ds => k g (pairUp 0 ds) m1
  | .zip a b => fun σ m k => rE Γ E a σ m fun x m1 => rE Γ E b σ m1 fun y m2 => iter x m2 fun g ds => iter y m2 fun g' es => k (fun m => g m ∧ g' m) (zipUp ds es) m2
  | .rev a => fun σ m k => rE Γ E a σ m fun x m1 => iter x m1 fun g ds => k g ds.reverse m1
end

structure Ends where
  nx : St → Mem → Prop
  rt : Kt
  bk : St → Mem → Prop := fun _ _ => False
  ct : St → Mem → Prop := fun _ _ => False
  ex : XK := fun _ _ _ => False
/-- a for's turns -/
def rFor (g : Mem → Prop) (tg : D → St → Mem → (St → Mem → Prop) → Prop) (body : Ends → St → Mem → Prop) (Z : Ends) : List D → St → Mem → Prop
  | [], σ, m => g m ∧ Z.nx σ m
  | d :: ds, σ, m => g m ∧ tg d σ m (body { nx := fun σ1 m1 => ∃ m2, Sub m2 m1 ∧ rFor g tg body Z ds σ1 m2, rt := Z.rt, bk := Z.nx, ct := fun σ1 m1 => ∃ m2, Sub m2 m1 ∧ rFor g tg body Z ds σ1 m2, ex := Z.ex })
/-- a while's turns, n at most -/
def rWhl (c : XK → St → Mem → (Bool → Mem → Prop) → Prop) (body : Ends → St → Mem → Prop) (Z : Ends) : Nat → St → Mem → Prop
  | 0, _, _ => False
  | n + 1, σ, m => c Z.ex σ m fun p m1 => (p = true → body { nx := fun σ1 m2 => ∃ m3, Sub m3 m2 ∧ rWhl c body Z n σ1 m3, rt := Z.rt, bk := Z.nx, ct := fun σ1 m2 => ∃ m3, Sub m3 m2 ∧ rWhl c body Z n σ1 m3, ex := Z.ex } σ m1) ∧ (p = false → Z.nx σ m1)
mutual
def rS (Γ : En) : Sm → Ends → St → Mem → Prop
  | .set i e => fun Z σ m => rE Γ Z.ex e σ m fun d m1 => Z.nx (sset σ i d) m1
  | .setT t e => fun Z σ m => rE Γ Z.ex e σ m fun d m1 => rTg t d σ m1 Z.nx
  | .setIx o i e => fun Z σ m => rE Γ Z.ex e σ m fun v m1 => rE Γ Z.ex o σ m1 fun x m2 => rE Γ Z.ex i σ m2 fun y m3 => rSet x y v m3 fun m4 => Z.nx σ m4
  | .setF o f e => fun Z σ m => rE Γ Z.ex e σ m fun v m1 => rE Γ Z.ex o σ m1 fun x m2 => ∃ a c fs, x = .ref a ∧ m2 a = some (.ins c fs) ∧ fs.length < 900 ∧ Z.nx σ (upd m2 a (.ins c (putF f v fs)))
  | .aug i op e => fun Z σ m => match sget σ i with
    | some x => rE Γ Z.ex e σ m fun y m1 => rBin op x y m1 fun d m2 => Z.nx (sset σ i d) m2
    | none => False
  | .augF o f op e => fun Z σ m => rE Γ Z.ex o σ m fun x m1 => ∃ a c fs v, x = .ref a ∧ m1 a = some (.ins c fs) ∧ lk fs f = some v ∧ rE Γ Z.ex e σ m1 fun y m2 => rBin op v y m2 fun d m3 => ∃ fs', m3 a = some (.ins c fs') ∧ fs'.length < 900 ∧ Z.nx σ (upd m3 a (.ins c (putF f d fs')))
  | .expr e => fun Z σ m => rE Γ Z.ex e σ m fun _ m1 => Z.nx σ m1
  | .ret e => fun Z σ m => rE Γ Z.ex e σ m Z.rt
  | .retN => fun Z _ m => Z.rt .non m
  | .ite c a b => fun Z σ m => rT Γ Z.ex c σ m fun p m1 => (p = true → rSs Γ a Z σ m1) ∧ (p = false → rSs Γ b Z σ m1)
  | .whl c b => fun Z σ m => ∃ n, rWhl (fun X => rT Γ X c) (rSs Γ b) Z n σ m
  | .for_ t src b => fun Z σ m => rSrc Γ Z.ex src σ m fun g items m1 => rFor g (rTg t) (rSs Γ b) Z items σ m1
  | .raise _ _ => fun _ _ _ => False
  | .pass => fun Z σ m => Z.nx σ m
  | .brk => fun Z σ m => Z.bk σ m
  | .cont => fun Z σ m => Z.ct σ m
def rSs (Γ : En) : Sms → Ends → St → Mem → Prop
  | .n => fun Z σ m => Z.nx σ m
  | .c s r => fun Z σ m => rS Γ s { nx := fun σ1 m1 => rSs Γ r Z σ1 m1, rt := Z.rt, bk := Z.bk, ct := Z.ct, ex := Z.ex } σ m
end
/-- the names' values at a def's entry: its args, then nothing -/
def startD (n : Nat) (ds : List D) : St := ds.map some ++ List.replicate (n - ds.length) none
/-- a def's body of n names keeps a promise -/
def Keeps (Γ : En) (n : Nat) (b : Sms) (sp : Sp) : Prop := ∀ ds m k X, sp ds m k X →
  rSs Γ b { nx := fun _ m1 => ∃ m2, Sub m2 m1 ∧ k .non m2, rt := fun d m1 => ∃ m2, Sub m2 m1 ∧ k d m2, ex := fun _ e m1 => ∃ m2, Sub m2 m1 ∧ X e m2 } (startD n ds) m
end DL

namespace DL
open PySem PySem.Spec PyProof.Rows
open L2 (V Hp HO SqL SqT TE TT TA TS TG TGs Cx Inv PE PT PW PA PS PSs PG PGs RelV Vals WX)

theorem sqt_none {K : PySem.W.Frag} {H : Hp} {a : Addr} {vs : List V} (h : SqT K (fun _ => none) a vs) : SqT K H a vs := by
  rcases h with (h | ⟨o, h⟩) | h
  · cases h
  · cases h
  · exact .inr h
theorem sqt_of {K : PySem.W.Frag} {H : Hp} {a : Addr} {vs : List V} (h : H a = some (.tup vs)) : SqT K H a vs := .inl (.inl h)
/-- a list that is only read -/
def Rol (K : PySem.W.Frag) (H : Hp) (a : Addr) (vs : List V) : Prop := (∃ o, H a = some (.frz o (.lst vs))) ∨ SqL K (fun _ => none) a vs
theorem Rol.sq {K : PySem.W.Frag} {H : Hp} {a : Addr} {vs : List V} (h : Rol K H a vs) : SqL K H a vs := by
  rcases h with ⟨o, h⟩ | (h | ⟨o, h⟩) | h
  · exact .inl (.inr ⟨o, h⟩)
  · cases h
  · cases h
  · exact .inr h
mutual
def IsV (K : PySem.W.Frag) (H : Hp) : D → V → Prop
  | .non, v => v = .non
  | .bl b, v => v = .bl b
  | .int i, v => v = .int i
  | .str s, v => v = .str (SX.S s)
  | .tup ds, v => ∃ a vs, v = .ref a ∧ H a = some (.tup vs) ∧ IsL K H ds vs
  | .ref a, v => v = .ref a
  | .rol ds, v => ∃ a vs, v = .ref a ∧ Rol K H a vs ∧ IsL K H ds vs
  | .ktup ds, v => ∃ a vs, v = .ref a ∧ SqT K (fun _ => none) a vs ∧ IsL K H ds vs
def IsL (K : PySem.W.Frag) (H : Hp) : List D → List V → Prop
  | [], vs => vs = []
  | d :: ds, vs => ∃ v r, vs = v :: r ∧ IsV K H d v ∧ IsL K H ds r
end
/-- tuples stay -/
structure Kp (H H' : Hp) : Prop where
  tup : ∀ a vs, H a = some (.tup vs) → H' a = some (.tup vs)
  frz : ∀ a o vs, H a = some (.frz o (.lst vs)) → H' a = some (.frz o (.lst vs))
theorem Kp.refl (H : Hp) : Kp H H := ⟨fun _ _ h => h, fun _ _ _ h => h⟩
theorem Kp.trans {H H1 H2 : Hp} (a : Kp H H1) (b : Kp H1 H2) : Kp H H2 := ⟨fun x vs h => b.tup x vs (a.tup x vs h), fun x o vs h => b.frz x o vs (a.frz x o vs h)⟩
theorem Rol.kp {K : PySem.W.Frag} {H H' : Hp} {a : Addr} {vs : List V} (k : Kp H H') (h : Rol K H a vs) : Rol K H' a vs := by
  rcases h with ⟨o, h⟩ | h
  · exact .inl ⟨o, k.frz a o vs h⟩
  · exact .inr h
mutual
theorem IsV.kp {K : PySem.W.Frag} {H H' : Hp} (k : Kp H H') : ∀ {d : D} {v : V}, IsV K H d v → IsV K H' d v
  | .non, _, h => h
  | .bl _, _, h => h
  | .int _, _, h => h
  | .str _, _, h => h
  | .ref _, _, h => h
  | .tup _, _, ⟨a, vs, e, t, h⟩ => ⟨a, vs, e, k.tup a vs t, IsL.kp k h⟩
  | .ktup _, _, ⟨a, vs, e, t, h⟩ => ⟨a, vs, e, t, IsL.kp k h⟩
  | .rol _, _, ⟨a, vs, e, t, h⟩ => ⟨a, vs, e, t.kp k, IsL.kp k h⟩
theorem IsL.kp {K : PySem.W.Frag} {H H' : Hp} (k : Kp H H') : ∀ {ds : List D} {vs : List V}, IsL K H ds vs → IsL K H' ds vs
  | [], _, h => h
  | _ :: _, _, ⟨v, r, e, h, t⟩ => ⟨v, r, e, IsV.kp k h, IsL.kp k t⟩
end
theorem IsL.length {K : PySem.W.Frag} {H : Hp} : ∀ {ds : List D} {vs : List V}, IsL K H ds vs → vs.length = ds.length
  | [], _, h => by
    rw [show _ = [] from h]
    rfl
  | _ :: _, _, ⟨v, r, e, h, t⟩ => by rw [e, List.length_cons, List.length_cons, t.length]
theorem IsL.get {K : PySem.W.Frag} {H : Hp} : ∀ {ds : List D} {vs : List V} {i : Nat} {d : D}, IsL K H ds vs → ds[i]? = some d → ∃ v, vs[i]? = some v ∧ IsV K H d v
  | [], _, _, _, _, e => by simp at e
  | x :: xs, _, 0, d, ⟨v, r, e, h, t⟩, q => by
    subst e
    have : x = d := Option.some.inj (by simpa using q)
    subst this
    exact ⟨v, by simp, h⟩
  | x :: xs, _, i + 1, d, ⟨v, r, e, h, t⟩, q => by
    subst e
    obtain ⟨w, a, b⟩ := IsL.get (i := i) t (by simpa using q)
    exact ⟨w, by simpa using a, b⟩
theorem IsL.append {K : PySem.W.Frag} {H : Hp} : ∀ {ds es : List D} {vs ws : List V}, IsL K H ds vs → IsL K H es ws → IsL K H (ds ++ es) (vs ++ ws)
  | [], _, _, _, h, t => by
    rw [show _ = [] from h]
    exact t
  | _ :: _, _, _, _, ⟨v, r, e, h, t⟩, q => by
    subst e
    exact ⟨v, _, rfl, h, IsL.append t q⟩
theorem IsL.drop {K : PySem.W.Frag} {H : Hp} : ∀ {ds : List D} {vs : List V} (n : Nat), IsL K H ds vs → IsL K H (ds.drop n) (vs.drop n)
  | _, _, 0, h => h
  | [], _, n + 1, h => by
    rw [show _ = [] from h]
    rfl
  | _ :: _, _, n + 1, ⟨v, r, e, h, t⟩ => by
    subst e
    exact IsL.drop n t
theorem IsL.take {K : PySem.W.Frag} {H : Hp} : ∀ {ds : List D} {vs : List V} (n : Nat), IsL K H ds vs → IsL K H (ds.take n) (vs.take n)
  | _, _, 0, h => rfl
  | [], _, n + 1, h => by
    rw [show _ = [] from h]
    rfl
  | _ :: _, _, n + 1, ⟨v, r, e, h, t⟩ => by
    subst e
    exact ⟨v, _, rfl, h, IsL.take n t⟩
theorem IsL.set {K : PySem.W.Frag} {H : Hp} {d : D} {v : V} (q : IsV K H d v) : ∀ {ds : List D} {vs : List V} (n : Nat), IsL K H ds vs → IsL K H (ds.set n d) (vs.set n v)
  | [], _, n, h => by
    rw [show _ = [] from h]
    rfl
  | _ :: _, _, 0, ⟨w, r, e, h, t⟩ => by
    subst e
    exact ⟨v, _, rfl, q, t⟩
  | _ :: _, _, n + 1, ⟨w, r, e, h, t⟩ => by
    subst e
    exact ⟨w, _, rfl, h, IsL.set q n t⟩
theorem IsL.ints {K : PySem.W.Frag} {H : Hp} : ∀ ns : List Int, IsL K H (ns.map D.int) (ns.map V.int)
  | [] => rfl
  | n :: ns => ⟨_, _, rfl, rfl, IsL.ints ns⟩

/-- a sequence that never changes, in the heap -/
theorem conS_sq {K : PySem.W.Frag} {H : Hp} {d : D} {ds : List D} {v : V} (e : conS d = some ds) (h : IsV K H d v) : ∃ a vs, v = .ref a ∧ (SqL K H a vs ∨ SqT K H a vs) ∧ IsL K H ds vs := by
  cases d <;> simp only [conS, Option.some.injEq, reduceCtorEq] at e
  · subst e
    obtain ⟨a, vs, e, t, l⟩ := h
    exact ⟨a, vs, e, .inr (sqt_of t), l⟩
  · subst e
    obtain ⟨a, vs, e, t, l⟩ := h
    exact ⟨a, vs, e, .inl t.sq, l⟩
  · subst e
    obtain ⟨a, vs, e, t, l⟩ := h
    exact ⟨a, vs, e, .inr (sqt_none t), l⟩
theorem tupS_sq {K : PySem.W.Frag} {H : Hp} {d : D} {ds : List D} {v : V} (e : tupS d = some ds) (h : IsV K H d v) : ∃ a vs, v = .ref a ∧ SqT K H a vs ∧ IsL K H ds vs := by
  cases d <;> simp only [tupS, Option.some.injEq, reduceCtorEq] at e
  · subst e
    obtain ⟨a, vs, e, t, l⟩ := h
    exact ⟨a, vs, e, sqt_of t, l⟩
  · subst e
    obtain ⟨a, vs, e, t, l⟩ := h
    exact ⟨a, vs, e, sqt_none t, l⟩

def keyOf : D → Option L2.Key
  | .int i => some (.inl i)
  | .str s => some (.inr (SX.S s))
  | _ => none
def keysOf : List D → Option (List L2.Key)
  | [] => some []
  | d :: ds => (keyOf d).bind fun k => (keysOf ds).map (k :: ·)
def tkeyOf : D → Option (List L2.Key)
  | .tup ds => keysOf ds
  | _ => none
def IsKs (K : PySem.W.Frag) (H : Hp) : List (D × D) → List (L2.Key × V) → Prop
  | [], ws => ws = []
  | (x, d) :: r, ws => ∃ k v t, ws = (k, v) :: t ∧ keyOf x = some k ∧ IsV K H d v ∧ IsKs K H r t
def IsTs (K : PySem.W.Frag) (H : Hp) : List (D × D) → List (List L2.Key × V) → Prop
  | [], ws => ws = []
  | (x, d) :: r, ws => ∃ k v t, ws = (k, v) :: t ∧ tkeyOf x = some k ∧ IsV K H d v ∧ IsTs K H r t
def IsFs (K : PySem.W.Frag) (H : Hp) : List (List Nat × D) → List (Str × V) → Prop
  | [], ws => ws = []
  | (f, d) :: r, ws => ∃ v t, ws = (SX.S f, v) :: t ∧ IsV K H d v ∧ IsFs K H r t
theorem IsKs.kp {K : PySem.W.Frag} {H H' : Hp} (k : Kp H H') : ∀ {ds : List (D × D)} {ws : List (L2.Key × V)}, IsKs K H ds ws → IsKs K H' ds ws
  | [], _, h => h
  | (_, _) :: _, _, ⟨a, v, t, e, q, h, r⟩ => ⟨a, v, t, e, q, h.kp k, IsKs.kp k r⟩
theorem IsTs.kp {K : PySem.W.Frag} {H H' : Hp} (k : Kp H H') : ∀ {ds : List (D × D)} {ws : List (List L2.Key × V)}, IsTs K H ds ws → IsTs K H' ds ws
  | [], _, h => h
  | (_, _) :: _, _, ⟨a, v, t, e, q, h, r⟩ => ⟨a, v, t, e, q, h.kp k, IsTs.kp k r⟩
theorem IsFs.kp {K : PySem.W.Frag} {H H' : Hp} (k : Kp H H') : ∀ {ds : List (List Nat × D)} {ws : List (Str × V)}, IsFs K H ds ws → IsFs K H' ds ws
  | [], _, h => h
  | (_, _) :: _, _, ⟨v, t, e, h, r⟩ => ⟨v, t, e, h.kp k, IsFs.kp k r⟩

def RepO (cl : Nat → Addr) (K : PySem.W.Frag) (H : Hp) (a : Addr) : MO → Prop
  | .lst ds => ∃ vs, H a = some (.lst vs) ∧ IsL K H ds vs
  | .dK kvs => ∃ ws, H a = some (.dK ws) ∧ IsKs K H kvs ws
  | .dT kvs => ∃ ws, H a = some (.dT ws) ∧ IsTs K H kvs ws
  | .ins c fs => ∃ dx ws, H a = some (.ins (cl c) dx ws) ∧ IsFs K H fs ws
def Rep (cl : Nat → Addr) (K : PySem.W.Frag) (H : Hp) (m : Mem) : Prop := ∀ a o, m a = some o → RepO cl K H a o
/-- what is not told of stays, and is not told of afterwards -/
structure Ext (H : Hp) (m : Mem) (H' : Hp) (m' : Mem) : Prop where
  keep : ∀ a o, H a = some o → m a = none → H' a = some o
  new : ∀ a, m a = none → H a ≠ none → m' a = none
theorem Ext.refl (H : Hp) (m : Mem) : Ext H m H m := ⟨fun _ _ h _ => h, fun _ h _ => h⟩
theorem Ext.trans {H H1 H2 : Hp} {m m1 m2 : Mem} (a : Ext H m H1 m1) (b : Ext H1 m1 H2 m2) : Ext H m H2 m2 where
  keep := fun x o h n => b.keep x o (a.keep x o h n) (a.new x n (by rw [h]; exact fun z => by cases z))
  new := fun x n h => by
    cases e : H x with
    | none => exact absurd e h
    | some o => exact b.new x (a.new x n h) (by rw [a.keep x o e n]; exact fun z => by cases z)
section
variable {cl : Nat → Addr} {K : PySem.W.Frag} {H H' : Hp} {m m' : Mem} {a p : Addr}
theorem Rep.at (r : Rep cl K H m) {o : MO} (e : m a = some o) : ∃ u, H a = some u ∧ (∀ ts, u ≠ .tup ts) ∧ ∀ o' ts, u ≠ .frz o' ts := by
  have q := r a o e
  cases o with
  | lst ds =>
    obtain ⟨_, z, _⟩ := q
    exact ⟨_, z, (fun _ h => nomatch h), fun _ _ h => nomatch h⟩
  | dK kvs =>
    obtain ⟨_, z, _⟩ := q
    exact ⟨_, z, (fun _ h => nomatch h), fun _ _ h => nomatch h⟩
  | dT kvs =>
    obtain ⟨_, z, _⟩ := q
    exact ⟨_, z, (fun _ h => nomatch h), fun _ _ h => nomatch h⟩
  | ins c fs =>
    obtain ⟨_, _, z, _⟩ := q
    exact ⟨_, z, (fun _ h => nomatch h), fun _ _ h => nomatch h⟩
theorem Rep.free (r : Rep cl K H m) (h : H a = none) : m a = none := by
  cases e : m a with
  | none => rfl
  | some o =>
    obtain ⟨u, z, _⟩ := r.at e
    rw [h] at z
    cases z
theorem Rep.notup (r : Rep cl K H m) {vs : List V} (h : H a = some (.tup vs)) : m a = none := by
  cases e : m a with
  | none => rfl
  | some o =>
    obtain ⟨u, z, y, _⟩ := r.at e
    rw [h] at z
    cases z
    exact absurd rfl (y vs)
theorem Rep.nofrz (r : Rep cl K H m) {o : Obj} {vs : HO} (h : H a = some (.frz o vs)) : m a = none := by
  cases e : m a with
  | none => rfl
  | some o' =>
    obtain ⟨u, z, _, y⟩ := r.at e
    rw [h] at z
    cases z
    exact absurd rfl (y o vs)
theorem Rep.kp (r : Rep cl K H m) (e : Ext H m H' m') : Kp H H' := ⟨fun a vs h => e.keep a _ h (r.notup h), fun a o vs h => e.keep a _ h (r.nofrz h)⟩
theorem Rep.sub (r : Rep cl K H m) (s : Sub m' m) : Rep cl K H m' := fun a o e => r a o (s a o e)
theorem Ext.sub {m1 : Mem} (e : Ext H m H' m1) (s : Sub m' m1) : Ext H m H' m' := ⟨e.keep, fun a n h => by
  cases q : m' a with
  | none => rfl
  | some o =>
    have := e.new a n h
    rw [s a o q] at this
    cases this⟩
theorem RepO.kp (k : Kp H H') {o : MO} (h : RepO cl K H a o) (e : H' a = H a) : RepO cl K H' a o := by
  cases o with
  | lst ds =>
    obtain ⟨vs, z, q⟩ := h
    exact ⟨vs, e.trans z, q.kp k⟩
  | dK kvs =>
    obtain ⟨vs, z, q⟩ := h
    exact ⟨vs, e.trans z, q.kp k⟩
  | dT kvs =>
    obtain ⟨vs, z, q⟩ := h
    exact ⟨vs, e.trans z, q.kp k⟩
  | ins c fs =>
    obtain ⟨dx, vs, z, q⟩ := h
    exact ⟨dx, vs, e.trans z, q.kp k⟩
theorem kp_new {p : Addr} {o : HO} (h : H p = none) : Kp H (L2.upd H p o) := ⟨fun a vs q => by rw [L2.upd_ne (L2.ne_of_none q h)]; exact q, fun a u vs q => by rw [L2.upd_ne (L2.ne_of_none q h)]; exact q⟩
/-- an object that is new, told of or not -/
theorem Rep.new (r : Rep cl K H m) {p : Addr} {o : HO} {u : MO} (h : H p = none) (q : RepO cl K (L2.upd H p o) p u) : Rep cl K (L2.upd H p o) (upd m p u) := fun a w e => by
  by_cases z : a = p
  · subst z
    rw [upd_same] at e
    cases e
    exact q
  · rw [upd_ne z] at e
    exact (r a w e).kp (kp_new h) (L2.upd_ne z)
theorem Rep.hid (r : Rep cl K H m) {p : Addr} {o : HO} (h : H p = none) : Rep cl K (L2.upd H p o) m := fun a w e => by
  have z : a ≠ p := fun z => by
    subst z
    rw [r.free h] at e
    cases e
  exact (r a w e).kp (kp_new h) (L2.upd_ne z)
theorem Ext.tell {p : Addr} {o : HO} {u : MO} (h : H p = none) : Ext H m (L2.upd H p o) (upd m p u) where
  keep := fun a w e _ => by
    rw [L2.upd_ne (L2.ne_of_none e h)]
    exact e
  new := fun a n e => by
    rw [upd_ne]
    · exact n
    · exact fun z => e (by rw [z, h])
theorem Ext.hid {p : Addr} {o : HO} (h : H p = none) : Ext H m (L2.upd H p o) m where
  keep := fun a w e _ => by
    rw [L2.upd_ne (L2.ne_of_none e h)]
    exact e
  new := fun a n e => n
theorem kp_mut {p : Addr} {o u : HO} (h : H p = some u) (h1 : ∀ ts, u ≠ .tup ts) (h2 : ∀ o' ts, u ≠ .frz o' ts) : Kp H (L2.upd H p o) := ⟨fun a vs q => by
  rw [L2.upd_ne]
  · exact q
  · rintro rfl
    rw [h] at q
    cases q
    exact h1 vs rfl, fun a u vs q => by
  rw [L2.upd_ne]
  · exact q
  · rintro rfl
    rw [h] at q
    cases q
    exact h2 _ _ rfl⟩
/-- an object that is told of is changed -/
theorem Rep.mut (r : Rep cl K H m) {p : Addr} {o : HO} {u u' : MO} (h : m p = some u') (q : RepO cl K (L2.upd H p o) p u) : Rep cl K (L2.upd H p o) (upd m p u) := fun a w e => by
  obtain ⟨v, z, y1, y2⟩ := r.at h
  by_cases z' : a = p
  · subst z'
    rw [upd_same] at e
    cases e
    exact q
  · rw [upd_ne z'] at e
    exact (r a w e).kp (kp_mut z y1 y2) (L2.upd_ne z')
theorem Ext.mut {p : Addr} {o : HO} {u u' : MO} (h : m p = some u') : Ext H m (L2.upd H p o) (upd m p u) where
  keep := fun a w e n => by
    rw [L2.upd_ne]
    · exact e
    · rintro rfl
      rw [h] at n
      cases n
  new := fun a n e => by
    rw [upd_ne]
    · exact n
    · rintro rfl
      rw [h] at n
      cases n
end
end DL

namespace DL
open PySem PySem.Spec PyProof.Rows
open L2 (V Hp HO SqL SqT TE TT TA TS TG TGs Cx Inv PE PT PW PA PS PSs PG PGs RelV Vals WX OpR UnR CallR IxR SlR MtR)

structure StR (K : PySem.W.Frag) (H : Hp) (σv : L2.St) (σ : St) : Prop where
  len : σv.length = σ.length
  at_ : ∀ i d, sget σ i = some d → ∃ v, σv[i]? = some (some v) ∧ IsV K H d v
theorem sget_lt : ∀ {σ : St} {i : Nat} {d : D}, sget σ i = some d → i < σ.length
  | [], _, _, h => by cases h
  | _ :: _, 0, _, _ => Nat.zero_lt_succ _
  | _ :: r, i + 1, d, h => Nat.succ_lt_succ (sget_lt (σ := r) h)
theorem sset_length : ∀ (σ : St) (i : Nat) (d : D), (sset σ i d).length = σ.length
  | [], _, _ => rfl
  | _ :: _, 0, _ => rfl
  | _ :: r, i + 1, d => congrArg (· + 1) (sset_length r i d)
theorem swipe1_length : ∀ (σ : St) (i : Nat), (swipe1 σ i).length = σ.length
  | [], _ => rfl
  | _ :: _, 0 => rfl
  | _ :: r, i + 1 => congrArg (· + 1) (swipe1_length r i)
theorem swipe_length (σ : St) : ∀ vs : List Nat, (swipe σ vs).length = σ.length
  | [] => rfl
  | v :: vs => (swipe1_length _ v).trans (swipe_length σ vs)
theorem sget_sset : ∀ {σ : St} {i j : Nat} {d e : D}, sget (sset σ i d) j = some e → (j = i ∧ e = d ∧ i < σ.length) ∨ (j ≠ i ∧ sget σ j = some e)
  | [], _, _, _, _, h => by cases h
  | _ :: _, 0, 0, d, e, h => .inl ⟨rfl, (Option.some.inj h).symm, Nat.zero_lt_succ _⟩
  | _ :: _, 0, j + 1, d, e, h => .inr ⟨fun z => (by cases z), h⟩
  | o :: _, i + 1, 0, d, e, h => .inr ⟨fun z => (by cases z), h⟩
  | _ :: r, i + 1, j + 1, d, e, h => by
    rcases sget_sset (σ := r) h with ⟨a, b, c⟩ | ⟨a, b⟩
    · exact .inl ⟨congrArg (· + 1) a, b, Nat.succ_lt_succ c⟩
    · exact .inr ⟨fun z => a (Nat.succ.inj z), b⟩
theorem sget_swipe1 : ∀ {σ : St} {i j : Nat} {e : D}, sget (swipe1 σ i) j = some e → j ≠ i ∧ sget σ j = some e
  | [], _, _, _, h => by cases h
  | _ :: _, 0, 0, e, h => by cases h
  | _ :: _, 0, j + 1, e, h => ⟨fun z => (by cases z), h⟩
  | o :: _, i + 1, 0, e, h => ⟨fun z => (by cases z), h⟩
  | _ :: r, i + 1, j + 1, e, h => by
    obtain ⟨a, b⟩ := sget_swipe1 (σ := r) h
    exact ⟨fun z => a (Nat.succ.inj z), b⟩
section
variable {K : PySem.W.Frag} {H H' : Hp} {σv : L2.St} {σ : St}
theorem StR.kp (k : Kp H H') (r : StR K H σv σ) : StR K H' σv σ := ⟨r.len, fun i d h => by
  obtain ⟨v, a, b⟩ := r.at_ i d h
  exact ⟨v, a, b.kp k⟩⟩
theorem StR.set (r : StR K H σv σ) {d : D} {v : V} (h : IsV K H d v) (i : Nat) : StR K H (σv.set i (some v)) (sset σ i d) := ⟨by rw [List.length_set, sset_length, r.len], fun j e q => by
  rcases sget_sset q with ⟨a, b, c⟩ | ⟨a, b⟩
  · subst a b
    exact ⟨v, List.getElem?_set_self (by rw [r.len]; exact c), h⟩
  · obtain ⟨w, x, y⟩ := r.at_ j e b
    exact ⟨w, by rw [List.getElem?_set_ne (Ne.symm a)]; exact x, y⟩⟩
theorem StR.wipe1 (r : StR K H σv σ) (i : Nat) : StR K H (σv.set i none) (swipe1 σ i) := ⟨by rw [List.length_set, swipe1_length, r.len], fun j e q => by
  obtain ⟨a, b⟩ := sget_swipe1 q
  obtain ⟨w, x, y⟩ := r.at_ j e b
  exact ⟨w, by rw [List.getElem?_set_ne (Ne.symm a)]; exact x, y⟩⟩
theorem StR.wipe (r : StR K H σv σ) : ∀ vs : List Nat, StR K H (L2.wipe σv vs) (swipe σ vs)
  | [] => r
  | v :: vs => (StR.wipe r vs).wipe1 v
end

/-- an exception in flight: its class, its own dict -/
def IsX (cl : Nat → Addr) (K : PySem.W.Frag) (H : Hp) (e : Exc) (cls : Value) (dd : Option Addr) : Prop :=
  cls = .ref (cl e.cls) ∧ ((e.fs = [] ∧ dd = none) ∨ ∃ d ws, dd = some d ∧ H d = some (.xd ws) ∧ IsFs K H e.fs ws)
section
variable (cl : Nat → Addr) (K : PySem.W.Frag) (W : WX)
structure PostX (H : Hp) (m : Mem) (E : XK) : Prop where
  ex : ∀ σ' σv' e m' cls dd H', E σ' e m' → StR K H' σv' σ' → IsX cl K H' e cls dd → Rep cl K H' m' → Ext H m H' m' → W cls dd σv' H'
structure Post {α β : Type} (R : Hp → α → β → Prop) (H : Hp) (m : Mem) (E : XK) (k : α → Mem → Prop) (Q : β → Hp → Prop) : Prop where
  ok : ∀ d m' v H', k d m' → R H' d v → Rep cl K H' m' → Ext H m H' m' → Q v H'
  ex : PostX cl K W H m E
abbrev Rd (α : Type) : Type := XK → St → Mem → (α → Mem → Prop) → Prop
def Lift {α β : Type} (R : Hp → α → β → Prop) (t : Rd α) : L2.St → Hp → (β → Hp → Prop) → Prop := fun σv H Q =>
  ∃ σ m k E, StR K H σv σ ∧ Rep cl K H m ∧ t E σ m k ∧ Post cl K W R H m E k Q
end
abbrev RV (K : PySem.W.Frag) : Hp → D → V → Prop := fun H d v => IsV K H d v
abbrev RL (K : PySem.W.Frag) : Hp → List D → List V → Prop := fun H d v => IsL K H d v
abbrev RB : Hp → Bool → Bool → Prop := fun _ a b => a = b
abbrev RO : Hp → Option Int → Option Int → Prop := fun _ a b => a = b
section
variable {cl : Nat → Addr} {K : PySem.W.Frag} {W : WX} {α β γ δ : Type} {R : Hp → α → β → Prop} {S : Hp → γ → δ → Prop} {H H1 : Hp} {m m1 : Mem} {E : XK} {k : α → Mem → Prop} {Q : β → Hp → Prop} {σv : L2.St}
theorem PostX.step (p : PostX cl K W H m E) (e : Ext H m H1 m1) : PostX cl K W H1 m1 E := ⟨fun σ' σv' x m' cls dd H' a b c d f => p.ex σ' σv' x m' cls dd H' a b c d (e.trans f)⟩
theorem Post.step (p : Post cl K W R H m E k Q) (e : Ext H m H1 m1) : Post cl K W R H1 m1 E k Q := ⟨fun d m' v H' a b c f => p.ok d m' v H' a b c (e.trans f), p.ex.step e⟩
/-- first t, then u at what it gave -/
theorem Lift.bind {t : Rd γ} {u : γ → Rd α} (h : Lift cl K W R (fun E σ m k => t E σ m fun x m1 => u x E σ m1 k) σv H Q) :
    Lift cl K W S t σv H (fun v H1 => Kp H H1 ∧ ∃ x, S H1 x v ∧ Lift cl K W R (u x) σv H1 Q) := by
  obtain ⟨σ, m, k, E, hs, hr, ht, p⟩ := h
  exact ⟨σ, m, _, E, hs, hr, ht, ⟨fun d m' v H' q s r e => ⟨hr.kp e, d, s, σ, m', k, E, hs.kp (hr.kp e), r, q, p.step e⟩, p.ex⟩⟩
/-- nothing is done: the end -/
theorem Lift.pure {x : α} {v : β} (h : Lift cl K W R (fun _ _ m k => k x m) σv H Q) (r : ∀ m : Mem, R H x v) : Q v H := by
  obtain ⟨σ, m, k, E, hs, hr, ht, p⟩ := h
  exact p.ok _ _ _ _ ht (r m) hr (Ext.refl H m)
/-- a reading that asks more -/
theorem Lift.imp {t u : Rd α} (i : ∀ E σ m k, t E σ m k → u E σ m k) (h : Lift cl K W R t σv H Q) : Lift cl K W R u σv H Q := by
  obtain ⟨σ, m, k, E, hs, hr, ht, p⟩ := h
  exact ⟨σ, m, k, E, hs, hr, i _ _ _ _ ht, p⟩
/-- a value is turned into another form -/
theorem Lift.map {S : Hp → γ → δ → Prop} {t : Rd α} {f : α → γ} {g : β → δ} {Q : δ → Hp → Prop} (h : Lift cl K W S (fun E σ m k => t E σ m fun x m1 => k (f x) m1) σv H Q) (hf : ∀ H x v, R H x v → S H (f x) (g v)) :
    Lift cl K W R t σv H (fun v H1 => Q (g v) H1) := by
  obtain ⟨σ, m, k, E, hs, hr, ht, p⟩ := h
  exact ⟨σ, m, _, E, hs, hr, ht, ⟨fun d m' v H' q s r e => p.ok _ _ _ _ q (hf _ _ _ s) r e, p.ex⟩⟩
end
section
variable {X : Cx}
theorem pe_imp {e : Expr} {t t' : TE} (h : PE X e t) (i : ∀ σ H Q, t' σ H Q → t σ H Q) : PE X e t' := ⟨fun pins s σ H Q I q => h.run pins s σ H Q I (i _ _ _ q)⟩
theorem pt_imp {e : Expr} {t t' : TT} (h : PT X e t) (i : ∀ σ H Q, t' σ H Q → t σ H Q) : PT X e t' := ⟨fun pins s σ H Q I q => h.run pins s σ H Q I (i _ _ _ q)⟩
theorem pw_imp {e : Expr} {t t' : TT} (h : PW X e t) (i : ∀ σ H Q, t' σ H Q → t σ H Q) : PW X e t' := ⟨fun w pins s σ H Q I q => h.run w pins s σ H Q I (i _ _ _ q)⟩
theorem pa_imp {e : List Expr} {t t' : TA} (h : PA X e t) (i : ∀ σ H Q, t' σ H Q → t σ H Q) : PA X e t' := ⟨fun pos pins s σ H Q I q => h.run pos pins s σ H Q I (i _ _ _ q)⟩
theorem ps_imp {e : Stmt} {t t' : TS} (h : PS X e t) (i : ∀ σ H Q, t' σ H Q → t σ H Q) : PS X e t' := ⟨fun pins s σ H Q I q => h.run pins s σ H Q I (i _ _ _ q)⟩
theorem pss_imp {e : List Stmt} {t t' : TS} (h : PSs X e t) (i : ∀ σ H Q, t' σ H Q → t σ H Q) : PSs X e t' := ⟨fun pins s σ H Q I q => h.run pins s σ H Q I (i _ _ _ q)⟩
end

section
variable (cl : Nat → Addr) (K : PySem.W.Frag)
/-- what a reading by values asks, at values of the heap -/
def LOp (r : D → D → Mem → Kt → Prop) : L2.R2 := fun v w H Q => ∃ x y m k, IsV K H x v ∧ IsV K H y w ∧ Rep cl K H m ∧ r x y m k ∧ ∀ d m' u H', k d m' → IsV K H' d u → Rep cl K H' m' → Ext H m H' m' → Q u H'
end
theorem big_le {n : Nat} (h : n ≤ big) : n ≤ sizeLine := by
  have e : sizeLine = 16777216 := sizeLine_eq
  unfold big at h
  omega
theorem lop_of_lift {cl : Nat → Addr} {K : PySem.W.Frag} {W : WX} {r : D → D → Mem → Kt → Prop} {σv : L2.St} {H : Hp} {Q : V → Hp → Prop} {x y : D} {v w : V} (hx : IsV K H x v) (hy : IsV K H y w)
    (h : Lift cl K W (RV K) (fun _ _ m k => r x y m k) σv H Q) : LOp cl K r v w H Q := by
  obtain ⟨σ, m, k, E, hs, hr, ht, p⟩ := h
  exact ⟨x, y, m, k, hx, hy, hr, ht, p.ok⟩
theorem isV_ref {K : PySem.W.Frag} {H : Hp} {a : Addr} {v : V} (h : IsV K H (.ref a) v) : v = .ref a := h
section
variable {X : Cx} {cl : Nat → Addr}
theorem S_app (a b : List Nat) : SX.S a ++ SX.S b = SX.S (a ++ b) := SX.S_cat a b
theorem op_addD : OpR X (binaryOp .Add) (LOp cl X.K (rBin .add)) := by
  intro pins s σ H v w vu wu Q I rv rw h
  obtain ⟨x, y, m, k, hx, hy, hr, ht, p⟩ := h
  cases x <;> cases y <;> try exact ht.elim
  · rename_i i j
    cases hx
    cases hy
    exact L2.op_add pins s σ H _ _ vu wu Q I rv rw ⟨i, j, rfl, rfl, p _ _ _ _ ht rfl hr (Ext.refl H m)⟩
  · rename_i a b
    cases hx
    cases hy
    obtain ⟨hl, ht⟩ := ht
    exact L2.op_add_str pins s σ H _ _ vu wu Q I rv rw ⟨_, _, rfl, rfl, by rw [SX.S_len, SX.S_len]; exact big_le hl, by rw [S_app]; exact p _ _ _ _ ht rfl hr (Ext.refl H m)⟩
  · rename_i a b
    obtain ⟨a', vs, rfl, ta, la⟩ := hx
    obtain ⟨b', ws, rfl, tb, lb⟩ := hy
    obtain ⟨hl, ht⟩ := ht
    refine L2.op_catA pins s σ H _ _ vu wu Q I rv rw ⟨a', b', vs, ws, rfl, rfl, sqt_of ta, sqt_of tb, by rw [la.length, lb.length]; exact big_le hl, fun e => ?_, fun e e2 => ?_, fun e e2 q hq => ?_⟩
    · refine p _ _ _ _ ht ⟨b', ws, rfl, tb, ?_⟩ hr (Ext.refl H m)
      have e3 : a = [] := List.eq_nil_of_length_eq_zero (by rw [← la.length, e]; rfl)
      rw [e3]
      exact lb
    · refine p _ _ _ _ ht ⟨a', vs, rfl, ta, ?_⟩ hr (Ext.refl H m)
      have e3 : b = [] := List.eq_nil_of_length_eq_zero (by rw [← lb.length, e2]; rfl)
      rw [e3, List.append_nil]
      exact la
    · exact p _ _ _ _ ht ⟨q, vs ++ ws, rfl, L2.upd_same, (la.kp (kp_new hq)).append (lb.kp (kp_new hq))⟩ (hr.hid hq) (Ext.hid hq)
  · rename_i a b
    cases hx
    cases hy
    obtain ⟨xs, ys, ha, hb, hl, ht⟩ := ht
    obtain ⟨vs, za, la⟩ := hr _ _ ha
    obtain ⟨ws, zb, lb⟩ := hr _ _ hb
    refine L2.op_cat pins s σ H _ _ vu wu Q I rv rw ⟨a, b, vs, ws, rfl, rfl, za, zb, by rw [la.length, lb.length]; exact big_le hl, fun q hq => ?_⟩
    exact p _ _ _ _ (ht q (hr.free hq)) rfl (hr.new hq ⟨_, L2.upd_same, (la.kp (kp_new hq)).append (lb.kp (kp_new hq))⟩) (Ext.tell hq)
theorem op_subD : OpR X (binaryOp .Sub) (LOp cl X.K (rBin .sub)) := by
  intro pins s σ H v w vu wu Q I rv rw h
  obtain ⟨x, y, m, k, hx, hy, hr, ht, p⟩ := h
  cases x <;> cases y <;> try exact ht.elim
  rename_i i j
  cases hx
  cases hy
  exact L2.op_sub pins s σ H _ _ vu wu Q I rv rw ⟨i, j, rfl, rfl, p _ _ _ _ ht rfl hr (Ext.refl H m)⟩
theorem op_fdivD : OpR X (binaryOp .FloorDiv) (LOp cl X.K (rBin .fdiv)) := by
  intro pins s σ H v w vu wu Q I rv rw h
  obtain ⟨x, y, m, k, hx, hy, hr, ht, p⟩ := h
  cases x <;> cases y <;> try exact ht.elim
  rename_i i j
  cases hx
  cases hy
  obtain ⟨⟨h1, h2⟩, ht⟩ := ht
  refine L2.op_fdivW pins s σ H _ _ vu wu Q I rv rw ⟨i, j, rfl, rfl, L2.wide_div (b := 200) h1 ?_ (by decide) (by decide), p _ _ _ _ ht rfl hr (Ext.refl H m)⟩
  have e : (2 : Int) ^ 200 = ((2 ^ 200 : Nat) : Int) := by decide
  rw [e] at h2
  omega
theorem op_modD : OpR X (binaryOp .Mod) (LOp cl X.K (rBin .mod)) := by
  intro pins s σ H v w vu wu Q I rv rw h
  obtain ⟨x, y, m, k, hx, hy, hr, ht, p⟩ := h
  cases x <;> cases y <;> try exact ht.elim
  rename_i i j
  cases hx
  cases hy
  obtain ⟨h1, ht⟩ := ht
  exact L2.op_mod pins s σ H _ _ vu wu Q I rv rw ⟨i, j, rfl, rfl, h1, p _ _ _ _ ht rfl hr (Ext.refl H m)⟩
theorem op_powD : OpR X (binaryOp .Pow) (LOp cl X.K (rBin .pow)) := by
  intro pins s σ H v w vu wu Q I rv rw h
  obtain ⟨x, y, m, k, hx, hy, hr, ht, p⟩ := h
  cases x <;> cases y <;> try exact ht.elim
  rename_i i j
  cases hx
  cases hy
  obtain ⟨⟨⟨h1, h2⟩, h3⟩, ht⟩ := ht
  exact L2.op_pow pins s σ H _ _ vu wu Q I rv rw ⟨i, j, rfl, rfl, ⟨h1, h2, h3⟩, p _ _ _ _ ht rfl hr (Ext.refl H m)⟩
end
end DL

namespace DL
open PySem PySem.Spec PyProof.Rows
open L2 (V Hp HO SqL SqT TE TT TA TS TG TGs Cx Inv PE PT PW PA PS PSs PG PGs RelV Vals WX OpR UnR CallR IxR SlR MtR)
section
variable {X : Cx} {cl : Nat → Addr}
theorem op_mulD : OpR X (binaryOp .Mult) (LOp cl X.K (rBin .mul)) := by
  intro pins s σ H v w vu wu Q I rv rw h
  obtain ⟨x, y, m, k, hx, hy, hr, ht, p⟩ := h
  cases x <;> cases y <;> try exact ht.elim
  · rename_i i j
    cases hx
    cases hy
    obtain ⟨h1, ht⟩ := ht
    exact L2.op_mul pins s σ H _ _ vu wu Q I rv rw ⟨i, j, rfl, rfl, h1, p _ _ _ _ ht rfl hr (Ext.refl H m)⟩
  · rename_i a j
    cases hx
    cases hy
    obtain ⟨c, rfl, h0, h1, ht⟩ := ht
    obtain ⟨t, rfl⟩ := rv
    obtain ⟨u, rfl⟩ := rw
    refine PySem.SB.mul (PyProof.Rows.mulOk_of 1 1000000 (by rw [SX.S_len]; exact Nat.le_refl _) (by simpa using h1) (by omega) (by decide) (by decide)) fun t' k' => ⟨.str (PySem.Txt.mul (SX.S [c]) j), H, I.tok k', ⟨t', rfl⟩, p _ _ _ _ ht ?_ hr (Ext.refl H m)⟩
    show V.str _ = V.str _
    rw [SX.S_tl (Txt.mul (SX.S [c]) j) |>.symm, PyProof.Rows.mul_one_list]
end
mutual
def toPy : D → PyData
  | .non => .none
  | .bl b => .bool b
  | .int i => .int i
  | .str s => .str (SX.S s)
  | .tup ds => .tuple (toPys ds)
  | .ref _ => .none
  | .rol _ => .none
  | .ktup _ => .none
def toPys : List D → List PyData
  | [] => []
  | d :: ds => toPy d :: toPys ds
end
mutual
theorem dp_plain {K : PySem.W.Frag} {H : Hp} : ∀ {n : Nat} {d : D} {v : V}, D.plain n d = true → IsV K H d v → L2.Dp K H v (toPy d)
  | _, .non, _, _, h => by cases h; exact .non
  | _, .bl b, _, _, h => by cases h; exact .bl b
  | _, .int i, _, _, h => by cases h; exact .int i
  | _, .str s, _, _, h => by cases h; exact .str _
  | 0, .tup ds, _, p, _ => by simp [D.plain] at p
  | n + 1, .tup ds, _, p, h => by
    obtain ⟨a, vs, e, t, l⟩ := h
    subst e
    exact .tup (sqt_of t) (dp_plains (n := n) (by simpa [D.plain] using p) l)
  | _, .ref _, _, p, _ => by simp [D.plain] at p
  | _, .rol _, _, p, _ => by simp [D.plain] at p
  | _, .ktup _, _, p, _ => by simp [D.plain] at p
theorem dp_plains {K : PySem.W.Frag} {H : Hp} : ∀ {n : Nat} {ds : List D} {vs : List V}, D.plains n ds = true → IsL K H ds vs → L2.DpAll K H vs (toPys ds)
  | _, [], _, _, h => by
    rw [show _ = [] from h]
    exact .nil
  | n, d :: ds, _, p, h => by
    obtain ⟨v, r, e, q, l⟩ := h
    subst e
    obtain ⟨p1, p2⟩ := Bool.and_eq_true_iff.mp (show (D.plain n d && D.plains n ds) = true by simpa [D.plains] using p)
    exact .cons (dp_plain p1 q) (dp_plains p2 l)
end
theorem strOk_S {s : List Nat} (h : s.all (· < 1114112) = true) : PySem.PyData.strOk (SX.S s) = true := by
  show Array.all _ _ = true
  rw [← Array.all_toList]
  simpa using h
mutual
theorem lay_plain : ∀ {n : Nat} {d : D}, D.plain n d = true → (toPy d).canLay0 = true ∧ (toPy d).depth ≤ n + 1
  | _, .non, _ => ⟨rfl, Nat.zero_le _⟩
  | _, .bl b, _ => ⟨rfl, Nat.zero_le _⟩
  | _, .int i, _ => ⟨rfl, Nat.zero_le _⟩
  | _, .str s, p => ⟨by
      show PyData.canLay0 (.str (SX.S s)) = true
      unfold PyData.canLay0
      exact strOk_S (by simpa [D.plain] using p), Nat.zero_le _⟩
  | 0, .tup ds, p => by simp [D.plain] at p
  | n + 1, .tup ds, p => by
    obtain ⟨a, b⟩ := lay_plains (n := n) (ds := ds) (by simpa [D.plain] using p)
    refine ⟨?_, ?_⟩
    · show PyData.canLay0 (.tuple (toPys ds)) = true
      unfold PyData.canLay0
      exact a
    · show PyData.depth (.tuple (toPys ds)) ≤ _
      unfold PyData.depth
      omega
  | _, .ref _, p => by simp [D.plain] at p
  | _, .rol _, p => by simp [D.plain] at p
  | _, .ktup _, p => by simp [D.plain] at p
theorem lay_plains : ∀ {n : Nat} {ds : List D}, D.plains n ds = true → PyData.canLayAll0 (toPys ds) = true ∧ PyData.depthAll (toPys ds) ≤ n + 1
  | _, [], _ => ⟨rfl, Nat.zero_le _⟩
  | n, d :: ds, p => by
    obtain ⟨p1, p2⟩ := Bool.and_eq_true_iff.mp (show (D.plain n d && D.plains n ds) = true by simpa [D.plains] using p)
    obtain ⟨a, b⟩ := lay_plain p1
    obtain ⟨c, e⟩ := lay_plains p2
    refine ⟨?_, ?_⟩
    · show PyData.canLayAll0 (toPy d :: toPys ds) = true
      unfold PyData.canLayAll0
      rw [a, c]
      rfl
    · show PyData.depthAll (toPy d :: toPys ds) ≤ _
      unfold PyData.depthAll
      omega
end
theorem shaped_of {d : PyData} (h : d.canLay0 = true ∧ d.depth ≤ 64) : SeqAt.shaped d = true := Bool.and_eq_true_iff.mpr ⟨h.1, decide_eq_true h.2⟩
theorem S_beq (a b : List Nat) : (SX.S a == SX.S b) = (a == b) := SX.S_beq a b
mutual
theorem eqv_toPy : ∀ {n k : Nat} {x y : D}, D.plain n x = true → D.plain k y = true → PyData.eqv (toPy x) (toPy y) = D.eqv x y
  | _, _, .ref _, _, p, _ => by simp [D.plain] at p
  | _, _, .rol _, _, p, _ => by simp [D.plain] at p
  | _, _, .ktup _, _, p, _ => by simp [D.plain] at p
  | _, _, .non, .ref _, _, p => by simp [D.plain] at p
  | _, _, .non, .rol _, _, p => by simp [D.plain] at p
  | _, _, .non, .ktup _, _, p => by simp [D.plain] at p
  | _, _, .bl _, .ref _, _, p => by simp [D.plain] at p
  | _, _, .bl _, .rol _, _, p => by simp [D.plain] at p
  | _, _, .bl _, .ktup _, _, p => by simp [D.plain] at p
  | _, _, .int _, .ref _, _, p => by simp [D.plain] at p
  | _, _, .int _, .rol _, _, p => by simp [D.plain] at p
  | _, _, .int _, .ktup _, _, p => by simp [D.plain] at p
  | _, _, .str _, .ref _, _, p => by simp [D.plain] at p
  | _, _, .str _, .rol _, _, p => by simp [D.plain] at p
  | _, _, .str _, .ktup _, _, p => by simp [D.plain] at p
  | _, _, .tup _, .ref _, _, p => by simp [D.plain] at p
  | _, _, .tup _, .rol _, _, p => by simp [D.plain] at p
  | _, _, .tup _, .ktup _, _, p => by simp [D.plain] at p
  | _, _, .non, .non, _, _ => rfl
  | _, _, .non, .bl _, _, _ => rfl
  | _, _, .non, .int _, _, _ => rfl
  | _, _, .non, .str _, _, _ => rfl
  | _, _, .non, .tup _, _, _ => rfl
  | _, _, .bl _, .non, _, _ => rfl
  | _, _, .bl _, .bl _, _, _ => rfl
  | _, _, .bl _, .int _, _, _ => rfl
  | _, _, .bl _, .str _, _, _ => rfl
  | _, _, .bl _, .tup _, _, _ => rfl
  | _, _, .int _, .non, _, _ => rfl
  | _, _, .int _, .bl _, _, _ => rfl
  | _, _, .int _, .int _, _, _ => rfl
  | _, _, .int _, .str _, _, _ => rfl
  | _, _, .int _, .tup _, _, _ => rfl
  | _, _, .str _, .non, _, _ => rfl
  | _, _, .str _, .bl _, _, _ => rfl
  | _, _, .str _, .int _, _, _ => rfl
  | _, _, .str a, .str b, _, _ => by
    show PyData.eqv (.str (SX.S a)) (.str (SX.S b)) = D.eqv (.str a) (.str b)
    unfold PyData.eqv D.eqv
    exact S_beq a b
  | _, _, .str _, .tup _, _, _ => rfl
  | _, _, .tup _, .non, _, _ => rfl
  | _, _, .tup _, .bl _, _, _ => rfl
  | _, _, .tup _, .int _, _, _ => rfl
  | _, _, .tup _, .str _, _, _ => rfl
  | 0, _, .tup _, .tup _, p, _ => by simp [D.plain] at p
  | _, 0, .tup _, .tup _, _, p => by simp [D.plain] at p
  | n + 1, k + 1, .tup xs, .tup ys, p, q => by
    show PyData.eqv (.tuple (toPys xs)) (.tuple (toPys ys)) = D.eqv (.tup xs) (.tup ys)
    unfold PyData.eqv D.eqv
    exact eqv_toPys (n := n) (k := k) (by simpa [D.plain] using p) (by simpa [D.plain] using q)
theorem eqv_toPys : ∀ {n k : Nat} {xs ys : List D}, D.plains n xs = true → D.plains k ys = true → PyData.eqvAll (toPys xs) (toPys ys) = D.eqvs xs ys
  | _, _, [], [], _, _ => rfl
  | _, _, [], _ :: _, _, _ => rfl
  | _, _, _ :: _, [], _, _ => rfl
  | n, k, x :: xs, y :: ys, p, q => by
    obtain ⟨p1, p2⟩ := Bool.and_eq_true_iff.mp (show (D.plain n x && D.plains n xs) = true by simpa [D.plains] using p)
    obtain ⟨q1, q2⟩ := Bool.and_eq_true_iff.mp (show (D.plain k y && D.plains k ys) = true by simpa [D.plains] using q)
    show PyData.eqvAll (toPy x :: toPys xs) (toPy y :: toPys ys) = D.eqvs (x :: xs) (y :: ys)
    unfold PyData.eqvAll D.eqvs
    rw [eqv_toPy p1 q1, eqv_toPys p2 q2]
end
mutual
def fPy : F → PyData
  | .non => .none
  | .bl b => .bool b
  | .int i => .int i
  | .str s => .str (SX.S s)
  | .tup ds => .tuple (fPys ds)
  | .lst ds => .list (fPys ds)
def fPys : List F → List PyData
  | [] => []
  | d :: ds => fPy d :: fPys ds
end
mutual
theorem eqv_fPy : ∀ {x y : F}, PyData.eqv (fPy x) (fPy y) = F.eqv x y
  | .non, .non => rfl
  | .non, .bl _ => rfl
  | .non, .int _ => rfl
  | .non, .str _ => rfl
  | .non, .tup _ => rfl
  | .non, .lst _ => rfl
  | .bl _, .non => rfl
  | .bl _, .bl _ => rfl
  | .bl _, .int _ => rfl
  | .bl _, .str _ => rfl
  | .bl _, .tup _ => rfl
  | .bl _, .lst _ => rfl
  | .int _, .non => rfl
  | .int _, .bl _ => rfl
  | .int _, .int _ => rfl
  | .int _, .str _ => rfl
  | .int _, .tup _ => rfl
  | .int _, .lst _ => rfl
  | .str _, .non => rfl
  | .str _, .bl _ => rfl
  | .str _, .int _ => rfl
  | .str a, .str b => by
    show PyData.eqv (.str (SX.S a)) (.str (SX.S b)) = F.eqv (.str a) (.str b)
    unfold PyData.eqv F.eqv
    exact S_beq a b
  | .str _, .tup _ => rfl
  | .str _, .lst _ => rfl
  | .tup _, .non => rfl
  | .tup _, .bl _ => rfl
  | .tup _, .int _ => rfl
  | .tup _, .str _ => rfl
  | .tup _, .lst _ => rfl
  | .lst _, .non => rfl
  | .lst _, .bl _ => rfl
  | .lst _, .int _ => rfl
  | .lst _, .str _ => rfl
  | .lst _, .tup _ => rfl
  | .tup xs, .tup ys => by
    show PyData.eqv (.tuple (fPys xs)) (.tuple (fPys ys)) = F.eqv (.tup xs) (.tup ys)
    unfold PyData.eqv F.eqv
    exact eqv_fPys
  | .lst xs, .lst ys => by
    show PyData.eqv (.list (fPys xs)) (.list (fPys ys)) = F.eqv (.lst xs) (.lst ys)
    unfold PyData.eqv F.eqv
    exact eqv_fPys
theorem eqv_fPys : ∀ {xs ys : List F}, PyData.eqvAll (fPys xs) (fPys ys) = F.eqvs xs ys
  | [], [] => rfl
  | [], _ :: _ => rfl
  | _ :: _, [] => rfl
  | x :: xs, y :: ys => by
    show PyData.eqvAll (fPy x :: fPys xs) (fPy y :: fPys ys) = F.eqvs (x :: xs) (y :: ys)
    unfold PyData.eqvAll F.eqvs
    rw [eqv_fPy, eqv_fPys]
end
section
variable {cl : Nat → Addr} {K : PySem.W.Frag} {H : Hp} {m : Mem}
mutual
theorem dp_opn (r : Rep cl K H m) : ∀ {n : Nat} {d : D} {f : F} {v : V}, Opn m n d f → IsV K H d v → L2.Dp K H v (fPy f) ∧ (fPy f).canLay0 = true ∧ (fPy f).depth ≤ n + 1
  | n, .non, f, _, o, h => by
    cases f <;> first | exact (show False by simpa [Opn] using o).elim | skip
    cases h
    exact ⟨.non, rfl, Nat.zero_le _⟩
  | n, .bl b, f, _, o, h => by
    cases f <;> first | exact (show False by simpa [Opn] using o).elim | skip
    cases h
    rw [show b = _ by simpa [Opn] using o]
    exact ⟨.bl _, rfl, Nat.zero_le _⟩
  | n, .int b, f, _, o, h => by
    cases f <;> first | exact (show False by simpa [Opn] using o).elim | skip
    cases h
    rw [show b = _ by simpa [Opn] using o]
    exact ⟨.int _, rfl, Nat.zero_le _⟩
  | n, .str b, f, _, o, h => by
    cases f <;> first | exact (show False by simpa [Opn] using o).elim | skip
    rename_i c
    cases h
    have o' : b = c ∧ b.all (· < 1114112) = true := by simpa [Opn] using o
    obtain ⟨e, q⟩ := o'
    subst e
    refine ⟨.str _, ?_, Nat.zero_le _⟩
    show PyData.canLay0 (.str (SX.S b)) = true
    unfold PyData.canLay0
    exact strOk_S q
  | 0, .tup ds, f, _, o, h => by
    cases f <;> exact (show False by simpa [Opn] using o).elim
  | n + 1, .tup ds, f, _, o, h => by
    cases f <;> first | exact (show False by simpa [Opn] using o).elim | skip
    rename_i fs
    obtain ⟨a, vs, e, t, l⟩ := h
    subst e
    obtain ⟨q1, q2, q3⟩ := dp_opns r (n := n) (ds := ds) (fs := fs) (by simpa [Opn] using o) l
    refine ⟨.tup (sqt_of t) q1, ?_, ?_⟩
    · show PyData.canLay0 (.tuple (fPys fs)) = true
      unfold PyData.canLay0
      exact q2
    · show PyData.depth (.tuple (fPys fs)) ≤ _
      unfold PyData.depth
      omega
  | 0, .ref a, f, _, o, h => by
    cases f <;> exact (show False by simpa [Opn] using o).elim
  | n + 1, .ref a, f, _, o, h => by
    cases f <;> first | exact (show False by simpa [Opn] using o).elim | skip
    rename_i fs
    cases h
    obtain ⟨ds, e, q⟩ : ∃ ds, m a = some (.lst ds) ∧ Opns m n ds fs := by simpa [Opn] using o
    obtain ⟨vs, z, l⟩ := r a _ e
    obtain ⟨q1, q2, q3⟩ := dp_opns r (n := n) q l
    refine ⟨.lst (SqL.of z) q1, ?_, ?_⟩
    · show PyData.canLay0 (.list (fPys fs)) = true
      unfold PyData.canLay0
      exact q2
    · show PyData.depth (.list (fPys fs)) ≤ _
      unfold PyData.depth
      omega
  | n, .rol _, f, _, o, _ => by
    cases f <;> exact (show False by simpa [Opn] using o).elim
  | 0, .ktup ds, f, _, o, h => by
    cases f <;> exact (show False by simpa [Opn] using o).elim
  | n + 1, .ktup ds, f, _, o, h => by
    cases f <;> first | exact (show False by simpa [Opn] using o).elim | skip
    rename_i fs
    obtain ⟨a, vs, e, t, l⟩ := h
    subst e
    obtain ⟨q1, q2, q3⟩ := dp_opns r (n := n) (ds := ds) (fs := fs) (by simpa [Opn] using o) l
    refine ⟨.tup (sqt_none t) q1, ?_, ?_⟩
    · show PyData.canLay0 (.tuple (fPys fs)) = true
      unfold PyData.canLay0
      exact q2
    · show PyData.depth (.tuple (fPys fs)) ≤ _
      unfold PyData.depth
      omega
theorem dp_opns (r : Rep cl K H m) : ∀ {n : Nat} {ds : List D} {fs : List F} {vs : List V}, Opns m n ds fs → IsL K H ds vs → L2.DpAll K H vs (fPys fs) ∧ PyData.canLayAll0 (fPys fs) = true ∧ PyData.depthAll (fPys fs) ≤ n + 1
  | _, [], fs, _, o, h => by
    cases fs with
    | nil =>
      rw [show _ = [] from h]
      exact ⟨.nil, rfl, Nat.zero_le _⟩
    | cons f fs => exact (show False by simpa [Opns] using o).elim
  | n, d :: ds, fs, _, o, h => by
    cases fs with
    | nil => exact (show False by simpa [Opns] using o).elim
    | cons f fs =>
      obtain ⟨v, t, e, q, l⟩ := h
      subst e
      obtain ⟨o1, o2⟩ : Opn m n d f ∧ Opns m n ds fs := by simpa [Opns] using o
      obtain ⟨a1, a2, a3⟩ := dp_opn r o1 q
      obtain ⟨b1, b2, b3⟩ := dp_opns r o2 l
      refine ⟨.cons a1 b1, ?_, ?_⟩
      · show PyData.canLayAll0 (fPy f :: fPys fs) = true
        unfold PyData.canLayAll0
        rw [a2, b2]
        rfl
      · show PyData.depthAll (fPy f :: fPys fs) ≤ _
        unfold PyData.depthAll
        omega
end
end
/-- a comparison's reading by values, as LOp's -/
def cV (r : D → D → Mem → (Bool → Prop) → Prop) : D → D → Mem → Kt → Prop := fun x y m k => r x y m fun c => k (.bl c) m
section
variable {X : Cx} {cl : Nat → Addr}
theorem op_eqDl (hu : X.A.units + 64 < cLine) : OpR X (compareOp .Eq) (LOp cl X.K (cV (rCmp .eq))) := by
  intro pins s σ H v w vu wu Q I rv rw h
  obtain ⟨x, y, m, k, hx, hy, hr, ht, p⟩ := h
  rcases ht with ⟨p1, p2, ht⟩ | ⟨f, g, o1, o2, ht⟩
  · obtain ⟨a1, a2⟩ := lay_plain p1
    obtain ⟨b1, b2⟩ := lay_plain p2
    refine L2.op_eqD hu pins s σ H _ _ vu wu Q I rv rw ⟨_, _, dp_plain p1 hx, dp_plain p2 hy, shaped_of ⟨a1, by omega⟩, shaped_of ⟨b1, by omega⟩, ?_⟩
    rw [eqv_toPy p1 p2]
    exact p _ _ _ _ ht rfl hr (Ext.refl H m)
  · obtain ⟨a0, a1, a2⟩ := dp_opn hr o1 hx
    obtain ⟨b0, b1, b2⟩ := dp_opn hr o2 hy
    refine L2.op_eqD hu pins s σ H _ _ vu wu Q I rv rw ⟨_, _, a0, b0, shaped_of ⟨a1, by omega⟩, shaped_of ⟨b1, by omega⟩, ?_⟩
    rw [eqv_fPy]
    exact p _ _ _ _ ht rfl hr (Ext.refl H m)
theorem op_neDl (hu : X.A.units + 64 < cLine) : OpR X (compareOp .NotEq) (LOp cl X.K (cV (rCmp .ne))) := by
  intro pins s σ H v w vu wu Q I rv rw h
  obtain ⟨x, y, m, k, hx, hy, hr, ht, p⟩ := h
  rcases ht with ⟨p1, p2, ht⟩ | ⟨f, g, o1, o2, ht⟩
  · obtain ⟨a1, a2⟩ := lay_plain p1
    obtain ⟨b1, b2⟩ := lay_plain p2
    refine L2.op_neD hu pins s σ H _ _ vu wu Q I rv rw ⟨_, _, dp_plain p1 hx, dp_plain p2 hy, shaped_of ⟨a1, by omega⟩, shaped_of ⟨b1, by omega⟩, ?_⟩
    rw [eqv_toPy p1 p2]
    exact p _ _ _ _ ht rfl hr (Ext.refl H m)
  · obtain ⟨a0, a1, a2⟩ := dp_opn hr o1 hx
    obtain ⟨b0, b1, b2⟩ := dp_opn hr o2 hy
    refine L2.op_neD hu pins s σ H _ _ vu wu Q I rv rw ⟨_, _, a0, b0, shaped_of ⟨a1, by omega⟩, shaped_of ⟨b1, by omega⟩, ?_⟩
    rw [eqv_fPy]
    exact p _ _ _ _ ht rfl hr (Ext.refl H m)
theorem S_list (a : List Nat) : (SX.S a).cps.toList = a := by simp
theorem op_ltDl : OpR X (compareOp .Lt) (LOp cl X.K (cV (rCmp .lt))) := by
  intro pins s σ H v w vu wu Q I rv rw h
  obtain ⟨x, y, m, k, hx, hy, hr, ht, p⟩ := h
  cases x <;> cases y <;> try exact ht.elim
  · rename_i i j
    cases hx
    cases hy
    exact L2.op_lt pins s σ H _ _ vu wu Q I rv rw ⟨i, j, rfl, rfl, p _ _ _ _ ht rfl hr (Ext.refl H m)⟩
  · rename_i i j
    cases hx
    cases hy
    exact L2.op_lt_str pins s σ H _ _ vu wu Q I rv rw ⟨_, _, rfl, rfl, p _ _ _ _ ht rfl hr (Ext.refl H m)⟩
theorem op_gtDl : OpR X (compareOp .Gt) (LOp cl X.K (cV (rCmp .gt))) := by
  intro pins s σ H v w vu wu Q I rv rw h
  obtain ⟨x, y, m, k, hx, hy, hr, ht, p⟩ := h
  cases x <;> cases y <;> try exact ht.elim
  · rename_i i j
    cases hx
    cases hy
    exact L2.op_gt pins s σ H _ _ vu wu Q I rv rw ⟨i, j, rfl, rfl, p _ _ _ _ ht rfl hr (Ext.refl H m)⟩
  · rename_i i j
    cases hx
    cases hy
    exact L2.op_gt_str pins s σ H _ _ vu wu Q I rv rw ⟨_, _, rfl, rfl, p _ _ _ _ ht rfl hr (Ext.refl H m)⟩
theorem op_leDl : OpR X (compareOp .LtE) (LOp cl X.K (cV (rCmp .le))) := by
  intro pins s σ H v w vu wu Q I rv rw h
  obtain ⟨x, y, m, k, hx, hy, hr, ht, p⟩ := h
  cases x <;> cases y <;> try exact ht.elim
  · rename_i i j
    cases hx
    cases hy
    exact L2.op_le pins s σ H _ _ vu wu Q I rv rw ⟨i, j, rfl, rfl, p _ _ _ _ ht rfl hr (Ext.refl H m)⟩
  · rename_i i j
    cases hx
    cases hy
    exact L2.op_le_str pins s σ H _ _ vu wu Q I rv rw ⟨_, _, rfl, rfl, p _ _ _ _ ht rfl hr (Ext.refl H m)⟩
theorem op_geDl : OpR X (compareOp .GtE) (LOp cl X.K (cV (rCmp .ge))) := by
  intro pins s σ H v w vu wu Q I rv rw h
  obtain ⟨x, y, m, k, hx, hy, hr, ht, p⟩ := h
  cases x <;> cases y <;> try exact ht.elim
  · rename_i i j
    cases hx
    cases hy
    exact L2.op_ge pins s σ H _ _ vu wu Q I rv rw ⟨i, j, rfl, rfl, p _ _ _ _ ht rfl hr (Ext.refl H m)⟩
  · rename_i i j
    cases hx
    cases hy
    exact L2.op_ge_str pins s σ H _ _ vu wu Q I rv rw ⟨_, _, rfl, rfl, p _ _ _ _ ht rfl hr (Ext.refl H m)⟩
def isNon : D → Bool
  | .non => true
  | _ => false
theorem is_cases {x y : D} {k : Bool → Prop} (h : rIs x y k) : (y = .non ∧ k (isNon x)) ∨ ∃ a b, x = .bl a ∧ y = .bl b ∧ k (decide (a = b)) := by
  cases x <;> cases y <;> first
    | exact .inl ⟨rfl, h⟩
    | exact .inr ⟨_, _, rfl, rfl, h⟩
    | exact h.elim
theorem non_dec {K : PySem.W.Frag} {H : Hp} {x : D} {v : V} (h : IsV K H x v) : decide (v = V.non) = isNon x := by
  cases x with
  | non => cases h; rfl
  | bl b => cases h; rfl
  | int i => cases h; rfl
  | str s => cases h; rfl
  | ref a => cases h; rfl
  | tup ds => obtain ⟨a, vs, e, _⟩ := h; subst e; rfl
  | rol ds => obtain ⟨a, vs, e, _⟩ := h; subst e; rfl
  | ktup ds => obtain ⟨a, vs, e, _⟩ := h; subst e; rfl
theorem op_isDl : OpR X (compareOp .Is) (LOp cl X.K (cV (rCmp .is))) := by
  intro pins s σ H v w vu wu Q I rv rw h
  obtain ⟨x, y, m, k, hx, hy, hr, ht, p⟩ := h
  rcases is_cases (show rIs x y fun c => k (.bl c) m from ht) with ⟨rfl, ht2⟩ | ⟨a, b, rfl, rfl, ht2⟩
  · cases hy
    refine L2.op_isN pins s σ H _ _ vu wu Q I rv rw ⟨rfl, ?_⟩
    rw [non_dec hx]
    exact p _ _ _ _ ht2 rfl hr (Ext.refl H m)
  · cases hx
    cases hy
    exact L2.op_isBl pins s σ H _ _ vu wu Q I rv rw ⟨a, b, rfl, rfl, p _ _ _ _ ht2 rfl hr (Ext.refl H m)⟩
theorem op_isnotDl : OpR X (compareOp .IsNot) (LOp cl X.K (cV (rCmp .isnot))) := by
  intro pins s σ H v w vu wu Q I rv rw h
  obtain ⟨x, y, m, k, hx, hy, hr, ht, p⟩ := h
  rcases is_cases (show rIs x y fun c => k (.bl (!c)) m from ht) with ⟨rfl, ht2⟩ | ⟨a, b, rfl, rfl, ht2⟩
  · cases hy
    refine L2.op_notN pins s σ H _ _ vu wu Q I rv rw ⟨rfl, ?_⟩
    rw [non_dec hx]
    exact p _ _ _ _ ht2 rfl hr (Ext.refl H m)
  · cases hx
    cases hy
    exact L2.op_notBl pins s σ H _ _ vu wu Q I rv rw ⟨a, b, rfl, rfl, p _ _ _ _ ht2 rfl hr (Ext.refl H m)⟩
end
end DL

namespace DL
open PySem PySem.Spec PyProof.Rows
open L2 (V Hp HO SqL SqT TE TT TA TS TG TGs Cx Inv PE PT PW PA PS PSs PG PGs RelV Vals WX OpR UnR CallR IxR SlR MtR)

theorem S_eq_iff {a b : List Nat} : SX.S a = SX.S b ↔ a = b := ⟨SX.S_inj, fun h => by rw [h]⟩
theorem eqv_key {x y : D} {k l : L2.Key} (hx : keyOf x = some k) (hy : keyOf y = some l) : D.eqv x y = decide (k = l) := by
  cases x <;> cases y <;> simp only [keyOf, Option.some.injEq, reduceCtorEq] at hx hy
  · subst hx hy
    rw [L2.key_ll]
    rfl
  · subst hx hy
    rw [L2.key_lr]
    rfl
  · subst hx hy
    rw [L2.key_rl]
    rfl
  · subst hx hy
    rw [L2.key_rr]
    rename_i a b
    show (a == b) = decide (SX.S a = SX.S b)
    rw [Bool.eq_iff_iff]
    simp [S_eq_iff]
theorem eqvs_keys : ∀ {xs ys : List D} {ks ls : List L2.Key}, keysOf xs = some ks → keysOf ys = some ls → D.eqvs xs ys = decide (ks = ls)
  | [], [], _, _, hx, hy => by
    cases hx
    cases hy
    rfl
  | [], y :: ys, _, _, hx, hy => by
    cases hx
    obtain ⟨l, _, h2⟩ := Option.bind_eq_some_iff.mp hy
    obtain ⟨r, _, h3⟩ := Option.map_eq_some_iff.mp h2
    subst h3
    rfl
  | x :: xs, [], _, _, hx, hy => by
    cases hy
    obtain ⟨l, _, h2⟩ := Option.bind_eq_some_iff.mp hx
    obtain ⟨r, _, h3⟩ := Option.map_eq_some_iff.mp h2
    subst h3
    rfl
  | x :: xs, y :: ys, _, _, hx, hy => by
    obtain ⟨k, a1, h2⟩ := Option.bind_eq_some_iff.mp hx
    obtain ⟨r, a2, h3⟩ := Option.map_eq_some_iff.mp h2
    obtain ⟨l, b1, i2⟩ := Option.bind_eq_some_iff.mp hy
    obtain ⟨t, b2, i3⟩ := Option.map_eq_some_iff.mp i2
    subst h3 i3
    show (D.eqv x y && D.eqvs xs ys) = _
    rw [eqv_key a1 b1, eqvs_keys a2 b2]
    simp
theorem eqv_tkey {x y : D} {k l : List L2.Key} (hx : tkeyOf x = some k) (hy : tkeyOf y = some l) : D.eqv x y = decide (k = l) := by
  cases x <;> cases y <;> simp only [tkeyOf, reduceCtorEq] at hx hy
  exact eqvs_keys hx hy
theorem keyK_some {x : D} (h : keyK x = true) : ∃ k, keyOf x = some k := by
  cases x <;> first | exact ⟨_, rfl⟩ | cases h
theorem keysK_some : ∀ {xs : List D}, xs.all keyK = true → ∃ ks, keysOf xs = some ks
  | [], _ => ⟨[], rfl⟩
  | x :: xs, h => by
    rw [List.all_cons, Bool.and_eq_true] at h
    obtain ⟨k, e⟩ := keyK_some h.1
    obtain ⟨ks, e2⟩ := keysK_some h.2
    exact ⟨k :: ks, by unfold keysOf; rw [e, e2]; rfl⟩
theorem keyT_some {x : D} (h : keyT x = true) : ∃ k, tkeyOf x = some k := by
  cases x with
  | tup ds => exact keysK_some h
  | _ => cases h
section
variable {K : PySem.W.Frag} {H : Hp}
theorem keyV {x : D} {k : L2.Key} {v : V} (h : keyOf x = some k) (hx : IsV K H x v) : v = L2.kV k := by
  cases x <;> simp only [keyOf, Option.some.injEq, reduceCtorEq] at h
  · subst h
    exact hx
  · subst h
    exact hx
theorem keysV : ∀ {xs : List D} {ks : List L2.Key} {vs : List V}, keysOf xs = some ks → IsL K H xs vs → vs = ks.map L2.kV
  | [], _, _, h, hx => by
    cases h
    exact hx
  | x :: xs, _, _, h, hx => by
    obtain ⟨v, r, e, q, l⟩ := hx
    obtain ⟨k, a1, h2⟩ := Option.bind_eq_some_iff.mp h
    obtain ⟨ks, a2, h3⟩ := Option.map_eq_some_iff.mp h2
    subst h3 e
    rw [keyV a1 q, keysV a2 l]
    rfl
theorem isKs_get {x : D} {k : L2.Key} (hx : keyOf x = some k) : ∀ {kvs : List (D × D)} {ws : List (L2.Key × V)}, IsKs K H kvs ws →
    (L2.valV ws k).isSome = hasKey kvs x ∧ (∀ d, getKey kvs x = some d → ∃ v, L2.valV ws k = some v ∧ IsV K H d v) ∧ (getKey kvs x = none → L2.valV ws k = none)
  | [], _, h => by
    rw [show _ = [] from h]
    exact ⟨rfl, fun d e => (by cases e), fun _ => rfl⟩
  | (y, d) :: r, _, h => by
    obtain ⟨l, v, t, e, hy, hv, ht⟩ := h
    subst e
    have q := eqv_key hy hx
    obtain ⟨i1, i2, i3⟩ := isKs_get hx ht
    by_cases z : l = k
    · have q2 : D.eqv y x = true := q.trans (decide_eq_true z)
      refine ⟨?_, fun d' e => ?_, fun e => ?_⟩
      · rw [L2.valV_pos z]
        show true = ((D.eqv y x) || hasKey r x)
        rw [q2]
        rfl
      · have e' : getKey ((y, d) :: r) x = some d := by simp [getKey, List.find?_cons, q2]
        rw [e'] at e
        cases e
        exact ⟨v, L2.valV_pos z, hv⟩
      · have e' : getKey ((y, d) :: r) x = some d := by simp [getKey, List.find?_cons, q2]
        rw [e'] at e
        cases e
    · have q2 : D.eqv y x = false := q.trans (decide_eq_false z)
      have g : getKey ((y, d) :: r) x = getKey r x := by simp [getKey, List.find?_cons, q2]
      refine ⟨?_, fun d' e => ?_, fun e => ?_⟩
      · rw [L2.valV_neg z, i1]
        show hasKey r x = ((D.eqv y x) || hasKey r x)
        rw [q2]
        rfl
      · rw [g] at e
        obtain ⟨v', a, b⟩ := i2 d' e
        exact ⟨v', (L2.valV_neg z).trans a, b⟩
      · rw [g] at e
        exact (L2.valV_neg z).trans (i3 e)
theorem isTs_get {x : D} {k : List L2.Key} (hx : tkeyOf x = some k) : ∀ {kvs : List (D × D)} {ws : List (List L2.Key × V)}, IsTs K H kvs ws →
    (L2.valV ws k).isSome = hasKey kvs x ∧ (∀ d, getKey kvs x = some d → ∃ v, L2.valV ws k = some v ∧ IsV K H d v) ∧ (getKey kvs x = none → L2.valV ws k = none)
  | [], _, h => by
    rw [show _ = [] from h]
    exact ⟨rfl, fun d e => (by cases e), fun _ => rfl⟩
  | (y, d) :: r, _, h => by
    obtain ⟨l, v, t, e, hy, hv, ht⟩ := h
    subst e
    have q := eqv_tkey hy hx
    obtain ⟨i1, i2, i3⟩ := isTs_get hx ht
    by_cases z : l = k
    · have q2 : D.eqv y x = true := q.trans (decide_eq_true z)
      refine ⟨?_, fun d' e => ?_, fun e => ?_⟩
      · rw [L2.valV_pos z]
        show true = ((D.eqv y x) || hasKey r x)
        rw [q2]
        rfl
      · have e' : getKey ((y, d) :: r) x = some d := by simp [getKey, List.find?_cons, q2]
        rw [e'] at e
        cases e
        exact ⟨v, L2.valV_pos z, hv⟩
      · have e' : getKey ((y, d) :: r) x = some d := by simp [getKey, List.find?_cons, q2]
        rw [e'] at e
        cases e
    · have q2 : D.eqv y x = false := q.trans (decide_eq_false z)
      have g : getKey ((y, d) :: r) x = getKey r x := by simp [getKey, List.find?_cons, q2]
      refine ⟨?_, fun d' e => ?_, fun e => ?_⟩
      · rw [L2.valV_neg z, i1]
        show hasKey r x = ((D.eqv y x) || hasKey r x)
        rw [q2]
        rfl
      · rw [g] at e
        obtain ⟨v', a, b⟩ := i2 d' e
        exact ⟨v', (L2.valV_neg z).trans a, b⟩
      · rw [g] at e
        exact (L2.valV_neg z).trans (i3 e)
theorem isKs_len : ∀ {kvs : List (D × D)} {ws : List (L2.Key × V)}, IsKs K H kvs ws → ws.length = kvs.length
  | [], _, h => by
    rw [show _ = [] from h]
    rfl
  | (y, d) :: r, _, h => by
    obtain ⟨l, v, t, e, hy, hv, ht⟩ := h
    subst e
    exact congrArg (· + 1) (isKs_len ht)
theorem isTs_len : ∀ {kvs : List (D × D)} {ws : List (List L2.Key × V)}, IsTs K H kvs ws → ws.length = kvs.length
  | [], _, h => by
    rw [show _ = [] from h]
    rfl
  | (y, d) :: r, _, h => by
    obtain ⟨l, v, t, e, hy, hv, ht⟩ := h
    subst e
    exact congrArg (· + 1) (isTs_len ht)
theorem isKs_app : ∀ {kvs : List (D × D)} {ws : List (L2.Key × V)} {more : List (D × D)} {ms : List (L2.Key × V)}, IsKs K H kvs ws → IsKs K H more ms → IsKs K H (kvs ++ more) (ws ++ ms)
  | [], _, _, _, h, q => by
    rw [show _ = [] from h]
    exact q
  | (y, d) :: r, _, _, _, h, q => by
    obtain ⟨l, v, t, e, hy, hv, ht⟩ := h
    subst e
    exact ⟨l, v, _, rfl, hy, hv, isKs_app ht q⟩
theorem isTs_app : ∀ {kvs : List (D × D)} {ws : List (List L2.Key × V)} {more : List (D × D)} {ms : List (List L2.Key × V)}, IsTs K H kvs ws → IsTs K H more ms → IsTs K H (kvs ++ more) (ws ++ ms)
  | [], _, _, _, h, q => by
    rw [show _ = [] from h]
    exact q
  | (y, d) :: r, _, _, _, h, q => by
    obtain ⟨l, v, t, e, hy, hv, ht⟩ := h
    subst e
    exact ⟨l, v, _, rfl, hy, hv, isTs_app ht q⟩
theorem isKs_map {x d' : D} {k : L2.Key} {v' : V} (hx : keyOf x = some k) (hd : IsV K H d' v') : ∀ {kvs : List (D × D)} {ws : List (L2.Key × V)}, IsKs K H kvs ws →
    IsKs K H (kvs.map fun q => if D.eqv q.1 x then (q.1, d') else q) (ws.map fun kv => if kv.1 = k then (kv.1, v') else kv)
  | [], _, h => by
    rw [show _ = [] from h]
    rfl
  | (y, d) :: r, _, h => by
    obtain ⟨l, v, t, e, hy, hv, ht⟩ := h
    subst e
    have q := eqv_key hy hx
    have i := isKs_map hx hd ht
    rw [List.map_cons, List.map_cons]
    by_cases z : l = k
    · have q2 : D.eqv y x = true := q.trans (decide_eq_true z)
      rw [if_pos q2, if_pos z]
      exact ⟨l, v', _, rfl, hy, hd, i⟩
    · have q2 : ¬ D.eqv y x = true := by
        rw [q.trans (decide_eq_false z)]
        exact Bool.false_ne_true
      rw [if_neg q2, if_neg z]
      exact ⟨l, v, _, rfl, hy, hv, i⟩
theorem isTs_map {x d' : D} {k : List L2.Key} {v' : V} (hx : tkeyOf x = some k) (hd : IsV K H d' v') : ∀ {kvs : List (D × D)} {ws : List (List L2.Key × V)}, IsTs K H kvs ws →
    IsTs K H (kvs.map fun q => if D.eqv q.1 x then (q.1, d') else q) (ws.map fun kv => if kv.1 = k then (kv.1, v') else kv)
  | [], _, h => by
    rw [show _ = [] from h]
    rfl
  | (y, d) :: r, _, h => by
    obtain ⟨l, v, t, e, hy, hv, ht⟩ := h
    subst e
    have q := eqv_tkey hy hx
    have i := isTs_map hx hd ht
    rw [List.map_cons, List.map_cons]
    by_cases z : l = k
    · have q2 : D.eqv y x = true := q.trans (decide_eq_true z)
      rw [if_pos q2, if_pos z]
      exact ⟨l, v', _, rfl, hy, hd, i⟩
    · have q2 : ¬ D.eqv y x = true := by
        rw [q.trans (decide_eq_false z)]
        exact Bool.false_ne_true
      rw [if_neg q2, if_neg z]
      exact ⟨l, v, _, rfl, hy, hv, i⟩
theorem isKs_put {x d : D} {k : L2.Key} {v : V} {kvs : List (D × D)} {ws : List (L2.Key × V)} (hx : keyOf x = some k) (hd : IsV K H d v) (h : IsKs K H kvs ws) : IsKs K H (putKey kvs x d) (L2.putK ws k v) := by
  have e : (ws.any fun kv => decide (kv.1 = k)) = hasKey kvs x := (L2.valV_any k ws).trans (isKs_get hx h).1
  unfold putKey L2.putK
  rw [e]
  split
  · exact isKs_map hx hd h
  · exact isKs_app h ⟨k, v, [], rfl, hx, hd, rfl⟩
theorem isTs_put {x d : D} {k : List L2.Key} {v : V} {kvs : List (D × D)} {ws : List (List L2.Key × V)} (hx : tkeyOf x = some k) (hd : IsV K H d v) (h : IsTs K H kvs ws) : IsTs K H (putKey kvs x d) (L2.putK ws k v) := by
  have e : (ws.any fun kv => decide (kv.1 = k)) = hasKey kvs x := (L2.valV_any k ws).trans (isTs_get hx h).1
  unfold putKey L2.putK
  rw [e]
  split
  · exact isTs_map hx hd h
  · exact isTs_app h ⟨k, v, [], rfl, hx, hd, rfl⟩
end

theorem flat_V {K : PySem.W.Frag} {H : Hp} {x : D} {v : V} (f : D.flat x = true) (h : IsV K H x v) : L2.flatV v = true := by
  cases x <;> simp only [D.flat, Bool.false_eq_true] at f <;> (cases h; rfl)
theorem eqV_D {K : PySem.W.Frag} {H : Hp} {x y : D} {v w : V} (fx : D.flat x = true) (fy : D.flat y = true) (hx : IsV K H x v) (hy : IsV K H y w) : L2.eqV v w = D.eqv x y := by
  cases x <;> simp only [D.flat, Bool.false_eq_true] at fx <;> cases y <;> simp only [D.flat, Bool.false_eq_true] at fy <;> cases hx <;> cases hy <;> first
    | rfl
    | exact S_beq _ _
theorem inV_D {K : PySem.W.Frag} {H : Hp} {x : D} {v : V} (fx : D.flat x = true) (hx : IsV K H x v) : ∀ {ds : List D} {vs : List V}, ds.all D.flat = true → IsL K H ds vs → vs.all L2.flatV = true ∧ L2.inV v vs = ds.any fun y => D.eqv y x
  | [], _, _, h => by
    rw [show _ = [] from h]
    exact ⟨rfl, rfl⟩
  | y :: ys, _, f, h => by
    obtain ⟨w, r, e, hy, l⟩ := h
    subst e
    rw [List.all_cons, Bool.and_eq_true] at f
    obtain ⟨a, b⟩ := inV_D fx hx f.2 l
    refine ⟨?_, ?_⟩
    · rw [List.all_cons, flat_V f.1 hy, a]
      rfl
    · show (L2.eqV w v || L2.inV v r) = _
      rw [b, eqV_D f.1 fx hy hx]
      rfl
theorem any_toPys {n k : Nat} {x : D} (p : D.plain n x = true) : ∀ {ds : List D}, D.plains k ds = true → ((toPys ds).any fun z => PyData.eqv z (toPy x)) = ds.any fun y => D.eqv y x
  | [], _ => rfl
  | y :: ys, q => by
    obtain ⟨q1, q2⟩ := Bool.and_eq_true_iff.mp (show (D.plain k y && D.plains k ys) = true by simpa [D.plains] using q)
    show (PyData.eqv (toPy y) (toPy x) || (toPys ys).any fun z => PyData.eqv z (toPy x)) = _
    rw [eqv_toPy q1 p, any_toPys p q2]
    rfl
/-- in: what it asks, one way or the other -/
inductive InW (cl : Nat → Addr) (K : PySem.W.Frag) (H : Hp) (m : Mem) : D → D → V → V → Bool → Prop where
  | sign (c : Nat) (t : List Nat) : InW cl K H m (.str [c]) (.str t) (.str (SX.S [c])) (.str (SX.S t)) (decide (c ∈ t))
  | seq {x y : D} {v w : V} {b : Bool} (h : ∃ p xs, w = .ref p ∧ (SqL K H p xs ∨ SqT K H p xs) ∧ L2.flatV v = true ∧ xs.all L2.flatV = true ∧ L2.inV v xs = b) : InW cl K H m x y v w b
  | data {x y : D} {v w : V} {b : Bool} (h : ∃ d ds, L2.Dp K H v d ∧ L2.Dp K H w (.list ds) ∧ SeqAt.shaped d = true ∧ SeqAt.shaped (.list ds) = true ∧ (ds.any fun z => PyData.eqv z d) = b) : InW cl K H m x y v w b
  | dict {x y : D} {v w : V} {b : Bool} (h : ∃ a o, w = .ref a ∧ L2.DGet H a v o ∧ o.isSome = b) : InW cl K H m x y v w b
theorem in_cases {cl : Nat → Addr} {K : PySem.W.Frag} {H : Hp} {m : Mem} {x y : D} {v w : V} {k : Bool → Prop} (hx : IsV K H x v) (hy : IsV K H y w) (hr : Rep cl K H m) (h : rIn x y m k) : ∃ b, InW cl K H m x y v w b ∧ k b := by
  unfold rIn at h
  cases ec : conS y with
  | some ds =>
    rw [ec] at h
    obtain ⟨⟨f1, f2⟩, q⟩ := h
    obtain ⟨a, vs, e, t, l⟩ := conS_sq ec hy
    obtain ⟨i1, i2⟩ := inV_D f1 hx f2 l
    exact ⟨_, .seq ⟨a, vs, e, t, flat_V f1 hx, i1, i2⟩, q⟩
  | none =>
    rw [ec] at h
    cases y with
    | str t =>
      obtain ⟨c, e, q⟩ := h
      subst e
      cases hx
      cases hy
      exact ⟨_, .sign c t, q⟩
    | ref a =>
      cases hy
      cases em : m a with
      | none =>
        simp only [em] at h
      | some o =>
        have ro := hr a o em
        simp only [em] at h
        cases o with
        | lst ds =>
          obtain ⟨⟨p1, p2⟩, q⟩ := h
          obtain ⟨vs, z, l⟩ := ro
          obtain ⟨a1, a2⟩ := lay_plain p1
          obtain ⟨b1, b2⟩ := lay_plains p2
          refine ⟨_, .data ⟨toPy x, toPys ds, dp_plain p1 hx, .lst (SqL.of z) (dp_plains p2 l), shaped_of ⟨a1, by omega⟩, shaped_of ⟨?_, ?_⟩, any_toPys p1 p2⟩, q⟩
          · unfold PyData.canLay0
            exact b1
          · unfold PyData.depth
            omega
        | dK kvs =>
          obtain ⟨p1, q⟩ := h
          obtain ⟨ws, z, l⟩ := ro
          obtain ⟨kx, ek⟩ := keyK_some p1
          refine ⟨_, .dict ⟨a, L2.valV ws kx, rfl, ?_, (isKs_get ek l).1⟩, q⟩
          rw [keyV ek hx]
          exact L2.DGet.k z
        | dT kvs =>
          obtain ⟨p1, q⟩ := h
          obtain ⟨ws, z, l⟩ := ro
          obtain ⟨kx, ek⟩ := keyT_some p1
          cases x with
          | tup xs =>
            obtain ⟨b, vs, eb, tb, lb⟩ := hx
            have ev := keysV (show keysOf xs = some kx from ek) lb
            subst eb
            exact ⟨_, .dict ⟨a, L2.valV ws kx, rfl, L2.DGet.t z (by rw [tb, ev]), (isTs_get ek l).1⟩, q⟩
          | _ => cases p1
        | ins c fs => exact h.elim
    | non => exact h.elim
    | bl _ => exact h.elim
    | int _ => exact h.elim
    | tup _ => cases ec
    | rol _ => cases ec
    | ktup _ => cases ec
section
variable {X : Cx} {cl : Nat → Addr}
theorem op_inDl (hu : X.A.units + 65 < cLine) : OpR X (compareOp .In) (LOp cl X.K (cV (rCmp .isin))) := by
  intro pins s σ H v w vu wu Q I rv rw h
  obtain ⟨x, y, m, k, hx, hy, hr, ht, p⟩ := h
  obtain ⟨b, hb, ht⟩ := in_cases hx hy hr (show rIn x y m fun c => k (.bl c) m from ht)
  have fin : Q (.bl b) H := p _ _ _ _ ht rfl hr (Ext.refl H m)
  cases hb with
  | sign c t =>
    refine L2.op_in_sign pins s σ H _ _ vu wu Q I rv rw ⟨c, _, rfl, rfl, ?_⟩
    rw [S_list]
    exact fin
  | seq h =>
    obtain ⟨q, xs, e, hs, f1, f2, e2⟩ := h
    exact L2.op_in_seq pins s σ H _ _ vu wu Q I rv rw ⟨q, xs, e, hs, f1, f2, by rw [e2]; exact fin⟩
  | data h =>
    obtain ⟨d, ds, d1, d2, s1, s2, e2⟩ := h
    exact L2.op_inD hu pins s σ H _ _ vu wu Q I rv rw ⟨d, ds, d1, d2, s1, s2, by rw [e2]; exact fin⟩
  | dict h =>
    obtain ⟨a, o, e, g, e2⟩ := h
    subst e
    obtain rfl : wu = Value.ref a := rw
    exact L2.d_in (by omega) I g rv fun s3 I3 => ⟨.bl o.isSome, H, I3, rfl, by rw [e2]; exact fin⟩
theorem op_notinDl (hu : X.A.units + 65 < cLine) : OpR X (compareOp .NotIn) (LOp cl X.K (cV (rCmp .notin))) := by
  intro pins s σ H v w vu wu Q I rv rw h
  obtain ⟨x, y, m, k, hx, hy, hr, ht, p⟩ := h
  obtain ⟨b, hb, ht⟩ := in_cases hx hy hr (show rIn x y m fun c => k (.bl (!c)) m from ht)
  have fin : Q (.bl (!b)) H := p _ _ _ _ ht rfl hr (Ext.refl H m)
  cases hb with
  | sign c t =>
    refine L2.op_notIn_sign pins s σ H _ _ vu wu Q I rv rw ⟨c, _, rfl, rfl, ?_⟩
    rw [S_list]
    exact fin
  | seq h =>
    obtain ⟨q, xs, e, hs, f1, f2, e2⟩ := h
    exact L2.op_notIn_seq pins s σ H _ _ vu wu Q I rv rw ⟨q, xs, e, hs, f1, f2, by rw [e2]; exact fin⟩
  | data h =>
    obtain ⟨d, ds, d1, d2, s1, s2, e2⟩ := h
    exact L2.op_notInD hu pins s σ H _ _ vu wu Q I rv rw ⟨d, ds, d1, d2, s1, s2, by rw [e2]; exact fin⟩
  | dict h =>
    obtain ⟨a, o, e, g, e2⟩ := h
    subst e
    obtain rfl : wu = Value.ref a := rw
    exact L2.d_notIn (by omega) I g rv fun s3 I3 => ⟨.bl (!o.isSome), H, I3, rfl, by rw [e2]; exact fin⟩

theorem atI_is {K : PySem.W.Frag} {H : Hp} {ds : List D} {vs : List V} {i : Int} {d : D} (l : IsL K H ds vs) (h : atI ds i = some d) : ∃ v, L2.atI vs i = some v ∧ IsV K H d v := by
  obtain ⟨j, h1, h2⟩ := Option.bind_eq_some_iff.mp h
  obtain ⟨v, a, b⟩ := l.get h2
  refine ⟨v, Option.bind_eq_some_iff.mpr ⟨j, ?_, a⟩, b⟩
  rw [l.length]
  exact h1
theorem ix_D (hu : X.A.units + 1 < cLine) : IxR X (LOp cl X.K rIx) := by
  intro value slice pins s σ H v w vu wu Q I rv rw h hs
  obtain ⟨x, y, m, k, hx, hy, hr, ht, p⟩ := h
  unfold rIx at ht
  cases ec : conS x with
  | some ds =>
    rw [ec] at ht
    cases y with
    | int i =>
      obtain ⟨d, e, ht⟩ := ht
      cases hy
      obtain ⟨a, vs, ea, t, l⟩ := conS_sq ec hx
      subst ea
      obtain ⟨u, e1, e2⟩ := atI_is l e
      have fin := p _ _ _ _ ht e2 hr (Ext.refl H m)
      rcases t with t | t
      · exact L2.ix_list value slice pins s σ H _ _ vu wu Q I rv rw ⟨a, vs, i, u, rfl, rfl, t, e1, fin⟩ hs
      · exact L2.ix_tup value slice pins s σ H _ _ vu wu Q I rv rw ⟨a, vs, i, u, rfl, rfl, t, e1, fin⟩ hs
    | _ => exact ht.elim
  | none =>
    rw [ec] at ht
    cases x with
    | str z =>
      cases y with
      | int i =>
        obtain ⟨hl, c, e, ht⟩ := ht
        cases hx
        cases hy
        exact L2.ix_str value slice pins s σ H _ _ vu wu Q I rv rw ⟨_, i, c, rfl, rfl, by rw [SX.S_len]; exact big_le hl, by rw [S_list]; exact e, p _ _ _ _ ht rfl hr (Ext.refl H m)⟩ hs
      | _ => exact ht.elim
    | ref a =>
      cases hx
      cases em : m a with
      | none =>
        cases y <;> simp only [em] at ht
      | some o =>
        have ro := hr a o em
        cases o with
        | lst ds =>
          cases y with
          | int i =>
            simp only [em] at ht
            obtain ⟨d, e, ht⟩ := ht
            cases hy
            obtain ⟨vs, z, l⟩ := ro
            obtain ⟨u, e1, e2⟩ := atI_is l e
            exact L2.ix_list value slice pins s σ H _ _ vu wu Q I rv rw ⟨a, vs, i, u, rfl, rfl, SqL.of z, e1, p _ _ _ _ ht e2 hr (Ext.refl H m)⟩ hs
          | _ => simp only [em] at ht
        | dK kvs =>
          have ht2 : keyK y = true ∧ ∃ d, getKey kvs y = some d ∧ k d m := by
            cases y <;> (simp only [em] at ht; exact ht)
          obtain ⟨p1, d, e, ht2⟩ := ht2
          obtain ⟨ws, z, l⟩ := ro
          obtain ⟨kx, ek⟩ := keyK_some p1
          obtain ⟨_, i2, _⟩ := isKs_get (x := y) ek l
          obtain ⟨u, e1, e2⟩ := i2 d e
          have g : L2.DGet H a w (some u) := by
            rw [keyV ek hy, ← e1]
            exact L2.DGet.k z
          obtain rfl : vu = Value.ref a := rv
          exact PyProof.Rows.tail_any (L2.dict_typeIs I g) PySem.F.slot_dict_getitem.lookup (L2.d_getItem hu I g rw fun w' s3 I3 rw' => ⟨u, H, I3, rw', p _ _ _ _ ht2 e2 hr (Ext.refl H m)⟩) hs
        | dT kvs =>
          have ht2 : keyT y = true ∧ ∃ d, getKey kvs y = some d ∧ k d m := by
            cases y <;> (simp only [em] at ht; exact ht)
          obtain ⟨p1, d, e, ht2⟩ := ht2
          obtain ⟨ws, z, l⟩ := ro
          obtain ⟨kx, ek⟩ := keyT_some p1
          obtain ⟨_, i2, _⟩ := isTs_get (x := y) ek l
          obtain ⟨u, e1, e2⟩ := i2 d e
          cases y with
          | tup xs =>
            obtain ⟨b, vs, eb, tb, lb⟩ := hy
            have ev := keysV (show keysOf xs = some kx from ek) lb
            subst eb
            have g : L2.DGet H a (.ref b) (some u) := by
              rw [← e1]
              exact L2.DGet.t z (by rw [tb, ev])
            obtain rfl : vu = Value.ref a := rv
            exact PyProof.Rows.tail_any (L2.dict_typeIs I g) PySem.F.slot_dict_getitem.lookup (L2.d_getItem hu I g rw fun w' s3 I3 rw' => ⟨u, H, I3, rw', p _ _ _ _ ht2 e2 hr (Ext.refl H m)⟩) hs
          | _ => cases p1
        | ins c fs => cases y <;> simp only [em] at ht
    | non => exact ht.elim
    | bl _ => exact ht.elim
    | int _ => exact ht.elim
    | tup _ => cases ec
    | rol _ => cases ec
    | ktup _ => cases ec
end
end DL

namespace DL
open PySem PySem.Spec PyProof.Rows
open L2 (V Hp HO SqL SqT TE TT TA TS TG TGs Cx Inv PE PT PW PA PS PSs PG PGs RelV Vals WX OpR UnR CallR IxR SlR MtR)

theorem cut_is {K : PySem.W.Frag} {H : Hp} {ds : List D} {vs : List V} (l : IsL K H ds vs) (lo hi : Option Int) : IsL K H (cut ds lo hi) (L2.cutV vs lo hi) := by
  have e : ∀ n d o, dSx n d o = HT.sIx n d o := fun n d o => by cases o <;> rfl
  unfold cut L2.cutV
  rw [l.length, ← e, ← e]
  exact (l.drop _).take _
theorem cut_all {α : Type} {ds : List α} {lo hi : Option Int} (h : dSx ds.length 0 lo = 0 ∧ dSx ds.length ds.length hi = ds.length) : cut ds lo hi = ds := by
  unfold cut
  rw [h.1, h.2, List.drop_zero, Nat.sub_zero, List.take_length]
/-- what a slice's reading by values asks -/
def LSl (cl : Nat → Addr) (K : PySem.W.Frag) : V → Option Int → Option Int → Hp → L2.VK → Prop := fun v lo hi H Q => ∃ x m k, IsV K H x v ∧ Rep cl K H m ∧ rSl x lo hi m k ∧ ∀ d m' u H', k d m' → IsV K H' d u → Rep cl K H' m' → Ext H m H' m' → Q u H'
section
variable {X : Cx} {cl : Nat → Addr}
theorem sl_D : SlR X (LSl cl X.K) := by
  intro pins s σ H v vv vl vu lo hi sl Q I rv hs pl pu h
  obtain ⟨x, m, k, hx, hr, ht, p⟩ := h
  cases x with
  | tup ds =>
    obtain ⟨a, vs, e, t, l⟩ := hx
    subst e
    have ec : ∀ n d o, dSx n d o = HT.sIx n d o := fun n d o => by cases o <;> rfl
    refine L2.sl_tupA pins s σ H _ vv vl vu lo hi sl Q I rv hs pl pu ⟨a, vs, rfl, sqt_of t, fun z => ?_, fun z q hq => ?_⟩
    · refine p _ _ _ _ ht ⟨a, vs, rfl, t, ?_⟩ hr (Ext.refl H m)
      rw [l.length, ← ec, ← ec] at z
      rw [cut_all z]
      exact l
    · exact p _ _ _ _ ht ⟨q, _, rfl, L2.upd_same, (cut_is l lo hi).kp (kp_new hq)⟩ (hr.hid hq) (Ext.hid hq)
  | rol ds =>
    obtain ⟨a, vs, e, t, l⟩ := hx
    subst e
    exact L2.sl_list pins s σ H _ vv vl vu lo hi sl Q I rv hs pl pu ⟨a, vs, rfl, t.sq, fun q hq => p _ _ _ _ (ht q (hr.free hq)) rfl (hr.new hq ⟨_, L2.upd_same, (cut_is l lo hi).kp (kp_new hq)⟩) (Ext.tell hq)⟩
  | str z =>
    obtain ⟨hl, ht⟩ := ht
    cases hx
    refine L2.sl_str pins s σ H _ vv vl vu lo hi sl Q I rv hs pl pu ⟨_, rfl, by rw [SX.S_len]; exact big_le hl, ?_⟩
    have e : L2.cutS (SX.S z) lo hi = SX.S (cut z lo hi) := by
      have ec : ∀ n d o, dSx n d o = HT.sIx n d o := fun n d o => by cases o <;> rfl
      unfold L2.cutS cut
      rw [SX.S_len, S_list, ec, ec]
    rw [e]
    exact p _ _ _ _ ht rfl hr (Ext.refl H m)
  | ref a =>
    cases hx
    have ht' : match m a with
      | some (.lst ds) => ∀ p, m p = none → k (.ref p) (upd m p (.lst (cut ds lo hi)))
      | _ => False := ht
    cases em : m a with
    | none =>
      rw [em] at ht'
      exact ht'.elim
    | some o =>
      have ro := hr a o em
      rw [em] at ht'
      cases o with
      | lst ds =>
        obtain ⟨vs, z, l⟩ := ro
        exact L2.sl_list pins s σ H _ vv vl vu lo hi sl Q I rv hs pl pu ⟨a, vs, rfl, SqL.of z, fun q hq => p _ _ _ _ (ht' q (hr.free hq)) rfl (hr.new hq ⟨_, L2.upd_same, (cut_is l lo hi).kp (kp_new hq)⟩) (Ext.tell hq)⟩
      | _ => exact ht'.elim
  | _ => exact ht.elim
end

theorem isEmpty_len {α β : Type} {xs : List α} {ys : List β} (h : xs.length = ys.length) : xs.isEmpty = ys.isEmpty := by
  cases xs <;> cases ys <;> first | rfl | (simp at h)
theorem tru_D {cl : Nat → Addr} {K : PySem.W.Frag} {H : Hp} {m : Mem} {x : D} {v : V} {k : Bool → Prop} (hx : IsV K H x v) (hr : Rep cl K H m) (h : rTru x m k) : ∃ b, L2.TruV K v H b ∧ k b := by
  unfold rTru at h
  cases ec : conS x with
  | some ds =>
    rw [ec] at h
    obtain ⟨a, vs, e, t, l⟩ := conS_sq ec hx
    subst e
    refine ⟨_, ?_, h⟩
    rcases t with t | t
    · exact .inl ⟨vs, t, by rw [isEmpty_len l.length]⟩
    · exact .inr (.inl ⟨vs, t, by rw [isEmpty_len l.length]⟩)
  | none =>
    rw [ec] at h
    cases x with
    | non => cases hx; exact ⟨false, rfl, h⟩
    | bl b => cases hx; exact ⟨b, rfl, h⟩
    | int i => cases hx; exact ⟨_, rfl, h⟩
    | str z =>
      cases hx
      obtain ⟨hl, h⟩ := h
      refine ⟨_, ⟨by rw [SX.S_len]; exact big_le hl, rfl⟩, ?_⟩
      rw [SX.S_len]
      cases z with
      | nil => exact h
      | cons a r => exact h
    | ref a =>
      cases hx
      cases em : m a with
      | none => simp only [em] at h
      | some o =>
        have ro := hr a o em
        simp only [em] at h
        cases o with
        | lst ds =>
          obtain ⟨vs, z, l⟩ := ro
          exact ⟨_, .inl ⟨vs, SqL.of z, rfl⟩, by rw [isEmpty_len l.length]; exact h⟩
        | dK kvs =>
          obtain ⟨ws, z, l⟩ := ro
          exact ⟨_, .inr (.inr ⟨ws, z, rfl⟩), by rw [isEmpty_len (isKs_len l)]; exact h⟩
        | dT kvs => exact h.elim
        | ins c fs => exact h.elim
    | tup _ => cases ec
    | rol _ => cases ec
    | ktup _ => cases ec

def LSet (cl : Nat → Addr) (K : PySem.W.Frag) : L2.TSet := fun o i v H Q => ∃ x y d m k, IsV K H x o ∧ IsV K H y i ∧ IsV K H d v ∧ Rep cl K H m ∧ rSet x y d m k ∧ ∀ m' H', k m' → Rep cl K H' m' → Ext H m H' m' → Q H'
section
variable {X : Cx} {cl : Nat → Addr}
theorem set_D (hu : X.A.units + 1 < cLine) : L2.PSet X (LSet cl X.K) := by
  intro pins s σ H o i v ov iv u Q I ro ri rv h
  obtain ⟨x, y, d, m, k, hx, hy, hd, hr, ht, p⟩ := h
  cases x with
  | ref a =>
    cases hx
    cases em : m a with
    | none => cases y <;> simp only [rSet, em] at ht
    | some b =>
      have rb := hr a b em
      obtain ⟨ha, za, z1, z2⟩ := hr.at em
      cases b with
      | lst ds =>
        cases y with
        | int j =>
          simp only [rSet, em] at ht
          obtain ⟨q, e, ht⟩ := ht
          cases hy
          obtain ⟨vs, z, l⟩ := rb
          refine L2.set_list pins s σ H _ _ v ov iv u Q I ro ri rv ⟨a, vs, j, q, rfl, rfl, z, by rw [l.length]; exact e, ?_⟩
          have kp : Kp H (L2.upd H a (.lst (vs.set q v))) := kp_mut z (fun _ h => nomatch h) fun _ _ h => nomatch h
          exact p _ _ ht (hr.mut em ⟨_, L2.upd_same, IsL.set (hd.kp kp) q (l.kp kp)⟩) (Ext.mut em)
        | _ => simp only [rSet, em] at ht
      | dK kvs =>
        have ht2 : keyK y = true ∧ kvs.length < big ∧ k (upd m a (.dK (putKey kvs y d))) := by
          cases y <;> (simp only [rSet, em] at ht; exact ht)
        obtain ⟨p1, hl, ht2⟩ := ht2
        obtain ⟨ws, z, l⟩ := rb
        obtain ⟨kx, ek⟩ := keyK_some p1
        have kp : Kp H (L2.upd H a (.dK (L2.putK ws kx v))) := kp_mut z (fun _ h => nomatch h) fun _ _ h => nomatch h
        obtain rfl : ov = Value.ref a := ro
        have g : L2.DPut H a i v (L2.upd H a (.dK (L2.putK ws kx v))) := by
          rw [keyV ek hy]
          exact L2.DPut.k z (Nat.lt_of_lt_of_le (by rw [isKs_len l]; exact hl) (big_le (Nat.le_refl _)))
        exact L2.d_setItem hu I g ri rv fun s' I' => ⟨_, I', p _ _ ht2 (hr.mut em ⟨_, L2.upd_same, isKs_put ek (hd.kp kp) (l.kp kp)⟩) (Ext.mut em)⟩
      | dT kvs =>
        have ht2 : keyT y = true ∧ kvs.length < big ∧ k (upd m a (.dT (putKey kvs y d))) := by
          cases y <;> (simp only [rSet, em] at ht; exact ht)
        obtain ⟨p1, hl, ht2⟩ := ht2
        obtain ⟨ws, z, l⟩ := rb
        obtain ⟨kx, ek⟩ := keyT_some p1
        cases y with
        | tup xs =>
          obtain ⟨b, vs, eb, tb, lb⟩ := hy
          have ev := keysV (show keysOf xs = some kx from ek) lb
          subst eb
          have kp : Kp H (L2.upd H a (.dT (L2.putK ws kx v))) := kp_mut z (fun _ h => nomatch h) fun _ _ h => nomatch h
          obtain rfl : ov = Value.ref a := ro
          have g : L2.DPut H a (.ref b) v (L2.upd H a (.dT (L2.putK ws kx v))) := L2.DPut.t z (by rw [tb, ev]) (Nat.lt_of_lt_of_le (by rw [isTs_len l]; exact hl) (big_le (Nat.le_refl _)))
          exact L2.d_setItem hu I g ri rv fun s' I' => ⟨_, I', p _ _ ht2 (hr.mut em ⟨_, L2.upd_same, isTs_put ek (hd.kp kp) (l.kp kp)⟩) (Ext.mut em)⟩
        | _ => cases p1
      | ins c fs => cases y <;> simp only [rSet, em] at ht
  | _ => exact ht.elim
end

/-- a call by values -/
def LCl (cl : Nat → Addr) (K : PySem.W.Frag) (r : List D → Mem → Kt → Prop) : List V → Hp → L2.VK → Prop := fun vs H Q => ∃ ds m k, IsL K H ds vs ∧ Rep cl K H m ∧ r ds m k ∧ ∀ d m' u H', k d m' → IsV K H' d u → Rep cl K H' m' → Ext H m H' m' → Q u H'
theorem isL1 {K : PySem.W.Frag} {H : Hp} {x : D} {vs : List V} (h : IsL K H [x] vs) : ∃ v, vs = [v] ∧ IsV K H x v := by
  obtain ⟨v, r, e, a, b⟩ := h
  rw [show r = [] from b] at e
  exact ⟨v, e, a⟩
theorem isL2 {K : PySem.W.Frag} {H : Hp} {x y : D} {vs : List V} (h : IsL K H [x, y] vs) : ∃ v w, vs = [v, w] ∧ IsV K H x v ∧ IsV K H y w := by
  obtain ⟨v, r, e, a, b⟩ := h
  obtain ⟨w, e2, c⟩ := isL1 b
  rw [e2] at e
  exact ⟨v, w, e, a, c⟩
theorem lstOf_is {cl : Nat → Addr} {K : PySem.W.Frag} {H : Hp} {m : Mem} {x : D} {v : V} {ds : List D} (hr : Rep cl K H m) (e : lstOf m x = some ds) (hx : IsV K H x v) : ∃ a vs, x = .ref a ∧ m a = some (.lst ds) ∧ v = .ref a ∧ H a = some (.lst vs) ∧ IsL K H ds vs := by
  cases x with
  | ref a =>
    unfold lstOf at e
    cases em : m a with
    | none => simp only [em] at e; cases e
    | some o =>
      simp only [em] at e
      cases o with
      | lst es =>
        obtain rfl : es = ds := Option.some.inj e
        obtain ⟨vs, z, l⟩ := hr a _ em
        exact ⟨a, vs, rfl, em, hx, z, l⟩
      | _ => cases e
  | _ => cases e
theorem seqOf_is {cl : Nat → Addr} {K : PySem.W.Frag} {H : Hp} {m : Mem} {x : D} {v : V} {ds : List D} (hr : Rep cl K H m) (e : seqOf m x = some ds) (hx : IsV K H x v) : ∃ a vs, v = .ref a ∧ (SqL K H a vs ∨ SqT K H a vs) ∧ IsL K H ds vs := by
  unfold seqOf at e
  cases ec : conS x with
  | some es =>
    rw [ec] at e
    obtain rfl : es = ds := Option.some.inj e
    exact conS_sq ec hx
  | none =>
    rw [ec] at e
    obtain ⟨a, vs, _, _, e1, z, l⟩ := lstOf_is hr e hx
    exact ⟨a, vs, e1, .inl (SqL.of z), l⟩
theorem allBl_is {K : PySem.W.Frag} {H : Hp} : ∀ {ds : List D} {bs : List Bool} {vs : List V}, allBl ds = some bs → IsL K H ds vs → vs = bs.map V.bl
  | [], _, _, e, l => by cases e; exact l
  | .bl b :: r, _, _, e, l => by
    obtain ⟨v, t, e1, h, l⟩ := l
    obtain ⟨cs, e2, e3⟩ := Option.map_eq_some_iff.mp e
    subst e3 e1
    cases h
    rw [allBl_is e2 l]
    rfl
  | .non :: _, _, _, e, _ => by cases e
  | .int _ :: _, _, _, e, _ => by cases e
  | .str _ :: _, _, _, e, _ => by cases e
  | .tup _ :: _, _, _, e, _ => by cases e
  | .ref _ :: _, _, _, e, _ => by cases e
  | .rol _ :: _, _, _, e, _ => by cases e
  | .ktup _ :: _, _, _, e, _ => by cases e
theorem allInt_is {K : PySem.W.Frag} {H : Hp} : ∀ {ds : List D} {bs : List Int} {vs : List V}, allInt ds = some bs → IsL K H ds vs → vs = bs.map V.int
  | [], _, _, e, l => by cases e; exact l
  | .int b :: r, _, _, e, l => by
    obtain ⟨v, t, e1, h, l⟩ := l
    obtain ⟨cs, e2, e3⟩ := Option.map_eq_some_iff.mp e
    subst e3 e1
    cases h
    rw [allInt_is e2 l]
    rfl
  | .non :: _, _, _, e, _ => by cases e
  | .bl _ :: _, _, _, e, _ => by cases e
  | .str _ :: _, _, _, e, _ => by cases e
  | .tup _ :: _, _, _, e, _ => by cases e
  | .ref _ :: _, _, _, e, _ => by cases e
  | .rol _ :: _, _, _, e, _ => by cases e
  | .ktup _ :: _, _, _, e, _ => by cases e
theorem allStr_is {K : PySem.W.Frag} {H : Hp} : ∀ {ds : List D} {bs : List (List Nat)} {vs : List V}, allStr ds = some bs → IsL K H ds vs → vs = (bs.map SX.S).map V.str
  | [], _, _, e, l => by cases e; exact l
  | .str b :: r, _, _, e, l => by
    obtain ⟨v, t, e1, h, l⟩ := l
    obtain ⟨cs, e2, e3⟩ := Option.map_eq_some_iff.mp e
    subst e3 e1
    cases h
    rw [allStr_is e2 l]
    rfl
  | .non :: _, _, _, e, _ => by cases e
  | .bl _ :: _, _, _, e, _ => by cases e
  | .int _ :: _, _, _, e, _ => by cases e
  | .tup _ :: _, _, _, e, _ => by cases e
  | .ref _ :: _, _, _, e, _ => by cases e
  | .rol _ :: _, _, _, e, _ => by cases e
  | .ktup _ :: _, _, _, e, _ => by cases e
theorem digN_numL (n : Nat) : TL.numL n = digN n := by
  induction n using Nat.strongRecOn with
  | _ n ih =>
    unfold digN
    by_cases h : n < 10
    · rw [if_pos h, TL.numL_lt h]
    · rw [if_neg h, TL.numL_step (by omega), ih (n / 10) (by omega)]
theorem str_dig {i : Int} (h : 0 ≤ i) : (toString i : Str) = SX.S (digN i.toNat) := by
  have e : i = ((i.toNat : Nat) : Int) := by omega
  rw [← digN_numL, ← TL.tl_num, ← e]
section
variable {X : Cx} {cl : Nat → Addr}
theorem len_D : CallR X (.builtin "len") (LCl cl X.K (rBlt .len)) := by
  intro pins s σ H vs us Q I r h
  obtain ⟨ds, m, k, hl, hr, ht, p⟩ := h
  rcases ds with _ | ⟨x, _ | ⟨y, r2⟩⟩
  · exact ht.elim
  · obtain ⟨v, e, hx⟩ := isL1 hl
    subst e
    unfold rBlt at ht
    cases ec : conS x with
    | some ds =>
      simp only [ec] at ht
      obtain ⟨a, vs, e, t, l⟩ := conS_sq ec hx
      subst e
      refine L2.call_len_seq pins s σ H _ us Q I r ⟨a, vs, rfl, t, ?_⟩
      rw [l.length]
      exact p _ _ _ _ ht rfl hr (Ext.refl H m)
    | none =>
      simp only [ec] at ht
      cases x with
      | str z =>
        obtain ⟨h1, ht⟩ := ht
        cases hx
        refine L2.call_len_str pins s σ H _ us Q I r ⟨_, rfl, by rw [SX.S_len]; exact big_le h1, ?_⟩
        rw [SX.S_len]
        exact p _ _ _ _ ht rfl hr (Ext.refl H m)
      | ref a =>
        cases hx
        cases em : m a with
        | none => simp only [em] at ht
        | some o =>
          have ro := hr a o em
          simp only [em] at ht
          cases o with
          | lst ds =>
            obtain ⟨vs, z, l⟩ := ro
            refine L2.call_len_seq pins s σ H _ us Q I r ⟨a, vs, rfl, .inl (SqL.of z), ?_⟩
            rw [l.length]
            exact p _ _ _ _ ht rfl hr (Ext.refl H m)
          | dK kvs =>
            obtain ⟨ws, z, l⟩ := ro
            refine L2.call_lenD pins s σ H _ us Q I r ⟨a, ws, rfl, z, ?_⟩
            rw [isKs_len l]
            exact p _ _ _ _ ht rfl hr (Ext.refl H m)
          | dT kvs =>
            obtain ⟨ws, z, l⟩ := ro
            refine L2.call_len_dT pins s σ H _ us Q I r ⟨a, ws, rfl, z, ?_⟩
            rw [isTs_len l]
            exact p _ _ _ _ ht rfl hr (Ext.refl H m)
          | ins c fs => exact ht.elim
      | non => exact ht.elim
      | bl _ => exact ht.elim
      | int _ => exact ht.elim
      | tup _ => cases ec
      | rol _ => cases ec
      | ktup _ => cases ec
  · exact ht.elim
theorem int_D : CallR X (.type "int") (LCl cl X.K (rBlt .int)) := by
  intro pins s σ H vs us Q I r h
  obtain ⟨ds, m, k, hl, hr, ht, p⟩ := h
  rcases ds with _ | ⟨x, _ | ⟨y, r2⟩⟩
  · exact ht.elim
  · obtain ⟨v, e, hx⟩ := isL1 hl
    subst e
    cases x <;> first | exact ht.elim | skip
    · cases hx
      exact L2.call_int1 pins s σ H _ us Q I r (.inr ⟨_, rfl, p _ _ _ _ ht rfl hr (Ext.refl H m)⟩)
    · cases hx
      exact L2.call_int1 pins s σ H _ us Q I r (.inl ⟨_, rfl, p _ _ _ _ ht rfl hr (Ext.refl H m)⟩)
  · cases x <;> exact ht.elim
theorem str_D : CallR X (.type "str") (LCl cl X.K (rBlt .str)) := by
  intro pins s σ H vs us Q I r h
  obtain ⟨ds, m, k, hl, hr, ht, p⟩ := h
  rcases ds with _ | ⟨x, _ | ⟨y, r2⟩⟩
  · exact ht.elim
  · obtain ⟨v, e, hx⟩ := isL1 hl
    subst e
    cases x <;> first | exact ht.elim | skip
    cases hx
    obtain ⟨⟨h0, h1⟩, ht⟩ := ht
    refine L2.call_str_int pins s σ H _ us Q I r ⟨_, rfl, ?_, ?_⟩
    · have e : (2 : Int) ^ 1900 = ((2 ^ 1900 : Nat) : Int) := by rw [Int.natCast_pow]; rfl
      rw [e] at h1
      rename_i i
      have h2 : i.natAbs < 2 ^ 1900 := by omega
      have h3 := PySem.Flt.log2_lt_of (show 0 < 1900 by decide) h2
      omega
    · rw [str_dig h0]
      exact p _ _ _ _ ht rfl hr (Ext.refl H m)
  · cases x <;> exact ht.elim
theorem list_D : CallR X (.type "list") (LCl cl X.K (rBlt .list)) := by
  intro pins s σ H vs us Q I r h
  obtain ⟨ds, m, k, hl, hr, ht, p⟩ := h
  rcases ds with _ | ⟨x, _ | ⟨y, r2⟩⟩
  · exact ht.elim
  · obtain ⟨v, e, hx⟩ := isL1 hl
    subst e
    obtain ⟨ds, e, ht⟩ := ht
    obtain ⟨a, vs, e1, t, l⟩ := seqOf_is hr e hx
    subst e1
    exact L2.call_list_of pins s σ H _ us Q I r ⟨a, vs, rfl, t, fun q hq => p _ _ _ _ (ht q (hr.free hq)) rfl (hr.new hq ⟨_, L2.upd_same, l.kp (kp_new hq)⟩) (Ext.tell hq)⟩
  · exact ht.elim
theorem tuple_D : CallR X (.type "tuple") (LCl cl X.K (fun ds m k => ∃ x es, ds = [x] ∧ lstOf m x = some es ∧ k (.tup es) m)) := by
  intro pins s σ H vs us Q I r h
  obtain ⟨ds, m, k, hl, hr, ⟨x, es, e0, e, ht⟩, p⟩ := h
  subst e0
  obtain ⟨v, e2, hx⟩ := isL1 hl
  subst e2
  obtain ⟨a, vs, _, _, e1, z, l⟩ := lstOf_is hr e hx
  subst e1
  exact L2.call_tuple_of pins s σ H _ us Q I r ⟨a, vs, rfl, .inl ⟨SqL.of z, fun q hq => p _ _ _ _ ht ⟨q, vs, rfl, L2.upd_same, l.kp (kp_new hq)⟩ (hr.hid hq) (Ext.hid hq)⟩⟩
theorem all_D (hc : X.calm = true) : CallR X (.builtin "all") (LCl cl X.K (rBlt .all)) := by
  intro pins s σ H vs us Q I r h
  obtain ⟨ds, m, k, hl, hr, ht, p⟩ := h
  rcases ds with _ | ⟨x, _ | ⟨y, r2⟩⟩
  · exact ht.elim
  · obtain ⟨v, e, hx⟩ := isL1 hl
    subst e
    obtain ⟨ds, bs, e, eb, ht⟩ := ht
    obtain ⟨a, vs, _, _, e1, z, l⟩ := lstOf_is hr e hx
    subst e1
    rw [allBl_is eb l] at z
    exact L2.cr_all hc pins s σ H _ us Q I r ⟨a, bs, rfl, SqL.of z, p _ _ _ _ ht rfl hr (Ext.refl H m)⟩
  · exact ht.elim
theorem any_D (hc : X.calm = true) : CallR X (.builtin "any") (LCl cl X.K (rBlt .any)) := by
  intro pins s σ H vs us Q I r h
  obtain ⟨ds, m, k, hl, hr, ht, p⟩ := h
  rcases ds with _ | ⟨x, _ | ⟨y, r2⟩⟩
  · exact ht.elim
  · obtain ⟨v, e, hx⟩ := isL1 hl
    subst e
    obtain ⟨ds, bs, e, eb, ht⟩ := ht
    obtain ⟨a, vs, _, _, e1, z, l⟩ := lstOf_is hr e hx
    subst e1
    rw [allBl_is eb l] at z
    exact L2.cr_any hc pins s σ H _ us Q I r ⟨a, bs, rfl, SqL.of z, p _ _ _ _ ht rfl hr (Ext.refl H m)⟩
  · exact ht.elim
theorem sum_D (hc : X.calm = true) : CallR X (.builtin "sum") (LCl cl X.K (rBlt .sum)) := by
  intro pins s σ H vs us Q I r h
  obtain ⟨ds, m, k, hl, hr, ht, p⟩ := h
  rcases ds with _ | ⟨x, _ | ⟨y, r2⟩⟩
  · exact ht.elim
  · obtain ⟨v, e, hx⟩ := isL1 hl
    subst e
    obtain ⟨ds, bs, e, eb, ht⟩ := ht
    obtain ⟨a, vs, _, _, e1, z, l⟩ := lstOf_is hr e hx
    subst e1
    rw [allInt_is eb l] at z
    exact L2.cr_sum hc pins s σ H _ us Q I r ⟨a, bs, rfl, SqL.of z, p _ _ _ _ ht rfl hr (Ext.refl H m)⟩
  · exact ht.elim
theorem max2_D (hc : X.calm = true) : CallR X (.builtin "max") (LCl cl X.K (rBlt .max2)) := by
  intro pins s σ H vs us Q I r h
  obtain ⟨ds, m, k, hl, hr, ht, p⟩ := h
  rcases ds with _ | ⟨x, _ | ⟨y, _ | ⟨z, r2⟩⟩⟩
  · exact ht.elim
  · cases x <;> exact ht.elim
  · cases x <;> cases y <;> try exact ht.elim
    obtain ⟨v, w, e, hx, hy⟩ := isL2 hl
    subst e
    cases hx
    cases hy
    exact L2.call_max2 hc pins s σ H _ us Q I r ⟨_, _, rfl, p _ _ _ _ ht rfl hr (Ext.refl H m)⟩
  · cases x <;> cases y <;> exact ht.elim
theorem min2_D (hc : X.calm = true) : CallR X (.builtin "min") (LCl cl X.K (rBlt .min2)) := by
  intro pins s σ H vs us Q I r h
  obtain ⟨ds, m, k, hl, hr, ht, p⟩ := h
  rcases ds with _ | ⟨x, _ | ⟨y, _ | ⟨z, r2⟩⟩⟩
  · exact ht.elim
  · cases x <;> exact ht.elim
  · cases x <;> cases y <;> try exact ht.elim
    obtain ⟨v, w, e, hx, hy⟩ := isL2 hl
    subst e
    cases hx
    cases hy
    exact L2.call_min2 hc pins s σ H _ us Q I r ⟨_, _, rfl, p _ _ _ _ ht rfl hr (Ext.refl H m)⟩
  · cases x <;> cases y <;> exact ht.elim
end
def tyName : Blt → Option String
  | .isInt => some "int"
  | .isBool => some "bool"
  | .isStr => some "str"
  | .isList => some "list"
  | .isTuple => some "tuple"
  | .isDict => some "dict"
  | _ => none
theorem kit_D {K : PySem.W.Frag} {t own : Blt} {T o : String} {k : Bool → Prop} (et : tyName t = some T) (eo : (own = .isInt ∧ o = "int") ∨ (own = .isBool ∧ o = "bool") ∨ (own = .isStr ∧ o = "str") ∨ (own = .isList ∧ o = "list") ∨ (own = .isTuple ∧ o = "tuple") ∨ (own = .isDict ∧ o = "dict") ∨ (own = .len ∧ o = "NoneType"))
    (h : isTy t own k) : ∃ b, PySem.W.kitOne K (.type o) (.type T) = some b ∧ k b := by
  rcases eo with ⟨rfl, rfl⟩ | ⟨rfl, rfl⟩ | ⟨rfl, rfl⟩ | ⟨rfl, rfl⟩ | ⟨rfl, rfl⟩ | ⟨rfl, rfl⟩ | ⟨rfl, rfl⟩ <;>
    (cases t <;> simp only [tyName, Option.some.injEq, reduceCtorEq] at et <;> (subst et; exact ⟨_, L2.kit_ty (by decide +kernel), h⟩))
section
variable {X : Cx} {cl : Nat → Addr}
theorem isi_D {t : Blt} {T : String} (et : tyName t = some T) {pins : List (Addr × Obj)} {s : Shared} {σ : L2.St} {H : Hp} {x : D} {v : V} {us : List Value} {Q : V → Hp → Prop} {m : Mem} {k : Bool → Prop} (I : Inv X pins σ H s) (r : Vals [v, .ty T] us)
    (hx : IsV X.K H x v) (hr : Rep cl X.K H m) (ht : rIsT t x m k) (q : ∀ b, k b → Q (.bl b) H) : wpAny (model X.prog X.w) X.A (call (.builtin "isinstance") us) (L2.EP X pins σ Q) X.xe s := by
  have go : ∀ (u : Value) (b : Bool), L2.TyX X.K H v u → PySem.W.kitOne X.K u (.type T) = some b → k b → wpAny (model X.prog X.w) X.A (call (.builtin "isinstance") us) (L2.EP X pins σ Q) X.xe s :=
    fun u b ty e kb => L2.call_isi pins s σ H _ us Q I r ⟨v, .ty T, u, .type T, b, rfl, .ty T, ty, e, q b kb⟩
  cases x with
  | int i =>
    cases hx
    obtain ⟨b, e, kb⟩ := kit_D (K := X.K) et (.inl ⟨rfl, rfl⟩) ht
    exact go _ b (.base (.int i)) e kb
  | bl i =>
    cases hx
    obtain ⟨b, e, kb⟩ := kit_D (K := X.K) et (.inr (.inl ⟨rfl, rfl⟩)) ht
    exact go _ b (.base (.bl i)) e kb
  | str i =>
    cases hx
    obtain ⟨b, e, kb⟩ := kit_D (K := X.K) et (.inr (.inr (.inl ⟨rfl, rfl⟩))) ht
    exact go _ b (.base (.str _)) e kb
  | non =>
    cases hx
    obtain ⟨b, e, kb⟩ := kit_D (K := X.K) et (.inr (.inr (.inr (.inr (.inr (.inr ⟨rfl, rfl⟩)))))) ht
    exact go _ b (.base .non) e kb
  | tup ds =>
    obtain ⟨a, vs, e, tt, l⟩ := hx
    subst e
    obtain ⟨b, e, kb⟩ := kit_D (K := X.K) et (.inr (.inr (.inr (.inr (.inl ⟨rfl, rfl⟩))))) ht
    exact go _ b (.base (.tup tt)) e kb
  | ktup ds =>
    obtain ⟨a, vs, e, tt, l⟩ := hx
    subst e
    obtain ⟨b, e, kb⟩ := kit_D (K := X.K) et (.inr (.inr (.inr (.inr (.inl ⟨rfl, rfl⟩))))) ht
    rcases tt with (tt | ⟨o, tt⟩) | ⟨o, its, n, e1, e2, _⟩
    · cases tt
    · cases tt
    · exact go _ b (.kTuple e1 e2) e kb
  | rol ds => exact ht.elim
  | ref a =>
    cases hx
    unfold rIsT at ht
    cases em : m a with
    | none => simp only [em] at ht
    | some o =>
      have ro := hr a o em
      simp only [em] at ht
      cases o with
      | lst ds =>
        obtain ⟨vs, z, l⟩ := ro
        obtain ⟨b, e, kb⟩ := kit_D (K := X.K) et (.inr (.inr (.inr (.inl ⟨rfl, rfl⟩)))) ht
        exact go _ b (.base (.lst z)) e kb
      | dK kvs =>
        obtain ⟨vs, z, l⟩ := ro
        obtain ⟨b, e, kb⟩ := kit_D (K := X.K) et (.inr (.inr (.inr (.inr (.inr (.inl ⟨rfl, rfl⟩)))))) ht
        exact go _ b (.base (.dK z)) e kb
      | dT kvs =>
        obtain ⟨vs, z, l⟩ := ro
        obtain ⟨b, e, kb⟩ := kit_D (K := X.K) et (.inr (.inr (.inr (.inr (.inr (.inl ⟨rfl, rfl⟩)))))) ht
        exact go _ b (.base (.dT z)) e kb
      | ins c fs => exact ht.elim
end

def bmTy : Bm → String × String
  | .append => ("list", "list.append") | .extend => ("list", "list.extend") | .pop => ("list", "list.pop") | .join => ("str", "str.join") | .split => ("str", "str.split") | .get2 => ("dict", "dict.get")
  | _ => ("", "")
def LMt (cl : Nat → Addr) (K : PySem.W.Frag) (b : Bm) : V → List V → Hp → L2.VK → Prop := fun v vs H Q => ∃ x ds m k, IsV K H x v ∧ IsL K H ds vs ∧ Rep cl K H m ∧ rBm b x ds m k ∧ ∀ d m' u H', k d m' → IsV K H' d u → Rep cl K H' m' → Ext H m H' m' → Q u H'
theorem tlj (a : List Nat) : ∀ ps : List (List Nat), TL.joinL a ps = joinS a ps
  | [] => rfl
  | [p] => rfl
  | p :: q :: r => by
    show p ++ (a ++ TL.joinL a (q :: r)) = p ++ (a ++ joinS a (q :: r))
    rw [tlj a (q :: r)]
theorem splitS_ne (c : Nat) : ∀ l : List Nat, splitS c l ≠ []
  | [] => by simp [splitS]
  | x :: r => by
    unfold splitS
    split
    · simp
    · split <;> simp
theorem splitS_cons (c x : Nat) (r : List Nat) : splitS c (x :: r) = match splitS c r with
    | [] => [[]]
    | p :: ps => if x = c then [] :: p :: ps else (x :: p) :: ps := rfl
theorem tlsp_acc (c : Nat) : ∀ (l acc : List Nat), TL.spl [c] 0 acc l = match splitS c l with
    | [] => [acc]
    | p :: ps => (acc ++ p) :: ps
  | [], acc => by
    rw [TL.spl_nil]
    show [acc] = [acc ++ []]
    rw [List.append_nil]
  | x :: r, acc => by
    have ih1 := tlsp_acc c r []
    have ih2 := tlsp_acc c r (acc ++ [x])
    by_cases h : x = c
    · subst h
      have hp : TL.pre [x] (x :: r) = true := by simp [TL.pre]
      rw [TL.spl_hit hp]
      show acc :: TL.spl [x] 0 [] r = _
      rw [ih1, splitS_cons]
      cases e : splitS x r with
      | nil => exact absurd e (splitS_ne x r)
      | cons p ps => simp
    · have hp : TL.pre [c] (x :: r) = false := by
        simp [TL.pre, h]
      rw [TL.spl_miss hp, ih2, splitS_cons]
      cases e : splitS c r with
      | nil => exact absurd e (splitS_ne c r)
      | cons p ps => simp [h]
theorem tlsp (c : Nat) (l : List Nat) : TL.spl [c] 0 [] l = splitS c l := by
  rw [tlsp_acc]
  cases e : splitS c l with
  | nil => exact absurd e (splitS_ne c l)
  | cons p ps => rfl
section
variable {X : Cx} {cl : Nat → Addr}
theorem mt_appendD : MtR X "list.append" (LMt cl X.K .append) := by
  intro pins s σ H v vs vv us Q I rv rs h
  obtain ⟨x, ds, m, k, hx, hl, hr, ht, p⟩ := h
  rcases ds with _ | ⟨y, _ | ⟨z, r2⟩⟩
  · cases x <;> exact ht.elim
  · cases x <;> first | exact ht.elim | skip
    rename_i a
    cases hx
    obtain ⟨w, e, hy⟩ := isL1 hl
    subst e
    unfold rBm at ht
    cases em : m a with
    | none => simp only [em] at ht
    | some o =>
      simp only [em] at ht
      cases o with
      | lst ds =>
        obtain ⟨hb, ht⟩ := ht
        obtain ⟨vs, z, l⟩ := hr a _ em
        refine L2.mt_append pins s σ H _ _ vv us Q I rv rs ⟨a, vs, w, rfl, rfl, z, Nat.lt_of_lt_of_le (by rw [l.length]; exact hb) (big_le (Nat.le_refl _)), ?_⟩
        have kp : Kp H (L2.upd H a (.lst (vs ++ [w]))) := kp_mut z (fun _ h => nomatch h) fun _ _ h => nomatch h
        exact p _ _ _ _ ht rfl (hr.mut em ⟨_, L2.upd_same, (l.kp kp).append ⟨w, [], rfl, hy.kp kp, rfl⟩⟩) (Ext.mut em)
      | _ => exact ht.elim
  · cases x <;> exact ht.elim
theorem mt_extendD : MtR X "list.extend" (LMt cl X.K .extend) := by
  intro pins s σ H v vs vv us Q I rv rs h
  obtain ⟨x, ds, m, k, hx, hl, hr, ht, p⟩ := h
  rcases ds with _ | ⟨y, _ | ⟨z, r2⟩⟩
  · cases x <;> exact ht.elim
  · cases x <;> first | exact ht.elim | skip
    cases y <;> first | exact ht.elim | skip
    rename_i a b
    cases hx
    obtain ⟨w, e, hy⟩ := isL1 hl
    subst e
    cases hy
    unfold rBm at ht
    cases em : m a with
    | none => simp only [em] at ht
    | some o =>
      cases en : m b with
      | none => simp only [em, en] at ht
      | some o2 =>
        simp only [em, en] at ht
        cases o with
        | lst ds =>
          cases o2 with
          | lst es =>
            obtain ⟨hb, ht⟩ := ht
            obtain ⟨vs, z, l⟩ := hr a _ em
            obtain ⟨ws, z2, l2⟩ := hr b _ en
            refine L2.mt_extend pins s σ H _ _ vv us Q I rv rs ⟨a, b, vs, ws, rfl, rfl, z, z2, by rw [l.length, l2.length]; exact big_le hb, ?_⟩
            have kp : Kp H (L2.upd H a (.lst (vs ++ ws))) := kp_mut z (fun _ h => nomatch h) fun _ _ h => nomatch h
            exact p _ _ _ _ ht rfl (hr.mut em ⟨_, L2.upd_same, (l.kp kp).append (l2.kp kp)⟩) (Ext.mut em)
          | _ => exact ht.elim
        | _ => exact ht.elim
  · cases x <;> cases y <;> exact ht.elim
theorem isL_dropLast {K : PySem.W.Frag} {H : Hp} {ds : List D} {vs : List V} (l : IsL K H ds vs) : IsL K H ds.dropLast vs.dropLast := by
  rw [List.dropLast_eq_take, List.dropLast_eq_take, l.length]
  exact l.take _
theorem mt_popD : MtR X "list.pop" (LMt cl X.K .pop) := by
  intro pins s σ H v vs vv us Q I rv rs h
  obtain ⟨x, ds, m, k, hx, hl, hr, ht, p⟩ := h
  rcases ds with _ | ⟨y, r2⟩
  · cases x <;> first | exact ht.elim | skip
    rename_i a
    cases hx
    obtain rfl : vs = [] := hl
    unfold rBm at ht
    cases em : m a with
    | none => simp only [em] at ht
    | some o =>
      simp only [em] at ht
      cases o with
      | lst ds =>
        obtain ⟨d, e, ht⟩ := ht
        obtain ⟨vs, z, l⟩ := hr a _ em
        obtain ⟨w, ew, hw⟩ := l.get e
        rw [← l.length] at ew
        refine L2.mt_pop pins s σ H _ _ vv us Q I rv rs ⟨a, vs, w, rfl, rfl, z, ew, ?_⟩
        have kp : Kp H (L2.upd H a (.lst vs.dropLast)) := kp_mut z (fun _ h => nomatch h) fun _ _ h => nomatch h
        exact p _ _ _ _ ht (hw.kp kp) (hr.mut em ⟨_, L2.upd_same, isL_dropLast (l.kp kp)⟩) (Ext.mut em)
      | _ => exact ht.elim
  · cases x <;> exact ht.elim
theorem mt_joinD : MtR X "str.join" (LMt cl X.K .join) := by
  intro pins s σ H v vs vv us Q I rv rs h
  obtain ⟨x, ds, m, k, hx, hl, hr, ht, p⟩ := h
  rcases ds with _ | ⟨y, _ | ⟨z, r2⟩⟩
  · cases x <;> exact ht.elim
  · cases x <;> first | exact ht.elim | skip
    rename_i a
    cases hx
    obtain ⟨w, e, hy⟩ := isL1 hl
    subst e
    obtain ⟨ds, ss, e1, e2, hb, ht⟩ := ht
    obtain ⟨q, vs, e, t, l⟩ := seqOf_is hr e1 hy
    subst e
    rw [allStr_is e2 l] at t
    refine L2.mt_join pins s σ H _ _ vv us Q I rv rs ⟨SX.S a, q, ss.map SX.S, rfl, rfl, t, ?_, ?_⟩
    · have e3 : (ss.map SX.S).map (·.length) = ss.map (·.length) := SX.lens ss
      rw [e3, List.length_map, SX.S_len]
      have : big ≤ 16777216 := by decide
      exact Nat.le_trans hb this
    · rw [SX.join_S, tlj]
      exact p _ _ _ _ ht rfl hr (Ext.refl H m)
  · cases x <;> exact ht.elim
theorem mt_splitD : MtR X "str.split" (LMt cl X.K .split) := by
  intro pins s σ H v vs vv us Q I rv rs h
  obtain ⟨x, ds, m, k, hx, hl, hr, ht, p⟩ := h
  rcases ds with _ | ⟨y, _ | ⟨z, r2⟩⟩
  · cases x <;> exact ht.elim
  · cases x <;> first | exact ht.elim | skip
    cases y <;> first | exact ht.elim | skip
    rename_i a b
    cases hx
    obtain ⟨w, e, hy⟩ := isL1 hl
    subst e
    cases hy
    obtain ⟨c, e, h256, hb, ht⟩ := ht
    subst e
    refine L2.mt_split pins s σ H _ _ vv us Q I rv rs ⟨SX.S a, SX.S [c], rfl, rfl, rfl, by rw [SX.S_len]; exact big_le hb, fun q hq => ?_⟩
    rw [SX.split_S (by simp) (by simpa using h256), tlsp]
    refine p _ _ _ _ (ht q (hr.free hq)) rfl (hr.new hq ⟨_, L2.upd_same, ?_⟩) (Ext.tell hq)
    have hm : ∀ ps : List (List Nat), IsL X.K (L2.upd H q (.lst (((splitS c a).map SX.S).map V.str))) (ps.map D.str) ((ps.map SX.S).map V.str) := fun ps => by
      induction ps with
      | nil => rfl
      | cons x r ih => exact ⟨_, _, rfl, rfl, ih⟩
    exact hm _
  · cases x <;> cases y <;> exact ht.elim
theorem mt_get2D (hu : X.A.units + 1 < cLine) : MtR X "dict.get" (LMt cl X.K .get2) := by
  intro pins s σ H v vs vv us Q I rv rs h
  obtain ⟨x, ds, m, k, hx, hl, hr, ht, p⟩ := h
  rcases ds with _ | ⟨y, _ | ⟨z, _ | ⟨z2, r2⟩⟩⟩
  · cases x <;> exact ht.elim
  · cases x <;> exact ht.elim
  · cases x <;> first | exact ht.elim | skip
    rename_i a
    cases hx
    obtain ⟨w1, w2, e, hy, hz⟩ := isL2 hl
    subst e
    obtain ⟨u1, u2, rfl, r1, r2⟩ := L2.vals2 rs
    obtain rfl : vv = Value.ref a := rv
    unfold rBm at ht
    cases em : m a with
    | none => simp only [em] at ht
    | some o =>
      have ro := hr a o em
      simp only [em] at ht
      cases o with
      | dK kvs =>
        obtain ⟨p1, ht⟩ := ht
        obtain ⟨ws, zz, l⟩ := ro
        obtain ⟨kx, ek⟩ := keyK_some p1
        obtain ⟨_, i2, i3⟩ := isKs_get (x := y) ek l
        have g : L2.DGet H a w1 (L2.valV ws kx) := by
          rw [keyV ek hy]
          exact L2.DGet.k zz
        refine L2.d_get2 hu I g r1 r2 fun w' s4 I4 rw' => ⟨_, H, I4, rw', ?_⟩
        refine p _ _ _ _ ht ?_ hr (Ext.refl H m)
        cases e : getKey kvs y with
        | none =>
          rw [i3 e]
          exact hz
        | some d =>
          obtain ⟨u, e1, e2⟩ := i2 d e
          rw [e1]
          exact e2
      | dT kvs =>
        obtain ⟨p1, ht⟩ := ht
        obtain ⟨ws, zz, l⟩ := ro
        obtain ⟨kx, ek⟩ := keyT_some p1
        obtain ⟨_, i2, i3⟩ := isTs_get (x := y) ek l
        cases y with
        | tup xs =>
          obtain ⟨b, vs, eb, tb, lb⟩ := hy
          have ev := keysV (show keysOf xs = some kx from ek) lb
          subst eb
          have g : L2.DGet H a (.ref b) (L2.valV ws kx) := L2.DGet.t zz (by rw [tb, ev])
          refine L2.d_get2 hu I g r1 r2 fun w' s4 I4 rw' => ⟨_, H, I4, rw', ?_⟩
          refine p _ _ _ _ ht ?_ hr (Ext.refl H m)
          cases e : getKey kvs (.tup xs) with
          | none =>
            rw [i3 e]
            exact hz
          | some d =>
            obtain ⟨u, e1, e2⟩ := i2 d e
            rw [e1]
            exact e2
        | _ => cases p1
      | _ => exact ht.elim
  · cases x <;> exact ht.elim
end
end DL

namespace DL
open PySem PySem.Spec PyProof.Rows
open L2 (V Hp HO SqL SqT TE TT TA TS TG TGs Cx Inv PE PT PW PA PS PSs PG PGs RelV Vals WX OpR UnR CallR IxR SlR MtR)

/-- what names mean in the module at hand -/
structure Ctx where
  N : List Str
  own : List (Str × (Nat × Nat))
  glb : List (Str × Nat)
  free : List Str
def slotOf : List Str → Str → Option Nat
  | [], _ => none
  | y :: r, x => if y = x then some 0 else (slotOf r x).map (· + 1)
theorem slotOf_get : ∀ {N : List Str} {x : Str} {i : Nat}, slotOf N x = some i → N[i]? = some x
  | [], _, _, h => by cases h
  | y :: r, x, i, h => by
    unfold slotOf at h
    by_cases e : y = x
    · rw [if_pos e] at h
      cases h
      rw [e]
      rfl
    · rw [if_neg e] at h
      obtain ⟨j, e1, e2⟩ := Option.map_eq_some_iff.mp h
      subst e2
      exact slotOf_get (N := r) e1
def isGl (sc : Scope) (x : Str) : Bool := decide (sc.names.lookup x = some .globalImplicit) && !(x == ("__debug__" : Str)) && !(x == ("__name__" : Str))
def isVis (sc : Scope) (x : Str) : Bool := decide (sc.names.lookup x = some .local) || decide (sc.names.lookup x = some .cell) || decide (sc.names.lookup x = some .free)
def isLoc (sc : Scope) (x : Str) : Bool := decide (sc.names.lookup x = some .local)
def isLocC (sc : Scope) (x : Str) : Bool := decide (sc.names.lookup x = some .local) || decide (sc.names.lookup x = some .cell)
def plainName (x : Str) : Bool := !(x == ("__debug__" : Str)) && !(x == ("__classdict__" : Str))
def cName (c : Ctx) (sc : Scope) (x : Str) : Option Ex :=
  if isVis sc x && plainName x then (slotOf c.N x).map .var
  else if isGl sc x then (c.glb.lookup x).map .glob else none
def cConst : Const → Option Ex
  | .int i => some (.int i)
  | .str x => some (.str x.cps.toList)
  | .bool b => some (.bl b)
  | .none => some .non
  | _ => none
def cOp : Operator → Option BOp
  | .Add => some .add | .Sub => some .sub | .Mult => some .mul | .FloorDiv => some .fdiv | .Mod => some .mod | .Pow => some .pow
  | _ => none
def cCmp : CmpOp → Option COp
  | .Eq => some .eq | .NotEq => some .ne | .Lt => some .lt | .LtE => some .le | .Gt => some .gt | .GtE => some .ge | .In => some .isin | .NotIn => some .notin | .Is => some .is | .IsNot => some .isnot
def bltOf (x : Str) (n : Nat) : Option Blt :=
  if x = "len" ∧ n = 1 then some .len
  else if x = "int" ∧ n = 1 then some .int
  else if x = "str" ∧ n = 1 then some .str
  else if x = "list" ∧ n = 1 then some .list
  else if x = "all" ∧ n = 1 then some .all
  else if x = "any" ∧ n = 1 then some .any
  else if x = "sum" ∧ n = 1 then some .sum
  else if x = "max" ∧ n = 2 then some .max2
  else if x = "min" ∧ n = 2 then some .min2
  else none
def tyOf (x : Str) : Option Blt :=
  if x = "int" then some .isInt
  else if x = "bool" then some .isBool
  else if x = "str" then some .isStr
  else if x = "list" then some .isList
  else if x = "tuple" then some .isTuple
  else if x = "dict" then some .isDict
  else none
def bmOf (x : Str) : Option Bm :=
  if x = "append" then some .append
  else if x = "extend" then some .extend
  else if x = "pop" then some .pop
  else if x = "join" then some .join
  else if x = "split" then some .split
  else if x = "get" then some .get2
  else none
def bmAr : Bm → Nat
  | .append => 1 | .extend => 1 | .pop => 0 | .join => 1 | .split => 1 | .get2 => 2
  | _ => 99
/-- no star, no cut, no set: an expression that is itself -/
def plainE : Expr → Bool
  | .Starred .. => false
  | .Slice .. => false
  | .Set .. => false
  | .NamedExpr .. => false
  | .Lambda .. => false
  | .Await .. => false
  | .Yield .. => false
  | .YieldFrom .. => false
  | _ => true
/-- no call without arguments of a name: super() alone is taken apart -/
def baseE : Expr → Bool
  | .Call (.Name _ _) [] [] _ => false
  | _ => true
/-- range(..) alone -/
def isRng : List Expr → Bool
  | [.Call (.Name y _) _ [] _] => y == "range"
  | _ => false
def srcRg : Src → Option Ex
  | .rng1 a => some (.lrg (.rng1 a))
  | .rng2 a b => some (.lrg (.rng2 a b))
  | _ => none
/-- a comprehension's own names, with their slots -/
def ownOf (N : List Str) : List (Str × NameKind) → Option (List (Str × Nat))
  | [] => some []
  | (y, k) :: r => match ownOf N r with
    | none => none
    | some o => if y = ".0" then some o else if k = .local ∨ k = .cell then (slotOf N y).map fun i => (y, i) :: o else some o
def cTg (N : List Str) (ok : Str → Bool) : Nat → Expr → Option Tg
  | 0, _ => none
  | n + 1, e => match e with
    | .Name x _ => if ok x then (slotOf N x).map .name else none
    | .Tuple [a, b] _ _ => (cTg N ok n a).bind fun a => (cTg N ok n b).map fun b => .pair a b
    | .Tuple [a, b, d] _ _ => (cTg N ok n a).bind fun a => (cTg N ok n b).bind fun b => (cTg N ok n d).map fun d => .trip a b d
    | .Tuple [a, b, d, f] _ _ => (cTg N ok n a).bind fun a => (cTg N ok n b).bind fun b => (cTg N ok n d).bind fun d => (cTg N ok n f).map fun f => .quad a b d f
    | _ => none
/-- the names that a comprehension's target may be -/
def lcOk (scope sc : Scope) (x : Str) : Bool := isLoc (L2.relS scope sc) x || (isLocC (L2.relS scope sc) x && decide (scope.names.lookup x = some .cell))
def tgSlots : Tg → List Nat
  | .name i => [i]
  | .pair a b => tgSlots a ++ tgSlots b
  | .trip a b c => tgSlots a ++ (tgSlots b ++ tgSlots c)
  | .quad a b c d => tgSlots a ++ (tgSlots b ++ (tgSlots c ++ tgSlots d))
mutual
def cE (c : Ctx) : Nat → Scope → Expr → Option Ex
  | 0, _, _ => none
  | n + 1, sc, e => match e with
    | .Name x _ => cName c sc x
    | .Constant k _ _ => cConst k
    | .BinOp a o b _ => (cOp o).bind fun o => (cE c n sc a).bind fun a => (cE c n sc b).map fun b => .bin o a b
    | .UnaryOp .USub a _ => (cE c n sc a).map .neg
    | .UnaryOp .Not a _ => (cE c n sc a).map .not
    | .Compare a [o] [b] _ => if plainE b then (cCmp o).bind fun o => (cE c n sc a).bind fun a => (cE c n sc b).map fun b => .cmp o a b else none
    | .Compare a [o, p] [b, d] _ => if plainE b && plainE d then (cCmp o).bind fun o => (cCmp p).bind fun p => (cE c n sc a).bind fun a => (cE c n sc b).bind fun b => (cE c n sc d).map fun d => .cmp2 o p a b d else none
    | .Compare a (o :: p :: q :: os) (b :: d :: f :: bs) _ => (cE c n sc a).bind fun a => (cCh c n sc (o :: p :: q :: os) (b :: d :: f :: bs)).map fun ch => .cmpN a ch
    | .BoolOp _ [a] _ => cE c n sc a
    | .BoolOp .And (a :: b :: r) q => (cE c n sc a).bind fun a => (cE c n sc (.BoolOp .And (b :: r) q)).map fun b => .and a b
    | .BoolOp .Or (a :: b :: r) q => (cE c n sc a).bind fun a => (cE c n sc (.BoolOp .Or (b :: r) q)).map fun b => .or a b
    | .IfExp t a b _ => (cE c n sc t).bind fun t => (cE c n sc a).bind fun a => (cE c n sc b).map fun b => .ite t a b
    | .Subscript a (.Slice lo hi none _) _ => (cE c n sc a).bind fun a => (cP c n sc lo).bind fun lo => (cP c n sc hi).map fun hi => .sl a lo hi
    | .Subscript a i _ => if plainE i then (cE c n sc a).bind fun a => (cE c n sc i).map fun i => .ix a i else none
    | .Tuple es _ _ => if es.length ≤ 1000 then (cEs c n sc es).map .tup else none
    | .List es _ => if es.length ≤ 1000 then (cEs c n sc es).map .lst else none
    | .Dict [] [] _ => some .dn
    | .Call (.Name x _) args [] _ =>
      if isGl sc x then match c.own.lookup x with
        | some (f, ar) => if args.length = ar ∧ args ≠ [] then (cEs c n sc args).map (.call f) else none
        | none => if x ∈ c.free then
            if x = "isinstance" then match args with
              | [a, .Name t _] => if isGl sc t ∧ t ∈ c.free ∧ plainE a = true then (tyOf t).bind fun b => (cE c n sc a).map fun a => .blt b (.c a .n) else none
              | _ => none
            else if x = "list" ∧ isRng args = true then match args with
              | [e] => (cSrc c n sc e e).bind srcRg
              | _ => none
            else (bltOf x args.length).bind fun b => (cEs c n sc args).map (.blt b)
          else none
      else none
    | .Call (.Attribute o m ap) args [] p => (bmOf m).bind fun b => if args.length = bmAr b ∧ (ap.endLine == p.line) = true ∧ baseE o = true then (cE c n sc o).bind fun o => (cEs c n sc args).map fun as => .bm b o as else none
    | .ListComp elt [⟨tg, it, ifs, 0⟩] scope _ => (ownOf c.N scope.names).bind fun own =>
      if L2.blkC c.N sc scope own then (cTg c.N (lcOk scope sc) n tg).bind fun t => if (tgSlots t).all fun i => own.any fun q => q.2 == i then (cSrc c n sc tg it).bind fun s => (cIf c n (L2.relS scope sc) ifs).bind fun k => (cE c n (L2.relS scope sc) elt).map fun e => .lc (own.map (·.2)) t s k e else none
      else none
    | _ => none
def cCh (c : Ctx) : Nat → Scope → List CmpOp → List Expr → Option Chn
  | 0, _, _, _ => none
  | n + 1, sc, [o], [b] => if plainE b then (cCmp o).bind fun o => (cE c n sc b).map fun b => .one o b else none
  | n + 1, sc, o :: p :: os, b :: d :: bs => (cCmp o).bind fun o => (cE c n sc b).bind fun b => (cCh c n sc (p :: os) (d :: bs)).map fun r => .more o b r
  | _ + 1, _, _, _ => none
def cP (c : Ctx) : Nat → Scope → Option Expr → Option Ex
  | 0, _, _ => none
  | _ + 1, _, none => some .part0
  | n + 1, sc, some e => (cE c n sc e).bind fun x => match x with
    | .var i => some (.var i)
    | .int i => some (.int i)
    | .bin o a b => some (.bin o a b)
    | .blt b es => some (.blt b es)
    | .call f es => some (.call f es)
    | .neg (.int i) => some (.neg (.int i))
    | _ => none
def cEs (c : Ctx) : Nat → Scope → List Expr → Option Exs
  | 0, _, _ => none
  | _ + 1, _, [] => some .n
  | n + 1, sc, e :: r => if plainE e then (cE c n sc e).bind fun x => (cEs c n sc r).map fun xs => .c x xs else none
def cIf (c : Ctx) : Nat → Scope → List Expr → Option Ex
  | 0, _, _ => none
  | _ + 1, _, [] => some (.bl true)
  | n + 1, sc, [e] => (cE c n sc e).bind fun x => match x with
    | .bl _ => none
    | x => some x
  | _ + 1, _, _ => none
def cSrc (c : Ctx) : Nat → Scope → Expr → Expr → Option Src
  | 0, _, _, _ => none
  | n + 1, sc, tg, e => if plainE e then match e with
    | .Call (.Name x p) [a] [] q => if x = "range" then (if isGl sc x ∧ x ∈ c.free ∧ plainE a = true then (cE c n sc a).map .rng1 else none) else (cE c n sc e).map .of
    | .Call (.Name x p) [a, b] [] q => if x = "range" then (if isGl sc x ∧ x ∈ c.free ∧ plainE a = true ∧ plainE b = true then (cE c n sc a).bind fun a => (cE c n sc b).map fun b => .rng2 a b else none) else (cE c n sc e).map .of
    | e => (cE c n sc e).map .of
    else none
end

def Lsp (cl : Nat → Addr) (K : PySem.W.Frag) (n : Nat) (sp : Sp) : L2.Sp := fun vs H Q E => ∃ ds m k X, ds.length = n ∧ IsL K H ds vs ∧ Rep cl K H m ∧ sp ds m k X ∧
  (∀ d m' v H', k d m' → IsV K H' d v → Rep cl K H' m' → Ext H m H' m' → Q v H') ∧ ∀ e m' cls dd H', X e m' → IsX cl K H' e cls dd → Rep cl K H' m' → Ext H m H' m' → E cls dd H'
structure Callee (cl : Nat → Addr) (X : Cx) (k : Nat) (x : Str) (n : Nat) (sp : Sp) : Prop where
  ex : ∃ j f fd ps, j ≤ k ∧ L2.FnOk X.prog X.w X.K X.mg X.base (L2.CX X.prog X.w) j f fd ps (Lsp cl X.K n sp) ∧ X.mg x = some (.ref f) ∧ PySem.W.keepIn X.K (.ref f) = true ∧ L2.Binds X.K fd ps []
structure Good (cl : Nat → Addr) (c : Ctx) (Γ : En) (k : Nat) (W : WX) (sc : Scope) (X : Cx) : Prop where
  hN : X.N = c.N
  nd : c.N.Nodup
  hsc : X.env.scope = sc
  calm : X.calm = true
  tk : L2.Takes X W
  room : L2.Room k X.A
  own : ∀ x f n, c.own.lookup x = some (f, n) → Callee cl X k x n (Γ.fn f)
  glb : ∀ x g, c.glb.lookup x = some g → ∃ u v, X.mg x = some u ∧ RelV v u ∧ ∀ H, IsV X.K H (Γ.gl g) v
  free : ∀ x, x ∈ c.free → X.mg x = none
section
variable {cl : Nat → Addr} {c : Ctx} {Γ : En} {k : Nat} {W : WX} {sc : Scope} {X : Cx}
theorem isGl_ok (G : Good cl c Γ k W sc X) {x : Str} (h : isGl sc x = true) : L2.Gl X x ∧ (x == ("__debug__" : Str)) = false ∧ x ≠ "__name__" := by
  unfold isGl at h
  rw [Bool.and_eq_true, Bool.and_eq_true] at h
  obtain ⟨⟨h1, h2⟩, h3⟩ := h
  refine ⟨?_, by simpa using h2, by simpa using h3⟩
  show X.env.scope.names.lookup x = some .globalImplicit
  rw [G.hsc]
  exact of_decide_eq_true h1
theorem isVis_ok (G : Good cl c Γ k W sc X) {x : Str} (h : isVis sc x = true) : L2.Vis X.env.scope x := by
  unfold isVis at h
  rw [Bool.or_eq_true, Bool.or_eq_true] at h
  unfold L2.Vis
  rw [G.hsc]
  rcases h with (h | h) | h
  · exact .inl (of_decide_eq_true h)
  · exact .inr (.inl (of_decide_eq_true h))
  · exact .inr (.inr (of_decide_eq_true h))
theorem Good.u65 (G : Good cl c Γ k W sc X) : X.A.units + 65 < cLine := by
  have := G.room.un
  omega
/-- a comprehension's block -/
theorem Good.blk (G : Good cl c Γ k W sc X) (s : Shared) (H : Hp) (scope : Scope) (C : Addr) (cc : List (Str × Addr)) (fp : List Addr) (hk : scope.kind = .function) (hu : ∀ y ∈ scope.names, scope.names.lookup y.1 = some y.2) :
    Good cl c Γ k (fun _ _ _ _ => False) (L2.relS scope sc) (X.blk s H scope (compEnvC scope cc C X.env) fp) where
  hN := G.hN
  nd := G.nd
  hsc := by
    rw [← G.hsc]
    rfl
  calm := G.calm
  tk := L2.takes0
  room := G.room
  own := fun x f n h => by
    obtain ⟨j, f', fd, ps, a, b, d, e, g⟩ := (G.own x f n h).ex
    exact ⟨j, f', fd, ps, a, b, d, e, g⟩
  glb := G.glb
  free := G.free
end
end DL

namespace DL
open PySem PySem.Spec PyProof.Rows
open L2 (V Hp HO SqL SqT TE TT TA TS TG TGs Cx Inv PE PT PW PA PS PSs PG PGs RelV Vals WX OpR UnR CallR IxR SlR MtR)
section
variable {cl : Nat → Addr} {K : PySem.W.Frag} {W : WX} {α β γ δ : Type} {R : Hp → α → β → Prop} {S : Hp → γ → δ → Prop} {H : Hp} {Q Q' : β → Hp → Prop} {σv : L2.St}
theorem Lift.mono {t : Rd α} (h : Lift cl K W R t σv H Q) (i : ∀ v H', Q v H' → Q' v H') : Lift cl K W R t σv H Q' := by
  obtain ⟨σ, m, k, E, hs, hr, ht, p⟩ := h
  exact ⟨σ, m, k, E, hs, hr, ht, ⟨fun d m' v H' a b c e => i _ _ (p.ok d m' v H' a b c e), p.ex⟩⟩
/-- first t, then u, whatever u's reading is -/
theorem Lift.then_ {t : Rd γ} {u : γ → Rd α} {P : δ → Hp → Prop} (h : Lift cl K W R (fun E σ m k => t E σ m fun x m1 => u x E σ m1 k) σv H Q)
    (i : ∀ x v H1, Kp H H1 → S H1 x v → Lift cl K W R (u x) σv H1 Q → P v H1) : Lift cl K W S t σv H P :=
  (Lift.bind h).mono fun v H1 ⟨k, x, s, l⟩ => i x v H1 k s l
theorem Lift.at0 {u : Rd α} (h : Lift cl K W R u σv H Q) {x : α} {v : β} (e : ∀ E σ m k, u E σ m k → k x m) (r : R H x v) : Q v H := by
  obtain ⟨σ, m, k, E, hs, hr, ht, p⟩ := h
  exact p.ok _ _ _ _ (e _ _ _ _ ht) r hr (Ext.refl H m)
end
section
variable {cl : Nat → Addr} {c : Ctx} {Γ : En} {k : Nat} {W : WX} {sc : Scope} {X : Cx}
abbrev PEl (cl : Nat → Addr) (W : WX) (X : Cx) (e : Expr) (t : Rd D) : Prop := PE X e (Lift cl X.K W (RV X.K) t)
abbrev PTl (cl : Nat → Addr) (W : WX) (X : Cx) (e : Expr) (t : Rd Bool) : Prop := PT X e (Lift cl X.K W RB t)
theorem pe_const {x : Ex} {q : Const} {j : Nat} {pos : Pos} (h : cConst q = some x) : PEl cl W X (.Constant q j pos) fun E => rE Γ E x := by
  cases q <;> simp only [cConst, Option.some.injEq, reduceCtorEq] at h <;> subst h
  · exact pe_imp L2.pe_non fun σ H Q q => q.at0 (fun _ _ _ _ z => z) rfl
  · exact pe_imp L2.pe_bl fun σ H Q q => q.at0 (fun _ _ _ _ z => z) rfl
  · exact pe_imp L2.pe_int fun σ H Q q => q.at0 (fun _ _ _ _ z => z) rfl
  · refine pe_imp L2.pe_str fun σ H Q q => q.at0 (fun _ _ _ _ z => z) ?_
    show V.str _ = V.str _
    rw [SX.S_tl]
theorem pe_name (G : Good cl c Γ k W sc X) {x : Str} {y : Ex} {pos : Pos} (h : cName c sc x = some y) : PEl cl W X (.Name x pos) fun E => rE Γ E y := by
  unfold cName at h
  split at h
  · rename_i hv
    rw [Bool.and_eq_true] at hv
    obtain ⟨i, e1, e2⟩ := Option.map_eq_some_iff.mp h
    subst e2
    have hp := hv.2
    unfold plainName at hp
    rw [Bool.and_eq_true] at hp
    refine pe_imp (L2.pe_var (i := i) (by rw [G.hN]; exact slotOf_get e1) (isVis_ok G hv.1) (by simpa using hp.1) (by simpa using hp.2)) fun σv H Q q => ?_
    obtain ⟨σ, m, k, E, hs, hr, ht, p⟩ := q
    have ht' : match sget σ i with
      | some d => k d m
      | none => False := ht
    cases e : sget σ i with
    | none =>
      rw [e] at ht'
      exact ht'.elim
    | some d =>
      rw [e] at ht'
      obtain ⟨v, a, b⟩ := hs.at_ i d e
      exact ⟨v, a, p.ok _ _ _ _ ht' b hr (Ext.refl H m)⟩
  · split at h
    · rename_i hg
      obtain ⟨g, e1, e2⟩ := Option.map_eq_some_iff.mp h
      subst e2
      obtain ⟨g1, g2, g3⟩ := isGl_ok G hg
      obtain ⟨u, v, m1, m2, m3⟩ := G.glb x g e1
      exact pe_imp (L2.pe_glob g1 m1 m2 g2) fun σ H Q q => q.at0 (fun _ _ _ _ z => z) (m3 H)
    · cases h
theorem t_op {K : PySem.W.Frag} {ta tb : Rd D} {r : D → D → Mem → Kt → Prop} {σv : L2.St} {H : Hp} {Q : V → Hp → Prop} (h : Lift cl K W (RV K) (fun E σ m k => ta E σ m fun x m1 => tb E σ m1 fun y m2 => r x y m2 k) σv H Q) :
    L2.tOp (LOp cl K r) (Lift cl K W (RV K) ta) (Lift cl K W (RV K) tb) σv H Q :=
  Lift.then_ (S := RV K) (u := fun x E σ m1 k => tb E σ m1 fun y m2 => r x y m2 k) h fun x v H1 k1 s1 l1 => Lift.then_ (S := RV K) (u := fun y E σ m2 k => r x y m2 k) l1 fun y w H2 k2 s2 l2 => lop_of_lift (s1.kp k2) s2 l2
theorem pe_binD {a b : Expr} {ta tb : Rd D} {o : Operator} {p : BOp} {pos : Pos} (ho : cOp o = some p) (ha : PEl cl W X a ta) (hb : PEl cl W X b tb) :
    PEl cl W X (.BinOp a o b pos) fun E σ m k => ta E σ m fun x m1 => tb E σ m1 fun y m2 => rBin p x y m2 k := by
  have hr : OpR X (binaryOp o) (LOp cl X.K (rBin p)) := by
    cases o <;> simp only [cOp, Option.some.injEq, reduceCtorEq] at ho <;> subst ho
    · exact op_addD
    · exact op_subD
    · exact op_mulD
    · exact op_modD
    · exact op_powD
    · exact op_fdivD
  exact pe_imp (L2.pe_op hr ha hb) fun σ H Q q => t_op q
theorem pe_negD {a : Expr} {ta : Rd D} {pos : Pos} (ha : PEl cl W X a ta) : PEl cl W X (.UnaryOp .USub a pos) fun E σ m k => ta E σ m fun x m1 => match x with
    | .int i => k (.int (-i)) m1
    | _ => False := by
  refine pe_imp (L2.pe_un L2.un_neg ha) fun σ H Q q => ?_
  refine Lift.then_ (S := RV X.K) (u := fun (x : D) (E : XK) (σ : St) (m1 : Mem) (k : D → Mem → Prop) => match x with
    | .int i => k (.int (-i)) m1
    | _ => False) q fun x v H1 k1 s1 l1 => ?_
  cases x with
  | int i =>
    cases s1
    exact ⟨i, rfl, l1.at0 (fun _ _ _ _ z => z) rfl⟩
  | _ =>
    obtain ⟨σ, m, k, E, hs, hr, ht, p⟩ := l1
    exact ht.elim
theorem plain_behind {b : Expr} (h : plainE b = true) (op : CmpOp) : behindInMarks op b = false := by
  cases b <;> first | rfl | cases h
theorem cmpR (G : Good cl c Γ k W sc X) {o : CmpOp} {p : COp} (h : cCmp o = some p) : OpR X (compareOp o) (LOp cl X.K (cV (rCmp p))) := by
  have hu := G.u65
  cases o <;> simp only [cCmp, Option.some.injEq] at h <;> subst h
  · exact op_eqDl (by omega)
  · exact op_neDl (by omega)
  · exact op_ltDl
  · exact op_leDl
  · exact op_gtDl
  · exact op_geDl
  · exact op_isDl
  · exact op_isnotDl
  · exact op_inDl hu
  · exact op_notinDl hu
theorem pe_cmpD (G : Good cl c Γ k W sc X) {a b : Expr} {ta tb : Rd D} {o : CmpOp} {p : COp} {pos : Pos} (ho : cCmp o = some p) (hb' : plainE b = true) (ha : PEl cl W X a ta) (hb : PEl cl W X b tb) :
    PEl cl W X (.Compare a [o] [b] pos) fun E σ m k => ta E σ m fun x m1 => tb E σ m1 fun y m2 => rCmp p x y m2 fun c => k (D.bl c) m2 :=
  pe_imp (L2.pe_cmpR (cmpR G ho) ha hb (plain_behind hb' o)) fun σ H Q q => t_op (r := cV (rCmp p)) q
/-- a truth told as a value, as a truth -/
def bOf (k : Bool → Mem → Prop) : Kt := fun d m => match d with
  | .bl b => k b m
  | _ => False
theorem Lift.truth {K : PySem.W.Frag} {t : Rd D} {t' : Rd Bool} {σv : L2.St} {H : Hp} {Q : Bool → Hp → Prop} (h : Lift cl K W RB t' σv H Q) (i : ∀ E σ m k, t' E σ m k → t E σ m (bOf k)) :
    Lift cl K W (RV K) t σv H fun v H' => ∃ b, v = .bl b ∧ Q b H' := by
  obtain ⟨σ, m, k, E, hs, hr, ht, p⟩ := h
  refine ⟨σ, m, bOf k, E, hs, hr, i _ _ _ _ ht, ⟨fun d m' v H' q s r e => ?_, p.ex⟩⟩
  cases d <;> first | exact q.elim | skip
  exact ⟨_, s, p.ok _ _ _ _ q rfl r e⟩
theorem pt_cmpD (G : Good cl c Γ k W sc X) {a b : Expr} {ta tb : Rd D} {o : CmpOp} {p : COp} {pos : Pos} (ho : cCmp o = some p) (hb' : plainE b = true) (ha : PEl cl W X a ta) (hb : PEl cl W X b tb) :
    PTl cl W X (.Compare a [o] [b] pos) fun E σ m k => ta E σ m fun x m1 => tb E σ m1 fun y m2 => rCmp p x y m2 fun c => k c m2 := by
  refine pt_imp (L2.pt_cmpR (cmpR G ho) ha hb (plain_behind hb' o)) fun σ H Q q => ?_
  show L2.tOp (LOp cl X.K (cV (rCmp p))) (Lift cl X.K W (RV X.K) ta) (Lift cl X.K W (RV X.K) tb) σ H fun x H' => ∃ b, x = .bl b ∧ Q b H'
  refine Lift.then_ (S := RV X.K) (u := fun x E σ m1 k => tb E σ m1 fun y m2 => rCmp p x y m2 fun c => k c m2) q fun x v H1 k1 s1 l1 => Lift.then_ (S := RV X.K) (u := fun y E σ m2 k => rCmp p x y m2 fun c => k c m2) l1 fun y w H2 k2 s2 l2 => ?_
  exact lop_of_lift (r := cV (rCmp p)) (s1.kp k2) s2 (Lift.truth (t := fun _ _ m k => cV (rCmp p) x y m k) l2 fun _ _ _ _ z => z)
theorem pe_cmp2D (G : Good cl c Γ k W sc X) {a b d : Expr} {ta tb td : Rd D} {o o' : CmpOp} {p p' : COp} {pos : Pos} (ho : cCmp o = some p) (ho' : cCmp o' = some p') (hd' : plainE d = true) (ha : PEl cl W X a ta) (hb : PEl cl W X b tb) (hd : PEl cl W X d td) :
    PEl cl W X (.Compare a [o, o'] [b, d] pos) fun E σ m k => ta E σ m fun x m1 => tb E σ m1 fun y m2 => rCmp p x y m2 fun q =>
      (q = true → td E σ m2 fun z m3 => rCmp p' y z m3 fun r => k (D.bl r) m3) ∧ (q = false → k (D.bl false) m2) := by
  refine pe_imp (L2.pe_chain (cmpR G ho) (cmpR G ho') ha hb hd (plain_behind hd' o')) fun σ H Q q => ?_
  refine Lift.then_ (S := RV X.K) (u := fun x E σ m1 k => tb E σ m1 fun y m2 => rCmp p x y m2 fun q =>
      (q = true → td E σ m2 fun z m3 => rCmp p' y z m3 fun r => k (D.bl r) m3) ∧ (q = false → k (D.bl false) m2)) q fun x v H1 k1 s1 l1 => Lift.then_ (S := RV X.K) (u := fun y E σ m2 k => rCmp p x y m2 fun q =>
      (q = true → td E σ m2 fun z m3 => rCmp p' y z m3 fun r => k (D.bl r) m3) ∧ (q = false → k (D.bl false) m2)) l1 fun y w H2 k2 s2 l2 => ?_
  obtain ⟨σ', m, k', E, hs, hr, ht, pp⟩ := l2
  refine ⟨x, y, m, bOf fun q m2 => (q = true → td E σ' m2 fun z m3 => rCmp p' y z m3 fun r => k' (D.bl r) m3) ∧ (q = false → k' (D.bl false) m2), s1.kp k2, s2, hr, ht, fun dd m' u H' z su sr se => ?_⟩
  cases dd <;> first | exact z.elim | skip
  rename_i b
  refine ⟨b, su, ?_⟩
  cases b with
  | false => exact L2.iteF (pp.ok _ _ _ _ (z.2 rfl) rfl sr se)
  | true =>
    refine L2.iteT ?_
    refine Lift.then_ (S := RV X.K) (t := td) (u := fun z E σ m3 k => rCmp p' y z m3 fun r => k (D.bl r) m3) (Q := Q) (R := RV X.K) ⟨σ', m', k', E, hs.kp (hr.kp se), sr, z.1 rfl, pp.step se⟩ fun z' w' H3 k3 s3 l3 => ?_
    exact lop_of_lift (r := cV (rCmp p')) ((s2.kp (hr.kp se)).kp k3) s3 l3
theorem pt_cmp2D (G : Good cl c Γ k W sc X) {a b d : Expr} {ta tb td : Rd D} {o o' : CmpOp} {p p' : COp} {pos : Pos} (ho : cCmp o = some p) (ho' : cCmp o' = some p') (hd' : plainE d = true) (ha : PEl cl W X a ta) (hb : PEl cl W X b tb) (hd : PEl cl W X d td) :
    PTl cl W X (.Compare a [o, o'] [b, d] pos) fun E σ m k => ta E σ m fun x m1 => tb E σ m1 fun y m2 => rCmp p x y m2 fun q =>
      (q = true → td E σ m2 fun z m3 => rCmp p' y z m3 fun r => k r m3) ∧ (q = false → k false m2) := by
  refine pt_imp (L2.pt_chain (cmpR G ho) (cmpR G ho') ha hb hd (plain_behind hd' o')) fun σ H Q q => ?_
  refine Lift.then_ (S := RV X.K) (u := fun x E σ m1 k => tb E σ m1 fun y m2 => rCmp p x y m2 fun q =>
      (q = true → td E σ m2 fun z m3 => rCmp p' y z m3 fun r => k r m3) ∧ (q = false → k false m2)) q fun x v H1 k1 s1 l1 => Lift.then_ (S := RV X.K) (u := fun y E σ m2 k => rCmp p x y m2 fun q =>
      (q = true → td E σ m2 fun z m3 => rCmp p' y z m3 fun r => k r m3) ∧ (q = false → k false m2)) l1 fun y w H2 k2 s2 l2 => ?_
  obtain ⟨σ', m, k', E, hs, hr, ht, pp⟩ := l2
  refine ⟨x, y, m, bOf fun q m2 => (q = true → td E σ' m2 fun z m3 => rCmp p' y z m3 fun r => k' r m3) ∧ (q = false → k' false m2), s1.kp k2, s2, hr, ht, fun dd m' u H' z su sr se => ?_⟩
  cases dd <;> first | exact z.elim | skip
  rename_i b
  refine ⟨b, su, ?_⟩
  cases b with
  | false => exact L2.iteF ⟨false, rfl, pp.ok _ _ _ _ (z.2 rfl) rfl sr se⟩
  | true =>
    refine L2.iteT ?_
    refine Lift.then_ (S := RV X.K) (t := td) (u := fun z E σ m3 k => rCmp p' y z m3 fun r => k r m3) (Q := Q) (R := RB) ⟨σ', m', k', E, hs.kp (hr.kp se), sr, z.1 rfl, pp.step se⟩ fun z' w' H3 k3 s3 l3 => ?_
    exact lop_of_lift (r := cV (rCmp p')) ((s2.kp (hr.kp se)).kp k3) s3 (Lift.truth (t := fun _ _ m k => cV (rCmp p') y z' m k) l3 fun _ _ _ _ z => z)

/-- a value's truth decides -/
theorem Lift.tru {K : PySem.W.Frag} {R : Hp → α → β → Prop} {x : D} {v : V} {σv : L2.St} {H : Hp} {Q : β → Hp → Prop} {f : Bool → Rd α} (hx : IsV K H x v) (h : Lift cl K W R (fun E σ m k => rTru x m fun p => f p E σ m k) σv H Q) :
    ∃ b, L2.TruV K v H b ∧ Lift cl K W R (f b) σv H Q := by
  obtain ⟨σ, m, k, E, hs, hr, ht, p⟩ := h
  obtain ⟨b, tb, kb⟩ := tru_D hx hr ht
  exact ⟨b, tb, σ, m, k, E, hs, hr, kb, p⟩
theorem pe_andD {a b : Expr} {r : List Expr} {ta tb : Rd D} {pos : Pos} (ha : PEl cl W X a ta) (hb : PEl cl W X (.BoolOp .And (b :: r) pos) tb) :
    PEl cl W X (.BoolOp .And (a :: b :: r) pos) fun E σ m k => ta E σ m fun x m1 => rTru x m1 fun p => (p = true → tb E σ m1 k) ∧ (p = false → k x m1) := by
  refine pe_imp (L2.pe_andT ha hb) fun σ H Q q => ?_
  refine Lift.then_ (S := RV X.K) (u := fun x E σ m1 k => rTru x m1 fun p => (p = true → tb E σ m1 k) ∧ (p = false → k x m1)) q fun x v H1 k1 s1 l1 => ?_
  obtain ⟨b, t, l⟩ := Lift.tru (f := fun p E σ m1 k => (p = true → tb E σ m1 k) ∧ (p = false → k x m1)) s1 l1
  refine ⟨b, t, ?_⟩
  cases b with
  | true => exact L2.iteT (l.imp fun _ _ _ _ z => z.1 rfl)
  | false => exact L2.iteF (l.at0 (fun _ _ _ _ z => z.2 rfl) s1)
theorem pe_orD {a b : Expr} {r : List Expr} {ta tb : Rd D} {pos : Pos} (ha : PEl cl W X a ta) (hb : PEl cl W X (.BoolOp .Or (b :: r) pos) tb) :
    PEl cl W X (.BoolOp .Or (a :: b :: r) pos) fun E σ m k => ta E σ m fun x m1 => rTru x m1 fun p => (p = true → k x m1) ∧ (p = false → tb E σ m1 k) := by
  refine pe_imp (L2.pe_orT ha hb) fun σ H Q q => ?_
  refine Lift.then_ (S := RV X.K) (u := fun x E σ m1 k => rTru x m1 fun p => (p = true → k x m1) ∧ (p = false → tb E σ m1 k)) q fun x v H1 k1 s1 l1 => ?_
  obtain ⟨b, t, l⟩ := Lift.tru (f := fun p E σ m1 k => (p = true → k x m1) ∧ (p = false → tb E σ m1 k)) s1 l1
  refine ⟨b, t, ?_⟩
  cases b with
  | false => exact L2.iteF (l.imp fun _ _ _ _ z => z.2 rfl)
  | true => exact L2.iteT (l.at0 (fun _ _ _ _ z => z.1 rfl) s1)
theorem pe_notD {a : Expr} {ta : Rd D} {pos : Pos} (ha : PEl cl W X a ta) : PEl cl W X (.UnaryOp .Not a pos) fun E σ m k => ta E σ m fun x m1 => rTru x m1 fun p => k (D.bl (!p)) m1 := by
  refine pe_imp (L2.pe_notT ha) fun σ H Q q => ?_
  refine Lift.then_ (S := RV X.K) (u := fun x E σ m1 k => rTru x m1 fun p => k (D.bl (!p)) m1) q fun x v H1 k1 s1 l1 => ?_
  obtain ⟨b, t, l⟩ := Lift.tru (f := fun p E σ m1 k => k (D.bl (!p)) m1) s1 l1
  exact ⟨b, t, l.at0 (fun _ _ _ _ z => z) rfl⟩
theorem pt_truD {a : Expr} {ta : Rd D} (ha : PEl cl W X a ta) (he : ∀ whole, isTrue a X.env whole = (do let v ← whole; standAt a.pos; holding [v] (truthy v))) :
    PTl cl W X a fun E σ m k => ta E σ m fun x m1 => rTru x m1 fun p => k p m1 := by
  refine pt_imp (L2.pt_truth ha he) fun σ H Q q => ?_
  refine Lift.then_ (S := RV X.K) (u := fun x E σ m1 k => rTru x m1 fun p => k p m1) q fun x v H1 k1 s1 l1 => ?_
  obtain ⟨b, t, l⟩ := Lift.tru (f := fun p E σ m1 k => k p m1) s1 l1
  exact ⟨b, t, l.at0 (fun _ _ _ _ z => z) rfl⟩
theorem pt_notD {a : Expr} {ta : Rd Bool} {pos : Pos} (ha : PTl cl W X a ta) : PTl cl W X (.UnaryOp .Not a pos) fun E σ m k => ta E σ m fun p m1 => k (!p) m1 := by
  refine pt_imp (L2.pt_not ha) fun σ H Q q => ?_
  refine Lift.then_ (S := RB) (u := fun p E σ m1 k => k (!p) m1) q fun x v H1 k1 s1 l1 => ?_
  cases s1
  exact l1.at0 (fun _ _ _ _ z => z) rfl
abbrev PWl (cl : Nat → Addr) (W : WX) (X : Cx) (e : Expr) (t : Rd Bool) : Prop := PW X e (Lift cl X.K W RB t)
theorem pw_andD {a b : Expr} {r : List Expr} {ta tb : Rd Bool} {pos : Pos} (ha : PTl cl W X a ta) (hb : PWl cl W X (.BoolOp .And (b :: r) pos) tb) :
    PWl cl W X (.BoolOp .And (a :: b :: r) pos) fun E σ m k => ta E σ m fun p m1 => (p = true → tb E σ m1 k) ∧ (p = false → k false m1) := by
  refine pw_imp (L2.pw_and ha hb) fun σ H Q q => ?_
  refine Lift.then_ (S := RB) (u := fun p E σ m1 k => (p = true → tb E σ m1 k) ∧ (p = false → k false m1)) q fun x v H1 k1 s1 l1 => ?_
  cases s1
  cases x with
  | true => exact L2.iteT (l1.imp fun _ _ _ _ z => z.1 rfl)
  | false => exact L2.iteF (l1.at0 (fun _ _ _ _ z => z.2 rfl) rfl)
theorem pw_orD {a b : Expr} {r : List Expr} {ta tb : Rd Bool} {pos : Pos} (ha : PTl cl W X a ta) (hb : PWl cl W X (.BoolOp .Or (b :: r) pos) tb) :
    PWl cl W X (.BoolOp .Or (a :: b :: r) pos) fun E σ m k => ta E σ m fun p m1 => (p = true → k true m1) ∧ (p = false → tb E σ m1 k) := by
  refine pw_imp (L2.pw_or ha hb) fun σ H Q q => ?_
  refine Lift.then_ (S := RB) (u := fun p E σ m1 k => (p = true → k true m1) ∧ (p = false → tb E σ m1 k)) q fun x v H1 k1 s1 l1 => ?_
  cases s1
  cases x with
  | false => exact L2.iteF (l1.imp fun _ _ _ _ z => z.2 rfl)
  | true => exact L2.iteT (l1.at0 (fun _ _ _ _ z => z.1 rfl) rfl)
theorem pe_iteD {t a b : Expr} {tt : Rd Bool} {ta tb : Rd D} {pos : Pos} (ht : PTl cl W X t tt) (ha : PEl cl W X a ta) (hb : PEl cl W X b tb) :
    PEl cl W X (.IfExp t a b pos) fun E σ m k => tt E σ m fun p m1 => (p = true → ta E σ m1 k) ∧ (p = false → tb E σ m1 k) := by
  refine pe_imp (L2.pe_ifExp ht ha hb) fun σ H Q q => ?_
  refine Lift.then_ (S := RB) (u := fun p E σ m1 k => (p = true → ta E σ m1 k) ∧ (p = false → tb E σ m1 k)) q fun x v H1 k1 s1 l1 => ?_
  cases s1
  cases x with
  | true => exact L2.iteT (l1.imp fun _ _ _ _ z => z.1 rfl)
  | false => exact L2.iteF (l1.imp fun _ _ _ _ z => z.2 rfl)

theorem pe_ixD (G : Good cl c Γ k W sc X) {a b : Expr} {ta tb : Rd D} {pos : Pos} (hb' : plainE b = true) (ha : PEl cl W X a ta) (hb : PEl cl W X b tb) :
    PEl cl W X (.Subscript a b pos) fun E σ m k => ta E σ m fun x m1 => tb E σ m1 fun y m2 => rIx x y m2 k := by
  have hu := G.u65
  refine pe_imp (L2.pe_ix (ix_D (by omega)) ha hb ?_) fun σ H Q q => t_op q
  intro o i
  cases b <;> first | rfl | cases hb'
abbrev POl (cl : Nat → Addr) (W : WX) (X : Cx) (e : Option Expr) (t : Rd (Option Int)) : Prop := L2.PO X e (Lift cl X.K W RO t)
theorem pe_slD {a : Expr} {lo hi : Option Expr} {ta : Rd D} {tl th : Rd (Option Int)} {p2 pos : Pos} (ha : PEl cl W X a ta) (hl : POl cl W X lo tl) (hh : POl cl W X hi th) :
    PEl cl W X (.Subscript a (.Slice lo hi none p2) pos) fun E σ m k => ta E σ m fun x m1 => tl E σ m1 fun p m2 => th E σ m2 fun q m3 => rSl x p q m3 k := by
  refine pe_imp (L2.pe_slice (sl_D (cl := cl)) ha hl hh) fun σ H Q q => ?_
  refine Lift.then_ (S := RV X.K) (u := fun x E σ m1 k => tl E σ m1 fun p m2 => th E σ m2 fun q m3 => rSl x p q m3 k) q fun x v H1 k1 s1 l1 =>
    Lift.then_ (S := RO) (u := fun p E σ m2 k => th E σ m2 fun q m3 => rSl x p q m3 k) l1 fun p p' H2 k2 s2 l2 => Lift.then_ (S := RO) (u := fun q E σ m3 k => rSl x p q m3 k) l2 fun q q' H3 k3 s3 l3 => ?_
  cases s2
  cases s3
  obtain ⟨σ', m, k', E, hs, hr, ht, pp⟩ := l3
  exact ⟨x, m, k', (s1.kp k2).kp k3, hr, ht, pp.ok⟩
theorem po_noneD : POl cl W X none fun _ _ m k => k none m := ⟨fun pins s σ H Q I h => L2.po_none.run pins s σ H Q I (h.at0 (fun _ _ _ _ z => z) rfl)⟩
theorem po_someD {e : Expr} {t : Rd D} (h : PEl cl W X e t) : POl cl W X (some e) fun E σ m k => t E σ m fun d m1 => ∃ j, d = .int j ∧ k (some j) m1 := ⟨fun pins s σ H Q I q => (L2.po_some h).run pins s σ H Q I (by
  refine Lift.then_ (S := RV X.K) (u := fun d E σ m1 k => ∃ j, d = .int j ∧ k (some j) m1) q fun x v H1 k1 s1 l1 => ?_
  obtain ⟨σ', m, k', E, hs, hr, ⟨j, e, ht⟩, pp⟩ := l1
  subst e
  cases s1
  exact ⟨j, rfl, pp.ok _ _ _ _ ht rfl hr (Ext.refl _ _)⟩)⟩

/-- n values -/
abbrev RN (K : PySem.W.Frag) (n : Nat) : Hp → List D → List V → Prop := fun H d v => d.length = n ∧ IsL K H d v
abbrev PAl (cl : Nat → Addr) (W : WX) (X : Cx) (es : List Expr) (t : Rd (List D)) : Prop := PA X es (Lift cl X.K W (RN X.K es.length) t)
theorem plain_star {e : Expr} (h : plainE e = true) (es : List Expr) (env : Env) : starEach (e :: es) env = (false, eval e env) :: starEach es env := by
  cases e <;> first | rfl | cases h
theorem pa_nilD : PAl cl W X [] fun _ _ m k => k [] m := pa_imp L2.pa_nil fun σ H Q q => q.at0 (fun _ _ _ _ z => z) ⟨rfl, rfl⟩
theorem pa_consD {e : Expr} {es : List Expr} {t : Rd D} {u : Rd (List D)} (hp : plainE e = true) (h : PEl cl W X e t) (hs : PAl cl W X es u) :
    PAl cl W X (e :: es) fun E σ m k => t E σ m fun d m1 => u E σ m1 fun ds m2 => k (d :: ds) m2 := by
  refine pa_imp (L2.pa_cons h hs (plain_star hp es X.env)) fun σ H Q q => ?_
  refine Lift.then_ (S := RV X.K) (u := fun d E σ m1 k => u E σ m1 fun ds m2 => k (d :: ds) m2) q fun x v H1 k1 s1 l1 => Lift.then_ (S := RN X.K es.length) (u := fun ds E σ m2 k => k (x :: ds) m2) l1 fun ds vs H2 k2 s2 l2 => ?_
  exact l2.at0 (fun _ _ _ _ z => z) ⟨congrArg (· + 1) s2.1, v, vs, rfl, s1.kp k2, s2.2⟩
theorem le1000 {n : Nat} (h : n ≤ 1000) : n ≤ sizeLine := Nat.le_trans h (by decide)
theorem pe_tupD {es : List Expr} {x1 : Nat} {t : Rd (List D)} {pos : Pos} (hl : es.length ≤ 1000) (h : PAl cl W X es t) : PEl cl W X (.Tuple es x1 pos) fun E σ m k => t E σ m fun ds m1 => k (D.tup ds) m1 := by
  refine pe_imp (L2.pe_tup h) fun σ H Q q => ?_
  refine Lift.then_ (S := RN X.K es.length) (u := fun ds E σ m1 k => k (D.tup ds) m1) q fun ds vs H1 k1 s1 l1 => ⟨by rw [s1.2.length, s1.1]; exact le1000 hl, fun p hp => ?_⟩
  obtain ⟨σ', m, k', E, hs, hr, ht, pp⟩ := l1
  exact pp.ok _ _ _ _ ht ⟨p, vs, rfl, L2.upd_same, s1.2.kp (kp_new hp)⟩ (hr.hid hp) (Ext.hid hp)
theorem pe_lstD {es : List Expr} {t : Rd (List D)} {pos : Pos} (hl : es.length ≤ 1000) (h : PAl cl W X es t) : PEl cl W X (.List es pos) fun E σ m k => t E σ m fun ds m1 => ∀ p, m1 p = none → k (D.ref p) (upd m1 p (.lst ds)) := by
  refine pe_imp (L2.pe_lst h) fun σ H Q q => ?_
  refine Lift.then_ (S := RN X.K es.length) (u := fun ds E σ m1 k => ∀ p, m1 p = none → k (D.ref p) (upd m1 p (.lst ds))) q fun ds vs H1 k1 s1 l1 => ⟨by rw [s1.2.length, s1.1]; exact le1000 hl, fun p hp => ?_⟩
  obtain ⟨σ', m, k', E, hs, hr, ht, pp⟩ := l1
  exact pp.ok _ _ _ _ (ht p (hr.free hp)) rfl (hr.new hp ⟨vs, L2.upd_same, s1.2.kp (kp_new hp)⟩) (Ext.tell hp)
theorem pe_dnKD {pos : Pos} : PEl cl W X (.Dict [] [] pos) fun _ _ m k => ∀ p, m p = none → k (D.ref p) (upd m p (.dK [])) := by
  refine pe_imp L2.pe_dnewK fun σ H Q q p hp => ?_
  obtain ⟨σ', m, k', E, hs, hr, ht, pp⟩ := q
  exact pp.ok _ _ _ _ (ht p (hr.free hp)) rfl (hr.new hp ⟨[], L2.upd_same, rfl⟩) (Ext.tell hp)
theorem pe_dnTD {pos : Pos} : PEl cl W X (.Dict [] [] pos) fun _ _ m k => ∀ p, m p = none → k (D.ref p) (upd m p (.dT [])) := by
  refine pe_imp L2.pe_dnewT fun σ H Q q p hp => ?_
  obtain ⟨σ', m, k', E, hs, hr, ht, pp⟩ := q
  exact pp.ok _ _ _ _ (ht p (hr.free hp)) rfl (hr.new hp ⟨[], L2.upd_same, rfl⟩) (Ext.tell hp)

theorem plain_any {es : List Expr} (h : es.all plainE = true) (pos : Pos) (env : Env) : (backTo pos (starEach es env)).any (·.1) = false := by
  induction es with
  | nil => rfl
  | cons e r ih =>
    rw [List.all_cons, Bool.and_eq_true] at h
    rw [plain_star h.1]
    show (false || (backTo pos (starEach r env)).any (·.1)) = false
    rw [ih h.2]
    rfl
theorem pe_callD (G : Good cl c Γ k W sc X) {x : Str} {e : Expr} {es : List Expr} {t : Rd (List D)} {p pos : Pos} {f n : Nat} (hg : isGl sc x = true) (ho : c.own.lookup x = some (f, n)) (hn : (e :: es).length = n) (hp : (e :: es).all plainE = true) (h : PAl cl W X (e :: es) t) :
    PEl cl W X (.Call (.Name x p) (e :: es) [] pos) fun E σ m k => t E σ m fun ds m1 => Γ.fn f ds m1 k (E σ) := by
  obtain ⟨g1, g2, g3⟩ := isGl_ok G hg
  obtain ⟨j, a, fd, ps, hj, F, hm, hk, hb⟩ := (G.own x f n ho).ex
  rw [List.all_cons, Bool.and_eq_true] at hp
  refine pe_imp (L2.pe_callS F (G.room.mono hj) g1 hm hk hb (fun σ => L2.passAt G.tk σ) h g2 (plain_star hp.1 es X.env) (plain_any hp.2 pos X.env)) fun σv H Q q => ?_
  obtain ⟨σ, m, k', E, hs, hr, ht, pp⟩ := q
  refine ⟨σ, m, fun ds m1 => Γ.fn f ds m1 k' (E σ), E, hs, hr, ht, ⟨fun ds m' vs H' z s r ee => ?_, pp.ex⟩⟩
  refine ⟨ds, m', k', E σ, by rw [s.1, ← hn], s.2, r, z, fun d m2 v H2 a b c e => pp.ok d m2 v H2 a b c (ee.trans e), fun ex m2 cls dd H2 a b c e => ?_⟩
  exact pp.ex.ex σ σv ex m2 cls dd H2 a ((hs.kp (hr.kp ee)).kp (r.kp e)) b c (ee.trans e)
theorem lcl_of {K : PySem.W.Frag} {r : List D → Mem → Kt → Prop} {n : Nat} {ds : List D} {vs : List V} {σv : L2.St} {H : Hp} {Q : V → Hp → Prop} (s : RN K n H ds vs) (h : Lift cl K W (RV K) (fun _ _ m k => r ds m k) σv H Q) : LCl cl K r vs H Q := by
  obtain ⟨σ, m, k', E, hs, hr, ht, pp⟩ := h
  exact ⟨ds, m, k', s.2, hr, ht, pp.ok⟩
theorem pe_bltD (G : Good cl c Γ k W sc X) {x : Str} {e : Expr} {es : List Expr} {t : Rd (List D)} {p pos : Pos} {b : Blt} (hg : isGl sc x = true) (ho : x ∈ c.free) (hb : bltOf x (e :: es).length = some b) (hp : (e :: es).all plainE = true) (h : PAl cl W X (e :: es) t) :
    PEl cl W X (.Call (.Name x p) (e :: es) [] pos) fun E σ m k => t E σ m fun ds m1 => rBlt b ds m1 k := by
  obtain ⟨g1, g2, g3⟩ := isGl_ok G hg
  have hm := G.free x ho
  rw [List.all_cons, Bool.and_eq_true] at hp
  have st := plain_star hp.1 es X.env
  have an := plain_any hp.2 pos X.env
  have fin : ∀ {σ H Q}, Lift cl X.K W (RV X.K) (fun E σ m k => t E σ m fun ds m1 => rBlt b ds m1 k) σ H Q → L2.tCB (LCl cl X.K (rBlt b)) (Lift cl X.K W (RN X.K (e :: es).length) t) σ H Q := fun {σ H Q} q =>
    Lift.then_ (S := RN X.K (e :: es).length) (u := fun ds E σ m1 k => rBlt b ds m1 k) q fun ds vs H1 k1 s1 l1 => lcl_of s1 l1
  unfold bltOf at hb
  split at hb
  · rename_i hx
    rw [hx.1] at hm g1 g2 g3 ⊢
    cases hb
    exact pe_imp (L2.pe_callB len_D g1 hm PySem.boot_len h g3 g2 st an) fun σ H Q q => fin q
  split at hb
  · rename_i _ hx
    rw [hx.1] at hm g1 g2 g3 ⊢
    cases hb
    exact pe_imp (L2.pe_callTy int_D g1 hm (by decide +kernel) h g3 g2 st an) fun σ H Q q => fin q
  split at hb
  · rename_i _ _ hx
    rw [hx.1] at hm g1 g2 g3 ⊢
    cases hb
    exact pe_imp (L2.pe_callTy str_D g1 hm (by decide +kernel) h g3 g2 st an) fun σ H Q q => fin q
  split at hb
  · rename_i _ _ _ hx
    rw [hx.1] at hm g1 g2 g3 ⊢
    cases hb
    exact pe_imp (L2.pe_callTy list_D g1 hm (by decide +kernel) h g3 g2 st an) fun σ H Q q => fin q
  split at hb
  · rename_i _ _ _ _ hx
    rw [hx.1] at hm g1 g2 g3 ⊢
    cases hb
    exact pe_imp (L2.pe_callB (all_D G.calm) g1 hm (by decide +kernel) h g3 g2 st an) fun σ H Q q => fin q
  split at hb
  · rename_i _ _ _ _ _ hx
    rw [hx.1] at hm g1 g2 g3 ⊢
    cases hb
    exact pe_imp (L2.pe_callB (any_D G.calm) g1 hm (by decide +kernel) h g3 g2 st an) fun σ H Q q => fin q
  split at hb
  · rename_i _ _ _ _ _ _ hx
    rw [hx.1] at hm g1 g2 g3 ⊢
    cases hb
    exact pe_imp (L2.pe_callB (sum_D G.calm) g1 hm (by decide +kernel) h g3 g2 st an) fun σ H Q q => fin q
  split at hb
  · rename_i _ _ _ _ _ _ _ hx
    rw [hx.1] at hm g1 g2 g3 ⊢
    cases hb
    exact pe_imp (L2.pe_callB (max2_D G.calm) g1 hm (by decide +kernel) h g3 g2 st an) fun σ H Q q => fin q
  split at hb
  · rename_i _ _ _ _ _ _ _ _ hx
    rw [hx.1] at hm g1 g2 g3 ⊢
    cases hb
    exact pe_imp (L2.pe_callB (min2_D G.calm) g1 hm (by decide +kernel) h g3 g2 st an) fun σ H Q q => fin q
  · cases hb
theorem tyOf_name {x : Str} {b : Blt} (h : tyOf x = some b) : ∃ T, tyName b = some T ∧ bootBuiltins x = some (.type T) := by
  unfold tyOf at h
  split at h
  · rename_i e
    rw [e]
    cases h
    exact ⟨_, rfl, by decide +kernel⟩
  split at h
  · rename_i _ e
    rw [e]
    cases h
    exact ⟨_, rfl, by decide +kernel⟩
  split at h
  · rename_i _ _ e
    rw [e]
    cases h
    exact ⟨_, rfl, by decide +kernel⟩
  split at h
  · rename_i _ _ _ e
    rw [e]
    cases h
    exact ⟨_, rfl, by decide +kernel⟩
  split at h
  · rename_i _ _ _ _ e
    rw [e]
    cases h
    exact ⟨_, rfl, by decide +kernel⟩
  split at h
  · rename_i _ _ _ _ _ e
    rw [e]
    cases h
    exact ⟨_, rfl, by decide +kernel⟩
  · cases h
theorem ty_rIs {b : Blt} {T : String} (h : tyName b = some T) (x : D) (m : Mem) (k : Kt) : rBlt b [x] m k = rIsT b x m fun p => k (D.bl p) m := by
  cases b <;> first | rfl | cases h
theorem pe_isiD (G : Good cl c Γ k W sc X) {tn : Str} {a : Expr} {ta : Rd D} {p p2 pos : Pos} {b : Blt} (hg : isGl sc "isinstance" = true) (ho : ("isinstance" : Str) ∈ c.free) (hg2 : isGl sc tn = true) (ho2 : tn ∈ c.free) (hb : tyOf tn = some b) (hp : plainE a = true) (h : PEl cl W X a ta) :
    PEl cl W X (.Call (.Name "isinstance" p) [a, .Name tn p2] [] pos) fun E σ m k => ta E σ m fun x m1 => rBlt b [x] m1 k := by
  obtain ⟨g1, g2, g3⟩ := isGl_ok G hg
  obtain ⟨i1, i2, i3⟩ := isGl_ok G hg2
  obtain ⟨T, et, bt⟩ := tyOf_name hb
  refine ⟨fun pins s σ H Q I q => ?_⟩
  have pt : PE X (.Name tn p2) (L2.tC (.ty T)) := L2.pe_bltn i1 (G.free _ ho2) bt rfl i3 i2
  have hr : CallR X (.builtin "isinstance") (fun vs H Q => ∃ x v m k, vs = [v, .ty T] ∧ IsV X.K H x v ∧ Rep cl X.K H m ∧ rIsT b x m k ∧ ∀ b, k b → Q (.bl b) H) := by
    intro pins s σ H xs us Q I r h
    obtain ⟨x, v, m, k, rfl, hx, hr, ht, q⟩ := h
    exact isi_D et I r hx hr ht q
  refine (L2.pe_callB (t := L2.tCons (Lift cl X.K W (RV X.K) ta) (L2.tCons (L2.tC (.ty T)) L2.tNil)) hr g1 (G.free _ ho) (by decide +kernel) (L2.pa_cons h (L2.pa_cons pt L2.pa_nil) (plain_star hp _ _)) g3 g2 (plain_star hp _ _)).run pins s σ H Q I ?_
  refine Lift.then_ (S := RV X.K) (u := fun x E σ m1 k => rBlt b [x] m1 k) q fun x v H1 k1 s1 l1 => ?_
  obtain ⟨σ', m, k', E, hs, hr, ht, pp⟩ := l1
  exact ⟨x, v, m, fun p => k' (D.bl p) m, rfl, s1, hr, by rw [← ty_rIs et]; exact ht, fun b z => pp.ok _ _ _ _ z rfl hr (Ext.refl _ _)⟩
end
end DL

namespace DL
open PySem PySem.Spec PyProof.Rows
open L2 (V Hp HO SqL SqT TE TT TA TS TG TGs Cx Inv PE PT PW PA PS PSs PG PGs RelV Vals WX OpR UnR CallR IxR SlR MtR)
section
variable {cl : Nat → Addr} {c : Ctx} {Γ : En} {k : Nat} {W : WX} {sc : Scope} {X : Cx}
theorem tyV_list {K : PySem.W.Frag} {H : Hp} {m : Mem} {x : D} {v : V} (hr : Rep cl K H m) (hx : IsV K H x v) (h : okLst x m) : L2.tyV K "list" v H := by
  unfold okLst at h
  cases x with
  | ref a =>
    cases hx
    cases em : m a with
    | none => simp only [em] at h
    | some o =>
      simp only [em] at h
      cases o with
      | lst ds =>
        obtain ⟨vs, z, l⟩ := hr a _ em
        exact .inl ⟨rfl, vs, SqL.of z⟩
      | _ => exact h.elim
  | _ => exact h.elim
theorem tyV_dict {K : PySem.W.Frag} {H : Hp} {m : Mem} {x : D} {v : V} (hr : Rep cl K H m) (hx : IsV K H x v) (h : okDic x m) : L2.tyV K "dict" v H := by
  unfold okDic at h
  cases x with
  | ref a =>
    cases hx
    cases em : m a with
    | none => simp only [em] at h
    | some o =>
      simp only [em] at h
      cases o with
      | dK ds =>
        obtain ⟨vs, z, l⟩ := hr a _ em
        exact .inr (.inr (.inl ⟨rfl, .inl ⟨vs, z⟩⟩))
      | dT ds =>
        obtain ⟨vs, z, l⟩ := hr a _ em
        exact .inr (.inr (.inl ⟨rfl, .inr ⟨vs, z⟩⟩))
      | _ => exact h.elim
  | _ => exact h.elim
theorem tyV_str {K : PySem.W.Frag} {H : Hp} {x : D} {v : V} (hx : IsV K H x v) (h : okStr x) : L2.tyV K "str" v H := by
  unfold okStr at h
  cases x with
  | str a =>
    cases hx
    rfl
  | _ => exact h.elim
theorem plain_few {es : List Expr} (h : es.all plainE = true) (hl : es.length < 30) (pos : Pos) (env : Env) : ((backTo pos (starEach es env)).all (fun x => !x.1) && (backToKw pos (keywordEach [] env)).all (fun x => x.1.isSome)
      && decide (es.length + ([] : List Keyword).length + (if ([] : List Keyword).isEmpty then 0 else 1) < 30)) = true := by
  have h1 : (backTo pos (starEach es env)).all (fun x => !x.1) = true := by
    clear hl
    induction es with
    | nil => rfl
    | cons e r ih =>
      rw [List.all_cons, Bool.and_eq_true] at h
      rw [plain_star h.1]
      show (true && (backTo pos (starEach r env)).all (fun x => !x.1)) = true
      rw [ih h.2]
      rfl
  rw [h1]
  show (true && true && decide (es.length + 0 + 0 < 30)) = true
  rw [decide_eq_true (by omega)]
  rfl
theorem base_ok {o : Expr} (h : baseE o = true) (m : Str) (env : Env) (w : Sem Value) : attributeBase o m env w = w := by
  unfold attributeBase
  cases o <;> try rfl
  rename_i f a kw p
  cases f <;> try rfl
  cases a <;> try rfl
  cases kw <;> try rfl
  cases h
theorem bmOf_name {m : Str} {b : Bm} (h : bmOf m = some b) : (b = .append ∧ m = "append") ∨ (b = .extend ∧ m = "extend") ∨ (b = .pop ∧ m = "pop") ∨ (b = .join ∧ m = "join") ∨ (b = .split ∧ m = "split") ∨ (b = .get2 ∧ m = "get") := by
  unfold bmOf at h
  (repeat' split at h) <;> first | (cases h; simp_all) | (cases h)
theorem pe_bmD (G : Good cl c Γ k W sc X) {m : Str} {o e : Expr} {r : List Expr} {ta : Rd D} {t : Rd (List D)} {ap cpos : Pos} {b : Bm} (hb : bmOf m = some b) (h30 : (e :: r).length < 30) (h0 : b ≠ .pop) (hl : (ap.endLine == cpos.line) = true) (hbase : baseE o = true)
    (hp : (e :: r).all plainE = true) (ho : PEl cl W X o ta) (h : PAl cl W X (e :: r) t) :
    PEl cl W X (.Call (.Attribute o m ap) (e :: r) [] cpos) fun E σ m k => ta E σ m fun x m1 => bmOk b x m1 ∧ t E σ m1 fun ds m2 => rBm b x ds m2 k := by
  have hu := G.u65
  have bs := base_ok hbase m X.env (eval o X.env)
  have one : ∀ {T id : String}, PlainAttrs T → Slot T m id → typeOf (.builtin id) = pure (.type "method_descriptor") → MtR X id (LMt cl X.K b) →
      (∀ (H : Hp) (mm : Mem) (x : D) (v : V), Rep cl X.K H mm → IsV X.K H x v → bmOk b x mm → L2.tyV X.K T v H) →
      PEl cl W X (.Call (.Attribute o m ap) (e :: r) [] cpos) fun E σ m k => ta E σ m fun x m1 => bmOk b x m1 ∧ t E σ m1 fun ds m2 => rBm b x ds m2 k := by
    intro T id pa sl ty mt tv
    have hp2 := hp
    rw [List.all_cons, Bool.and_eq_true] at hp2
    refine pe_imp (L2.pe_bm pa sl ty mt ho h bs (plain_few hp h30 cpos X.env) hl (plain_star hp2.1 r X.env) (plain_any hp2.2 cpos X.env)) fun σ H Q q => ?_
    refine Lift.then_ (S := RV X.K) (u := fun x E σ m1 k => bmOk b x m1 ∧ t E σ m1 fun ds m2 => rBm b x ds m2 k) q fun x v H1 k1 s1 l1 => ?_
    obtain ⟨σ', mm, k', E, hs, hr, ⟨hok, ht⟩, pp⟩ := l1
    refine ⟨tv _ _ _ _ hr s1 hok, ?_⟩
    refine Lift.then_ (R := RV X.K) (S := RN X.K (e :: r).length) (t := t) (u := fun ds E σ m2 k => rBm b x ds m2 k) (Q := Q) ⟨σ', mm, k', E, hs, hr, ht, pp⟩ fun ds vs H2 k2 s2 l2 => ?_
    obtain ⟨σ2, m2, k3, E2, hs2, hr2, ht2, pp2⟩ := l2
    exact ⟨x, ds, m2, k3, s1.kp k2, s2.2, hr2, ht2, pp2.ok⟩
  rcases bmOf_name hb with ⟨rfl, rfl⟩ | ⟨rfl, rfl⟩ | ⟨rfl, rfl⟩ | ⟨rfl, rfl⟩ | ⟨rfl, rfl⟩ | ⟨rfl, rfl⟩
  · exact one PySem.F.plainAttrs_list PySem.F.slot_list_append PySem.F.type_list_append mt_appendD fun _ _ _ _ hr hx z => tyV_list hr hx z
  · exact one PySem.F.plainAttrs_list PySem.F.slot_list_extend PySem.F.type_list_extend mt_extendD fun _ _ _ _ hr hx z => tyV_list hr hx z
  · exact absurd rfl h0
  · exact one PySem.F.plainAttrs_str PySem.F.slot_str_join PySem.F.type_str_join mt_joinD fun _ _ _ _ hr hx z => tyV_str hx z
  · exact one PySem.F.plainAttrs_str PySem.F.slot_str_split PySem.F.type_str_split mt_splitD fun _ _ _ _ hr hx z => tyV_str hx z
  · exact one PySem.F.plainAttrs_dict PySem.F.slot_dict_get PySem.F.type_dict_get (mt_get2D (by omega)) fun _ _ _ _ hr hx z => tyV_dict hr hx z
theorem pe_bm0D (G : Good cl c Γ k W sc X) {m : Str} {o : Expr} {ta : Rd D} {ap cpos : Pos} {b : Bm} (hb : bmOf m = some b) (h0 : b = .pop) (hl : (ap.endLine == cpos.line) = true) (hbase : baseE o = true) (ho : PEl cl W X o ta) :
    PEl cl W X (.Call (.Attribute o m ap) [] [] cpos) fun E σ m k => ta E σ m fun x m1 => bmOk b x m1 ∧ rBm b x [] m1 k := by
  have bs := base_ok hbase m X.env (eval o X.env)
  subst h0
  have hm : m = "pop" := by
    rcases bmOf_name hb with ⟨h, _⟩ | ⟨h, _⟩ | ⟨_, h⟩ | ⟨h, _⟩ | ⟨h, _⟩ | ⟨h, _⟩ <;> first | exact h | cases h
  subst hm
  refine pe_imp (L2.pe_bm0 PySem.F.plainAttrs_list PySem.F.slot_list_pop PySem.F.type_list_pop (mt_popD (cl := cl)) ho bs hl) fun σ H Q q => ?_
  refine Lift.then_ (S := RV X.K) (u := fun x E σ m1 k => bmOk .pop x m1 ∧ rBm .pop x [] m1 k) q fun x v H1 k1 s1 l1 => ?_
  obtain ⟨σ', mm, k', E, hs, hr, ⟨hok, ht⟩, pp⟩ := l1
  exact ⟨tyV_list hr s1 hok, x, [], mm, k', s1, rfl, hr, ht, pp.ok⟩

theorem wipe_set {σv : L2.St} {i : Nat} {x : V} : ∀ {vs : List Nat}, i ∈ vs → L2.wipe (σv.set i (some x)) vs = L2.wipe σv vs
  | [], h => by cases h
  | v :: vs, h => by
    show (L2.wipe (σv.set i (some x)) vs).set v none = (L2.wipe σv vs).set v none
    by_cases e : i ∈ vs
    · rw [wipe_set e]
    · have e2 : i = v := by
        rcases List.mem_cons.mp h with h | h
        · exact h
        · exact absurd h e
      subst e2
      have key : ∀ (us : List Nat) (τ : L2.St), i ∉ us → L2.wipe (τ.set i (some x)) us = (L2.wipe τ us).set i (some x) := by
        intro us
        induction us with
        | nil => intro τ _; rfl
        | cons u us ih =>
          intro τ hu
          rw [List.mem_cons, not_or] at hu
          show (L2.wipe (τ.set i (some x)) us).set u none = ((L2.wipe τ us).set u none).set i (some x)
          rw [ih τ hu.2, List.set_comm _ _ hu.1]
      rw [key vs σv e, List.set_set]
/-- a target's reading over the heap -/
def LG (cl : Nat → Addr) (K : PySem.W.Frag) (t : Tg) : TG := fun v σv H Q => ∃ d σ m k, IsV K H d v ∧ StR K H σv σ ∧ Rep cl K H m ∧ rTg t d σ m k ∧ ∀ σ' m' σv' H', k σ' m' → StR K H' σv' σ' → Rep cl K H' m' → Ext H m H' m' → (∀ vs : List Nat, (∀ i ∈ tgSlots t, i ∈ vs) → L2.wipe σv' vs = L2.wipe σv vs) → Q σv' H'
theorem pg_imp {e : Expr} {t t' : TG} (h : PG X e t) (i : ∀ v σ H Q, t' v σ H Q → t v σ H Q) : PG X e t' := ⟨fun pins s σ H v u Q I r q => h.run pins s σ H v u Q I r (i _ _ _ _ q)⟩
def noStar : Expr → Bool
  | .Starred .. => false
  | _ => true
theorem asg_cons {e : Expr} (h : noStar e = true) (es : List Expr) (env : Env) : assignEach (e :: es) env = (false, assign e env) :: assignEach es env := by
  cases e <;> first | rfl | cases h
theorem cTg_star {N : List Str} {ok : Str → Bool} {n : Nat} {e : Expr} {t : Tg} (h : cTg N ok n e = some t) : noStar e = true := by
  cases n with
  | zero => cases h
  | succ n => cases e <;> first | rfl | (simp [cTg] at h)
theorem pg_D (G : Good cl c Γ k W sc X) {ok : Str → Bool} (hok : ∀ x, ok x = true → L2.Loc X.env.scope x ∧ (X.fn x = true ∨ X.env.scope.names.lookup x = some .local)) : ∀ {n : Nat} {e : Expr} {t : Tg}, cTg c.N ok n e = some t → PG X e (LG cl X.K t)
  | 0, _, _, h => by cases h
  | n + 1, e, t, h => by
    unfold cTg at h
    split at h
    · rename_i x pos
      split at h
      · rename_i hx
        obtain ⟨i, e1, e2⟩ := Option.map_eq_some_iff.mp h
        subst e2
        obtain ⟨l1, l2⟩ := hok x hx
        refine pg_imp (L2.pg_name (i := i) (by rw [G.hN]; exact G.nd) (by rw [G.hN]; exact slotOf_get e1) l1 l2) fun v σv H Q q => ?_
        obtain ⟨d, σ, m, k, hd, hs, hr, ht, p⟩ := q
        exact p _ _ _ _ ht (hs.set hd i) hr (Ext.refl H m) fun vs h => wipe_set (h i (by simp [tgSlots]))
      · cases h
    · rename_i a b j pos
      obtain ⟨ta, ea, h⟩ := Option.bind_eq_some_iff.mp h
      obtain ⟨tb, eb, h⟩ := Option.map_eq_some_iff.mp h
      subst h
      have ga := pg_D G hok ea
      have gb := pg_D G hok eb
      have sa := cTg_star ea
      have sb := cTg_star eb
      have e2 : assignEach [a, b] X.env = [(false, assign a X.env), (false, assign b X.env)] := by rw [asg_cons sa, asg_cons sb]; rfl
      refine pg_imp (L2.pg_tup (n := 2) G.calm (L2.pgs_cons ga (L2.pgs_cons gb L2.pgs_nil (by rw [asg_cons sb]; rfl)) (by rw [asg_cons sa]; rfl)) (by rw [e2]; rfl) (by rw [e2]; rfl)) fun v σv H Q q => ?_
      obtain ⟨d, σ, m, k, hd, hs, hr, ⟨x, y, ed, ht⟩, p⟩ := q
      obtain ⟨q, vs, eq, tq, l⟩ := tupS_sq ed hd
      obtain ⟨v1, v2, ev, l1, l2⟩ := isL2 l
      subst eq ev
      refine ⟨q, _, rfl, tq, rfl, v1, _, rfl, x, σ, m, _, l1, hs, hr, ht, fun σ1 m1 σv1 H1 z1 s1 r1 e1 w1 => ⟨v2, _, rfl, y, σ1, m1, _, l2.kp (hr.kp e1), s1, r1, z1, fun σ2 m2 σv2 H2 z2 s2 r2 e2 w2 => ⟨rfl, p _ _ _ _ z2 s2 r2 (e1.trans e2) fun vs h => (w2 vs fun i hi => h i (by simp [tgSlots, hi])).trans (w1 vs fun i hi => h i (by simp [tgSlots, hi]))⟩⟩⟩
    · rename_i a b d j pos
      obtain ⟨ta, ea, h⟩ := Option.bind_eq_some_iff.mp h
      obtain ⟨tb, eb, h⟩ := Option.bind_eq_some_iff.mp h
      obtain ⟨td, ed, h⟩ := Option.map_eq_some_iff.mp h
      subst h
      have ga := pg_D G hok ea
      have gb := pg_D G hok eb
      have gd := pg_D G hok ed
      have sa := cTg_star ea
      have sb := cTg_star eb
      have sd := cTg_star ed
      have e2 : assignEach [a, b, d] X.env = [(false, assign a X.env), (false, assign b X.env), (false, assign d X.env)] := by rw [asg_cons sa, asg_cons sb, asg_cons sd]; rfl
      refine pg_imp (L2.pg_tup (n := 3) G.calm (L2.pgs_cons ga (L2.pgs_cons gb (L2.pgs_cons gd L2.pgs_nil (by rw [asg_cons sd]; rfl)) (by rw [asg_cons sb]; rfl)) (by rw [asg_cons sa]; rfl)) (by rw [e2]; rfl) (by rw [e2]; rfl)) fun v σv H Q q => ?_
      obtain ⟨dd, σ, m, k, hd, hs, hr, ⟨x, y, z, ed, ht⟩, p⟩ := q
      obtain ⟨q, vs, eq, tq, l⟩ := tupS_sq ed hd
      obtain ⟨v1, r1, ev, l1, l⟩ := l
      obtain ⟨v2, v3, ev2, l2, l3⟩ := isL2 l
      subst eq ev ev2
      exact ⟨q, _, rfl, tq, rfl, v1, _, rfl, x, σ, m, _, l1, hs, hr, ht, fun σ1 m1 σv1 H1 z1 s1 r1 e1 w1 => ⟨v2, _, rfl, y, σ1, m1, _, l2.kp (hr.kp e1), s1, r1, z1, fun σ2 m2 σv2 H2 z2 s2 r2 e2 w2 =>
        ⟨v3, _, rfl, z, σ2, m2, _, (l3.kp (hr.kp e1)).kp (r1.kp e2), s2, r2, z2, fun σ3 m3 σv3 H3 z3 s3 r3 e3 w3 => ⟨rfl, p _ _ _ _ z3 s3 r3 ((e1.trans e2).trans e3) fun vs h => (w3 vs fun i hi => h i (by simp [tgSlots, hi])).trans ((w2 vs fun i hi => h i (by simp [tgSlots, hi])).trans (w1 vs fun i hi => h i (by simp [tgSlots, hi])))⟩⟩⟩⟩
    · rename_i a b d f j pos
      obtain ⟨ta, ea, h⟩ := Option.bind_eq_some_iff.mp h
      obtain ⟨tb, eb, h⟩ := Option.bind_eq_some_iff.mp h
      obtain ⟨td, ed, h⟩ := Option.bind_eq_some_iff.mp h
      obtain ⟨tf, ef, h⟩ := Option.map_eq_some_iff.mp h
      subst h
      have ga := pg_D G hok ea
      have gb := pg_D G hok eb
      have gd := pg_D G hok ed
      have gf := pg_D G hok ef
      have sa := cTg_star ea
      have sb := cTg_star eb
      have sd := cTg_star ed
      have sf := cTg_star ef
      have e2 : assignEach [a, b, d, f] X.env = [(false, assign a X.env), (false, assign b X.env), (false, assign d X.env), (false, assign f X.env)] := by rw [asg_cons sa, asg_cons sb, asg_cons sd, asg_cons sf]; rfl
      refine pg_imp (L2.pg_tup (n := 4) G.calm (L2.pgs_cons ga (L2.pgs_cons gb (L2.pgs_cons gd (L2.pgs_cons gf L2.pgs_nil (by rw [asg_cons sf]; rfl)) (by rw [asg_cons sd]; rfl)) (by rw [asg_cons sb]; rfl)) (by rw [asg_cons sa]; rfl)) (by rw [e2]; rfl) (by rw [e2]; rfl)) fun v σv H Q q => ?_
      obtain ⟨dd, σ, m, k, hd, hs, hr, ⟨x, y, z, w, ed, ht⟩, p⟩ := q
      obtain ⟨q, vs, eq, tq, l⟩ := tupS_sq ed hd
      obtain ⟨v1, r1, ev, l1, l⟩ := l
      obtain ⟨v2, r2, ev2, l2, l⟩ := l
      obtain ⟨v3, v4, ev3, l3, l4⟩ := isL2 l
      subst eq ev ev2 ev3
      exact ⟨q, _, rfl, tq, rfl, v1, _, rfl, x, σ, m, _, l1, hs, hr, ht, fun σ1 m1 σv1 H1 z1 s1 r1 e1 w1 => ⟨v2, _, rfl, y, σ1, m1, _, l2.kp (hr.kp e1), s1, r1, z1, fun σ2 m2 σv2 H2 z2 s2 r2 e2 w2 =>
        ⟨v3, _, rfl, z, σ2, m2, _, (l3.kp (hr.kp e1)).kp (r1.kp e2), s2, r2, z2, fun σ3 m3 σv3 H3 z3 s3 r3 e3 w3 => ⟨v4, _, rfl, w, σ3, m3, _, ((l4.kp (hr.kp e1)).kp (r1.kp e2)).kp (r2.kp e3), s3, r3, z3, fun σ4 m4 σv4 H4 z4 s4 r4 e4 w4 =>
          ⟨rfl, p _ _ _ _ z4 s4 r4 (((e1.trans e2).trans e3).trans e4) fun vs h => (w4 vs fun i hi => h i (by simp [tgSlots, hi])).trans ((w3 vs fun i hi => h i (by simp [tgSlots, hi])).trans ((w2 vs fun i hi => h i (by simp [tgSlots, hi])).trans (w1 vs fun i hi => h i (by simp [tgSlots, hi]))))⟩⟩⟩⟩⟩
    · cases h
end
end DL

namespace DL
open PySem PySem.Spec PyProof.Rows
open L2 (V Hp HO SqL SqT TE TT TA TS TG TGs Cx Inv PE PT PW PA PS PSs PG PGs RelV Vals WX OpR UnR CallR IxR SlR MtR It TI PI)
section
variable {cl : Nat → Addr} {c : Ctx} {Γ : En} {k : Nat} {W : WX} {sc : Scope} {X : Cx}
/-- an iterator that gives these items as long as g stands -/
structure IsIt (cl : Nat → Addr) (K : PySem.W.Frag) (H0 : Hp) (J : It) (g : Mem → Prop) (items : List D) : Prop where
  go : ∀ i d H m, items[i]? = some d → Kp H0 H → Rep cl K H m → g m → J.go i H
  yld : ∀ i d H m x H', items[i]? = some d → Kp H0 H → Rep cl K H m → g m → J.yld i H x H' → IsV K H' d x ∧ Rep cl K H' m ∧ Ext H m H' m
  stop : ∀ H m, Kp H0 H → Rep cl K H m → g m → J.stop items.length H
theorem isIt_list {K : PySem.W.Frag} {H0 : Hp} {a : Addr} {g : Mem → Prop} {items : List D} (h : ∀ H m, Kp H0 H → Rep cl K H m → g m → ∃ vs, SqL K H a vs ∧ IsL K H items vs) : IsIt cl K H0 (L2.Itl K a) g items where
  go := fun i d H m e k r q => by
    obtain ⟨vs, s, l⟩ := h H m k r q
    obtain ⟨v, e1, _⟩ := l.get e
    exact ⟨vs, v, s, e1⟩
  yld := fun i d H m x H' e k r q y => by
    obtain ⟨rfl, y⟩ := y
    obtain ⟨vs, s, l⟩ := h H' m k r q
    obtain ⟨v, e1, e2⟩ := l.get e
    have := y vs s
    rw [e1] at this
    cases this
    exact ⟨e2, r, Ext.refl _ _⟩
  stop := fun H m k r q => by
    obtain ⟨vs, s, l⟩ := h H m k r q
    exact ⟨vs, s, by rw [l.length]; exact Nat.le_refl _⟩
theorem isIt_tup {K : PySem.W.Frag} {H0 : Hp} {a : Addr} {vs : List V} {items : List D} (s : ∀ H, Kp H0 H → SqT K H a vs) (l : IsL K H0 items vs) : IsIt cl K H0 (L2.Itt K a) gTrue items where
  go := fun i d H m e k r q => by
    obtain ⟨v, e1, _⟩ := l.get e
    exact ⟨vs, v, s H k, e1⟩
  yld := fun i d H m x H' e k r q y => by
    obtain ⟨rfl, y⟩ := y
    obtain ⟨v, e1, e2⟩ := l.get e
    have := y vs (s _ k)
    rw [e1] at this
    cases this
    exact ⟨e2.kp k, r, Ext.refl _ _⟩
  stop := fun H m k r q => ⟨vs, s H k, by rw [l.length]; exact Nat.le_refl _⟩
theorem rangeD_get {c : Int} : ∀ {n : Nat} {lo : Int} {i : Nat} {d : D}, (rangeD lo c n)[i]? = some d → i < n ∧ d = .int (lo + (i : Int) * c)
  | 0, _, _, _, h => by simp [rangeD] at h
  | n + 1, lo, 0, d, h => by
    have : D.int lo = d := by simpa [rangeD] using h
    subst this
    exact ⟨Nat.zero_lt_succ _, by simp⟩
  | n + 1, lo, i + 1, d, h => by
    obtain ⟨a, b⟩ := rangeD_get (n := n) (lo := lo + c) (i := i) (by simpa [rangeD] using h)
    refine ⟨Nat.succ_lt_succ a, ?_⟩
    rw [b]
    congr 1
    rw [Int.natCast_succ, Int.add_mul]
    omega
theorem rangeD_len (c : Int) : ∀ (n : Nat) (lo : Int), (rangeD lo c n).length = n
  | 0, _ => rfl
  | n + 1, lo => congrArg (· + 1) (rangeD_len c n (lo + c))
theorem isIt_rng {K : PySem.W.Frag} {H0 : Hp} {lo : Int} {n : Nat} : IsIt cl K H0 (L2.Itr lo n) gTrue (rangeD lo 1 n) where
  go := fun i d H m e k r q => (rangeD_get e).1
  yld := fun i d H m x H' e k r q y => by
    obtain ⟨rfl, y⟩ := y
    subst y
    rw [(rangeD_get e).2]
    exact ⟨by show V.int _ = V.int _; congr 1; omega, r, Ext.refl _ _⟩
  stop := fun H m k r q => by
    rw [rangeD_len]
    exact Nat.le_refl _
/-- what a for or a comprehension walks -/
def LI (cl : Nat → Addr) (K : PySem.W.Frag) (W : WX) (t : XK → St → Mem → ((Mem → Prop) → List D → Mem → Prop) → Prop) : TI := fun σv H R => ∃ σ m k E, StR K H σv σ ∧ Rep cl K H m ∧ t E σ m k ∧
  (∀ g items m' H' J, k g items m' → IsIt cl K H' J g items → Rep cl K H' m' → Ext H m H' m' → R J H') ∧ PostX cl K W H m E
abbrev PIl (cl : Nat → Addr) (W : WX) (X : Cx) (tg e : Expr) (t : XK → St → Mem → ((Mem → Prop) → List D → Mem → Prop) → Prop) : Prop := PI X tg e (LI cl X.K W t)
/-- the same code by one reading or another -/
theorem PI.or_ {tg e : Expr} {a b : TI} (ha : PI X tg e a) (hb : PI X tg e b) : PI X tg e fun σ H R => a σ H R ∨ b σ H R := ⟨fun pins s σ H R I h => h.elim (ha.run pins s σ H R I) (hb.run pins s σ H R I)⟩
theorem pi_imp {tg e : Expr} {t t' : TI} (h : PI X tg e t) (i : ∀ σ H Q, t' σ H Q → t σ H Q) : PI X tg e t' := ⟨fun pins s σ H Q I q => h.run pins s σ H Q I (i _ _ _ q)⟩
/-- a list, a tuple or a text is walked -/
theorem pi_any {tg l : Expr} {tl : TE} (hl : PE X l tl) : PI X tg l fun σ H R => tl σ H fun x Hx => (∃ a vs, x = .ref a ∧ SqL X.K Hx a vs ∧ R (L2.Itl X.K a) Hx) ∨ (∃ a vs, x = .ref a ∧ SqT X.K Hx a vs ∧ R (L2.Itt X.K a) Hx) ∨ ∃ z, x = .str z ∧ R (L2.Its z) Hx := by
  refine ⟨fun pins s σ H R I h => L2.thn (hl.run pins s σ H _ I h) ?_⟩
  rintro v s' ⟨x, Hx, J, rx, ⟨a, vs, rfl, hq, q⟩ | ⟨a, vs, rfl, hq, q⟩ | ⟨z, rfl, q⟩⟩
  · obtain rfl : v = Value.ref a := rx
    obtain ⟨us, _, pl, _⟩ := J.list hq
    refine wpAny_pyIter_list pl.isList ⟨s'.heap.objs.size, [s'.heap.objs.size], _, _, Hx, rfl, J.kept (t' := s'.toks) fun b o e => Heap.get?_push_of_some _ e, L2.turn_list a _, ⟨_, Heap.get?_push_size _ rfl, rfl, rfl⟩, ?_, q⟩
    intro b hb
    rw [List.mem_singleton] at hb
    rw [hb]
    exact J.fpOk (Nat.le_refl _) (J.hok.fresh (Nat.le_refl _))
  · obtain rfl : v = Value.ref a := rx
    obtain ⟨us, _, pl, _⟩ := J.tuple hq
    refine wpAny_pyIter_tuple (show s'.heap.IsTuple a us.toArray from pl) ⟨s'.heap.objs.size, [s'.heap.objs.size], _, _, Hx, rfl, J.kept (t' := s'.toks) fun b o e => Heap.get?_push_of_some _ e, L2.turn_tuple a _, ⟨_, Heap.get?_push_size _ rfl, rfl, rfl⟩, ?_, q⟩
    intro b hb
    rw [List.mem_singleton] at hb
    rw [hb]
    exact J.fpOk (Nat.le_refl _) (J.hok.fresh (Nat.le_refl _))
  · obtain ⟨t, rfl⟩ := rx
    cases hw : z.cps.all (· < 128) with
    | false => exact wpAny_pyIter_wide hw (L2.pi_one (tk := s'.toks) J _ (L2.turn_str _ z t _ (.inr rfl)) ⟨_, Heap.get?_push_size _ rfl, rfl, rfl⟩ q)
    | true => exact wpAny_pyIter_ascii hw (L2.pi_one (tk := s'.toks) J _ (L2.turn_str _ z t _ (.inl rfl)) ⟨_, Heap.get?_push_size _ rfl, rfl, rfl⟩ q)
theorem isIt_str {K : PySem.W.Frag} {H0 : Hp} {s : List Nat} : IsIt cl K H0 (L2.Its (SX.S s)) gTrue (s.map fun c => .str [c]) where
  go := fun i d H m e k r q => by
    have := (List.getElem?_eq_some_iff.mp e).1
    show i < (SX.S s).cps.size
    simpa using this
  yld := fun i d H m x H' e k r q y => by
    obtain ⟨rfl, c, e2, y⟩ := y
    subst y
    rw [List.getElem?_map] at e
    have e3 : s[i]? = some c := by simpa using e2
    rw [e3] at e
    cases e
    exact ⟨rfl, r, Ext.refl _ _⟩
  stop := fun H m k r q => by
    show (SX.S s).cps.size ≤ _
    simp
theorem pi_ofD {tg e : Expr} {ta : Rd D} (ha : PEl cl W X e ta) : PIl cl W X tg e fun E σ m k => ta E σ m fun x m1 => iter x m1 fun g ds => k g ds m1 := by
  refine pi_imp (pi_any ha) fun σv H R q => ?_
  obtain ⟨σ, m, k, E, hs, hr, ht, p, px⟩ := q
  refine ⟨σ, m, _, E, hs, hr, ht, ⟨fun x m1 v H1 z s r e => ?_, px⟩⟩
  unfold iter at z
  cases ec : conS x with
  | some ds =>
    rw [ec] at z
    cases x with
    | tup es =>
      obtain ⟨a, vs, ea, t, l⟩ := s
      cases ec
      exact .inr (.inl ⟨a, vs, ea, sqt_of t, p _ _ _ _ _ z (isIt_tup (fun H' kp => sqt_of (kp.tup a vs t)) l) r e⟩)
    | ktup es =>
      obtain ⟨a, vs, ea, t, l⟩ := s
      cases ec
      exact .inr (.inl ⟨a, vs, ea, sqt_none t, p _ _ _ _ _ z (isIt_tup (fun H' kp => sqt_none t) l) r e⟩)
    | rol es =>
      obtain ⟨a, vs, ea, t, l⟩ := s
      cases ec
      exact .inl ⟨a, vs, ea, t.sq, p _ _ _ _ _ z (isIt_list fun H' m' kp _ _ => ⟨vs, (t.kp kp).sq, l.kp kp⟩) r e⟩
    | non => cases ec
    | bl _ => cases ec
    | int _ => cases ec
    | str _ => cases ec
    | ref _ => cases ec
  | none =>
    rw [ec] at z
    cases x with
    | str t =>
      cases s
      exact .inr (.inr ⟨_, rfl, p _ _ _ _ _ z isIt_str r e⟩)
    | ref a =>
      cases s
      cases em : m1 a with
      | none => simp only [em] at z
      | some o =>
        simp only [em] at z
        cases o with
        | lst ds =>
          obtain ⟨vs, y, l⟩ := r a _ em
          refine .inl ⟨a, vs, rfl, SqL.of y, p _ _ _ _ _ z (isIt_list fun H' m' kp r' g' => ?_) r e⟩
          obtain ⟨ws, y', l'⟩ := r' a _ g'
          exact ⟨ws, SqL.of y', l'⟩
        | _ => exact z.elim
    | non => exact z.elim
    | bl _ => exact z.elim
    | int _ => exact z.elim
    | tup _ => cases ec
    | rol _ => cases ec
    | ktup _ => cases ec
theorem pi_rng1D (G : Good cl c Γ k W sc X) {tg a : Expr} {ta : Rd D} {p pos : Pos} (hg : isGl sc "range" = true) (ho : ("range" : Str) ∈ c.free) (hp : plainE a = true) (ha : PEl cl W X a ta) :
    PIl cl W X tg (.Call (.Name "range" p) [a] [] pos) fun E σ m k => ta E σ m fun x m1 => ∃ j, x = .int j ∧ i62 j ∧ k gTrue (rangeD 0 1 j.toNat) m1 := by
  obtain ⟨g1, g2, g3⟩ := isGl_ok G hg
  have st := plain_star hp [] X.env
  refine pi_imp (L2.pi_range1 g1 (G.free _ ho) (L2.pa_cons ha L2.pa_nil st) (by rw [st]; rfl)) fun σv H R q => ?_
  obtain ⟨σ, m, k, E, hs, hr, ht, p, px⟩ := q
  refine ⟨σ, m, _, E, hs, hr, ht, ⟨fun x m1 v H1 z s r e => ?_, px⟩⟩
  obtain ⟨j, ej, ⟨j1, j2⟩, z⟩ := z
  subst ej
  cases s
  exact ⟨j, rfl, j1, j2, p _ _ _ _ _ z isIt_rng r e⟩
theorem pi_rng2D (G : Good cl c Γ k W sc X) {tg a b : Expr} {ta tb : Rd D} {p pos : Pos} (hg : isGl sc "range" = true) (ho : ("range" : Str) ∈ c.free) (hp : plainE a = true) (hp2 : plainE b = true) (ha : PEl cl W X a ta) (hb : PEl cl W X b tb) :
    PIl cl W X tg (.Call (.Name "range" p) [a, b] [] pos) fun E σ m k => ta E σ m fun x m1 => tb E σ m1 fun y m2 => ∃ i j, x = .int i ∧ y = .int j ∧ i62 i ∧ i62 j ∧ k gTrue (rangeD i 1 (j - i).toNat) m2 := by
  obtain ⟨g1, g2, g3⟩ := isGl_ok G hg
  have st2 := plain_star hp2 [] X.env
  have st := plain_star hp [b] X.env
  refine pi_imp (L2.pi_range2 g1 (G.free _ ho) (L2.pa_cons ha (L2.pa_cons hb L2.pa_nil st2) st) (by rw [st, st2]; rfl) (by rw [st2]; rfl)) fun σv H R q => ?_
  obtain ⟨σ, m, k, E, hs, hr, ht, p, px⟩ := q
  refine ⟨σ, m, _, E, hs, hr, ht, ⟨fun x m1 v H1 z s r e => ?_, px⟩⟩
  refine ⟨σ, m1, _, E, hs.kp (hr.kp e), r, z, ⟨fun y m2 w H2 z2 s2 r2 e2 => ?_, px.step e⟩⟩
  obtain ⟨i, j, ei, ej, ⟨i1, i2⟩, ⟨j1, j2⟩, z2⟩ := z2
  subst ei ej
  cases s
  cases s2
  exact ⟨i, j, rfl, ⟨i1, i2, j1, j2⟩, p _ _ _ _ _ z2 isIt_rng r2 (e.trans e2)⟩

theorem isL_rg {K : PySem.W.Frag} {H : Hp} {a b : Int} : IsL K H (rangeD a 1 (b - a).toNat) (L2.rgV a b) := by
  unfold L2.rgV
  generalize (b - a).toNat = n
  induction n generalizing a with
  | zero => rfl
  | succ n ih =>
    rw [List.range_succ_eq_map, List.map_cons, List.map_map]
    refine ⟨_, _, rfl, by show V.int _ = V.int _; congr 1; simp, ?_⟩
    have e : ((fun i : Nat => V.int (a + (i : Int))) ∘ Nat.succ) = fun i : Nat => V.int (a + 1 + (i : Int)) := by
      funext i
      show V.int _ = V.int _
      congr 1
      show a + ((i + 1 : Nat) : Int) = a + 1 + (i : Int)
      omega
    rw [e]
    exact ih
theorem rg_ok {a b : Int} (h1 : i62 a) (h2 : i62 b) (h3 : (rangeD a 1 (b - a).toNat).length ≤ big) : L2.RgOk a b := by
  rw [rangeD_len] at h3
  unfold i62 at h1 h2
  unfold big at h3
  exact ⟨h1.1, h1.2, h2.1, h2.2, by omega⟩
theorem pe_lrg1 (G : Good cl c Γ k W sc X) {a : Expr} {ta : Rd D} {p q pos ps : Pos} (hl : isGl sc "list" = true) (hm : ("list" : Str) ∈ c.free) (hg : isGl sc "range" = true) (ho : ("range" : Str) ∈ c.free) (hp : plainE a = true) (ha : PEl cl W X a ta) :
    PEl cl W X (.Call (.Name "list" p) [.Call (.Name "range" q) [a] [] ps] [] pos) fun E σ m k => ta E σ m fun x m1 => ∃ j, x = .int j ∧ i62 j ∧ (rangeD 0 1 j.toNat).length ≤ big ∧ ∀ p, m1 p = none → k (.ref p) (upd m1 p (.lst (rangeD 0 1 j.toNat))) := by
  obtain ⟨g1, _, _⟩ := isGl_ok G hg
  obtain ⟨l1, _, _⟩ := isGl_ok G hl
  refine pe_imp (L2.pe_listRg G.calm l1 (G.free _ hm) (L2.prg_1 g1 (G.free _ ho) ha (plain_star hp [] X.env))) fun σv H Q z => ?_
  obtain ⟨σ, m, k, E, hs, hr, ht, pp⟩ := z
  refine ⟨σ, m, _, E, hs, hr, ht, ⟨fun x m1 v H1 z s r e => ?_, pp.ex⟩⟩
  obtain ⟨j, ej, h1, h2, z⟩ := z
  subst ej
  cases s
  have e0 : (j - 0).toNat = j.toNat := by omega
  refine ⟨j, rfl, rg_ok (by unfold i62; omega) h1 (by rw [e0]; exact h2), fun q hq => ?_⟩
  refine pp.ok _ _ _ _ (z q (r.free hq)) rfl (r.new hq ⟨_, L2.upd_same, ?_⟩) (e.trans (Ext.tell hq))
  rw [← e0]
  exact isL_rg
theorem pe_lrg2 (G : Good cl c Γ k W sc X) {a b : Expr} {ta tb : Rd D} {p q pos ps : Pos} (hl : isGl sc "list" = true) (hm : ("list" : Str) ∈ c.free) (hg : isGl sc "range" = true) (ho : ("range" : Str) ∈ c.free) (hp : plainE a = true) (hp2 : plainE b = true) (ha : PEl cl W X a ta) (hb : PEl cl W X b tb) :
    PEl cl W X (.Call (.Name "list" p) [.Call (.Name "range" q) [a, b] [] ps] [] pos) fun E σ m k => ta E σ m fun x m1 => tb E σ m1 fun y m2 => ∃ i j, x = .int i ∧ y = .int j ∧ i62 i ∧ i62 j ∧ (rangeD i 1 (j - i).toNat).length ≤ big ∧ ∀ p, m2 p = none → k (.ref p) (upd m2 p (.lst (rangeD i 1 (j - i).toNat))) := by
  obtain ⟨g1, _, _⟩ := isGl_ok G hg
  obtain ⟨l1, _, _⟩ := isGl_ok G hl
  have st2 := plain_star hp2 [] X.env
  refine pe_imp (L2.pe_listRg G.calm l1 (G.free _ hm) (L2.prg_2 g1 (G.free _ ho) ha hb (plain_star hp [b] X.env) st2 (by rw [st2]; rfl))) fun σv H Q z => ?_
  obtain ⟨σ, m, k, E, hs, hr, ht, pp⟩ := z
  refine ⟨σ, m, _, E, hs, hr, ht, ⟨fun x m1 v H1 z s r e => ?_, pp.ex⟩⟩
  refine ⟨σ, m1, _, E, hs.kp (hr.kp e), r, z, ⟨fun y m2 w H2 z2 s2 r2 e2 => ?_, pp.ex.step e⟩⟩
  obtain ⟨i, j, ei, ej, h1, h2, h3, z2⟩ := z2
  subst ei ej
  cases s
  cases s2
  refine ⟨i, j, rfl, rfl, rg_ok h1 h2 h3, fun q hq => ?_⟩
  exact pp.ok _ _ _ _ (z2 q (r2.free hq)) rfl (r2.new hq ⟨_, L2.upd_same, isL_rg⟩) ((e.trans e2).trans (Ext.tell hq))
theorem swipe_get {σ : St} {i : Nat} {e : D} : ∀ {vs : List Nat}, sget (swipe σ vs) i = some e → sget σ i = some e ∧ i ∉ vs
  | [], h => ⟨h, by simp⟩
  | v :: vs, h => by
    obtain ⟨a, b⟩ := sget_swipe1 (show sget (swipe1 (swipe σ vs) v) i = some e from h)
    obtain ⟨c, d⟩ := swipe_get b
    exact ⟨c, by simp [a, d]⟩
theorem wipe_mem {σv : L2.St} : ∀ {vs : List Nat} {i : Nat}, i ∈ vs → (L2.wipe σv vs).set i none = L2.wipe σv vs
  | [], _, h => by cases h
  | v :: vs, i, h => by
    show ((L2.wipe σv vs).set v none).set i none = (L2.wipe σv vs).set v none
    by_cases e : i = v
    · rw [e, List.set_set]
    · rw [List.set_comm _ _ (Ne.symm e), wipe_mem ((List.mem_cons.mp h).resolve_left e)]
theorem wipe_two {σv : L2.St} {vs : List Nat} : L2.wipe (L2.wipe σv vs) vs = L2.wipe σv vs := by
  have key : ∀ us : List Nat, (∀ i ∈ us, i ∈ vs) → L2.wipe (L2.wipe σv vs) us = L2.wipe σv vs := by
    intro us
    induction us with
    | nil => intro _; rfl
    | cons u us ih =>
      intro h
      show (L2.wipe (L2.wipe σv vs) us).set u none = _
      rw [ih fun i hi => h i (List.mem_cons_of_mem _ hi), wipe_mem (h u (List.mem_cons_self ..))]
  exact key vs fun _ h => h
theorem Rep.hmut {K : PySem.W.Frag} {H : Hp} {m : Mem} {p : Addr} {ws us : List V} (r : Rep cl K H m) (n : m p = none) (h : H p = some (.lst ws)) : Rep cl K (L2.upd H p (.lst us)) m := fun a w e => by
  have z : a ≠ p := fun z => by
    subst z
    rw [n] at e
    cases e
  exact (r a w e).kp (kp_mut h (fun _ h => nomatch h) fun _ _ h => nomatch h) (L2.upd_ne z)
/-- the turns of a comprehension -/
theorem tLc_of {K : PySem.W.Frag} {ts : XK → St → Mem → ((Mem → Prop) → List D → Mem → Prop) → Prop} {t : Tg} {tt : Rd Bool} {te : Rd D} {vs : List Nat} {σv : L2.St} {H : Hp} {Q : V → Hp → Prop} (hv : ∀ i ∈ tgSlots t, i ∈ vs)
    (h : Lift cl K W (RV K) (fun E σ m k => ts E σ m fun g items m1 => items.length ≤ big ∧ rLc g (rTg t) (tt fun _ _ _ => False) (te fun _ _ _ => False) (swipe σ vs) items [] m1 fun ds m2 => ∀ p, m2 p = none → k (.ref p) (upd m2 p (.lst ds))) σv H Q) :
    L2.tLc (LI cl K W ts) (LG cl K t) (Lift cl K (fun _ _ _ _ => False) RB tt) (Lift cl K (fun _ _ _ _ => False) (RV K) te) vs σv H Q := by
  obtain ⟨σ, m, k, E, hs, hr, ht, p⟩ := h
  refine ⟨σ, m, _, E, hs, hr, ht, fun g items m1 H1 J z it r e => ?_, p.ex⟩
  obtain ⟨zl, z⟩ := z
  intro D hD
  refine ⟨fun i n H => n = items.length - i ∧ i ≤ items.length ∧ ∃ acc ws m2, H D = some (.lst ws) ∧ IsL K H acc ws ∧ acc.length ≤ i ∧ Rep cl K H m2 ∧ m2 D = none ∧ Ext H1 m1 H m2 ∧
    rLc g (rTg t) (tt fun _ _ _ => False) (te fun _ _ _ => False) (swipe σ vs) (items.drop i) acc m2 (fun ds m2 => ∀ p, m2 p = none → k (.ref p) (upd m2 p (.lst ds))),
    ⟨_, rfl, Nat.zero_le _, [], [], m1, L2.upd_same, rfl, Nat.le_refl _, r.hid hD, r.free hD, Ext.hid hD, z⟩, ?_⟩
  rintro i n H2 ⟨rfl, hi, acc, ws, m2, hd, hl, ha, r2, n2, e2, z2⟩
  have kp2 : Kp H1 H2 := r.kp e2
  by_cases hlt : i < items.length
  · have dr : items.drop i = items[i] :: items.drop (i + 1) := List.drop_eq_getElem_cons hlt
    rw [dr] at z2
    obtain ⟨gg, z2⟩ := z2
    refine .inr ⟨it.go i _ H2 m2 (List.getElem?_eq_getElem hlt) kp2 r2 gg, fun H' => ∃ acc ws m2, H' D = some (.lst ws) ∧ IsL K H' acc ws ∧ acc.length ≤ i + 1 ∧ Rep cl K H' m2 ∧ m2 D = none ∧ Ext H1 m1 H' m2 ∧
      rLc g (rTg t) (tt fun _ _ _ => False) (te fun _ _ _ => False) (swipe σ vs) (items.drop (i + 1)) acc m2 (fun ds m2 => ∀ p, m2 p = none → k (.ref p) (upd m2 p (.lst ds))),
      fun H' q => ⟨items.length - (i + 1), by omega, rfl, hlt, q⟩, fun x H' y => ?_⟩
    obtain ⟨hx, r3, e3⟩ := it.yld i _ H2 m2 x H' (List.getElem?_eq_getElem hlt) kp2 r2 gg y
    refine ⟨items[i], swipe σ vs, m2, _, hx, ((hs.kp (hr.kp e)).kp (kp2.trans (r2.kp e3))).wipe vs, r3, z2, fun σ' m' σv' H3 z3 s3 r4 e4 w4 => ⟨(w4 vs hv).trans wipe_two, ?_⟩⟩
    refine ⟨σ', m', _, fun _ _ _ => False, s3, r4, z3, ⟨fun b m5 b' H5 z5 s5 r5 e5 => ?_, ⟨fun _ _ _ _ _ _ _ z => z.elim⟩⟩⟩
    cases s5
    cases b with
    | true =>
      rw [if_pos rfl]
      refine ⟨σ', m5, _, fun _ _ _ => False, s3.kp (r4.kp e5), r5, z5.1 rfl, ⟨fun v m6 y H6 z6 s6 r6 e6 => ?_, ⟨fun _ _ _ _ _ _ _ z => z.elim⟩⟩⟩
      obtain ⟨m7, sb, z6⟩ := z6
      have tot : Ext H2 m2 H6 m6 := ((e3.trans e4).trans e5).trans e6
      have hd6 : H6 D = some (.lst ws) := tot.keep D _ hd n2
      have n7 : m7 D = none := (tot.sub sb).new D n2 (by rw [hd]; exact fun z => nomatch z)
      have kq : Kp H6 (L2.upd H6 D (.lst (ws ++ [y]))) := kp_mut hd6 (fun _ h => nomatch h) fun _ _ h => nomatch h
      refine ⟨ws, hd6, ?_, acc ++ [v], ws ++ [y], m7, L2.upd_same, ((hl.kp (r2.kp tot)).kp kq).append ⟨y, [], rfl, s6.kp kq, rfl⟩, ?_, (r6.sub sb).hmut n7 hd6, n7, ?_, z6⟩
      · rw [hl.length]
        have := big_le zl
        have : items.length ≤ sizeLine := this
        omega
      · rw [List.length_append, List.length_singleton]
        omega
      · have q := e2.trans (tot.sub sb)
        refine ⟨fun a o h n => ?_, q.new⟩
        rw [L2.upd_ne (L2.ne_of_none h hD)]
        exact q.keep a o h n
    | false =>
      rw [if_neg (by decide)]
      obtain ⟨m7, sb, z6⟩ := z5.2 rfl
      have tot : Ext H2 m2 H5 m5 := (e3.trans e4).trans e5
      exact ⟨acc, ws, m7, tot.keep D _ hd n2, hl.kp (r2.kp tot), by omega, r5.sub sb, (tot.sub sb).new D n2 (by rw [hd]; exact fun z => nomatch z), e2.trans (tot.sub sb), z6⟩
  · have ei : i = items.length := by omega
    subst ei
    rw [List.drop_length] at z2
    obtain ⟨gg, z2⟩ := z2
    refine .inl ⟨it.stop H2 m2 kp2 r2 gg, p.ok (.ref D) (upd m2 D (.lst acc)) _ H2 (z2 D n2) rfl (fun a o q => ?_) (e.trans ⟨e2.keep, fun a n h => ?_⟩)⟩
    · by_cases z : a = D
      · subst z
        rw [upd_same] at q
        cases q
        exact ⟨ws, hd, hl⟩
      · rw [upd_ne z] at q
        exact r2 a o q
    · rw [upd_ne (fun z => h (by rw [z, hD]))]
      exact e2.new a n h
theorem lc_hok (G : Good cl c Γ k W sc X) (s : Shared) (H : Hp) (scope : Scope) (C : Addr) (cc : List (Str × Addr)) (fp : List Addr) (x : Str) (h : lcOk scope sc x = true) :
    L2.Loc (X.blk s H scope (compEnvC scope cc C X.env) fp).env.scope x ∧ ((X.blk s H scope (compEnvC scope cc C X.env) fp).fn x = true ∨ (X.blk s H scope (compEnvC scope cc C X.env) fp).env.scope.names.lookup x = some .local) := by
  have e : (X.blk s H scope (compEnvC scope cc C X.env) fp).env.scope = L2.relS scope sc := by
    rw [← G.hsc]
    rfl
  unfold lcOk isLoc isLocC at h
  rw [e]
  rw [Bool.or_eq_true] at h
  rcases h with h | h
  · have h := of_decide_eq_true h
    exact ⟨.inl h, .inr h⟩
  · rw [Bool.and_eq_true, Bool.or_eq_true] at h
    obtain ⟨h1, h2⟩ := h
    have h2 := of_decide_eq_true h2
    refine ⟨h1.elim (fun z => .inl (of_decide_eq_true z)) fun z => .inr (of_decide_eq_true z), .inl ?_⟩
    show (scope.names.lookup x == some .cell) = true
    rw [h2]
    rfl
theorem plain_fold {e : Expr} (h : plainE e = true) (env : Env) (x : Value) : foldedSetIterable e env x = pure x := by
  cases e <;> first | rfl | cases h
section
variable {elt tg it : Expr} {ifs : List Expr} {scope : Scope} {own : List (Str × Nat)} {t : Tg} {n : Nat} {pos : Pos} {ts : XK → St → Mem → ((Mem → Prop) → List D → Mem → Prop) → Prop} {tt : Rd Bool} {te : Rd D}
theorem lc_slots (hv : ((tgSlots t).all fun i => own.any fun q => q.2 == i) = true) : ∀ i ∈ tgSlots t, i ∈ own.map (·.2) := fun i hi => by
  have := List.all_eq_true.mp hv i hi
  obtain ⟨q, q1, q2⟩ := List.any_eq_true.mp this
  exact List.mem_map.mpr ⟨q, q1, by simpa using q2⟩
theorem blkC_kind (hb : L2.blkC c.N sc scope own = true) : scope.kind = .function ∧ ∀ y ∈ scope.names, scope.names.lookup y.1 = some y.2 :=
  ⟨(L2.blkOk_by hb).kind, (L2.blkOk_by hb).uniq⟩
theorem pe_lcD (G : Good cl c Γ k W sc X) (hb : L2.blkC c.N sc scope own = true) (ht : cTg c.N (lcOk scope sc) n tg = some t) (hv : ((tgSlots t).all fun i => own.any fun q => q.2 == i) = true) (hp : plainE it = true) (hs : PIl cl W X tg it ts)
    (hi : ∀ Y, Good cl c Γ k (fun _ _ _ _ => False) (L2.relS scope sc) Y → L2.PTs Y ifs (Lift cl Y.K (fun _ _ _ _ => False) RB tt))
    (he : ∀ Y, Good cl c Γ k (fun _ _ _ _ => False) (L2.relS scope sc) Y → PEl cl (fun _ _ _ _ => False) Y elt te) :
    PEl cl W X (.ListComp elt [⟨tg, it, ifs, 0⟩] scope pos) fun E σ m k => ts E σ m fun g items m1 => items.length ≤ big ∧ rLc g (rTg t) (tt fun _ _ _ => False) (te fun _ _ _ => False) (swipe σ (own.map (·.2))) items [] m1 fun ds m2 => ∀ p, m2 p = none → k (.ref p) (upd m2 p (.lst ds)) := by
  obtain ⟨b1, b2⟩ := blkC_kind hb
  refine pe_imp (L2.pe_lc (own := own) (g := LG cl X.K t) (tt := Lift cl X.K (fun _ _ _ _ => False) RB tt) (te := Lift cl X.K (fun _ _ _ _ => False) (RV X.K) te) G.calm (by rw [G.hN]; exact G.nd) hs (by rw [G.hN, G.hsc]; exact L2.blkOk_by hb)
    (fun s H C cc fp => pg_D (G.blk s H scope C cc fp b1 b2) (lc_hok G s H scope C cc fp) ht)
    (fun s H C cc fp => hi _ (G.blk s H scope C cc fp b1 b2)) (fun s H C cc fp => he _ (G.blk s H scope C cc fp b1 b2)) (plain_fold hp X.env)) fun σv H Q q => ?_
  exact tLc_of (lc_slots hv) q
end
end
end DL

namespace DL
open PySem PySem.Spec PyProof.Rows
open L2 (V Hp HO SqL SqT TE TT TA TS TG TGs Cx Inv PE PT PW PA PS PSs PG PGs RelV Vals WX OpR UnR CallR IxR SlR MtR It TI PI)
/-- expressions whose truth is asked of their value -/
def atomT : Ex → Bool
  | .and .. => false | .or .. => false | .not .. => false | .cmp .. => false | .cmp2 .. => false | .cmpN .. => false
  | _ => true
theorem rT_rE {Γ : En} {E : XK} {x : Ex} (h : atomT x = true) {σ : St} {m : Mem} {k : Bool → Mem → Prop} (q : rT Γ E x σ m k) : rE Γ E x σ m fun d m1 => rTru d m1 fun p => k p m1 := by
  cases x <;> simp only [atomT, Bool.false_eq_true] at h <;> simp only [rT, rE] at q ⊢ <;> first | exact q.elim | exact q
/-- code whose truth is that of its value -/
def atomE : Expr → Bool
  | .UnaryOp .Not _ _ => false
  | .BoolOp .. => false
  | .IfExp .. => false
  | .Compare .. => false
  | _ => true
theorem atom_true {e : Expr} (h : atomE e = true) (env : Env) (whole : Sem Value) : isTrue e env whole = (do let v ← whole; standAt e.pos; holding [v] (truthy v)) := by
  cases e <;> first | rfl | cases h | skip
  rename_i o x p
  cases o <;> first | rfl | cases h
section
variable {cl : Nat → Addr} {c : Ctx} {Γ : En} {k : Nat}
/-- range(..)'s parts -/
def SndR (cl : Nat → Addr) (c : Ctx) (Γ : En) (k n : Nat) : Prop := ∀ {W : WX} {sc : Scope} {X : Cx}, Good cl c Γ k W sc X → ∀ {e tg : Expr} {x : Src}, isRng [e] = true → cSrc c n sc tg e = some x →
  (∀ y, x = .rng1 y → ∃ a p q, e = .Call (.Name "range" p) [a] [] q ∧ isGl sc "range" = true ∧ ("range" : Str) ∈ c.free ∧ plainE a = true ∧ PEl cl W X a fun E => rE Γ E y) ∧
  (∀ y z, x = .rng2 y z → ∃ a b p q, e = .Call (.Name "range" p) [a, b] [] q ∧ isGl sc "range" = true ∧ ("range" : Str) ∈ c.free ∧ plainE a = true ∧ plainE b = true ∧ (PEl cl W X a fun E => rE Γ E y) ∧ PEl cl W X b fun E => rE Γ E z)
/-- a chain's tests -/
def ChOk (cl : Nat → Addr) (W : WX) (X : Cx) (Γ : En) (os : List CmpOp) (bs : List Expr) (ch : Chn) : Prop := ∀ (pos : Pos) (pins : List (Addr × Obj)) (s : Shared) (σ : L2.St) (H : Hp) (Q : Bool → Hp → Prop) (y : D) (v : V) (lv : Value), Inv X pins σ H s → RelV v lv → IsV X.K H y v →
  Lift cl X.K W RB (fun E => rCh Γ E ch y) σ H Q → wpAny (model X.prog X.w) X.A (testChain pos lv os (evalEach bs X.env)) (L2.TP X pins σ Q) X.xe s
structure Snd (cl : Nat → Addr) (c : Ctx) (Γ : En) (k n : Nat) : Prop where
  e : ∀ {W : WX} {sc : Scope} {X : Cx}, Good cl c Γ k W sc X → ∀ {e : Expr} {x : Ex}, cE c n sc e = some x → PEl cl W X e fun E => rE Γ E x
  t : ∀ {W : WX} {sc : Scope} {X : Cx}, Good cl c Γ k W sc X → ∀ {e : Expr} {x : Ex}, cE c n sc e = some x → PTl cl W X e fun E => rT Γ E x
  w : ∀ {W : WX} {sc : Scope} {X : Cx}, Good cl c Γ k W sc X → ∀ {o : BoolOp} {es : List Expr} {q : Pos} {x : Ex}, cE c n sc (.BoolOp o es q) = some x → PWl cl W X (.BoolOp o es q) fun E => rT Γ E x
  p : ∀ {W : WX} {sc : Scope} {X : Cx}, Good cl c Γ k W sc X → ∀ {e : Option Expr} {x : Ex}, cP c n sc e = some x → POl cl W X e fun E => rP Γ E x
  a : ∀ {W : WX} {sc : Scope} {X : Cx}, Good cl c Γ k W sc X → ∀ {es : List Expr} {x : Exs}, cEs c n sc es = some x → PAl cl W X es (fun E => rEs Γ E x) ∧ es.all plainE = true
  i : ∀ {W : WX} {sc : Scope} {X : Cx}, Good cl c Γ k W sc X → ∀ {es : List Expr} {x : Ex}, cIf c n sc es = some x → L2.PTs X es (Lift cl X.K W RB fun E => rT Γ E x)
  s : ∀ {W : WX} {sc : Scope} {X : Cx}, Good cl c Γ k W sc X → ∀ {tg e : Expr} {x : Src}, cSrc c n sc tg e = some x → PIl cl W X tg e fun E => rSrc Γ E x
  r : SndR cl c Γ k n
  h : ∀ {W : WX} {sc : Scope} {X : Cx}, Good cl c Γ k W sc X → ∀ {os : List CmpOp} {bs : List Expr} {x : Chn}, cCh c n sc os bs = some x → ChOk cl W X Γ os bs x ∧ lastMarks os bs = false
theorem snd_zero : Snd cl c Γ k 0 := by
  constructor <;> first | (intros; rename_i h; cases h) | (intro _ _ _ _ _ _ _ _ h; cases h)
section
variable {n : Nat} {W : WX} {sc : Scope} {X : Cx}
theorem pe_dnD {pos : Pos} : PEl cl W X (.Dict [] [] pos) fun E => rE Γ E .dn := ⟨fun pins s σ H Q I q => by
  obtain ⟨σ', m, k, E, hs, hr, ht, p⟩ := q
  rcases ht with ht | ht
  · exact (pe_dnKD (cl := cl) (W := W)).run pins s σ H Q I ⟨σ', m, k, E, hs, hr, ht, p⟩
  · exact (pe_dnTD (cl := cl) (W := W)).run pins s σ H Q I ⟨σ', m, k, E, hs, hr, ht, p⟩⟩
theorem snd_p (S : Snd cl c Γ k n) (G : Good cl c Γ k W sc X) {e : Option Expr} {x : Ex} (h : cP c (n + 1) sc e = some x) : POl cl W X e fun E => rP Γ E x := by
  cases e with
  | none =>
    cases h
    exact po_noneD
  | some e =>
    simp only [cP] at h
    obtain ⟨y, hy, h⟩ := Option.bind_eq_some_iff.mp h
    have pe := po_someD (S.e G hy)
    refine ⟨fun pins s σ H Q I q => pe.run pins s σ H Q I (q.imp fun E σ' m k' z => ?_)⟩
    split at h <;> cases h
    · simp only [rP, rE] at z ⊢
      split at z
      · rename_i j e1
        rw [e1]
        exact ⟨j, rfl, z⟩
      · exact z.elim
    · exact ⟨_, rfl, z⟩
    · exact z
    · exact z
    · exact z
    · exact ⟨_, rfl, z⟩
theorem snd_a (S : Snd cl c Γ k n) (G : Good cl c Γ k W sc X) {es : List Expr} {x : Exs} (h : cEs c (n + 1) sc es = some x) : PAl cl W X es (fun E => rEs Γ E x) ∧ es.all plainE = true := by
  cases es with
  | nil =>
    cases h
    exact ⟨pa_nilD, rfl⟩
  | cons e r =>
    simp only [cEs] at h
    by_cases hp : plainE e = true
    · rw [if_pos hp] at h
      obtain ⟨y, hy, h⟩ := Option.bind_eq_some_iff.mp h
      obtain ⟨z, hz, h⟩ := Option.map_eq_some_iff.mp h
      subst h
      obtain ⟨a, b⟩ := S.a G hz
      exact ⟨pa_consD hp (S.e G hy) a, by rw [List.all_cons, hp, b]; rfl⟩
    · rw [if_neg hp] at h
      cases h
theorem snd_i (S : Snd cl c Γ k n) (G : Good cl c Γ k W sc X) {es : List Expr} {x : Ex} (h : cIf c (n + 1) sc es = some x) : L2.PTs X es (Lift cl X.K W RB fun E => rT Γ E x) := by
  cases es with
  | nil =>
    cases h
    exact ⟨fun pins s σ H Q I q => L2.pts_nil.run pins s σ H Q I (q.at0 (fun _ _ _ _ z => z) rfl)⟩
  | cons e r =>
    cases r with
    | cons f r => simp [cIf] at h
    | nil =>
      simp only [cIf] at h
      obtain ⟨y, hy, h⟩ := Option.bind_eq_some_iff.mp h
      have pt := L2.pts_one (S.t G hy)
      split at h
      · cases h
      · cases h
        exact pt
theorem snd_s (S : Snd cl c Γ k n) (G : Good cl c Γ k W sc X) {tg e : Expr} {x : Src} (h : cSrc c (n + 1) sc tg e = some x) : PIl cl W X tg e fun E => rSrc Γ E x := by
  simp only [cSrc] at h
  by_cases hp : plainE e = true
  · rw [if_pos hp] at h
    have of_ : ∀ {e : Expr} {x : Src}, (cE c n sc e).map Src.of = some x → PIl cl W X tg e fun E => rSrc Γ E x := fun h => by
      obtain ⟨y, hy, h⟩ := Option.map_eq_some_iff.mp h
      subst h
      exact pi_ofD (S.e G hy)
    split at h
    · rename_i x0 p a q
      by_cases hx : x0 = "range"
      · rw [if_pos hx] at h
        subst hx
        split at h
        · rename_i hh
          obtain ⟨y, hy, h⟩ := Option.map_eq_some_iff.mp h
          subst h
          exact pi_rng1D G hh.1 hh.2.1 hh.2.2 (S.e G hy)
        · cases h
      · rw [if_neg hx] at h
        exact of_ h
    · rename_i x0 p a b q
      by_cases hx : x0 = "range"
      · rw [if_pos hx] at h
        subst hx
        split at h
        · rename_i hh
          obtain ⟨y, hy, h⟩ := Option.bind_eq_some_iff.mp h
          obtain ⟨z, hz, h⟩ := Option.map_eq_some_iff.mp h
          subst h
          exact pi_rng2D G hh.1 hh.2.1 hh.2.2.1 hh.2.2.2 (S.e G hy) (S.e G hz)
        · cases h
      · rw [if_neg hx] at h
        exact of_ h
    · exact of_ h
  · rw [if_neg hp] at h
    cases h
theorem snd_r (S : Snd cl c Γ k n) : SndR cl c Γ k (n + 1) := by
  intro W sc X G e tg x hr h
  simp only [cSrc] at h
  by_cases hp : plainE e = true
  · rw [if_pos hp] at h
    split at h
    · rename_i x0 p a q
      have hx : x0 = "range" := by simpa [isRng] using hr
      rw [if_pos hx] at h
      subst hx
      split at h
      · rename_i hh
        obtain ⟨y, hy, h⟩ := Option.map_eq_some_iff.mp h
        subst h
        refine ⟨fun z e => ?_, fun _ _ e => by cases e⟩
        cases e
        exact ⟨a, p, q, rfl, hh.1, hh.2.1, hh.2.2, S.e G hy⟩
      · cases h
    · rename_i x0 p a b q
      have hx : x0 = "range" := by simpa [isRng] using hr
      rw [if_pos hx] at h
      subst hx
      split at h
      · rename_i hh
        obtain ⟨y, hy, h⟩ := Option.bind_eq_some_iff.mp h
        obtain ⟨z, hz, h⟩ := Option.map_eq_some_iff.mp h
        subst h
        refine ⟨fun _ e => (by cases e), fun _ _ e => ?_⟩
        cases e
        exact ⟨a, b, p, q, rfl, hh.1, hh.2.1, hh.2.2.1, hh.2.2.2, S.e G hy, S.e G hz⟩
      · cases h
    · obtain ⟨y, hy, h⟩ := Option.map_eq_some_iff.mp h
      subst h
      exact ⟨fun _ e => (by cases e), fun _ _ e => (by cases e)⟩
  · rw [if_neg hp] at h
    cases h
theorem snd_rg (S : SndR cl c Γ k n) (G : Good cl c Γ k W sc X) {args : List Expr} {p q : Pos} {x : Ex} (hl : isGl sc "list" = true) (hm : ("list" : Str) ∈ c.free)
    (h : (match args with
      | [e] => (cSrc c n sc e e).bind srcRg
      | _ => none) = some x) (hr : isRng args = true) : PEl cl W X (.Call (.Name "list" p) args [] q) fun E => rE Γ E x := by
  split at h
  · rename_i e
    obtain ⟨y, hy, h⟩ := Option.bind_eq_some_iff.mp h
    obtain ⟨s1, s2⟩ := S G hr hy
    unfold srcRg at h
    split at h
    · cases h
      obtain ⟨a, p1, q1, rfl, g1, g2, g3, ha⟩ := s1 _ rfl
      exact pe_imp (pe_lrg1 G hl hm g1 g2 g3 ha) fun σ H Q z => z.imp fun E σ m k z => z
    · cases h
      obtain ⟨a, b, p1, q1, rfl, g1, g2, g3, g4, ha, hb⟩ := s2 _ _ rfl
      exact pe_imp (pe_lrg2 G hl hm g1 g2 g3 g4 ha hb) fun σ H Q z => z.imp fun E σ m k z => z
    · cases h
  · cases h
theorem snd_call (S : Snd cl c Γ k n) (G : Good cl c Γ k W sc X) {f : Str} {args : List Expr} {p q : Pos} {x : Ex}
    (h : (if isGl sc f then match c.own.lookup f with
        | some (g, ar) => if args.length = ar ∧ args ≠ [] then (cEs c n sc args).map (.call g) else none
        | none => if f ∈ c.free then
            if f = "isinstance" then match args with
              | [a, .Name t _] => if isGl sc t ∧ t ∈ c.free ∧ plainE a = true then (tyOf t).bind fun b => (cE c n sc a).map fun a => .blt b (.c a .n) else none
              | _ => none
            else if f = "list" ∧ isRng args = true then match args with
              | [e] => (cSrc c n sc e e).bind srcRg
              | _ => none
            else (bltOf f args.length).bind fun b => (cEs c n sc args).map (.blt b)
          else none
      else none) = some x) : PEl cl W X (.Call (.Name f p) args [] q) fun E => rE Γ E x := by
  by_cases hg : isGl sc f = true
  · rw [if_pos hg] at h
    split at h
    · rename_i g ar ho
      split at h
      · rename_i hh
        obtain ⟨y, hy, h⟩ := Option.map_eq_some_iff.mp h
        subst h
        obtain ⟨a, b⟩ := S.a G hy
        cases args with
        | nil => exact absurd rfl hh.2
        | cons e r => exact pe_callD G hg ho hh.1 b a
      · cases h
    · rename_i ho
      by_cases hf : f ∈ c.free
      · rw [if_pos hf] at h
        by_cases hi : f = "isinstance"
        · rw [if_pos hi] at h
          subst hi
          split at h
          · rename_i a t pt
            split at h
            · rename_i hh
              obtain ⟨b, hb, h⟩ := Option.bind_eq_some_iff.mp h
              obtain ⟨y, hy, h⟩ := Option.map_eq_some_iff.mp h
              subst h
              exact pe_isiD G hg hf hh.1 hh.2.1 hb hh.2.2 (S.e G hy)
            · cases h
          · cases h
        · rw [if_neg hi] at h
          by_cases hr : f = "list" ∧ isRng args = true
          · rw [if_pos hr] at h
            obtain ⟨h1, h2⟩ := hr
            subst h1
            exact snd_rg S.r G hg hf h h2
          rw [if_neg hr] at h
          obtain ⟨b, hb, h⟩ := Option.bind_eq_some_iff.mp h
          obtain ⟨y, hy, h⟩ := Option.map_eq_some_iff.mp h
          subst h
          obtain ⟨a, b'⟩ := S.a G hy
          cases args with
          | nil => simp [bltOf] at hb
          | cons e r => exact pe_bltD G hg hf hb b' a
      · rw [if_neg hf] at h
        cases h
  · rw [if_neg hg] at h
    cases h
theorem snd_h (S : Snd cl c Γ k n) (G : Good cl c Γ k W sc X) {os : List CmpOp} {bs : List Expr} {x : Chn} (h : cCh c (n + 1) sc os bs = some x) : ChOk cl W X Γ os bs x ∧ lastMarks os bs = false := by
  match os, bs, h with
  | [o], [b], h =>
    simp only [cCh] at h
    split at h
    · rename_i hp
      obtain ⟨p, hp', h⟩ := Option.bind_eq_some_iff.mp h
      obtain ⟨e, he, h⟩ := Option.map_eq_some_iff.mp h
      subst h
      refine ⟨fun pos pins s σ H Q y v lv I rv hy q => ?_, plain_behind hp o⟩
      refine test_last (L2.thn ((S.e G he).run pins s σ H (fun w H1 => ∃ z, IsV X.K H1 z w ∧ IsV X.K H1 y v ∧ Lift cl X.K W RB (fun _ _ m k => rCmp p y z m fun q => k q m) σ H1 Q) I
        (Lift.then_ (S := RV X.K) (R := RB) (u := fun z E σ m1 k => rCmp p y z m1 fun q => k q m1) q fun z w H1 kp hz l => ⟨z, hz, hy.kp kp, l⟩)) ?_)
      rintro u s1 ⟨w, H1, I1, rw, z, hz, hy1, l⟩
      refine L2.thn (cmpR G hp' pins s1 σ H1 v w lv u (fun b' H2 => ∃ b, b' = .bl b ∧ Q b H2) I1 rv rw (lop_of_lift (r := cV (rCmp p)) hy1 hz (Lift.truth (t := fun _ _ m k => cV (rCmp p) y z m k) l fun _ _ _ _ z => z))) ?_
      rintro d s2 ⟨bv, H2, I2, r2, b, eb, qb⟩
      subst eb
      cases r2
      exact wpAny_truthy_bool ⟨H2, I2, qb⟩
    · cases h
  | o :: p :: os, b :: d :: bs, h =>
    simp only [cCh] at h
    obtain ⟨o', ho', h⟩ := Option.bind_eq_some_iff.mp h
    obtain ⟨e, he, h⟩ := Option.bind_eq_some_iff.mp h
    obtain ⟨r, hr, h⟩ := Option.map_eq_some_iff.mp h
    subst h
    obtain ⟨ih, im⟩ := S.h G hr
    refine ⟨fun pos pins s σ H Q y v lv I rv hy q => ?_, im⟩
    refine test_link (L2.thn ((S.e G he).run pins s σ H (fun w H1 => ∃ z, IsV X.K H1 z w ∧ IsV X.K H1 y v ∧ Lift cl X.K W RB (fun E σ m k => rCmp o' y z m fun q => (q = true → rCh Γ E r z σ m k) ∧ (q = false → k false m)) σ H1 Q) I
      (Lift.then_ (S := RV X.K) (R := RB) (u := fun z E σ m1 k => rCmp o' y z m1 fun q => (q = true → rCh Γ E r z σ m1 k) ∧ (q = false → k false m1)) q fun z w H1 kp hz l => ⟨z, hz, hy.kp kp, l⟩)) ?_)
    rintro u s1 ⟨w, H1, I1, rw, z, hz, hy1, l⟩
    refine L2.thn (cmpR G ho' pins s1 σ H1 v w lv u (fun b' H2 => ∃ b, b' = .bl b ∧ (b = true → IsV X.K H2 z w ∧ Lift cl X.K W RB (fun E => rCh Γ E r z) σ H2 Q) ∧ (b = false → Q false H2)) I1 rv rw ?_) ?_
    · obtain ⟨σ', m, k', E, hs, hm, ht, pp⟩ := l
      refine ⟨y, z, m, bOf fun q m2 => (q = true → rCh Γ E r z σ' m2 k') ∧ (q = false → k' false m2), hy1, hz, hm, ht, fun dd m' u H' zz su sr se => ?_⟩
      cases dd <;> first | exact zz.elim | skip
      rename_i b
      exact ⟨b, su, fun e => ⟨hz.kp (hm.kp se), σ', m', k', E, hs.kp (hm.kp se), sr, zz.1 e, pp.step se⟩, fun e => pp.ok _ _ _ _ (zz.2 e) rfl sr se⟩
    · rintro dv s2 ⟨bv, H2, I2, r2, b, eb, q1, q2⟩
      subst eb
      cases r2
      refine wpAny_truthy_bool ?_
      cases b with
      | false => exact ite_ff ⟨H2, I2, q2 rfl⟩
      | true =>
        obtain ⟨hz2, l⟩ := q1 rfl
        exact ite_tt (ih pos pins s2 σ H2 Q z w u I2 rw hz2 l)
theorem pt_chD (G : Good cl c Γ k W sc X) {a b d : Expr} {o p : CmpOp} {os : List CmpOp} {bs : List Expr} {pos : Pos} {ta : Rd D} {x : Chn} (ha : PEl cl W X a ta) (h : ChOk cl W X Γ (o :: p :: os) (b :: d :: bs) x) (hm : lastMarks (o :: p :: os) (b :: d :: bs) = false) :
    PTl cl W X (.Compare a (o :: p :: os) (b :: d :: bs) pos) fun E σ m k => ta E σ m fun y m1 => rCh Γ E x y σ m1 k := by
  refine ⟨fun pins s σ H Q I q => isTrue_chain (L2.thn (ha.run pins s σ H (fun w H1 => ∃ y, IsV X.K H1 y w ∧ Lift cl X.K W RB (fun E => rCh Γ E x y) σ H1 Q) I
    (Lift.then_ (S := RV X.K) (R := RB) (u := fun y E => rCh Γ E x y) q fun y w H1 kp hy l => ⟨y, hy, l⟩)) ?_) hm⟩
  rintro u s1 ⟨w, H1, I1, rw, y, hy, l⟩
  exact h pos pins s1 σ H1 Q y w u I1 rw hy l
theorem snd_mth (S : Snd cl c Γ k n) (G : Good cl c Γ k W sc X) {o : Expr} {mm : Str} {args : List Expr} {ap p : Pos} {x : Ex}
    (h : ((bmOf mm).bind fun b => if args.length = bmAr b ∧ (ap.endLine == p.line) = true ∧ baseE o = true then (cE c n sc o).bind fun o => (cEs c n sc args).map fun as => .bm b o as else none) = some x) : PEl cl W X (.Call (.Attribute o mm ap) args [] p) fun E => rE Γ E x := by
  obtain ⟨b, hb, h⟩ := Option.bind_eq_some_iff.mp h
  split at h
  · rename_i hh
    obtain ⟨h1, h2, h3⟩ := hh
    obtain ⟨y, hy, h⟩ := Option.bind_eq_some_iff.mp h
    obtain ⟨z, hz, h⟩ := Option.map_eq_some_iff.mp h
    subst h
    obtain ⟨a, b'⟩ := S.a G hz
    cases args with
    | nil =>
      have e : b = .pop := by
        rcases bmOf_name hb with ⟨rfl, _⟩ | ⟨rfl, _⟩ | ⟨rfl, _⟩ | ⟨rfl, _⟩ | ⟨rfl, _⟩ | ⟨rfl, _⟩ <;> first | rfl | cases h1
      have ez : z = .n := by
        cases n with
        | zero => cases hz
        | succ n => cases hz; rfl
      subst ez
      exact pe_bm0D G hb e h2 h3 (S.e G hy)
    | cons e r =>
      have e1 : b ≠ .pop := by
        rintro rfl
        cases h1
      have l30 : (e :: r).length < 30 := by
        rw [h1]
        rcases bmOf_name hb with ⟨rfl, _⟩ | ⟨rfl, _⟩ | ⟨rfl, _⟩ | ⟨rfl, _⟩ | ⟨rfl, _⟩ | ⟨rfl, _⟩ <;> decide
      exact pe_bmD G hb l30 e1 h2 h3 b' (S.e G hy) a
  · cases h
theorem snd_lc (S : Snd cl c Γ k n) (G : Good cl c Γ k W sc X) {elt tg it : Expr} {ifs : List Expr} {scope : Scope} {p : Pos} {x : Ex}
    (h : ((ownOf c.N scope.names).bind fun own =>
      if L2.blkC c.N sc scope own then (cTg c.N (lcOk scope sc) n tg).bind fun t => if (tgSlots t).all fun i => own.any fun q => q.2 == i then (cSrc c n sc tg it).bind fun s => (cIf c n (L2.relS scope sc) ifs).bind fun k => (cE c n (L2.relS scope sc) elt).map fun e => .lc (own.map (·.2)) t s k e else none
      else none) = some x) (hp : plainE it = true) : PEl cl W X (.ListComp elt [⟨tg, it, ifs, 0⟩] scope p) fun E => rE Γ E x := by
  obtain ⟨own, ho, h⟩ := Option.bind_eq_some_iff.mp h
  split at h
  · rename_i hb
    obtain ⟨t, ht, h⟩ := Option.bind_eq_some_iff.mp h
    split at h
    · rename_i hv
      obtain ⟨s, hs, h⟩ := Option.bind_eq_some_iff.mp h
      obtain ⟨ki, hk, h⟩ := Option.bind_eq_some_iff.mp h
      obtain ⟨e, he, h⟩ := Option.map_eq_some_iff.mp h
      subst h
      exact pe_lcD G hb ht hv hp (S.s G hs) (fun Y GY => S.i GY hk) (fun Y GY => S.e GY he)
    · cases h
  · cases h
theorem src_plain {tg e : Expr} {x : Src} (h : cSrc c n sc tg e = some x) : plainE e = true := by
  cases n with
  | zero => cases h
  | succ n =>
    simp only [cSrc] at h
    split at h
    · assumption
    · cases h
theorem never_e {e : Expr} : PEl cl W X e fun _ _ _ _ => False := ⟨fun pins s σ H Q I q => by
  obtain ⟨_, _, _, _, _, _, z, _⟩ := q
  exact z.elim⟩
theorem snd_e (S : Snd cl c Γ k n) (G : Good cl c Γ k W sc X) {e : Expr} {x : Ex} (h : cE c (n + 1) sc e = some x) : PEl cl W X e fun E => rE Γ E x := by
  simp only [cE] at h
  split at h
  · exact pe_name G h
  · exact pe_const h
  · obtain ⟨o, ho, h⟩ := Option.bind_eq_some_iff.mp h
    obtain ⟨a, ha, h⟩ := Option.bind_eq_some_iff.mp h
    obtain ⟨b, hb, h⟩ := Option.map_eq_some_iff.mp h
    subst h
    exact pe_binD ho (S.e G ha) (S.e G hb)
  · obtain ⟨a, ha, h⟩ := Option.map_eq_some_iff.mp h
    subst h
    exact pe_negD (S.e G ha)
  · obtain ⟨a, ha, h⟩ := Option.map_eq_some_iff.mp h
    subst h
    exact pe_notD (S.e G ha)
  · split at h
    · rename_i hp
      obtain ⟨o, ho, h⟩ := Option.bind_eq_some_iff.mp h
      obtain ⟨a, ha, h⟩ := Option.bind_eq_some_iff.mp h
      obtain ⟨b, hb, h⟩ := Option.map_eq_some_iff.mp h
      subst h
      exact pe_cmpD G ho hp (S.e G ha) (S.e G hb)
    · cases h
  · split at h
    · rename_i hp
      rw [Bool.and_eq_true] at hp
      obtain ⟨o, ho, h⟩ := Option.bind_eq_some_iff.mp h
      obtain ⟨o', ho', h⟩ := Option.bind_eq_some_iff.mp h
      obtain ⟨a, ha, h⟩ := Option.bind_eq_some_iff.mp h
      obtain ⟨b, hb, h⟩ := Option.bind_eq_some_iff.mp h
      obtain ⟨d, hd, h⟩ := Option.map_eq_some_iff.mp h
      subst h
      exact pe_cmp2D G ho ho' hp.2 (S.e G ha) (S.e G hb) (S.e G hd)
    · cases h
  · obtain ⟨a, ha, h⟩ := Option.bind_eq_some_iff.mp h
    obtain ⟨b, hb, h⟩ := Option.map_eq_some_iff.mp h
    subst h
    exact never_e
  · exact L2.pe_one (S.e G h)
  · obtain ⟨a, ha, h⟩ := Option.bind_eq_some_iff.mp h
    obtain ⟨b, hb, h⟩ := Option.map_eq_some_iff.mp h
    subst h
    exact pe_andD (S.e G ha) (S.e G hb)
  · obtain ⟨a, ha, h⟩ := Option.bind_eq_some_iff.mp h
    obtain ⟨b, hb, h⟩ := Option.map_eq_some_iff.mp h
    subst h
    exact pe_orD (S.e G ha) (S.e G hb)
  · obtain ⟨t, ht, h⟩ := Option.bind_eq_some_iff.mp h
    obtain ⟨a, ha, h⟩ := Option.bind_eq_some_iff.mp h
    obtain ⟨b, hb, h⟩ := Option.map_eq_some_iff.mp h
    subst h
    exact pe_iteD (S.t G ht) (S.e G ha) (S.e G hb)
  · obtain ⟨a, ha, h⟩ := Option.bind_eq_some_iff.mp h
    obtain ⟨lo, hl, h⟩ := Option.bind_eq_some_iff.mp h
    obtain ⟨hi, hh, h⟩ := Option.map_eq_some_iff.mp h
    subst h
    exact pe_slD (S.e G ha) (S.p G hl) (S.p G hh)
  · split at h
    · rename_i hp
      obtain ⟨a, ha, h⟩ := Option.bind_eq_some_iff.mp h
      obtain ⟨i, hi, h⟩ := Option.map_eq_some_iff.mp h
      subst h
      exact pe_ixD G hp (S.e G ha) (S.e G hi)
    · cases h
  · split at h
    · rename_i hl
      obtain ⟨es, he, h⟩ := Option.map_eq_some_iff.mp h
      subst h
      exact pe_tupD hl (S.a G he).1
    · cases h
  · split at h
    · rename_i hl
      obtain ⟨es, he, h⟩ := Option.map_eq_some_iff.mp h
      subst h
      exact pe_lstD hl (S.a G he).1
    · cases h
  · cases h
    exact pe_dnD
  · exact snd_call S G h
  · exact snd_mth S G h
  · refine snd_lc S G h ?_
    obtain ⟨own, ho, h⟩ := Option.bind_eq_some_iff.mp h
    split at h
    · obtain ⟨t, ht, h⟩ := Option.bind_eq_some_iff.mp h
      split at h
      · obtain ⟨s, hs, h⟩ := Option.bind_eq_some_iff.mp h
        exact src_plain hs
      · cases h
    · cases h
  · cases h
theorem name_atom {f : Str} {x : Ex} (h : cName c sc f = some x) : atomT x = true := by
  unfold cName at h
  split at h
  · obtain ⟨i, _, rfl⟩ := Option.map_eq_some_iff.mp h
    rfl
  · split at h
    · obtain ⟨i, _, rfl⟩ := Option.map_eq_some_iff.mp h
      rfl
    · cases h
theorem atom_of {e : Expr} {x : Ex} (h : cE c (n + 1) sc e = some x) (ha : atomE e = true) : atomT x = true := by
  simp only [cE] at h
  split at h
  · exact name_atom h
  · unfold cConst at h
    split at h <;> cases h <;> rfl
  · obtain ⟨o, ho, h⟩ := Option.bind_eq_some_iff.mp h
    obtain ⟨a, ha, h⟩ := Option.bind_eq_some_iff.mp h
    obtain ⟨b, hb, h⟩ := Option.map_eq_some_iff.mp h
    subst h
    rfl
  · obtain ⟨a, ha, h⟩ := Option.map_eq_some_iff.mp h
    subst h
    rfl
  · cases ha
  · cases ha
  · cases ha
  · cases ha
  · cases ha
  · cases ha
  · cases ha
  · cases ha
  · obtain ⟨a, ha, h⟩ := Option.bind_eq_some_iff.mp h
    obtain ⟨lo, hl, h⟩ := Option.bind_eq_some_iff.mp h
    obtain ⟨hi, hh, h⟩ := Option.map_eq_some_iff.mp h
    subst h
    rfl
  · split at h
    · obtain ⟨a, ha, h⟩ := Option.bind_eq_some_iff.mp h
      obtain ⟨i, hi, h⟩ := Option.map_eq_some_iff.mp h
      subst h
      rfl
    · cases h
  · split at h
    · obtain ⟨es, he, h⟩ := Option.map_eq_some_iff.mp h
      subst h
      rfl
    · cases h
  · split at h
    · obtain ⟨es, he, h⟩ := Option.map_eq_some_iff.mp h
      subst h
      rfl
    · cases h
  · cases h
    rfl
  · split at h
    · split at h
      · split at h
        · obtain ⟨es, he, h⟩ := Option.map_eq_some_iff.mp h
          subst h
          rfl
        · cases h
      · split at h
        · split at h
          · split at h
            · split at h
              · obtain ⟨b, hb, h⟩ := Option.bind_eq_some_iff.mp h
                obtain ⟨es, he, h⟩ := Option.map_eq_some_iff.mp h
                subst h
                rfl
              · cases h
            · cases h
          · split at h
            · split at h
              · obtain ⟨s, hs, h⟩ := Option.bind_eq_some_iff.mp h
                unfold srcRg at h
                split at h <;> cases h <;> rfl
              · cases h
            · obtain ⟨b, hb, h⟩ := Option.bind_eq_some_iff.mp h
              obtain ⟨es, he, h⟩ := Option.map_eq_some_iff.mp h
              subst h
              rfl
        · cases h
    · cases h
  · obtain ⟨b, hb, h⟩ := Option.bind_eq_some_iff.mp h
    split at h
    · obtain ⟨a, ha, h⟩ := Option.bind_eq_some_iff.mp h
      obtain ⟨es, he, h⟩ := Option.map_eq_some_iff.mp h
      subst h
      rfl
    · cases h
  · obtain ⟨own, ho, h⟩ := Option.bind_eq_some_iff.mp h
    split at h
    · obtain ⟨t, ht, h⟩ := Option.bind_eq_some_iff.mp h
      split at h
      · obtain ⟨s, hs, h⟩ := Option.bind_eq_some_iff.mp h
        obtain ⟨i, hi, h⟩ := Option.bind_eq_some_iff.mp h
        obtain ⟨e, he, h⟩ := Option.map_eq_some_iff.mp h
        subst h
        rfl
      · cases h
    · cases h
  · cases h
theorem snd_w (S : Snd cl c Γ k n) (G : Good cl c Γ k W sc X) {o : BoolOp} {es : List Expr} {q : Pos} {x : Ex} (h : cE c (n + 1) sc (.BoolOp o es q) = some x) : PWl cl W X (.BoolOp o es q) fun E => rT Γ E x := by
  simp only [cE] at h
  match o, es, h with
  | .And, [a], h => exact L2.pw_and1 (S.t G h)
  | .Or, [a], h => exact L2.pw_or1 (S.t G h)
  | .And, a :: b :: r, h =>
    obtain ⟨a', ha, h⟩ := Option.bind_eq_some_iff.mp h
    obtain ⟨b', hb, h⟩ := Option.map_eq_some_iff.mp h
    subst h
    exact pw_andD (S.t G ha) (S.w G hb)
  | .Or, a :: b :: r, h =>
    obtain ⟨a', ha, h⟩ := Option.bind_eq_some_iff.mp h
    obtain ⟨b', hb, h⟩ := Option.map_eq_some_iff.mp h
    subst h
    exact pw_orD (S.t G ha) (S.w G hb)
theorem never_t {e : Expr} : PTl cl W X e fun _ _ _ _ => False := ⟨fun pins s σ H Q I q => by
  obtain ⟨_, _, _, _, _, _, z, _⟩ := q
  exact z.elim⟩
theorem snd_t (S : Snd cl c Γ k n) (G : Good cl c Γ k W sc X) {e : Expr} {x : Ex} (h : cE c (n + 1) sc e = some x) : PTl cl W X e fun E => rT Γ E x := by
  by_cases ha : atomE e = true
  · exact pt_imp (pt_truD (snd_e S G h) (atom_true ha X.env)) fun σ H Q q => q.imp fun E σ m k z => rT_rE (atom_of h ha) z
  · have h0 := h
    simp only [cE] at h
    split at h
    · exact absurd rfl ha
    · exact absurd rfl ha
    · exact absurd rfl ha
    · exact absurd rfl ha
    · obtain ⟨a, ha, h⟩ := Option.map_eq_some_iff.mp h
      subst h
      exact pt_notD (S.t G ha)
    · split at h
      · rename_i hp
        obtain ⟨o, ho, h⟩ := Option.bind_eq_some_iff.mp h
        obtain ⟨a, ha, h⟩ := Option.bind_eq_some_iff.mp h
        obtain ⟨b, hb, h⟩ := Option.map_eq_some_iff.mp h
        subst h
        exact pt_cmpD G ho hp (S.e G ha) (S.e G hb)
      · cases h
    · split at h
      · rename_i hp
        rw [Bool.and_eq_true] at hp
        obtain ⟨o, ho, h⟩ := Option.bind_eq_some_iff.mp h
        obtain ⟨o', ho', h⟩ := Option.bind_eq_some_iff.mp h
        obtain ⟨a, ha, h⟩ := Option.bind_eq_some_iff.mp h
        obtain ⟨b, hb, h⟩ := Option.bind_eq_some_iff.mp h
        obtain ⟨d, hd, h⟩ := Option.map_eq_some_iff.mp h
        subst h
        exact pt_cmp2D G ho ho' hp.2 (S.e G ha) (S.e G hb) (S.e G hd)
      · cases h
    · obtain ⟨a, ha, h⟩ := Option.bind_eq_some_iff.mp h
      obtain ⟨b, hb, h⟩ := Option.map_eq_some_iff.mp h
      subst h
      obtain ⟨h1, h2⟩ := S.h G hb
      exact pt_chD G (S.e G ha) h1 h2
    · exact (snd_w S G h0).pt
    · exact (snd_w S G h0).pt
    · exact (snd_w S G h0).pt
    · obtain ⟨t, ht, h⟩ := Option.bind_eq_some_iff.mp h
      obtain ⟨a, ha, h⟩ := Option.bind_eq_some_iff.mp h
      obtain ⟨b, hb, h⟩ := Option.map_eq_some_iff.mp h
      subst h
      exact never_t
    · exact absurd rfl ha
    · exact absurd rfl ha
    · exact absurd rfl ha
    · exact absurd rfl ha
    · exact absurd rfl ha
    · exact absurd rfl ha
    · exact absurd rfl ha
    · exact absurd rfl ha
    · cases h
theorem snd : ∀ n, Snd cl c Γ k n
  | 0 => snd_zero
  | n + 1 => ⟨fun G _ _ h => snd_e (snd n) G h, fun G _ _ h => snd_t (snd n) G h, fun G _ _ _ _ h => snd_w (snd n) G h, fun G _ _ h => snd_p (snd n) G h, fun G _ _ h => snd_a (snd n) G h, fun G _ _ h => snd_i (snd n) G h, fun G _ _ _ h => snd_s (snd n) G h, snd_r (snd n), fun G _ _ _ h => snd_h (snd n) G h⟩
end
end
end DL

namespace DL
open PySem PySem.Spec PyProof.Rows
open L2 (V Hp HO SqL SqT TE TT TA TS TG TGs Cx Inv PE PT PW PA PS PSs PG PGs RelV Vals WX OpR UnR CallR IxR SlR MtR It TI PI)
/-- no comprehension -/
def noComp : Expr → Bool
  | .ListComp .. => false
  | .SetComp .. => false
  | .DictComp .. => false
  | _ => true
def noTup : Expr → Bool
  | .Tuple .. => false
  | .List .. => false
  | _ => true
mutual
def cS (c : Ctx) : Nat → Scope → Stmt → Option Sm
  | 0, _, _ => none
  | n + 1, sc, st => match st with
    | .Assign [.Name x px] (.ListComp elt [⟨tg, it, ifs, 0⟩] scope p) _ =>
      if isLoc sc x && (px.line == p.line) && !(scope.names.any fun (n, k) => n == x && (k == .local || k == .cell)) then (slotOf c.N x).bind fun i => (cE c (n + 1) sc (.ListComp elt [⟨tg, it, ifs, 0⟩] scope p)).map (.set i)
      else if isLocC sc x then (slotOf c.N x).bind fun i => (cE c n sc (.ListComp elt [⟨tg, it, ifs, 0⟩] scope p)).map (.set i) else none
    | .Assign [.Name x _] e _ => if isLocC sc x && noComp e then (slotOf c.N x).bind fun i => (cE c n sc e).map (.set i) else none
    | .Assign [.Subscript o i _] e _ => if noComp e && plainE i then (cE c n sc o).bind fun o => (cE c n sc i).bind fun i => (cE c n sc e).map fun e => .setIx o i e else none
    | .Assign [tg] e _ => if noComp e && noTup e then (cTg c.N (isLocC sc) n tg).bind fun t => (cE c n sc e).map fun e => .setT t e else none
    | .Expr e _ => if noComp e then (cE c n sc e).map .expr else none
    | .Return (some e) _ => (cE c n sc e).map .ret
    | .Return none _ => some .retN
    | .If t a b _ => (cE c n sc t).bind fun t => (cSs c n sc a).bind fun a => (cSs c n sc b).map fun b => .ite t a b
    | .While t a [] _ => (cE c n sc t).bind fun t => (cSs c n sc a).map fun a => .whl t a
    | .For tg it a [] _ => (cTg c.N (isLocC sc) n tg).bind fun t => (cSrc c n sc tg it).bind fun s => (cSs c n sc a).map fun a => .for_ t s a
    | .Pass _ => some .pass
    | .Break _ => some .brk
    | .Continue _ => some .cont
    | _ => none
def cSs (c : Ctx) : Nat → Scope → List Stmt → Option Sms
  | 0, _, _ => none
  | _ + 1, _, [] => some .n
  | n + 1, sc, s :: r => (cS c n sc s).bind fun s => (cSs c n sc r).map fun r => .c s r
end
section
variable (cl : Nat → Addr) (K : PySem.W.Frag) (W : WX)
structure PostS (H : Hp) (m : Mem) (Z : Ends) (D : L2.Ends) : Prop where
  nx : ∀ σ' m' σv' H', Z.nx σ' m' → StR K H' σv' σ' → Rep cl K H' m' → Ext H m H' m' → D.nx σv' H'
  rt : ∀ d m' v H', Z.rt d m' → IsV K H' d v → Rep cl K H' m' → Ext H m H' m' → D.rt v H'
  bk : ∀ σ' m' σv' H', Z.bk σ' m' → StR K H' σv' σ' → Rep cl K H' m' → Ext H m H' m' → D.bk σv' H'
  ct : ∀ σ' m' σv' H', Z.ct σ' m' → StR K H' σv' σ' → Rep cl K H' m' → Ext H m H' m' → D.ct σv' H'
  ex : PostX cl K W H m Z.ex
def LSt (t : Ends → St → Mem → Prop) : TS := fun D σv H => ∃ Z σ m, StR K H σv σ ∧ Rep cl K H m ∧ t Z σ m ∧ PostS cl K W H m Z D
end
section
variable {cl : Nat → Addr} {K : PySem.W.Frag} {W : WX} {H H1 : Hp} {m m1 : Mem} {Z : Ends} {D : L2.Ends} {σv : L2.St} {α β : Type}
theorem PostS.step (p : PostS cl K W H m Z D) (e : Ext H m H1 m1) : PostS cl K W H1 m1 Z D where
  nx := fun σ' m' σv' H' a b c f => p.nx σ' m' σv' H' a b c (e.trans f)
  rt := fun σ' m' σv' H' a b c f => p.rt σ' m' σv' H' a b c (e.trans f)
  bk := fun σ' m' σv' H' a b c f => p.bk σ' m' σv' H' a b c (e.trans f)
  ct := fun σ' m' σv' H' a b c f => p.ct σ' m' σv' H' a b c (e.trans f)
  ex := p.ex.step e
theorem LSt.imp {t u : Ends → St → Mem → Prop} (i : ∀ Z σ m, t Z σ m → u Z σ m) (h : LSt cl K W t D σv H) : LSt cl K W u D σv H := by
  obtain ⟨Z, σ, m, a, b, q, p⟩ := h
  exact ⟨Z, σ, m, a, b, i _ _ _ q, p⟩
/-- first a value -/
theorem LSt.val {R : Hp → α → β → Prop} {t : Rd α} {u : α → Ends → St → Mem → Prop} {Q : β → Hp → Prop} (h : LSt cl K W (fun Z σ m => t Z.ex σ m fun x m1 => u x Z σ m1) D σv H)
    (i : ∀ v H1, Kp H H1 → (∃ x, R H1 x v ∧ LSt cl K W (u x) D σv H1) → Q v H1) : Lift cl K W R t σv H Q := by
  obtain ⟨Z, σ, m, hs, hr, ht, p⟩ := h
  exact ⟨σ, m, _, Z.ex, hs, hr, ht, ⟨fun d m' v H' q s r e => i _ _ (hr.kp e) ⟨d, s, Z, σ, m', hs.kp (hr.kp e), r, q, p.step e⟩, p.ex⟩⟩
/-- nothing is done -/
theorem LSt.nxt {σ2 : St → St} {v2 : L2.St → L2.St} (h : LSt cl K W (fun Z σ m => Z.nx (σ2 σ) m) D σv H) (i : ∀ σ, StR K H σv σ → StR K H (v2 σv) (σ2 σ)) : D.nx (v2 σv) H := by
  obtain ⟨Z, σ, m, hs, hr, ht, p⟩ := h
  exact p.nx _ _ _ _ ht (i σ hs) hr (Ext.refl _ _)
end
/-- what a def's body has besides -/
structure GoodS (cl : Nat → Addr) (c : Ctx) (Γ : En) (k : Nat) (W : WX) (sc : Scope) (X : Cx) : Prop extends Good cl c Γ k W sc X where
  fn : ∀ x, X.fn x = true
  kind : sc.kind = .function
  po : PassesOwn (model X.prog X.w) X.A X.env X.xe
abbrev PSl (cl : Nat → Addr) (W : WX) (X : Cx) (st : Stmt) (t : Ends → St → Mem → Prop) : Prop := PS X st (LSt cl X.K W t)
abbrev PSsl (cl : Nat → Addr) (W : WX) (X : Cx) (st : List Stmt) (t : Ends → St → Mem → Prop) : Prop := PSs X st (LSt cl X.K W t)
theorem noComp_sw {e : Expr} (h : noComp e = true) (t : Option Expr) (l : Nat) (env : Env) : swapsWith e t l env = pure false := by
  cases e <;> first | rfl | cases h
theorem isLocC_ok {sc : Scope} {x : Str} (h : isLocC sc x = true) : L2.Loc sc x := by
  unfold isLocC at h
  rw [Bool.or_eq_true] at h
  exact h.elim (fun z => .inl (of_decide_eq_true z)) fun z => .inr (of_decide_eq_true z)
section
variable {cl : Nat → Addr} {c : Ctx} {Γ : En} {k n : Nat} {W : WX} {sc : Scope} {X : Cx}
theorem GoodS.hok (G : GoodS cl c Γ k W sc X) (x : Str) (h : isLocC sc x = true) : L2.Loc X.env.scope x ∧ (X.fn x = true ∨ X.env.scope.names.lookup x = some .local) := ⟨by rw [G.hsc]; exact isLocC_ok h, .inl (G.fn x)⟩
theorem ps_setD (G : GoodS cl c Γ k W sc X) {x : Str} {px pos : Pos} {e : Expr} {te : Rd D} {i : Nat} (hx : isLocC sc x = true) (hi : slotOf c.N x = some i) (hc : noComp e = true) (he : PEl cl W X e te) :
    PSl cl W X (.Assign [.Name x px] e pos) fun Z σ m => te Z.ex σ m fun d m1 => Z.nx (sset σ i d) m1 := by
  refine ps_imp (L2.ps_set (i := i) (by rw [G.hN]; exact G.nd) (by rw [G.hN]; exact slotOf_get hi) (G.hok x hx).1 he (noComp_sw hc _ _ _) (.inl (G.fn x))) fun D σ H q => ?_
  refine LSt.val (R := RV X.K) (u := fun d Z σ m1 => Z.nx (sset σ i d) m1) q fun v H1 _ ⟨d, hd, l⟩ => ?_
  exact l.nxt (v2 := fun σv => σv.set i (some v)) (σ2 := fun σ => sset σ i d) fun σ hs => hs.set hd i
theorem sw_no {elt : Expr} {gs : List Comprehension} {scope : Scope} {pos py : Pos} {y : Str} {l : Nat} {env : Env}
    (h : (isLoc env.scope y && (py.line == pos.line) && !(scope.names.any fun (n, k) => n == y && (k == .local || k == .cell))) = false) : swapsWith (.ListComp elt gs scope pos) (some (.Name y py)) l env = pure false := by
  have e : (env.kindOf y == some NameKind.local) = isLoc env.scope y := by
    show (env.scope.names.lookup y == some NameKind.local) = decide (env.scope.names.lookup y = some NameKind.local)
    cases env.scope.names.lookup y with
    | none => rfl
    | some k => cases k <;> rfl
  show (pure (env.blockKind == .function && env.kindOf y == some .local && py.line == pos.line && !(scope.names.any fun (n, k) => n == y && (k == .local || k == .cell))) : Sem Bool) = pure false
  rw [e, Bool.and_assoc, Bool.and_assoc, ← Bool.and_assoc (isLoc env.scope y), h, Bool.and_false]
theorem ps_setNo (G : GoodS cl c Γ k W sc X) {x : Str} {px pos : Pos} {e : Expr} {te : Rd D} {i : Nat} (hx : isLocC sc x = true) (hi : slotOf c.N x = some i) (hc : swapsWith e (some (.Name x px)) pos.line X.env = pure false) (he : PEl cl W X e te) :
    PSl cl W X (.Assign [.Name x px] e pos) fun Z σ m => te Z.ex σ m fun d m1 => Z.nx (sset σ i d) m1 := by
  refine ps_imp (L2.ps_set (i := i) (by rw [G.hN]; exact G.nd) (by rw [G.hN]; exact slotOf_get hi) (G.hok x hx).1 he hc (.inl (G.fn x))) fun D σ H q => ?_
  refine LSt.val (R := RV X.K) (u := fun d Z σ m1 => Z.nx (sset σ i d) m1) q fun v H1 _ ⟨d, hd, l⟩ => ?_
  exact l.nxt (v2 := fun σv => σv.set i (some v)) (σ2 := fun σ => sset σ i d) fun σ hs => hs.set hd i
theorem ps_setLcD (G : GoodS cl c Γ k W sc X) {x : Str} {px spos : Pos} {elt tg it : Expr} {ifs : List Expr} {scope : Scope} {pos : Pos} {i : Nat} {own : List (Str × Nat)} {t : Tg} {ts : XK → St → Mem → ((Mem → Prop) → List D → Mem → Prop) → Prop} {tt : Rd Bool} {te : Rd D}
    (hx : isLoc sc x = true) (hi : slotOf c.N x = some i) (hl : (px.line == pos.line) = true) (ha : (scope.names.any fun (n, k) => n == x && (k == .local || k == .cell)) = false)
    (hb : L2.blkC c.N sc scope own = true) (ht : cTg c.N (lcOk scope sc) n tg = some t) (hv : ((tgSlots t).all fun i => own.any fun q => q.2 == i) = true) (hp : plainE it = true) (hs : PIl cl W X tg it ts)
    (hif : ∀ Y, Good cl c Γ k (fun _ _ _ _ => False) (L2.relS scope sc) Y → L2.PTs Y ifs (Lift cl Y.K (fun _ _ _ _ => False) RB tt))
    (he : ∀ Y, Good cl c Γ k (fun _ _ _ _ => False) (L2.relS scope sc) Y → PEl cl (fun _ _ _ _ => False) Y elt te) :
    PSl cl W X (.Assign [.Name x px] (.ListComp elt [⟨tg, it, ifs, 0⟩] scope pos) spos) fun Z σ m => (ts Z.ex σ m fun g items m1 => items.length ≤ big ∧ rLc g (rTg t) (tt fun _ _ _ => False) (te fun _ _ _ => False) (swipe σ (own.map (·.2))) items [] m1 fun ds m2 => ∀ p, m2 p = none → Z.nx (sset σ i (.ref p)) (upd m2 p (.lst ds))) := by
  obtain ⟨b1, b2⟩ := blkC_kind hb
  have hloc : X.env.scope.names.lookup x = some .local := by
    rw [G.hsc]
    exact of_decide_eq_true hx
  refine ps_imp (L2.ps_setLc (i := i) (own := own) (g := LG cl X.K t) (tt := Lift cl X.K (fun _ _ _ _ => False) RB tt) (te := Lift cl X.K (fun _ _ _ _ => False) (RV X.K) te) G.calm (by rw [G.hN]; exact G.nd) (by rw [G.hN]; exact slotOf_get hi) hloc (L2.sw_true (by rw [G.hsc]; exact G.kind) hloc hl ha) hs (by rw [G.hN, G.hsc]; exact L2.blkOk_by hb)
    (fun s H C cc fp => pg_D (G.toGood.blk s H scope C cc fp b1 b2) (lc_hok G.toGood s H scope C cc fp) ht)
    (fun s H C cc fp => hif _ (G.toGood.blk s H scope C cc fp b1 b2)) (fun s H C cc fp => he _ (G.toGood.blk s H scope C cc fp b1 b2)) (plain_fold hp X.env)) fun D σv H q => ?_
  refine tLc_of (lc_slots hv) ?_
  refine LSt.val (R := RV X.K) (t := fun E σ m k => ts E σ m fun g items m1 => items.length ≤ big ∧ rLc g (rTg t) (tt fun _ _ _ => False) (te fun _ _ _ => False) (swipe σ (own.map (·.2))) items [] m1 fun ds m2 => ∀ p, m2 p = none → k (.ref p) (upd m2 p (.lst ds))) (u := fun d Z σ m1 => Z.nx (sset σ i d) m1) q fun v H1 _ ⟨d, hd, l⟩ => ?_
  exact l.nxt (v2 := fun σv => σv.set i (some v)) (σ2 := fun σ => sset σ i d) fun σ hs => hs.set hd i
theorem ps_setTD (G : GoodS cl c Γ k W sc X) {tg e : Expr} {pos : Pos} {te : Rd D} {t : Tg} (hc : noComp e = true) (hn : noTup e = true) (ht : cTg c.N (isLocC sc) n tg = some t) (he : PEl cl W X e te) :
    PSl cl W X (.Assign [tg] e pos) fun Z σ m => te Z.ex σ m fun d m1 => rTg t d σ m1 Z.nx := by
  have hstar := cTg_star ht
  refine ps_imp (L2.ps_asg he (pg_D G.toGood G.hok ht) (noComp_sw hc _ _ _) (by cases e <;> first | (cases tg <;> rfl) | cases hn) (by rw [asg_cons hstar]; rfl)) fun D σ H q => ?_
  refine LSt.val (R := RV X.K) (u := fun d Z σ m1 => rTg t d σ m1 Z.nx) q fun v H1 _ ⟨d, hd, l⟩ => ?_
  obtain ⟨Z, σ', m, hs, hr, hq, p⟩ := l
  exact ⟨d, σ', m, _, hd, hs, hr, hq, fun σ2 m2 σv2 H2 z s r e _ => p.nx _ _ _ _ z s r e⟩
theorem ps_setIxD (G : GoodS cl c Γ k W sc X) {o i e : Expr} {p pos : Pos} {to ti te : Rd D} (hc : noComp e = true) (hp : plainE i = true) (ho : PEl cl W X o to) (hi : PEl cl W X i ti) (he : PEl cl W X e te) :
    PSl cl W X (.Assign [.Subscript o i p] e pos) fun Z σ m => te Z.ex σ m fun v m1 => to Z.ex σ m1 fun x m2 => ti Z.ex σ m2 fun y m3 => rSet x y v m3 fun m4 => Z.nx σ m4 := by
  have hu := G.u65
  refine ps_imp (L2.ps_asg he (L2.pg_sub ho hi (set_D (cl := cl) (by omega)) (by intro v; cases i <;> first | rfl | cases hp)) (show swapsWithSole [.Subscript o i p] e pos.line X.env = pure false from noComp_sw hc (some (.Subscript o i p)) pos.line X.env) (by cases e <;> rfl) (by rfl)) fun D σ H q => ?_
  refine LSt.val (R := RV X.K) (u := fun v Z σ m1 => to Z.ex σ m1 fun x m2 => ti Z.ex σ m2 fun y m3 => rSet x y v m3 fun m4 => Z.nx σ m4) q fun v H1 _ ⟨d, hd, l⟩ => ?_
  refine LSt.val (R := RV X.K) (u := fun x Z σ m2 => ti Z.ex σ m2 fun y m3 => rSet x y d m3 fun m4 => Z.nx σ m4) l fun ov H2 k2 ⟨x, hx, l⟩ => ?_
  refine LSt.val (R := RV X.K) (u := fun y Z σ m3 => rSet x y d m3 fun m4 => Z.nx σ m4) l fun iv H3 k3 ⟨y, hy, l⟩ => ?_
  obtain ⟨Z, σ', m, hs, hr, hq, p⟩ := l
  exact ⟨x, y, d, m, _, hx.kp k3, hy, (hd.kp k2).kp k3, hr, hq, fun m4 H4 z r e => p.nx _ _ _ _ z (hs.kp (hr.kp e)) r e⟩
theorem ps_exprD {e : Expr} {pos : Pos} {te : Rd D} (hc : noComp e = true) (he : PEl cl W X e te) : PSl cl W X (.Expr e pos) fun Z σ m => te Z.ex σ m fun _ m1 => Z.nx σ m1 := by
  refine ps_imp (L2.ps_expr he (noComp_sw hc _ _ _)) fun D σ H q => ?_
  refine LSt.val (R := RV X.K) (u := fun _ Z σ m1 => Z.nx σ m1) q fun v H1 _ ⟨d, hd, l⟩ => ?_
  exact l.nxt (v2 := fun σv => σv) (σ2 := fun σ => σ) fun σ hs => hs
theorem ps_retD {e : Expr} {pos : Pos} {te : Rd D} (he : PEl cl W X e te) : PSl cl W X (.Return (some e) pos) fun Z σ m => te Z.ex σ m Z.rt := by
  refine ps_imp (L2.ps_ret he) fun D σ H q => ?_
  refine LSt.val (R := RV X.K) (u := fun d Z σ m1 => Z.rt d m1) q fun v H1 _ ⟨d, hd, l⟩ => ?_
  obtain ⟨Z, σ', m, hs, hr, hq, p⟩ := l
  exact p.rt _ _ _ _ hq hd hr (Ext.refl _ _)
theorem ps_retND {pos : Pos} : PSl cl W X (.Return none pos) fun Z σ m => Z.rt .non m := by
  refine ps_imp L2.ps_retN fun D σ H q => ?_
  obtain ⟨Z, σ', m, hs, hr, hq, p⟩ := q
  exact p.rt _ _ _ _ hq rfl hr (Ext.refl _ _)
theorem ps_iteD {t : Expr} {a b : List Stmt} {pos : Pos} {tt : Rd Bool} {ta tb : Ends → St → Mem → Prop} (ht : PTl cl W X t tt) (ha : PSsl cl W X a ta) (hb : PSsl cl W X b tb) :
    PSl cl W X (.If t a b pos) fun Z σ m => tt Z.ex σ m fun p m1 => (p = true → ta Z σ m1) ∧ (p = false → tb Z σ m1) := by
  refine ps_imp (L2.ps_if ht ha hb) fun D σ H q => ?_
  refine LSt.val (R := RB) (u := fun p Z σ m1 => (p = true → ta Z σ m1) ∧ (p = false → tb Z σ m1)) q fun v H1 _ ⟨d, hd, l⟩ => ?_
  cases hd
  cases v with
  | true => exact l.imp fun _ _ _ z => z.1 rfl
  | false => exact l.imp fun _ _ _ z => z.2 rfl
theorem pss_nilD : PSsl cl W X [] fun Z σ m => Z.nx σ m := pss_imp L2.pss_nil fun D σ H q => q.nxt (v2 := fun σv => σv) (σ2 := fun σ => σ) fun σ hs => hs
theorem pss_consD {s : Stmt} {r : List Stmt} {t u : Ends → St → Mem → Prop} (hs : PSl cl W X s t) (hr : PSsl cl W X r u) :
    PSsl cl W X (s :: r) fun Z σ m => t { nx := fun σ1 m1 => u Z σ1 m1, rt := Z.rt, bk := Z.bk, ct := Z.ct, ex := Z.ex } σ m := by
  refine pss_imp (L2.pss_cons hs hr) fun D σ H q => ?_
  obtain ⟨Z, σ', m, hs, hr, hq, p⟩ := q
  exact ⟨_, σ', m, hs, hr, hq, ⟨fun σ2 m2 σv2 H2 z s r e => ⟨Z, σ2, m2, s, r, z, p.step e⟩, p.rt, p.bk, p.ct, p.ex⟩⟩
theorem ps_passD {pos : Pos} : PSl cl W X (.Pass pos) fun Z σ m => Z.nx σ m := ps_imp L2.ps_pass fun D σ H q => q.nxt (v2 := fun σv => σv) (σ2 := fun σ => σ) fun σ hs => hs
theorem ps_brkD {pos : Pos} : PSl cl W X (.Break pos) fun Z σ m => Z.bk σ m := ps_imp L2.ps_break fun D σ H q => by
  obtain ⟨Z, σ', m, hs, hr, hq, p⟩ := q
  exact p.bk _ _ _ _ hq hs hr (Ext.refl _ _)
theorem ps_contD {pos : Pos} : PSl cl W X (.Continue pos) fun Z σ m => Z.ct σ m := ps_imp L2.ps_continue fun D σ H q => by
  obtain ⟨Z, σ', m, hs, hr, hq, p⟩ := q
  exact p.ct _ _ _ _ hq hs hr (Ext.refl _ _)
theorem ps_whlD (G : GoodS cl c Γ k W sc X) {t : Expr} {a : List Stmt} {pos : Pos} {tt : Rd Bool} {ta : Ends → St → Mem → Prop} (ht : PTl cl W X t tt) (ha : PSsl cl W X a ta) :
    PSl cl W X (.While t a [] pos) fun Z σ m => ∃ n, rWhl tt ta Z n σ m := by
  refine ps_imp (L2.ps_while G.po ht ha) fun D σv H q => ?_
  obtain ⟨Z, σ, m, hs, hr, ⟨n, hq⟩, p⟩ := q
  refine ⟨fun n σv' H' => ∃ σ m1, StR X.K H' σv' σ ∧ Rep cl X.K H' m1 ∧ Ext H m H' m1 ∧ rWhl tt ta Z n σ m1, ⟨n, σ, m, hs, hr, Ext.refl _ _, hq⟩, ?_⟩
  rintro n σv1 H1 ⟨σ1, m1, s1, r1, e1, q1⟩
  cases n with
  | zero => exact q1.elim
  | succ n =>
    refine ⟨σ1, m1, _, Z.ex, s1, r1, q1, ⟨fun b m2 b' H2 z2 s2 r2 e2 => ?_, (p.step e1).ex⟩⟩
    cases s2
    have pe := p.step (e1.trans e2)
    cases b with
    | false =>
      rw [if_neg (by decide)]
      exact pe.nx _ _ _ _ (z2.2 rfl) (s1.kp (r1.kp e2)) r2 (Ext.refl _ _)
    | true =>
      rw [if_pos rfl]
      have again : ∀ σ' m' σv' H', (∃ m3, Sub m3 m' ∧ rWhl tt ta Z n σ' m3) → StR X.K H' σv' σ' → Rep cl X.K H' m' → Ext H2 m2 H' m' → (fun σv' H' => ∃ σ m1, StR X.K H' σv' σ ∧ Rep cl X.K H' m1 ∧ Ext H m H' m1 ∧ rWhl tt ta Z n σ m1) σv' H' :=
        fun σ' m' σv' H' ⟨m3, sb, z⟩ s r e => ⟨σ', m3, s, r.sub sb, ((e1.trans e2).trans e).sub sb, z⟩
      exact ⟨_, fun σ' H' w => ⟨n, Nat.lt_succ_self n, w⟩, _, σ1, m2, s1.kp (r1.kp e2), r2, z2.1 rfl, ⟨again, pe.rt, pe.nx, again, pe.ex⟩⟩
theorem ps_forD (G : GoodS cl c Γ k W sc X) {tg it : Expr} {a : List Stmt} {pos : Pos} {ts : XK → St → Mem → ((Mem → Prop) → List D → Mem → Prop) → Prop} {t : Tg} {ta : Ends → St → Mem → Prop} (hp : plainE it = true) (hs : PIl cl W X tg it ts) (ht : cTg c.N (isLocC sc) n tg = some t) (ha : PSsl cl W X a ta) :
    PSl cl W X (.For tg it a [] pos) fun Z σ m => ts Z.ex σ m fun g items m1 => rFor g (rTg t) ta Z items σ m1 := by
  refine ps_imp (L2.ps_for G.po G.calm hs (pg_D G.toGood G.hok ht) ha (plain_fold hp X.env)) fun D σv H q => ?_
  obtain ⟨Z, σ, m, hs, hr, hq, p⟩ := q
  refine ⟨σ, m, _, Z.ex, hs, hr, hq, fun g items m1 H1 J z it r e => ?_, p.ex⟩
  refine ⟨fun i n σv2 H2 => n = items.length - i ∧ i ≤ items.length ∧ ∃ σ2 m2, StR X.K H2 σv2 σ2 ∧ Rep cl X.K H2 m2 ∧ Ext H1 m1 H2 m2 ∧ rFor g (rTg t) ta Z (items.drop i) σ2 m2,
    ⟨_, rfl, Nat.zero_le _, σ, m1, hs.kp (hr.kp e), r, Ext.refl _ _, z⟩, ?_⟩
  rintro i n σv2 H2 ⟨rfl, hi, σ2, m2, s2, r2, e2, z2⟩
  have kp2 : Kp H1 H2 := r.kp e2
  by_cases hlt : i < items.length
  · have dr : items.drop i = items[i] :: items.drop (i + 1) := List.drop_eq_getElem_cons hlt
    rw [dr] at z2
    obtain ⟨gg, z2⟩ := z2
    refine .inr ⟨it.go i _ H2 m2 (List.getElem?_eq_getElem hlt) kp2 r2 gg, fun σv3 H3 => ∃ σ3 m3, StR X.K H3 σv3 σ3 ∧ Rep cl X.K H3 m3 ∧ Ext H1 m1 H3 m3 ∧ rFor g (rTg t) ta Z (items.drop (i + 1)) σ3 m3,
      fun σ' H' q => ⟨items.length - (i + 1), by omega, rfl, hlt, q⟩, fun x H' y => ?_⟩
    obtain ⟨hx, r3, e3⟩ := it.yld i _ H2 m2 x H' (List.getElem?_eq_getElem hlt) kp2 r2 gg y
    refine ⟨items[i], σ2, m2, _, hx, s2.kp (r2.kp e3), r3, z2, fun σ4 m4 σv4 H4 z4 s4 r4 e4 _ => ?_⟩
    have tot : Ext H1 m1 H4 m4 := (e2.trans e3).trans e4
    have pe := p.step (e.trans tot)
    have again : ∀ σ' m' σv' H', (∃ m3, Sub m3 m' ∧ rFor g (rTg t) ta Z (items.drop (i + 1)) σ' m3) → StR X.K H' σv' σ' → Rep cl X.K H' m' → Ext H4 m4 H' m' → (fun σv3 H3 => ∃ σ3 m3, StR X.K H3 σv3 σ3 ∧ Rep cl X.K H3 m3 ∧ Ext H1 m1 H3 m3 ∧ rFor g (rTg t) ta Z (items.drop (i + 1)) σ3 m3) σv' H' :=
      fun σ' m' σv' H' ⟨m3, sb, z⟩ s r e => ⟨σ', m3, s, r.sub sb, (tot.trans e).sub sb, z⟩
    exact ⟨_, σ4, m4, s4, r4, z4, ⟨again, pe.rt, pe.nx, again, pe.ex⟩⟩
  · have ei : i = items.length := by omega
    subst ei
    rw [List.drop_length] at z2
    obtain ⟨gg, z2⟩ := z2
    exact .inl ⟨it.stop H2 m2 kp2 r2 gg, p.nx _ _ _ _ z2 s2 r2 (e.trans e2)⟩
structure SndS (cl : Nat → Addr) (c : Ctx) (Γ : En) (k n : Nat) : Prop where
  s : ∀ {W : WX} {sc : Scope} {X : Cx}, GoodS cl c Γ k W sc X → ∀ {st : Stmt} {x : Sm}, cS c n sc st = some x → PSl cl W X st (rS Γ x)
  b : ∀ {W : WX} {sc : Scope} {X : Cx}, GoodS cl c Γ k W sc X → ∀ {st : List Stmt} {x : Sms}, cSs c n sc st = some x → PSsl cl W X st (rSs Γ x)
theorem sndS_b (S : SndS cl c Γ k n) (G : GoodS cl c Γ k W sc X) {st : List Stmt} {x : Sms} (h : cSs c (n + 1) sc st = some x) : PSsl cl W X st (rSs Γ x) := by
  cases st with
  | nil =>
    cases h
    exact pss_nilD
  | cons s r =>
    simp only [cSs] at h
    obtain ⟨a, ha, h⟩ := Option.bind_eq_some_iff.mp h
    obtain ⟨b, hb, h⟩ := Option.map_eq_some_iff.mp h
    subst h
    exact pss_consD (t := rS Γ a) (u := rSs Γ b) (S.s G ha) (S.b G hb)
theorem sndS_s (S : SndS cl c Γ k n) (G : GoodS cl c Γ k W sc X) {st : Stmt} {x : Sm} (h : cS c (n + 1) sc st = some x) : PSl cl W X st (rS Γ x) := by
  simp only [cS] at h
  split at h
  · rename_i x px elt tg it ifs scope p pos
    split at h
    · rename_i hh
      rw [Bool.and_eq_true, Bool.and_eq_true] at hh
      obtain ⟨⟨h1, h2⟩, h3⟩ := hh
      obtain ⟨i, hi, h⟩ := Option.bind_eq_some_iff.mp h
      obtain ⟨e, he, h⟩ := Option.map_eq_some_iff.mp h
      subst h
      simp only [cE] at he
      obtain ⟨own, ho, h⟩ := Option.bind_eq_some_iff.mp he
      split at h
      · rename_i hb
        obtain ⟨t, ht, h⟩ := Option.bind_eq_some_iff.mp h
        split at h
        · rename_i hv
          obtain ⟨s, hs, h⟩ := Option.bind_eq_some_iff.mp h
          obtain ⟨ki, hk, h⟩ := Option.bind_eq_some_iff.mp h
          obtain ⟨e2, he2, h⟩ := Option.map_eq_some_iff.mp h
          subst h
          exact ps_setLcD G h1 hi h2 (by simpa using h3) hb ht hv (src_plain hs) ((snd n).s G.toGood hs) (fun Y GY => (snd n).i GY hk) (fun Y GY => (snd n).e GY he2)
        · cases h
      · cases h
    · rename_i hno
      split at h
      · rename_i hh
        obtain ⟨i, hi, h⟩ := Option.bind_eq_some_iff.mp h
        obtain ⟨e, he, h⟩ := Option.map_eq_some_iff.mp h
        subst h
        exact ps_setNo G hh hi (sw_no (by rw [G.hsc]; exact Bool.eq_false_iff.mpr hno)) ((snd n).e G.toGood he)
      · cases h
  · split at h
    · rename_i hh
      rw [Bool.and_eq_true] at hh
      obtain ⟨i, hi, h⟩ := Option.bind_eq_some_iff.mp h
      obtain ⟨e, he, h⟩ := Option.map_eq_some_iff.mp h
      subst h
      exact ps_setD G hh.1 hi hh.2 ((snd n).e G.toGood he)
    · cases h
  · split at h
    · rename_i hh
      rw [Bool.and_eq_true] at hh
      obtain ⟨o, ho, h⟩ := Option.bind_eq_some_iff.mp h
      obtain ⟨i, hi, h⟩ := Option.bind_eq_some_iff.mp h
      obtain ⟨e, he, h⟩ := Option.map_eq_some_iff.mp h
      subst h
      exact ps_setIxD G hh.1 hh.2 ((snd n).e G.toGood ho) ((snd n).e G.toGood hi) ((snd n).e G.toGood he)
    · cases h
  · split at h
    · rename_i hh
      rw [Bool.and_eq_true] at hh
      obtain ⟨t, ht, h⟩ := Option.bind_eq_some_iff.mp h
      obtain ⟨e, he, h⟩ := Option.map_eq_some_iff.mp h
      subst h
      exact ps_setTD G hh.1 hh.2 ht ((snd n).e G.toGood he)
    · cases h
  · split at h
    · rename_i hh
      obtain ⟨e, he, h⟩ := Option.map_eq_some_iff.mp h
      subst h
      exact ps_exprD hh ((snd n).e G.toGood he)
    · cases h
  · obtain ⟨e, he, h⟩ := Option.map_eq_some_iff.mp h
    subst h
    exact ps_retD ((snd n).e G.toGood he)
  · cases h
    exact ps_retND
  · obtain ⟨t, ht, h⟩ := Option.bind_eq_some_iff.mp h
    obtain ⟨a, ha, h⟩ := Option.bind_eq_some_iff.mp h
    obtain ⟨b, hb, h⟩ := Option.map_eq_some_iff.mp h
    subst h
    exact ps_iteD ((snd n).t G.toGood ht) (S.b G ha) (S.b G hb)
  · obtain ⟨t, ht, h⟩ := Option.bind_eq_some_iff.mp h
    obtain ⟨a, ha, h⟩ := Option.map_eq_some_iff.mp h
    subst h
    exact ps_whlD G ((snd n).t G.toGood ht) (S.b G ha)
  · obtain ⟨t, ht, h⟩ := Option.bind_eq_some_iff.mp h
    obtain ⟨s, hs, h⟩ := Option.bind_eq_some_iff.mp h
    obtain ⟨a, ha, h⟩ := Option.map_eq_some_iff.mp h
    subst h
    exact ps_forD G (src_plain hs) ((snd n).s G.toGood hs) ht (S.b G ha)
  · cases h
    exact ps_passD
  · cases h
    exact ps_brkD
  · cases h
    exact ps_contD
  · cases h
theorem sndS : ∀ n, SndS cl c Γ k n
  | 0 => by constructor <;> (intros; rename_i h; cases h)
  | n + 1 => ⟨fun G _ _ h => sndS_s (sndS n) G h, fun G _ _ h => sndS_b (sndS n) G h⟩
end
end DL

namespace DL
open PySem PySem.Spec PyProof.Rows
open L2 (V Hp HO SqL SqT TE TT TA TS TG TGs Cx Inv PE PT PW PA PS PSs PG PGs RelV Vals WX FunD FnScope FnOk)
theorem isL_start {K : PySem.W.Frag} {H : Hp} : ∀ {ds : List D} {vs : List V}, IsL K H ds vs → ∀ (i : Nat) (d : D) (n : Nat), sget (ds.map some ++ List.replicate n none) i = some d → ∃ v, (vs.map some ++ List.replicate n (none : Option V))[i]? = some (some v) ∧ IsV K H d v
  | [], vs, h, i, d, n, q => by
    exfalso
    rw [List.map_nil, List.nil_append] at q
    induction n generalizing i with
    | zero => cases q
    | succ n ih =>
      rw [List.replicate_succ] at q
      cases i with
      | zero => cases q
      | succ i => exact ih i q
  | x :: ds, vs, ⟨v, r, e, h, t⟩, 0, d, n, q => by
    subst e
    cases q
    exact ⟨v, rfl, h⟩
  | x :: ds, vs, ⟨v, r, e, h, t⟩, i + 1, d, n, q => by
    subst e
    obtain ⟨w, a, b⟩ := isL_start t i d n q
    exact ⟨w, a, b⟩
theorem stR_start {K : PySem.W.Frag} {H : Hp} {ds : List D} {vs : List V} {N : List Str} (h : IsL K H ds vs) : StR K H (L2.start N vs) (startD N.length ds) := by
  unfold L2.start startD
  have e := h.length
  rw [e]
  refine ⟨by simp [e], fun i d q => isL_start h i d _ q⟩
/-- what a def's surroundings give -/
structure Env0 (cl : Nat → Addr) (P : Program) (w : World) (K : PySem.W.Frag) (mg : Str → Option Value) (base : Heap) (c : Ctx) (Γ : En) (k : Nat) : Prop where
  own : ∀ x f n, c.own.lookup x = some (f, n) → ∃ j a fd ps, j ≤ k ∧ FnOk P w K mg base (L2.CX P w) j a fd ps (Lsp cl K n (Γ.fn f)) ∧ mg x = some (.ref a) ∧ PySem.W.keepIn K (.ref a) = true ∧ L2.Binds K fd ps []
  glb : ∀ x g, c.glb.lookup x = some g → ∃ u v, mg x = some u ∧ RelV v u ∧ ∀ H, IsV K H (Γ.gl g) v
  free : ∀ x, x ∈ c.free → mg x = none
theorem fn_ok {cl : Nat → Addr} {P : Program} {w : World} {K : PySem.W.Frag} {mg : Str → Option Value} {base : Heap} {x qual : Str} {params : Arguments} {body : List Stmt} {scope : Scope} {f : Addr} {fd : FuncData} {c : Ctx} {Γ : En} {k n ar : Nat} {ps : List Str} {b : Sms} {sp : Sp}
    (F : FunD K x qual params body scope [] [] f fd) (S : FnScope c.N ps scope) (har : ps.length = ar) (hc : cSs c n scope body = some b) (E0 : Env0 cl P w K mg base c Γ k) (hk : Keeps Γ c.N.length b sp) :
    FnOk P w K mg base (L2.CX P w) (k + 1) f fd ps (Lsp cl K ar sp) := by
  refine F.ok S (fun vs H Q E h => ?_) fun cdv A outer s H vs Q E hr h => ?_
  · obtain ⟨ds, m, kk, X, hl, hv, _⟩ := h
    rw [hv.length, hl, har]
  · obtain ⟨ds, m, kk, X, hl, hv, hm, hsp, h1, h2⟩ := h
    refine ⟨LSt cl K (fun cls d _ H => E cls d H) (rSs Γ b), (sndS n).b (k := k) (c := c) (X := L2.cxOf (L2.CX P w) P w K mg base c.N qual scope f cdv A outer s H E) ?_ hc, ?_⟩
    · exact { hN := rfl, nd := S.nd, hsc := rfl, calm := rfl, tk := L2.takes_of rfl rfl rfl rfl, room := hr, own := fun x f n h => ⟨E0.own x f n h⟩, glb := E0.glb, free := E0.free, fn := fun _ => rfl, kind := S.kind, po := L2.passes_of rfl }
    · refine ⟨_, startD c.N.length ds, m, stR_start hv, hm, hk ds m kk X hsp, ⟨?_, ?_, fun _ _ _ _ z => z.elim, fun _ _ _ _ z => z.elim, ⟨?_⟩⟩⟩
      · rintro σ' m' σv' H' ⟨m2, sb, z⟩ hs hr' e
        exact h1 _ _ _ _ z rfl (hr'.sub sb) (e.sub sb)
      · rintro d m' v H' ⟨m2, sb, z⟩ hd hr' e
        exact h1 _ _ _ _ z hd (hr'.sub sb) (e.sub sb)
      · rintro σ' σv' x m' cls dd H' ⟨m2, sb, z⟩ hs hx hr' e
        exact h2 _ _ _ _ _ z hx (hr'.sub sb) (e.sub sb)
theorem binds_of {K : PySem.W.Frag} {x qual : Str} {params : Arguments} {body : List Stmt} {scope : Scope} {fd : FuncData} {f : Addr} {ps : List Str} (F : FunD K x qual params body scope [] [] f fd)
    (h : ∀ (kV doc pm : Value) (an : Option Addr) (cdv ct : Value) (us : List Value), us.length = ps.length → bindArgs (PySem.W.fnOf x qual params body scope .none kV doc pm an cdv ct) ⟨us, []⟩ = pure (ps.zip us)) : L2.Binds K fd ps [] := F.bindsN h
/-- a script, as a value -/
theorem script_v {K : PySem.W.Frag} {H : Hp} {a : Addr} {ns : List Int} (hS : SqL K H a (ns.map V.int)) (hO : L2.Only H) : Rol K H a (ns.map V.int) := by
  rcases hS with (h | ⟨o, h⟩) | h
  · rcases hO a with z | ⟨o, xs, z⟩ <;> (rw [h] at z; cases z)
  · exact .inl ⟨o, h⟩
  · exact .inr (.inr h)
end DL

namespace DL
open PySem PySem.Spec PyProof.Rows
open L2 (V Hp HO SqL SqT RelV Vals FunD FnScope FnOk)
section
variable (cl : Nat → Addr) (P : Program) (w : World) (K : PySem.W.Frag) (mg : Str → Option Value) (base : Heap)
/-- the module's name x is a def of n parameters that keeps sp, j calls deep -/
def Knw (x : Str) (n : Nat) (sp : Sp) (j : Nat) : Prop := ∃ a fd ps, FnOk P w K mg base (L2.CX P w) j a fd ps (Lsp cl K n sp) ∧ mg x = some (.ref a) ∧ PySem.W.keepIn K (.ref a) = true ∧ L2.Binds K fd ps []
def OwnAll (Γ : En) (k : Nat) (l : List (Str × (Nat × Nat))) : Prop := ∀ x f n, l.lookup x = some (f, n) → ∃ j, j ≤ k ∧ Knw cl P w K mg base x n (Γ.fn f) j
def GlbAll (Γ : En) (l : List (Str × Nat)) : Prop := ∀ x g, l.lookup x = some g → ∃ u v, mg x = some u ∧ RelV v u ∧ ∀ H, IsV K H (Γ.gl g) v
def FreeAll (l : List Str) : Prop := ∀ x, x ∈ l → mg x = none
end
section
variable {cl : Nat → Addr} {P : Program} {w : World} {K : PySem.W.Frag} {mg : Str → Option Value} {base : Heap} {Γ : En} {k : Nat}
theorem own_nil : OwnAll cl P w K mg base Γ k [] := fun _ _ _ h => by cases h
theorem own_cons {x : Str} {f n j : Nat} {sp : Sp} {l : List (Str × (Nat × Nat))} (h : Knw cl P w K mg base x n sp j) (e : Γ.fn f = sp) (hj : j ≤ k) (r : OwnAll cl P w K mg base Γ k l) : OwnAll cl P w K mg base Γ k ((x, (f, n)) :: l) := fun y g m q => by
  rw [List.lookup_cons] at q
  cases z : (y == x) with
  | true =>
    rw [z] at q
    cases q
    rw [beq_iff_eq.mp z, e]
    exact ⟨j, hj, h⟩
  | false =>
    rw [z] at q
    exact r y g m q
theorem glb_nil : GlbAll K mg Γ [] := fun _ _ h => by cases h
theorem glb_cons {x : Str} {g : Nat} {l : List (Str × Nat)} {u : Value} {v : V} (h : mg x = some u) (rv : RelV v u) (hv : ∀ H, IsV K H (Γ.gl g) v) (r : GlbAll K mg Γ l) : GlbAll K mg Γ ((x, g) :: l) := fun y g' q => by
  rw [List.lookup_cons] at q
  cases z : (y == x) with
  | true =>
    rw [z] at q
    cases q
    rw [beq_iff_eq.mp z]
    exact ⟨u, v, h, rv, hv⟩
  | false =>
    rw [z] at q
    exact r y g' q
theorem free_nil : FreeAll mg [] := fun _ h => by cases h
theorem free_cons {x : Str} {l : List Str} (h : mg x = none) (r : FreeAll mg l) : FreeAll mg (x :: l) := fun y q => by
  rcases List.mem_cons.mp q with e | e
  · rw [e, h]
  · exact r y e
theorem env0 {c : Ctx} (o : OwnAll cl P w K mg base Γ k c.own) (g : GlbAll K mg Γ c.glb) (f : FreeAll mg c.free) : Env0 cl P w K mg base c Γ k := ⟨fun x f n h => by
  obtain ⟨j, hj, a, fd, ps, q⟩ := o x f n h
  exact ⟨j, a, fd, ps, hj, q⟩, g, f⟩
theorem knw {x : Str} {qual : Str} {params : Arguments} {body : List Stmt} {scope : Scope} {f : Addr} {fd : FuncData} {c : Ctx} {n ar : Nat} {ps : List Str} {b : Sms} {sp : Sp}
    (F : FunD K x qual params body scope [] [] f fd) (hm : mg x = some (.ref f)) (S : FnScope c.N ps scope) (har : ps.length = ar) (hc : cSs c n scope body = some b) (E0 : Env0 cl P w K mg base c Γ k)
    (hb : ∀ (kV doc pm : Value) (an : Option Addr) (cdv ct : Value) (us : List Value), us.length = ps.length → bindArgs (PySem.W.fnOf x qual params body scope .none kV doc pm an cdv ct) ⟨us, []⟩ = pure (ps.zip us))
    (hk : Keeps Γ c.N.length b sp) : Knw cl P w K mg base x ar sp (k + 1) := ⟨f, fd, ps, fn_ok F S har hc E0 hk, hm, F.kp, F.bindsN hb⟩
end
mutual
/-- u is the constant d, in what stands for good -/
def kV (K : PySem.W.Frag) : Nat → D → Value → Bool
  | _, .non, .none => true
  | _, .bl b, .bool c => b == c
  | _, .int i, .int j _ => decide (i = j)
  | _, .str s, .str y _ => decide (y = SX.S s)
  | n + 1, .ktup ds, .ref a => (match K.lookup a with
    | some ⟨.type c, _, .seq its _, _⟩ => decide (c = "tuple") && (decide (its.size ≤ sizeLine) && kVs K n ds its.toList)
    | _ => false)
  | _, _, _ => false
def kVs (K : PySem.W.Frag) : Nat → List D → List Value → Bool
  | _, [], [] => true
  | n, d :: ds, u :: us => kV K n d u && kVs K n ds us
  | _, _, _ => false
end
theorem and2 {a b : Bool} (h : (a && b) = true) : a = true ∧ b = true := by simpa using h
theorem kVs_of {K : PySem.W.Frag} {n : Nat} (ih : ∀ d u, kV K n d u = true → ∃ v, RelV v u ∧ ∀ H, IsV K H d v) : ∀ {ds : List D} {us : List Value}, kVs K n ds us = true → ∃ vs, Vals vs us ∧ ∀ H, IsL K H ds vs
  | [], [], _ => ⟨[], .nil, fun _ => rfl⟩
  | [], _ :: _, h => by simp [kVs] at h
  | _ :: _, [], h => by simp [kVs] at h
  | d :: ds, u :: us, h => by
    rw [kVs] at h
    obtain ⟨h1, h2⟩ := and2 h
    obtain ⟨v, r, i⟩ := ih d u h1
    obtain ⟨vs, rs, is⟩ := kVs_of ih h2
    exact ⟨v :: vs, .cons r rs, fun H => ⟨v, vs, rfl, i H, is H⟩⟩
theorem kV_ok {K : PySem.W.Frag} : ∀ (n : Nat) (d : D) (u : Value), kV K n d u = true → ∃ v, RelV v u ∧ ∀ H, IsV K H d v := by
  have flat : ∀ (n : Nat) (d : D) (u : Value), (∀ ds, d ≠ .ktup ds) → kV K n d u = true → ∃ v, RelV v u ∧ ∀ H, IsV K H d v := by
    intro n d u hd h
    cases d with
    | non => cases u <;> first | exact ⟨.non, rfl, fun _ => rfl⟩ | (simp [kV] at h)
    | bl b =>
      cases u <;> first | (simp [kV] at h; done) | skip
      rename_i c
      have e : b = c := by simpa [kV] using h
      exact ⟨.bl b, by rw [e]; rfl, fun _ => rfl⟩
    | int i =>
      cases u <;> first | (simp [kV] at h; done) | skip
      rename_i j t
      have e : i = j := by simpa [kV] using h
      exact ⟨.int i, ⟨t, by rw [e]⟩, fun _ => rfl⟩
    | str x =>
      cases u <;> first | (simp [kV] at h; done) | skip
      rename_i y t
      have e : y = SX.S x := by simpa [kV] using h
      exact ⟨.str (SX.S x), ⟨t, by rw [e]⟩, fun _ => rfl⟩
    | tup ds => simp [kV] at h
    | ref a => simp [kV] at h
    | rol ds => simp [kV] at h
    | ktup ds => exact absurd rfl (hd ds)
  intro n
  induction n with
  | zero =>
    intro d u h
    cases d with
    | ktup ds => simp [kV] at h
    | _ => exact flat 0 _ u (fun _ z => by cases z) h
  | succ n ih =>
    intro d u h
    cases d with
    | ktup ds =>
      cases u <;> first | (simp [kV] at h; done) | skip
      rename_i a
      rw [kV] at h
      cases q : K.lookup a with
      | none =>
        rw [q] at h
        cases h
      | some o =>
        obtain ⟨oc, od, dt, osl⟩ := o
        rw [q] at h
        cases oc with
        | type c =>
          cases dt with
          | seq its k =>
            obtain ⟨h1, h2⟩ := and2 (show (decide (c = "tuple") && (decide (its.size ≤ sizeLine) && kVs K n ds its.toList)) = true from h)
            obtain ⟨h3, h4⟩ := and2 h2
            obtain ⟨vs, rs, is⟩ := kVs_of ih h4
            exact ⟨.ref a, rfl, fun H => ⟨a, vs, rfl, .inr ⟨_, its, k, q, congrArg Value.type (of_decide_eq_true h1), rfl, of_decide_eq_true h3, rs⟩, is H⟩⟩
          | _ => cases h
        | _ => cases dt <;> cases h
    | _ => exact flat _ _ u (fun _ z => by cases z) h
def gV (K : PySem.W.Frag) (q : Str × D) : Bool := match PySem.W.nsIn K mainGlobals q.1 with
  | some (some u) => kV K 8 q.2 u
  | _ => false
theorem gV_ok {K : PySem.W.Frag} {h : Heap} {mg : Str → Option Value} (X : K.In h) (G : h.Ns mainGlobals mg) {x : Str} {d : D} (c : gV K (x, d) = true) : ∃ u v, mg x = some u ∧ RelV v u ∧ ∀ H, IsV K H d v := by
  unfold gV at c
  split at c
  · rename_i u e
    obtain ⟨v, r, i⟩ := kV_ok 8 d u c
    exact ⟨u, v, PySem.W.mg_of X G e, r, i⟩
  · cases c
abbrev AlE : Type := Bool × He.AlD
def obsE (n : Nat) (fa : List He.Fa) (fn : List He.DefD) (gs : List (Str × D)) (g : Addr → Option Obj) : AlE := (gs.all fun q => gV (He.frG g (He.asD g n)) q, He.obsDG n fa fn g)
def hookE (n : Nat) (fa : List He.Fa) (fn : List He.DefD) (gs : List (Str × D)) : PySem.W.Hook where
  α := AlE
  obs := fun s => obsE n fa fn gs s.heap.get?
  val := fun _ => (true, He.valD fn)
  says := fun _ h => ∃ K : PySem.W.Frag, K.In h ∧ (He.SaysD fa fn K ∧ ∀ q ∈ gs, gV K q = true)
  of := fun _ s e => ⟨_, He.frG_in, congrArg Prod.snd e, fun q hq => List.all_eq_true.mp (congrArg Prod.fst e) q hq⟩
  keeps := fun _ _ _ ⟨K, hK, c⟩ k => ⟨K, PySem.W.Frag.In.keeps hK k, c⟩
theorem obsE_eq {n : Nat} {fa : List He.Fa} {fn : List He.DefD} {gs : List (Str × D)} {g : Addr → Option Obj} {s : Shared} (h : ∀ a, g a = s.heap.get? a) : obsE n fa fn gs g = (hookE n fa fn gs).obs s := by
  have e : g = s.heap.get? := funext h
  subst e
  rfl
/-- the law, from its def's promise -/
theorem walkW {l : PySem.W.OpenLaw} {n k : Nat} {q : Program} {loose : List Str} {XP : (Str → Option Value) → Heap → Prop} {YP : World → Heap → Prop} {d : DefRec} {x : Str} {sp : Sp}
    (hn : l.most = some n) (hn2 : n ≤ sizeLine) (hdf : d.params.defaults = []) (hr : L2.Room k callerA)
    (F : ∀ (w : World) (mg : Str → Option Value) (fa : Addr) (h : Heap), YP w h → h.Ns mainGlobals mg → mg d.name = some (.ref fa) →
      ∃ (K : PySem.W.Frag) (fd : FuncData) (cl : Nat → Addr), K.In h ∧ (∀ (s : Shared) (u : Value), BindsTo s fd ⟨[u], []⟩ [(x, u)]) ∧
        ∀ base : Heap, K.In base → base.Ns mainGlobals mg → FnOk l.prog w K mg base (L2.CX l.prog w) k fa fd [x] (Lsp cl K 1 sp))
    (hsp : ∀ ns : List Int, ns.length ≤ n → (∀ z ∈ ns, Builtin.Int.intBits z ≤ 1048576) → sp [.rol (ns.map D.int)] (fun _ => none) (fun d _ => d = .bl true) fun _ _ => False) :
    PySem.W.WalkO q loose XP YP l.row.toRowW d [] (fun f vs => PySem.call f vs) := by
  refine Att.attach_callB hn hdf fun w s₀ s₁ mg mb fa o pm cd doc a vs ns G Y ho hd hcd hmg hobj hints hlen hbits hg => ?_
  obtain ⟨K, fd, cl, KX, hb, hF⟩ := F w mg fa _ Y G.T.g hmg
  refine L2.law_call KX G.T.g G.T.b G.T.builtins G.T.nolimit hg hobj hints (Nat.le_trans hlen hn2) hr hF hb (fun H hO hS => ?_) fun H e s' z => ?_
  · refine ⟨[.rol (ns.map D.int)], fun _ => none, _, _, rfl, ⟨_, [], rfl, ⟨a, _, rfl, script_v hS hO, IsL.ints ns⟩, rfl⟩, (fun _ _ e => nomatch e), hsp ns hlen hbits, ?_, fun _ _ _ _ _ z => z.elim⟩
    intro d m' v H' hd hv _ _
    subst hd
    exact hv
  · obtain ⟨_, _, _, _, _, _, _, _, _, _, _, _, z⟩ := z
    exact z
end DL

namespace DL
theorem upd_none {m : Mem} {a p : Nat} {o : MO} (h : upd m a o p = none) : p ≠ a ∧ m p = none := by
  unfold upd at h
  split at h
  · cases h
  · rename_i e
    exact ⟨e, h⟩
theorem upd_comm {m : Mem} {a b : Nat} {o u : MO} (h : a ≠ b) : upd (upd m a o) b u = upd (upd m b u) a o := by
  funext x
  unfold upd
  by_cases e : x = a
  · rw [if_pos e]
    by_cases f : x = b
    · exact absurd (e.symm.trans f) h
    · rw [if_neg f, if_pos e]
  · rw [if_neg e, if_neg e]
theorem Sub.upd {m m' : Mem} {p : Nat} {o : MO} (h : Sub m m') : Sub (DL.upd m p o) (DL.upd m' p o) := fun a u e => by
  unfold DL.upd at e ⊢
  split at e
  · rename_i z
    rw [if_pos z]
    exact e
  · rename_i z
    rw [if_neg z]
    exact h a u e
theorem Sub.at {m m' : Mem} {p : Nat} {o : MO} (h : Sub m m') (e : m p = some o) : m' p = some o := h p o e
section
variable {g : Mem → Prop} {tg : D → St → Mem → (St → Mem → Prop) → Prop} {tc : St → Mem → (Bool → Mem → Prop) → Prop} {te : St → Mem → Kt → Prop} {σ : St} {k : List D → Mem → Prop}
theorem rLc_by : ∀ {items acc : List D} {m : Mem} (P : Nat → List D → Mem → Prop) (j : Nat), P j acc m →
    (∀ i d acc m (R : List D → Mem → Prop), items[i]? = some d → P (j + i) acc m → (∀ acc' m', P (j + i + 1) acc' m' → R acc' m') →
      g m ∧ tg d σ m fun σ1 m1 => tc σ1 m1 fun b m2 => (b = true → te σ1 m2 fun v m3 => ∃ m4, Sub m4 m3 ∧ R (acc ++ [v]) m4) ∧ (b = false → ∃ m4, Sub m4 m2 ∧ R acc m4)) →
    (∀ acc m, P (j + items.length) acc m → g m ∧ k acc m) → rLc g tg tc te σ items acc m k
  | [], acc, m, P, j, h0, hs, he => he acc m h0
  | d :: ds, acc, m, P, j, h0, hs, he => by
    have s := hs 0 d acc m (fun acc m => rLc g tg tc te σ ds acc m k) rfl h0 fun acc' m' h => rLc_by P (j + 1) h
      (fun i d acc m R e h r => hs (i + 1) d acc m R (by simpa using e) (by rw [show j + (i + 1) = j + 1 + i by omega]; exact h) (by rw [show j + (i + 1) + 1 = j + 1 + i + 1 by omega]; exact r))
      (fun acc m h => he acc m (by rw [show j + (d :: ds).length = j + 1 + ds.length by rw [List.length_cons]; omega]; exact h))
    exact s
/-- each item gives its value, the memory as it was -/
theorem rLc_map (f : D → D) {items : List D} {m : Mem} (hg : g m) (hs : ∀ d, d ∈ items → ∀ R : D → Mem → Prop, (∀ m3, Sub m m3 → R (f d) m3) → tg d σ m fun σ1 m1 => te σ1 m1 R) (he : k (items.map f) m) : rLc g tg (fun _ m k => k true m) te σ items [] m k := by
  refine rLc_by (fun i acc m' => m' = m ∧ acc = (items.take i).map f) 0 ⟨rfl, by simp⟩ (fun i d acc m' R e h r => ?_) fun acc m' h => ?_
  · obtain ⟨rfl, rfl⟩ := h
    refine ⟨hg, ?_⟩
    simp only [rT, forall_const, reduceCtorEq, false_implies, and_true, true_implies]
    refine hs d (List.mem_of_getElem? e) _ fun m3 sb => ⟨m', sb, r _ _ ⟨rfl, ?_⟩⟩
    rw [Nat.zero_add, List.take_add_one, e]
    simp
  · obtain ⟨rfl, rfl⟩ := h
    rw [Nat.zero_add, List.take_length]
    exact ⟨hg, he⟩
/-- .. those that pass -/
theorem rLc_fil (c : D → Bool) (f : D → D) {items : List D} {m : Mem} (hg : g m)
    (hs : ∀ d, d ∈ items → ∀ (R : D → Mem → Prop) (S : Mem → Prop), (c d = true → ∀ m3, Sub m m3 → R (f d) m3) → (c d = false → ∀ m3, Sub m m3 → S m3) → tg d σ m fun σ1 m1 => tc σ1 m1 fun b m2 => (b = true → te σ1 m2 R) ∧ (b = false → S m2)) (he : k ((items.filter c).map f) m) : rLc g tg tc te σ items [] m k := by
  refine rLc_by (fun i acc m' => m' = m ∧ acc = ((items.take i).filter c).map f) 0 ⟨rfl, by simp⟩ (fun i d acc m' R e h r => ?_) fun acc m' h => ?_
  · obtain ⟨rfl, rfl⟩ := h
    refine ⟨hg, hs d (List.mem_of_getElem? e) _ _ (fun ec m3 sb => ⟨m', sb, r _ _ ⟨rfl, ?_⟩⟩) fun ec m3 sb => ⟨m', sb, r _ _ ⟨rfl, ?_⟩⟩⟩
    · rw [Nat.zero_add, List.take_add_one, e]
      simp [ec]
    · rw [Nat.zero_add, List.take_add_one, e]
      simp [ec]
  · obtain ⟨rfl, rfl⟩ := h
    rw [Nat.zero_add, List.take_length]
    exact ⟨hg, he⟩
end
theorem rFor_by {g : Mem → Prop} {tg : D → St → Mem → (St → Mem → Prop) → Prop} {body : Ends → St → Mem → Prop} {Z : Ends} : ∀ {items : List D} {σ : St} {m : Mem} (P : Nat → St → Mem → Prop) (j : Nat), P j σ m →
    (∀ i d σ m (R : St → Mem → Prop), items[i]? = some d → P (j + i) σ m → (∀ σ' m', P (j + i + 1) σ' m' → R σ' m') →
      g m ∧ tg d σ m (body { nx := fun σ1 m1 => ∃ m2, Sub m2 m1 ∧ R σ1 m2, rt := Z.rt, bk := Z.nx, ct := fun σ1 m1 => ∃ m2, Sub m2 m1 ∧ R σ1 m2, ex := Z.ex })) →
    (∀ σ m, P (j + items.length) σ m → g m ∧ Z.nx σ m) → rFor g tg body Z items σ m
  | [], σ, m, P, j, h0, hs, he => he σ m h0
  | d :: ds, σ, m, P, j, h0, hs, he => by
    have s := hs 0 d σ m (fun σ m => rFor g tg body Z ds σ m) rfl h0 fun σ' m' h => rFor_by P (j + 1) h
      (fun i d σ m R e h r => hs (i + 1) d σ m R (by simpa using e) (by rw [show j + (i + 1) = j + 1 + i by omega]; exact h) (by rw [show j + (i + 1) + 1 = j + 1 + i + 1 by omega]; exact r))
      (fun σ m h => he σ m (by rw [show j + (d :: ds).length = j + 1 + ds.length by rw [List.length_cons]; omega]; exact h))
    exact s
theorem rWhl_by {c : XK → St → Mem → (Bool → Mem → Prop) → Prop} {body : Ends → St → Mem → Prop} {Z : Ends} (P : Nat → St → Mem → Prop)
    (hs : ∀ n σ m (R : St → Mem → Prop), P n σ m → (∀ j σ' m', j < n → P j σ' m' → R σ' m') →
      c Z.ex σ m fun p m1 => (p = true → body { nx := fun σ1 m2 => ∃ m3, Sub m3 m2 ∧ R σ1 m3, rt := Z.rt, bk := Z.nx, ct := fun σ1 m2 => ∃ m3, Sub m3 m2 ∧ R σ1 m3, ex := Z.ex } σ m1) ∧ (p = false → Z.nx σ m1)) :
    ∀ {n : Nat} {σ : St} {m : Mem}, P n σ m → ∀ N, n < N → rWhl c body Z N σ m := by
  intro n σ m h N hN
  induction N generalizing n σ m with
  | zero => omega
  | succ N ih => exact hs n σ m (fun σ m => rWhl c body Z N σ m) h fun j σ' m' hj h' => ih h' (by omega)
theorem rWhl_ex {c : XK → St → Mem → (Bool → Mem → Prop) → Prop} {body : Ends → St → Mem → Prop} {Z : Ends} (P : Nat → St → Mem → Prop) {n : Nat} {σ : St} {m : Mem} (h0 : P n σ m)
    (hs : ∀ n σ m (R : St → Mem → Prop), P n σ m → (∀ j σ' m', j < n → P j σ' m' → R σ' m') →
      c Z.ex σ m fun p m1 => (p = true → body { nx := fun σ1 m2 => ∃ m3, Sub m3 m2 ∧ R σ1 m3, rt := Z.rt, bk := Z.nx, ct := fun σ1 m2 => ∃ m3, Sub m3 m2 ∧ R σ1 m3, ex := Z.ex } σ m1) ∧ (p = false → Z.nx σ m1)) :
    ∃ N, rWhl c body Z N σ m := ⟨n + 1, rWhl_by P hs h0 _ (Nat.lt_succ_self n)⟩
theorem sget0 {o : Option D} {r : St} : sget (o :: r) 0 = o := rfl
theorem sgetS {o : Option D} {r : St} {n : Nat} : sget (o :: r) (n + 1) = sget r n := rfl
theorem rangeD_map {lo : Int} : ∀ n : Nat, rangeD lo 1 n = (List.range n).map fun i : Nat => D.int (lo + (i : Int)) := by
  intro n
  induction n generalizing lo with
  | zero => rfl
  | succ n ih =>
    rw [List.range_succ_eq_map, List.map_cons, List.map_map]
    show D.int lo :: rangeD (lo + 1) 1 n = _
    rw [ih]
    congr 1
    · simp
    · apply List.map_congr_left
      intro i _
      show D.int _ = D.int _
      congr 1
      show lo + 1 + (i : Int) = lo + ((i + 1 : Nat) : Int)
      omega
theorem rangeD_mem {lo : Int} {n : Nat} {d : D} (h : d ∈ rangeD lo 1 n) : ∃ i : Int, d = .int i ∧ lo ≤ i ∧ i < lo + n := by
  rw [rangeD_map] at h
  obtain ⟨i, hi, e⟩ := List.mem_map.mp h
  exact ⟨_, e.symm, by omega, by have := List.mem_range.mp hi; omega⟩
theorem sset0 {o : Option D} {r : St} {d : D} : sset (o :: r) 0 d = some d :: r := rfl
theorem ssetS {o : Option D} {r : St} {n : Nat} {d : D} : sset (o :: r) (n + 1) d = o :: sset r n d := rfl
theorem sw0 {o : Option D} {r : St} : swipe1 (o :: r) 0 = none :: r := rfl
theorem swS {o : Option D} {r : St} {n : Nat} : swipe1 (o :: r) (n + 1) = o :: swipe1 r n := rfl
theorem swN {σ : St} : swipe σ [] = σ := rfl
theorem swC {σ : St} {v : Nat} {vs : List Nat} : swipe σ (v :: vs) = swipe1 (swipe σ vs) v := rfl
section
variable {m : Mem} {k : Kt} {kb : Bool → Prop} {i j : Int} {a b : Nat} {x y d : D} {ds es : List D} {s t : List Nat} {p q : Bool}
theorem b_add : rBin .add (.int i) (.int j) m k = k (.int (i + j)) m := rfl
theorem b_sub : rBin .sub (.int i) (.int j) m k = k (.int (i - j)) m := rfl
theorem b_mul : rBin .mul (.int i) (.int j) m k = (((-(2 ^ 64) < i ∧ i < 2 ^ 64) ∨ (-(2 ^ 64) < j ∧ j < 2 ^ 64)) ∧ k (.int (i * j)) m) := rfl
theorem b_fdiv : rBin .fdiv (.int i) (.int j) m k = ((0 < j ∧ j < 2 ^ 200) ∧ k (.int (i / j)) m) := rfl
theorem b_mod : rBin .mod (.int i) (.int j) m k = (0 < j ∧ k (.int (i % j)) m) := rfl
theorem b_pow : rBin .pow (.int i) (.int j) m k = (((0 ≤ j ∧ j ≤ 1000000) ∧ i.natAbs < 2 ^ 64) ∧ k (.int (i ^ j.toNat)) m) := rfl
theorem b_adds : rBin .add (.str s) (.str t) m k = (s.length + t.length ≤ big ∧ k (.str (s ++ t)) m) := rfl
theorem b_addt : rBin .add (.tup ds) (.tup es) m k = (ds.length + es.length ≤ big ∧ k (.tup (ds ++ es)) m) := rfl
theorem b_addl {xs ys : List D} (h : m a = some (.lst xs)) (h' : m b = some (.lst ys)) : rBin .add (.ref a) (.ref b) m k ↔ xs.length + ys.length ≤ big ∧ New m (.lst (xs ++ ys)) k := by
  constructor
  · rintro ⟨us, vs, h1, h2, h3⟩
    rw [h] at h1
    cases h1
    rw [h'] at h2
    cases h2
    exact h3
  · exact fun h3 => ⟨xs, ys, h, h', h3⟩
theorem sl_lst {lo hi : Option Int} (h : m a = some (.lst ds)) : rSl (.ref a) lo hi m k = New m (.lst (cut ds lo hi)) k := by
  show (match m a with
    | some (.lst ds) => New m (.lst (cut ds lo hi)) k
    | _ => False) = _
  rw [h]
theorem sl_tup {lo hi : Option Int} : rSl (.tup ds) lo hi m k = k (.tup (cut ds lo hi)) m := rfl
theorem sl_rol {lo hi : Option Int} : rSl (.rol ds) lo hi m k = New m (.lst (cut ds lo hi)) k := rfl
theorem sl_str {lo hi : Option Int} : rSl (.str s) lo hi m k = (s.length ≤ big ∧ k (.str (cut s lo hi)) m) := rfl
theorem l_list (h : m a = some (.lst ds)) : rBlt .list [.ref a] m k ↔ New m (.lst ds) k := by
  have e : seqOf m (.ref a) = some ds := by
    show (match m a with
      | some (.lst ds) => some ds
      | _ => none) = some ds
    rw [h]
  constructor
  · rintro ⟨es, h1, h2⟩
    rw [e] at h1
    cases h1
    exact h2
  · exact fun h2 => ⟨ds, e, h2⟩
theorem b_muls : rBin .mul (.str s) (.int j) m k = ∃ c, s = [c] ∧ 0 ≤ j ∧ j ≤ 1000000 ∧ k (.str (List.replicate j.toNat c)) m := rfl
theorem c_lt : rCmp .lt (.int i) (.int j) m kb = kb (decide (i < j)) := rfl
theorem c_le : rCmp .le (.int i) (.int j) m kb = kb (decide (i ≤ j)) := rfl
theorem c_gt : rCmp .gt (.int i) (.int j) m kb = kb (decide (j < i)) := rfl
theorem c_ge : rCmp .ge (.int i) (.int j) m kb = kb (decide (j ≤ i)) := rfl
theorem c_eq0 : rCmp .eq x y m kb = rEq x y m kb := rfl
theorem c_ne0 : rCmp .ne x y m kb = rEq x y m fun b => kb (!b) := rfl
theorem c_in0 : rCmp .isin x y m kb = rIn x y m kb := rfl
theorem c_ni0 : rCmp .notin x y m kb = rIn x y m fun b => kb (!b) := rfl
theorem c_is0 : rCmp .is x y m kb = rIs x y kb := rfl
theorem c_isn0 : rCmp .isnot x y m kb = rIs x y fun b => kb (!b) := rfl
theorem F_int {m : Mem} {n : Nat} {f : F} {i : Int} (h : Opn m n (.int i) f) : f = .int i := by
  cases f <;> cases n <;> simp_all [Opn]
theorem F_bl {m : Mem} {n : Nat} {f : F} {i : Bool} (h : Opn m n (.bl i) f) : f = .bl i := by
  cases f <;> cases n <;> simp_all [Opn]
theorem F_non {m : Mem} {n : Nat} {f : F} (h : Opn m n .non f) : f = .non := by
  cases f <;> cases n <;> simp_all [Opn]
theorem e_int : rEq (.int i) (.int j) m kb ↔ kb (decide (i = j)) := by
  constructor
  · rintro (⟨_, _, h⟩ | ⟨f, g, hf, hg, h⟩)
    · exact h
    · rw [F_int hf, F_int hg] at h
      exact h
  · exact fun h => .inl ⟨rfl, rfl, h⟩
theorem e_bl : rEq (.bl p) (.bl q) m kb ↔ kb (decide (p = q)) := by
  have z : D.eqv (.bl p) (.bl q) = decide (p = q) := by cases p <;> cases q <;> rfl
  have z2 : F.eqv (.bl p) (.bl q) = decide (p = q) := by cases p <;> cases q <;> rfl
  constructor
  · rintro (⟨_, _, h⟩ | ⟨f, g, hf, hg, h⟩)
    · rw [z] at h
      exact h
    · rw [F_bl hf, F_bl hg, z2] at h
      exact h
  · exact fun h => .inl ⟨rfl, rfl, by rw [z]; exact h⟩
theorem e_str (hs : s.all (· < 1114112) = true) (ht : t.all (· < 1114112) = true) (h : kb (decide (s = t))) : rEq (.str s) (.str t) m kb := .inl ⟨hs, ht, by
  have z : D.eqv (.str s) (.str t) = decide (s = t) := by
    show (s == t) = _
    by_cases e : s = t <;> simp [e]
  rw [z]
  exact h⟩
theorem e_plain (hx : D.plain 60 x = true) (hy : D.plain 60 y = true) (h : kb (D.eqv x y)) : rEq x y m kb := .inl ⟨hx, hy, h⟩
theorem t_bl : rTru (.bl p) m kb = kb p := rfl
theorem t_int : rTru (.int i) m kb = kb (i != 0) := rfl
theorem t_non : rTru .non m kb = kb false := rfl
theorem t_tup : rTru (.tup ds) m kb = kb (!ds.isEmpty) := rfl
theorem t_rol : rTru (.rol ds) m kb = kb (!ds.isEmpty) := rfl
theorem t_ktup : rTru (.ktup ds) m kb = kb (!ds.isEmpty) := rfl
theorem t_str : rTru (.str s) m kb = (s.length ≤ big ∧ kb (!s.isEmpty)) := rfl
theorem t_lst (h : m a = some (.lst ds)) : rTru (.ref a) m kb = kb (!ds.isEmpty) := by
  show (match m a with
        | some (.lst ds) => kb (!ds.isEmpty)
        | some (.dK kvs) => kb (!kvs.isEmpty)
        | _ => False) = _
  rw [h]
theorem i_tup : rIx (.tup ds) (.int i) m k = ∃ d, atI ds i = some d ∧ k d m := rfl
theorem i_rol : rIx (.rol ds) (.int i) m k = ∃ d, atI ds i = some d ∧ k d m := rfl
theorem i_ktup : rIx (.ktup ds) (.int i) m k = ∃ d, atI ds i = some d ∧ k d m := rfl
theorem i_str : rIx (.str s) (.int i) m k = (s.length ≤ big ∧ ∃ c, atI s i = some c ∧ k (.str [c]) m) := rfl
theorem i_lst (h : m a = some (.lst ds)) : rIx (.ref a) (.int i) m k = ∃ d, atI ds i = some d ∧ k d m := by
  show (match m a, D.int i with
      | some (.lst ds), .int i => ∃ d, atI ds i = some d ∧ k d m
      | some (.dK kvs), i => keyK i = true ∧ ∃ d, getKey kvs i = some d ∧ k d m
      | some (.dT kvs), i => keyT i = true ∧ ∃ d, getKey kvs i = some d ∧ k d m
      | _, _ => False) = _
  rw [h]
theorem i_dK {kvs : List (D × D)} (h : m a = some (.dK kvs)) : rIx (.ref a) x m k = (keyK x = true ∧ ∃ d, getKey kvs x = some d ∧ k d m) := by
  show (match m a, x with
      | some (.lst ds), .int i => ∃ d, atI ds i = some d ∧ k d m
      | some (.dK kvs), i => keyK i = true ∧ ∃ d, getKey kvs i = some d ∧ k d m
      | some (.dT kvs), i => keyT i = true ∧ ∃ d, getKey kvs i = some d ∧ k d m
      | _, _ => False) = _
  rw [h]
theorem i_dT {kvs : List (D × D)} (h : m a = some (.dT kvs)) : rIx (.ref a) x m k = (keyT x = true ∧ ∃ d, getKey kvs x = some d ∧ k d m) := by
  show (match m a, x with
      | some (.lst ds), .int i => ∃ d, atI ds i = some d ∧ k d m
      | some (.dK kvs), i => keyK i = true ∧ ∃ d, getKey kvs i = some d ∧ k d m
      | some (.dT kvs), i => keyT i = true ∧ ∃ d, getKey kvs i = some d ∧ k d m
      | _, _ => False) = _
  rw [h]
theorem s_lst {v : D} {km : Mem → Prop} (h : m a = some (.lst ds)) : rSet (.ref a) (.int i) v m km = ∃ j, dIx ds.length i = some j ∧ km (upd m a (.lst (ds.set j v))) := by
  show (match m a, D.int i with
      | some (.lst ds), .int i => ∃ j, dIx ds.length i = some j ∧ km (upd m a (.lst (ds.set j v)))
      | some (.dK kvs), i => keyK i = true ∧ kvs.length < big ∧ km (upd m a (.dK (putKey kvs i v)))
      | some (.dT kvs), i => keyT i = true ∧ kvs.length < big ∧ km (upd m a (.dT (putKey kvs i v)))
      | _, _ => False) = _
  rw [h]
theorem s_dK {v : D} {km : Mem → Prop} {kvs : List (D × D)} (h : m a = some (.dK kvs)) : rSet (.ref a) x v m km = (keyK x = true ∧ kvs.length < big ∧ km (upd m a (.dK (putKey kvs x v)))) := by
  show (match m a, x with
      | some (.lst ds), .int i => ∃ j, dIx ds.length i = some j ∧ km (upd m a (.lst (ds.set j v)))
      | some (.dK kvs), i => keyK i = true ∧ kvs.length < big ∧ km (upd m a (.dK (putKey kvs i v)))
      | some (.dT kvs), i => keyT i = true ∧ kvs.length < big ∧ km (upd m a (.dT (putKey kvs i v)))
      | _, _ => False) = _
  rw [h]
theorem s_dT {v : D} {km : Mem → Prop} {kvs : List (D × D)} (h : m a = some (.dT kvs)) : rSet (.ref a) x v m km = (keyT x = true ∧ kvs.length < big ∧ km (upd m a (.dT (putKey kvs x v)))) := by
  show (match m a, x with
      | some (.lst ds), .int i => ∃ j, dIx ds.length i = some j ∧ km (upd m a (.lst (ds.set j v)))
      | some (.dK kvs), i => keyK i = true ∧ kvs.length < big ∧ km (upd m a (.dK (putKey kvs i v)))
      | some (.dT kvs), i => keyT i = true ∧ kvs.length < big ∧ km (upd m a (.dT (putKey kvs i v)))
      | _, _ => False) = _
  rw [h]
theorem l_tup : rBlt .len [.tup ds] m k = k (.int ds.length) m := rfl
theorem l_ktup : rBlt .len [.ktup ds] m k = k (.int ds.length) m := rfl
theorem l_rol : rBlt .len [.rol ds] m k = k (.int ds.length) m := rfl
theorem l_str : rBlt .len [.str s] m k = (s.length ≤ big ∧ k (.int s.length) m) := rfl
theorem l_lst (h : m a = some (.lst ds)) : rBlt .len [.ref a] m k = k (.int ds.length) m := by
  show (match m a with
        | some (.lst ds) => k (.int ds.length) m
        | some (.dK kvs) => k (.int kvs.length) m
        | some (.dT kvs) => k (.int kvs.length) m
        | _ => False) = _
  rw [h]
theorem l_int0 : rBlt .int [.bl p] m k = k (.int (if p then 1 else 0)) m := rfl
theorem l_int1 : rBlt .int [.int i] m k = k (.int i) m := rfl
theorem l_str1 : rBlt .str [.int i] m k = ((0 ≤ i ∧ i < 2 ^ 1900) ∧ k (.str (digN i.toNat)) m) := rfl
theorem l_max : rBlt .max2 [.int i, .int j] m k = k (.int (if j > i then j else i)) m := rfl
theorem l_min : rBlt .min2 [.int i, .int j] m k = k (.int (if j < i then j else i)) m := rfl
theorem l_all (h : m a = some (.lst (ds))) {bs : List Bool} (hb : allBl ds = some bs) : rBlt .all [.ref a] m k ↔ k (.bl (bs.all id)) m := by
  constructor
  · rintro ⟨es, cs, h1, h2, h3⟩
    have h1 : (match m a with
      | some (.lst ds) => some ds
      | _ => none) = some es := h1
    rw [h] at h1
    cases h1
    rw [hb] at h2
    cases h2
    exact h3
  · intro h3
    refine ⟨ds, bs, ?_, hb, h3⟩
    show (match m a with
      | some (.lst ds) => some ds
      | _ => none) = some ds
    rw [h]
theorem l_any (h : m a = some (.lst (ds))) {bs : List Bool} (hb : allBl ds = some bs) : rBlt .any [.ref a] m k ↔ k (.bl (bs.any id)) m := by
  constructor
  · rintro ⟨es, cs, h1, h2, h3⟩
    have h1 : (match m a with
      | some (.lst ds) => some ds
      | _ => none) = some es := h1
    rw [h] at h1
    cases h1
    rw [hb] at h2
    cases h2
    exact h3
  · intro h3
    refine ⟨ds, bs, ?_, hb, h3⟩
    show (match m a with
      | some (.lst ds) => some ds
      | _ => none) = some ds
    rw [h]
theorem allBl_map {α : Type} (f : α → Bool) (l : List α) : allBl (l.map fun x => D.bl (f x)) = some (l.map f) := by
  induction l with
  | nil => rfl
  | cons x l ih =>
    show (allBl (l.map fun x => D.bl (f x))).map (f x :: ·) = _
    rw [ih]
    rfl
theorem l_isI : rBlt .isInt [x] m k = rIsT .isInt x m fun b => k (.bl b) m := rfl
theorem l_isB : rBlt .isBool [x] m k = rIsT .isBool x m fun b => k (.bl b) m := rfl
theorem l_isS : rBlt .isStr [x] m k = rIsT .isStr x m fun b => k (.bl b) m := rfl
theorem l_isL : rBlt .isList [x] m k = rIsT .isList x m fun b => k (.bl b) m := rfl
theorem l_isT : rBlt .isTuple [x] m k = rIsT .isTuple x m fun b => k (.bl b) m := rfl
theorem l_isD : rBlt .isDict [x] m k = rIsT .isDict x m fun b => k (.bl b) m := rfl
theorem y_int {c : Blt} : rIsT c (.int i) m kb = isTy c .isInt kb := rfl
theorem y_bl {c : Blt} : rIsT c (.bl p) m kb = isTy c .isBool kb := rfl
theorem y_str {c : Blt} : rIsT c (.str s) m kb = isTy c .isStr kb := rfl
theorem y_tup {c : Blt} : rIsT c (.tup ds) m kb = isTy c .isTuple kb := rfl
theorem y_ktup {c : Blt} : rIsT c (.ktup ds) m kb = isTy c .isTuple kb := rfl
theorem y_non {c : Blt} : rIsT c .non m kb = isTy c .len kb := rfl
theorem y_lst {c : Blt} (h : m a = some (.lst ds)) : rIsT c (.ref a) m kb = isTy c .isList kb := by
  show (match m a with
    | some (.lst _) => isTy c .isList kb
    | some (.dK _) => isTy c .isDict kb
    | some (.dT _) => isTy c .isDict kb
    | _ => False) = _
  rw [h]
theorem m_app {v : D} (h : m a = some (.lst ds)) : rBm .append (.ref a) [v] m k = (ds.length < big ∧ k .non (upd m a (.lst (ds ++ [v])))) := by
  show (match m a with
    | some (.lst ds) => ds.length < big ∧ k .non (upd m a (.lst (ds ++ [v])))
    | _ => False) = _
  rw [h]
theorem m_ok {c : Bm} (hc : c = .append ∨ c = .extend ∨ c = .pop) (h : m a = some (.lst ds)) : bmOk c (.ref a) m = True := by
  have : okLst (.ref a) m = True := by
    show (match m a with
      | some (.lst _) => True
      | _ => False) = _
    rw [h]
  rcases hc with rfl | rfl | rfl <;> exact this
theorem it_rol {kk : (Mem → Prop) → List D → Prop} : iter (.rol ds) m kk = kk gTrue ds := rfl
theorem it_tup {kk : (Mem → Prop) → List D → Prop} : iter (.tup ds) m kk = kk gTrue ds := rfl
theorem it_ktup {kk : (Mem → Prop) → List D → Prop} : iter (.ktup ds) m kk = kk gTrue ds := rfl
theorem it_str {kk : (Mem → Prop) → List D → Prop} : iter (.str s) m kk = kk gTrue (s.map fun c => .str [c]) := rfl
theorem it_lst {kk : (Mem → Prop) → List D → Prop} (h : m a = some (.lst ds)) : iter (.ref a) m kk = kk (gLst a ds) ds := by
  show (match m a with
      | some (.lst ds) => kk (gLst a ds) ds
      | _ => False) = _
  rw [h]
end
def boxB : Sms := (.c (.set 2 (.bin .add (.bin .mul (.int 7919) (.var 1)) (.int 11)))
  (.c (.ite (.cmp .lt (.var 1) (.blt .len (.c (.var 0) .n))) (.c (.set 2 (.ix (.var 0) (.var 1)))
  .n) (.c (.ite (.cmp .gt (.blt .len (.c (.var 0) .n)) (.int 0)) (.c (.set 2 (.bin .add (.var 2) (.bin .mul (.bin .mod (.ix (.var 0) (.bin .mod (.var 1) (.blt .len (.c (.var 0) .n)))) (.int 2147483629)) (.int 69621))))
  .n) .n)
  .n))
  (.c (.set 3 (.bin .add (.bin .mod (.bin .add (.bin .mul (.bin .mod (.var 2) (.int 2147483629)) (.int 48271)) (.bin .mul (.int 40692) (.var 1))) (.int 2147483646)) (.int 1)))
  (.c (.ret (.lst (.c (.bin .mul (.var 2) (.blt .int (.c (.cmp .ge (.var 2) (.bin .pow (.int 10) (.int 18))) .n))) (.c (.var 3) .n))))
  .n))))
/-- a box: a number that is used up, a seed -/
def BoxAt (m : Mem) (p : Nat) : Prop := ∃ a s : Int, m p = some (.lst [.int a, .int s]) ∧ 0 ≤ a ∧ 1 ≤ s ∧ s < 2 ^ 31
def spBox : Sp := fun ds m k _ => ∃ (ns : List Int) (i : Int), ds = [.rol (ns.map D.int), .int i] ∧ 0 ≤ i ∧ i < 2 ^ 62 ∧ ∀ p a s, m p = none → 0 ≤ a → 1 ≤ s → s < 2 ^ 31 → k (.ref p) (upd m p (.lst [.int a, .int s]))
theorem atI_ints {ns : List Int} {i : Int} (h0 : 0 ≤ i) (h : i < ns.length) : ∃ z, atI (ns.map D.int) i = some (.int z) := by
  unfold atI dIx
  rw [if_pos h0, List.length_map, if_pos h]
  have : i.toNat < ns.length := by omega
  exact ⟨ns[i.toNat], by simp [this]⟩
theorem p18 : (10 : Int) ^ Int.toNat 18 = 1000000000000000000 := rfl
theorem p9 : (10 : Int) ^ Int.toNat 9 = 1000000000 := rfl
theorem p40 : (2 : Int) ^ Int.toNat 40 = 1099511627776 := rfl
theorem box_cell {z : Int} : 0 ≤ z * (if 1000000000000000000 ≤ z then 1 else 0) := by
  split <;> omega
theorem kp_box {Γ : En} : Keeps Γ 4 boxB spBox := by
  rintro ds m k X ⟨ns, i, rfl, h0, h1, hk⟩
  show rSs Γ boxB _ [some _, some _, none, none] m
  simp only [boxB, rSs, rS, rE, rEs, rT, rP, rSrc, rTg, rCh, sget0, sgetS, sset0, ssetS, sw0, swS, swN, swC, b_add, b_sub, b_mul, b_fdiv, b_mod, b_pow, b_adds, b_addt, b_muls, c_lt, c_le, c_gt, c_ge, c_eq0, c_ne0, c_in0, c_ni0, c_is0, c_isn0, e_int, e_bl, t_bl, t_int, t_non, t_tup, t_rol, t_ktup, t_str, i_tup, i_rol, i_ktup, i_str, l_tup, l_ktup, l_rol, l_str, l_int0, l_int1, l_str1, l_max, l_min, sl_tup, sl_rol, sl_str, y_int, y_bl, y_str, y_tup, y_ktup, y_non, it_rol, it_tup, it_ktup, it_str, decide_eq_true_eq, decide_eq_false_iff_not, reduceCtorEq, false_implies, true_implies, forall_const, and_true, true_and, List.length_map, l_isI, l_isB, l_isS, l_isL, l_isT, l_isD, isTy, decide_true, decide_false, Bool.or_false, Bool.false_or, Bool.true_or, Bool.or_true, Bool.not_true, Bool.not_false, Bool.false_eq_true, Bool.true_eq_false, Bool.not_eq_true', Bool.not_eq_false', ne_eq, not_true_eq_false, not_false_eq_true, D.int.injEq, D.str.injEq, Option.some.injEq, exists_eq_left', exists_eq_left]
  have one : ∀ z : Int, (-2 ^ 64 < z ∧ z < 2 ^ 64 ∨ -2 ^ 64 < (if (1000000000000000000 : Int) ≤ z then (1 : Int) else 0) ∧ (if (1000000000000000000 : Int) ≤ z then (1 : Int) else 0) < 2 ^ 64) := fun z => .inr (by split <;> decide)
  have fin : ∀ z s : Int, ∀ p, m p = none → ∃ m2, Sub m2 (upd m p (.lst [.int (z * if 1000000000000000000 ≤ z then 1 else 0), .int (s % 2147483646 + 1)])) ∧ k (.ref p) m2 := fun z s p hp =>
    ⟨_, Sub.refl _, hk p _ _ hp box_cell (by omega) (by omega)⟩
  refine ⟨.inl (by decide), fun h => ?_, fun h => ⟨fun h2 => ⟨h2, ?_⟩, fun h2 => ?_⟩⟩
  · obtain ⟨z, hz⟩ := atI_ints h0 h
    refine ⟨_, hz, ?_⟩
    simp only [rSs, rS, rE, rEs, rT, rP, rSrc, rTg, rCh, sget0, sgetS, sset0, ssetS, sw0, swS, swN, swC, b_add, b_sub, b_mul, b_fdiv, b_mod, b_pow, b_adds, b_addt, b_muls, c_lt, c_le, c_gt, c_ge, c_eq0, c_ne0, c_in0, c_ni0, c_is0, c_isn0, e_int, e_bl, t_bl, t_int, t_non, t_tup, t_rol, t_ktup, t_str, i_tup, i_rol, i_ktup, i_str, l_tup, l_ktup, l_rol, l_str, l_int0, l_int1, l_str1, l_max, l_min, sl_tup, sl_rol, sl_str, y_int, y_bl, y_str, y_tup, y_ktup, y_non, it_rol, it_tup, it_ktup, it_str, decide_eq_true_eq, decide_eq_false_iff_not, reduceCtorEq, false_implies, true_implies, forall_const, and_true, true_and, List.length_map, l_isI, l_isB, l_isS, l_isL, l_isT, l_isD, isTy, decide_true, decide_false, Bool.or_false, Bool.false_or, Bool.true_or, Bool.or_true, Bool.not_true, Bool.not_false, Bool.false_eq_true, Bool.true_eq_false, Bool.not_eq_true', Bool.not_eq_false', ne_eq, not_true_eq_false, not_false_eq_true, D.int.injEq, D.str.injEq, Option.some.injEq, exists_eq_left', exists_eq_left, p18]
    exact ⟨by decide, .inr (by decide), .inl (by decide), by decide, by decide, one z, fin z _⟩
  · obtain ⟨z, hz⟩ := atI_ints (ns := ns) (Int.emod_nonneg i (show (ns.length : Int) ≠ 0 by omega)) (Int.emod_lt_of_pos i h2)
    refine ⟨_, hz, ?_⟩
    simp only [rSs, rS, rE, rEs, rT, rP, rSrc, rTg, rCh, sget0, sgetS, sset0, ssetS, sw0, swS, swN, swC, b_add, b_sub, b_mul, b_fdiv, b_mod, b_pow, b_adds, b_addt, b_muls, c_lt, c_le, c_gt, c_ge, c_eq0, c_ne0, c_in0, c_ni0, c_is0, c_isn0, e_int, e_bl, t_bl, t_int, t_non, t_tup, t_rol, t_ktup, t_str, i_tup, i_rol, i_ktup, i_str, l_tup, l_ktup, l_rol, l_str, l_int0, l_int1, l_str1, l_max, l_min, sl_tup, sl_rol, sl_str, y_int, y_bl, y_str, y_tup, y_ktup, y_non, it_rol, it_tup, it_ktup, it_str, decide_eq_true_eq, decide_eq_false_iff_not, reduceCtorEq, false_implies, true_implies, forall_const, and_true, true_and, List.length_map, l_isI, l_isB, l_isS, l_isL, l_isT, l_isD, isTy, decide_true, decide_false, Bool.or_false, Bool.false_or, Bool.true_or, Bool.or_true, Bool.not_true, Bool.not_false, Bool.false_eq_true, Bool.true_eq_false, Bool.not_eq_true', Bool.not_eq_false', ne_eq, not_true_eq_false, not_false_eq_true, D.int.injEq, D.str.injEq, Option.some.injEq, exists_eq_left', exists_eq_left, p18]
    exact ⟨by decide, .inr (by decide), by decide, .inr (by decide), .inl (by decide), by decide, by decide, one _, fin _ _⟩
  · simp only [p18]
    exact ⟨by decide, .inr (by decide), .inl (by decide), by decide, by decide, one _, fin _ _⟩
def takeB : Sms := (.c (.ite (.cmp .gt (.ix (.var 0) (.int 0)) (.int 0)) (.c (.set 4 (.bin .mod (.ix (.var 0) (.int 0)) (.var 1)))
  (.c (.setIx (.var 0) (.int 0) (.bin .fdiv (.ix (.var 0) (.int 0)) (.var 1)))
  (.c (.ret (.var 4))
  .n))) .n)
  (.c (.set 2 (.bin .mod (.bin .mul (.ix (.var 0) (.int 1)) (.int 69621)) (.int 2147483647)))
  (.c (.setIx (.var 0) (.int 1) (.bin .add (.bin .mod (.bin .add (.bin .mul (.var 2) (.int 48271)) (.int 30103)) (.int 2147483646)) (.int 1)))
  (.c (.set 3 (.bin .fdiv (.bin .add (.bin .mul (.var 2) (.int 2147483647)) (.ix (.var 0) (.int 1))) (.int 8191)))
  (.c (.ite (.cmp .gt (.var 1) (.bin .pow (.int 10) (.int 9))) (.c (.set 3 (.bin .mul (.var 3) (.var 3)))
  .n) .n)
  (.c (.ret (.bin .mod (.var 3) (.var 1)))
  .n))))))
def spTake : Sp := fun ds m k _ => ∃ (p : Nat) (a s w : Int), ds = [.ref p, .int w] ∧ m p = some (.lst [.int a, .int s]) ∧ 0 ≤ a ∧ 1 ≤ s ∧ s < 2 ^ 31 ∧ 0 < w ∧ w < 2 ^ 200 ∧
  ∀ a' s' d, 0 ≤ a' → 1 ≤ s' → s' < 2 ^ 31 → 0 ≤ d → d < w → k (.int d) (upd m p (.lst [.int a', .int s']))
theorem atI0 {α : Type} {x : α} {xs : List α} : atI (x :: xs) 0 = some x := by
  unfold atI dIx
  rw [if_pos (by decide), if_pos (by rw [List.length_cons]; omega)] <;> rfl
theorem atI1 {α : Type} {x y : α} {xs : List α} : atI (x :: y :: xs) 1 = some y := by
  unfold atI dIx
  rw [if_pos (by decide), if_pos (by rw [List.length_cons, List.length_cons]; omega)] <;> rfl
theorem kp_take {Γ : En} : Keeps Γ 5 takeB spTake := by
  rintro ds m k X ⟨p, a, s, w, rfl, hm, h0, h1, h2, h3, h4, hk⟩
  show rSs Γ takeB _ [some _, some _, none, none, none] m
  simp only [takeB, rSs, rS, rE, rEs, rT, rP, rSrc, rTg, rCh, sget0, sgetS, sset0, ssetS, sw0, swS, swN, swC, b_add, b_sub, b_mul, b_fdiv, b_mod, b_pow, b_adds, b_addt, b_muls, c_lt, c_le, c_gt, c_ge, c_eq0, c_ne0, c_in0, c_ni0, c_is0, c_isn0, e_int, e_bl, t_bl, t_int, t_non, t_tup, t_rol, t_ktup, t_str, i_tup, i_rol, i_ktup, i_str, l_tup, l_ktup, l_rol, l_str, l_int0, l_int1, l_str1, l_max, l_min, sl_tup, sl_rol, sl_str, y_int, y_bl, y_str, y_tup, y_ktup, y_non, it_rol, it_tup, it_ktup, it_str, decide_eq_true_eq, decide_eq_false_iff_not, reduceCtorEq, false_implies, true_implies, forall_const, and_true, true_and, List.length_map, l_isI, l_isB, l_isS, l_isL, l_isT, l_isD, isTy, decide_true, decide_false, Bool.or_false, Bool.false_or, Bool.true_or, Bool.or_true, Bool.not_true, Bool.not_false, Bool.false_eq_true, Bool.true_eq_false, Bool.not_eq_true', Bool.not_eq_false', ne_eq, not_true_eq_false, not_false_eq_true, D.int.injEq, D.str.injEq, Option.some.injEq, exists_eq_left', exists_eq_left, i_lst hm, s_lst hm, atI0, atI1, Option.some.injEq, exists_eq_left', p9]
  refine ⟨fun ha => ⟨h3, ⟨h3, h4⟩, 0, rfl, _, Sub.refl _, ?_⟩, fun ha => ⟨.inr (by decide), by decide, .inr (by decide), by decide, 1, rfl, .inr (by decide), ?_⟩⟩
  · exact hk (a / w) s (a % w) (Int.ediv_nonneg h0 (by omega)) h1 h2 (Int.emod_nonneg _ (by omega)) (Int.emod_lt_of_pos _ h3)
  · have g0 : 0 ≤ s * 69621 % 2147483647 := by omega
    have g1 : s * 69621 % 2147483647 < 2147483647 := by omega
    generalize s * 69621 % 2147483647 = u at g0 g1 ⊢
    have g2 : 1 ≤ (u * 48271 + 30103) % 2147483646 + 1 := by omega
    have g3 : (u * 48271 + 30103) % 2147483646 + 1 < 2 ^ 31 := by omega
    generalize (u * 48271 + 30103) % 2147483646 + 1 = v at g2 g3 ⊢
    rw [i_lst (upd_same (m := m) (a := p))]
    simp only [List.set, rSs, rS, rE, rEs, rT, rP, rSrc, rTg, rCh, sget0, sgetS, sset0, ssetS, sw0, swS, swN, swC, b_add, b_sub, b_mul, b_fdiv, b_mod, b_pow, b_adds, b_addt, b_muls, c_lt, c_le, c_gt, c_ge, c_eq0, c_ne0, c_in0, c_ni0, c_is0, c_isn0, e_int, e_bl, t_bl, t_int, t_non, t_tup, t_rol, t_ktup, t_str, i_tup, i_rol, i_ktup, i_str, l_tup, l_ktup, l_rol, l_str, l_int0, l_int1, l_str1, l_max, l_min, sl_tup, sl_rol, sl_str, y_int, y_bl, y_str, y_tup, y_ktup, y_non, it_rol, it_tup, it_ktup, it_str, decide_eq_true_eq, decide_eq_false_iff_not, reduceCtorEq, false_implies, true_implies, forall_const, and_true, true_and, List.length_map, l_isI, l_isB, l_isS, l_isL, l_isT, l_isD, isTy, decide_true, decide_false, Bool.or_false, Bool.false_or, Bool.true_or, Bool.or_true, Bool.not_true, Bool.not_false, Bool.false_eq_true, Bool.true_eq_false, Bool.not_eq_true', Bool.not_eq_false', ne_eq, not_true_eq_false, not_false_eq_true, D.int.injEq, D.str.injEq, Option.some.injEq, exists_eq_left', exists_eq_left, atI1, Option.some.injEq, exists_eq_left']
    have fin : ∀ x : Int, ∃ m2, Sub m2 (upd m p (MO.lst [.int a, .int v])) ∧ k (.int (x % w)) m2 := fun x => ⟨_, Sub.refl _, hk a v (x % w) h0 g2 g3 (Int.emod_nonneg _ (by omega)) (Int.emod_lt_of_pos _ h3)⟩
    have b0 : 0 ≤ (u * 2147483647 + v) / 8191 := by omega
    have b1 : (u * 2147483647 + v) / 8191 < 2 ^ 64 := by omega
    exact ⟨by decide, by decide, fun _ => ⟨.inl ⟨by omega, b1⟩, h3, fin _⟩, fun _ => ⟨h3, fin _⟩⟩
theorem opns_ints {m : Mem} (n : Nat) : ∀ ns : List Int, Opns m n (ns.map D.int) (ns.map F.int)
  | [] => trivial
  | i :: ns => ⟨by cases n <;> exact rfl, opns_ints n ns⟩
theorem opn_ints {m : Mem} {a : Nat} {ns : List Int} (h : m a = some (.lst (ns.map D.int))) (n : Nat) : Opn m (n + 1) (.ref a) (.lst (ns.map F.int)) := ⟨_, h, opns_ints n ns⟩
theorem feqv_ints : ∀ ns ms : List Int, F.eqvs (ns.map F.int) (ms.map F.int) = decide (ns = ms)
  | [], [] => rfl
  | [], _ :: _ => rfl
  | _ :: _, [] => rfl
  | a :: as, b :: bs => by
    show ((a == b) && F.eqvs (as.map F.int) (bs.map F.int)) = _
    rw [feqv_ints as bs]
    by_cases e : a = b <;> simp [e]
theorem e_ints {m : Mem} {a b : Nat} {ns ms : List Int} {kb : Bool → Prop} (h : m a = some (.lst (ns.map D.int))) (h' : m b = some (.lst (ms.map D.int))) (hk : kb (decide (ns = ms))) : rEq (.ref a) (.ref b) m kb :=
  .inr ⟨_, _, opn_ints h 59, opn_ints h' 59, by
    rw [show F.eqv (.lst (ns.map F.int)) (.lst (ms.map F.int)) = decide (ns = ms) from feqv_ints ns ms]
    exact hk⟩
theorem atI_get {α : Type} {xs : List α} {i : Int} (h0 : 0 ≤ i) (h : i < xs.length) : atI xs i = xs[i.toNat]? := by
  unfold atI dIx
  rw [if_pos h0, if_pos h]
  rfl
/-- a test that is false, dropped -/
theorem all_true {α : Type} (l : List α) : (l.map fun _ => true).all id = true := by
  induction l with
  | nil => rfl
  | cons x l ih =>
    rw [List.map_cons, List.all_cons, ih] <;> rfl
def BoxO (b : MO) : Prop := ∃ a s : Int, b = .lst [.int a, .int s] ∧ 0 ≤ a ∧ 1 ≤ s ∧ s < 2 ^ 31
theorem Keeps.imp {Γ : En} {n : Nat} {b : Sms} {sp sp' : Sp} (h : Keeps Γ n b sp) (i : ∀ ds m k X, sp' ds m k X → sp ds m k X) : Keeps Γ n b sp' := fun ds m k X q => h ds m k X (i _ _ _ _ q)
abbrev spBoxO : Sp := fun ds m k _ => ∃ (ns : List Int) (i : Int), ds = [.rol (ns.map D.int), .int i] ∧ 0 ≤ i ∧ i < 2 ^ 62 ∧ ∀ b, BoxO b → New m b k
abbrev spTakeO : Sp := fun ds m k _ => ∃ (p : Nat) (b : MO) (w : Int), ds = [.ref p, .int w] ∧ m p = some b ∧ BoxO b ∧ 0 < w ∧ w < 2 ^ 200 ∧ ∀ b' d, BoxO b' → 0 ≤ d → d < w → k (.int d) (upd m p b')
theorem kp_boxO {Γ : En} : Keeps Γ 4 boxB spBoxO := kp_box.imp fun ds m k X ⟨ns, i, e, h0, h1, hk⟩ => ⟨ns, i, e, h0, h1, fun p a s hp h2 h3 h4 => hk _ ⟨a, s, rfl, h2, h3, h4⟩ p hp⟩
theorem kp_takeO {Γ : En} : Keeps Γ 5 takeB spTakeO := kp_take.imp fun ds m k X ⟨p, b, w, e, hm, ⟨a, s, eb, h0, h1, h2⟩, h3, h4, hk⟩ =>
  ⟨p, a, s, w, e, eb ▸ hm, h0, h1, h2, h3, h4, fun a' s' d h5 h6 h7 h8 h9 => hk _ d ⟨a', s', rfl, h5, h6, h7⟩ h8 h9⟩
theorem dSx0 {n d : Nat} : dSx n d none = d := rfl
theorem dSx1 {n d : Nat} {i : Int} (h : 0 ≤ i) : dSx n d (some i) = min i.toNat n := if_neg (by omega)
theorem cut_from {α : Type} {xs : List α} {i : Int} (h0 : 0 ≤ i) : cut xs (some i) none = xs.drop i.toNat := by
  unfold cut
  rw [dSx0, dSx1 h0]
  by_cases h : i.toNat ≤ xs.length
  · rw [Nat.min_eq_left h]
    exact List.take_of_length_le (by rw [List.length_drop]; exact Nat.le_refl _)
  · rw [Nat.min_eq_right (by omega), List.drop_of_length_le (Nat.le_refl _), List.drop_of_length_le (by omega)]
    simp
theorem cut_to {α : Type} {xs : List α} {i : Int} (h0 : 0 ≤ i) : cut xs none (some i) = xs.take i.toNat := by
  unfold cut
  rw [dSx0, dSx1 h0, List.drop_zero, Nat.sub_zero]
  by_cases h : i.toNat ≤ xs.length
  · rw [Nat.min_eq_left h]
  · rw [Nat.min_eq_right (by omega), List.take_of_length_le (Nat.le_refl _), List.take_of_length_le (by omega)]
end DL

namespace DL
def onInt (f : Int → Bool) : D → Bool
  | .int i => f i
  | _ => false
def mpInt (f : Int → Int) : D → D
  | .int i => .int (f i)
  | d => d
theorem fil_ints (f : Int → Bool) (xs : List Int) : (xs.map D.int).filter (onInt f) = (xs.filter f).map D.int := by
  induction xs with
  | nil => rfl
  | cons x xs ih =>
    rw [List.map_cons, List.filter_cons, List.filter_cons, ih]
    show (if f x = true then _ else _) = _
    by_cases e : f x = true <;> simp [e]
theorem map_ints (f : Int → Int) (xs : List Int) : (xs.map D.int).map (mpInt f) = (xs.map f).map D.int := by
  rw [List.map_map, List.map_map]
  rfl
/-- lo, lo + 1, .. -/
def rg (lo : Int) (n : Nat) : List Int := (List.range n).map fun i : Nat => lo + (i : Int)
theorem rangeD_rg (lo : Int) (n : Nat) : rangeD lo 1 n = (rg lo n).map D.int := by
  rw [rangeD_map]
  unfold rg
  rw [List.map_map]
  rfl
theorem rg_len (lo : Int) (n : Nat) : (rg lo n).length = n := by simp [rg]
theorem rg_mem {lo x : Int} {n : Nat} : x ∈ rg lo n ↔ lo ≤ x ∧ x < lo + n := by
  unfold rg
  rw [List.mem_map]
  constructor
  · rintro ⟨i, hi, rfl⟩
    have := List.mem_range.mp hi
    omega
  · intro h
    exact ⟨(x - lo).toNat, List.mem_range.mpr (by omega), by omega⟩
section
variable {g : Mem → Prop} {tg : D → St → Mem → (St → Mem → Prop) → Prop} {tc : St → Mem → (Bool → Mem → Prop) → Prop} {te : St → Mem → Kt → Prop} {σ : St} {k : List D → Mem → Prop}
theorem rLc_ints (c : Int → Bool) (f : Int → Int) {xs : List Int} {m : Mem} (hg : g m)
    (hs : ∀ i, i ∈ xs → ∀ (R : D → Mem → Prop) (S : Mem → Prop), (c i = true → ∀ m3, Sub m m3 → R (.int (f i)) m3) → (c i = false → ∀ m3, Sub m m3 → S m3) → tg (.int i) σ m fun σ1 m1 => tc σ1 m1 fun b m2 => (b = true → te σ1 m2 R) ∧ (b = false → S m2))
    (he : k (((xs.filter c).map f).map D.int) m) : rLc g tg tc te σ (xs.map D.int) [] m k := by
  refine rLc_fil (onInt c) (mpInt f) hg (fun d hd R S hR hS => ?_) (by rw [fil_ints, map_ints]; exact he)
  obtain ⟨i, hi, rfl⟩ := List.mem_map.mp hd
  exact hs i hi R S hR hS
theorem rLc_intsM (f : Int → Int) {xs : List Int} {m : Mem} (hg : g m)
    (hs : ∀ i, i ∈ xs → ∀ (R : D → Mem → Prop), (∀ m3, Sub m m3 → R (.int (f i)) m3) → tg (.int i) σ m fun σ1 m1 => te σ1 m1 R)
    (he : k ((xs.map f).map D.int) m) : rLc g tg (fun _ m k => k true m) te σ (xs.map D.int) [] m k := by
  refine rLc_map (mpInt f) hg (fun d hd R hR => ?_) (by rw [map_ints]; exact he)
  obtain ⟨i, hi, rfl⟩ := List.mem_map.mp hd
  exact hs i hi R hR
/-- a comprehension of truths that are all true -/
theorem rLc_allT {xs : List D} {m : Mem} (hg : g m) (hs : ∀ d, d ∈ xs → ∀ (R : D → Mem → Prop), (∀ m3, Sub m m3 → R (.bl true) m3) → tg d σ m fun σ1 m1 => te σ1 m1 R)
    (he : k (xs.map fun _ => D.bl true) m) : rLc g tg (fun _ m k => k true m) te σ xs [] m k := rLc_map (fun _ => .bl true) hg (fun d hd R hR => hs d hd R hR) he
end
theorem allBl_true (l : List D) : allBl (l.map fun _ => D.bl true) = some (l.map fun _ => true) := by
  induction l with
  | nil => rfl
  | cons x l ih =>
    show (allBl (l.map fun _ => D.bl true)).map (true :: ·) = _
    rw [ih] <;> rfl
/-- all of truths that are true -/
theorem new_all {m : Mem} {l : List D} {k : Kt} (h : ∀ M, Sub m M → k (.bl true) M) : New m (.lst (l.map fun _ => D.bl true)) fun d m1 => rBlt .all [d] m1 k := fun p hp => (l_all upd_same (allBl_true l)).mpr (by rw [all_true]; exact h _ (Sub.new hp))

def wholeB : Sms := (.c (.ret (.and (.blt .isInt (.c (.var 0) .n)) (.not (.blt .isBool (.c (.var 0) .n)))))
  .n)
abbrev spWhole : Sp := fun ds m k _ => ∃ n : Int, ds = [.int n] ∧ k (.bl true) m
theorem kp_whole {Γ : En} : Keeps Γ 1 wholeB spWhole := by
  rintro ds m k X ⟨n, rfl, hk⟩
  show rSs Γ wholeB _ [some _] m
  simp only [wholeB, rSs, rS, rE, rEs, rT, rP, rSrc, rTg, rCh, sget0, sgetS, sset0, ssetS, sw0, swS, swN, swC, b_add, b_sub, b_mul, b_fdiv, b_mod, b_pow, b_adds, b_addt, b_muls, c_lt, c_le, c_gt, c_ge, c_eq0, c_ne0, c_in0, c_ni0, c_is0, c_isn0, e_int, e_bl, t_bl, t_int, t_non, t_tup, t_rol, t_ktup, t_str, i_tup, i_rol, i_ktup, i_str, l_tup, l_ktup, l_rol, l_str, l_int0, l_int1, l_str1, l_max, l_min, sl_tup, sl_rol, sl_str, y_int, y_bl, y_str, y_tup, y_ktup, y_non, it_rol, it_tup, it_ktup, it_str, decide_eq_true_eq, decide_eq_false_iff_not, reduceCtorEq, false_implies, true_implies, forall_const, and_true, true_and, List.length_map, l_isI, l_isB, l_isS, l_isL, l_isT, l_isD, isTy, decide_true, decide_false, Bool.or_false, Bool.false_or, Bool.true_or, Bool.or_true, Bool.not_true, Bool.not_false, Bool.false_eq_true, Bool.true_eq_false, Bool.not_eq_true', Bool.not_eq_false', ne_eq, not_true_eq_false, not_false_eq_true, D.int.injEq, D.str.injEq, Option.some.injEq, exists_eq_left', exists_eq_left]
  exact ⟨_, Sub.refl _, hk⟩
def isRowB (w : Nat) : Sms := (.c (.ite (.not (.blt .isList (.c (.var 0) .n))) (.c (.ret (.bl false))
  .n) .n)
  (.c (.ret (.blt .all (.c (.lc [1] (.name 1) (.of (.var 0)) (.bl true) (.call w (.c (.var 1) .n))) .n)))
  .n))
abbrev spIsRow : Sp := fun ds m k _ => ∃ (p : Nat) (ns : List Int), ds = [.ref p] ∧ m p = some (.lst (ns.map D.int)) ∧ ns.length ≤ big ∧ k (.bl true) m
theorem kp_isRow {Γ : En} {w : Nat} (hw : Γ.fn w = spWhole) : Keeps Γ 2 (isRowB w) spIsRow := by
  rintro ds m k X ⟨p, ns, rfl, hm, hl, hk⟩
  show rSs Γ (isRowB w) _ [some _, none] m
  simp only [isRowB, rSs, rS, rE, rEs, rT, rP, rSrc, rTg, rCh, sget0, sgetS, sset0, ssetS, sw0, swS, swN, swC, b_add, b_sub, b_mul, b_fdiv, b_mod, b_pow, b_adds, b_addt, b_muls, c_lt, c_le, c_gt, c_ge, c_eq0, c_ne0, c_in0, c_ni0, c_is0, c_isn0, e_int, e_bl, t_bl, t_int, t_non, t_tup, t_rol, t_ktup, t_str, i_tup, i_rol, i_ktup, i_str, l_tup, l_ktup, l_rol, l_str, l_int0, l_int1, l_str1, l_max, l_min, sl_tup, sl_rol, sl_str, y_int, y_bl, y_str, y_tup, y_ktup, y_non, it_rol, it_tup, it_ktup, it_str, decide_eq_true_eq, decide_eq_false_iff_not, reduceCtorEq, false_implies, true_implies, forall_const, and_true, true_and, List.length_map, l_isI, l_isB, l_isS, l_isL, l_isT, l_isD, isTy, decide_true, decide_false, Bool.or_false, Bool.false_or, Bool.true_or, Bool.or_true, Bool.not_true, Bool.not_false, Bool.false_eq_true, Bool.true_eq_false, Bool.not_eq_true', Bool.not_eq_false', ne_eq, not_true_eq_false, not_false_eq_true, D.int.injEq, D.str.injEq, Option.some.injEq, exists_eq_left', exists_eq_left, y_lst hm, it_lst hm, hw]
  refine ⟨hl, rLc_allT hm (fun d hd R hR => ?_) (new_all fun M sb => ⟨m, sb, hk⟩)⟩
  obtain ⟨z, _, rfl⟩ := List.mem_map.mp hd
  simp only [rSs, rS, rE, rEs, rT, rP, rSrc, rTg, rCh, sget0, sgetS, sset0, ssetS, sw0, swS, swN, swC, b_add, b_sub, b_mul, b_fdiv, b_mod, b_pow, b_adds, b_addt, b_muls, c_lt, c_le, c_gt, c_ge, c_eq0, c_ne0, c_in0, c_ni0, c_is0, c_isn0, e_int, e_bl, t_bl, t_int, t_non, t_tup, t_rol, t_ktup, t_str, i_tup, i_rol, i_ktup, i_str, l_tup, l_ktup, l_rol, l_str, l_int0, l_int1, l_str1, l_max, l_min, sl_tup, sl_rol, sl_str, y_int, y_bl, y_str, y_tup, y_ktup, y_non, it_rol, it_tup, it_ktup, it_str, decide_eq_true_eq, decide_eq_false_iff_not, reduceCtorEq, false_implies, true_implies, forall_const, and_true, true_and, List.length_map, l_isI, l_isB, l_isS, l_isL, l_isT, l_isD, isTy, decide_true, decide_false, Bool.or_false, Bool.false_or, Bool.true_or, Bool.or_true, Bool.not_true, Bool.not_false, Bool.false_eq_true, Bool.true_eq_false, Bool.not_eq_true', Bool.not_eq_false', ne_eq, not_true_eq_false, not_false_eq_true, D.int.injEq, D.str.injEq, Option.some.injEq, exists_eq_left', exists_eq_left, hw]
  exact ⟨z, rfl, hR _ (Sub.refl _)⟩

def cnt (b : Int) (xs : List Int) : Nat := (xs.filter fun x => decide (x < b)).length
def manyI (b w : Int) (xs : List Int) : Nat := ((xs.drop (cnt b xs)).filter fun x => decide (x < b + w)).length
def lyingB : Sms := (.c (.set 3 (.blt .len (.c (.lc [4] (.name 4) (.of (.var 0)) (.cmp .lt (.var 4) (.var 1)) (.var 4)) .n)))
  (.c (.ret (.tup (.c (.var 3) (.c (.blt .len (.c (.lc [4] (.name 4) (.of (.sl (.var 0) (.var 3) .part0)) (.cmp .lt (.var 4) (.bin .add (.var 1) (.var 2))) (.var 4)) .n)) .n))))
  .n))
abbrev spLying : Sp := fun ds m k _ => ∃ (p : Nat) (xs : List Int) (b w : Int), ds = [.ref p, .int b, .int w] ∧ m p = some (.lst (xs.map D.int)) ∧ xs.length ≤ big ∧ k (.tup [.int (cnt b xs), .int (manyI b w xs)]) m
theorem kp_lying {Γ : En} : Keeps Γ 5 lyingB spLying := by
  rintro ds m k X ⟨p, xs, b, w, rfl, hm, hl, hk⟩
  show rSs Γ lyingB _ [some _, some _, some _, none, none] m
  simp only [lyingB, rSs, rS, rE, rEs, rT, rP, rSrc, rTg, rCh, sget0, sgetS, sset0, ssetS, sw0, swS, swN, swC, b_add, b_sub, b_mul, b_fdiv, b_mod, b_pow, b_adds, b_addt, b_muls, c_lt, c_le, c_gt, c_ge, c_eq0, c_ne0, c_in0, c_ni0, c_is0, c_isn0, e_int, e_bl, t_bl, t_int, t_non, t_tup, t_rol, t_ktup, t_str, i_tup, i_rol, i_ktup, i_str, l_tup, l_ktup, l_rol, l_str, l_int0, l_int1, l_str1, l_max, l_min, sl_tup, sl_rol, sl_str, y_int, y_bl, y_str, y_tup, y_ktup, y_non, it_rol, it_tup, it_ktup, it_str, decide_eq_true_eq, decide_eq_false_iff_not, reduceCtorEq, false_implies, true_implies, forall_const, and_true, true_and, List.length_map, l_isI, l_isB, l_isS, l_isL, l_isT, l_isD, isTy, decide_true, decide_false, Bool.or_false, Bool.false_or, Bool.true_or, Bool.or_true, Bool.not_true, Bool.not_false, Bool.false_eq_true, Bool.true_eq_false, Bool.not_eq_true', Bool.not_eq_false', ne_eq, not_true_eq_false, not_false_eq_true, D.int.injEq, D.str.injEq, Option.some.injEq, exists_eq_left', exists_eq_left, it_lst hm]
  refine ⟨hl, rLc_ints (fun x => decide (x < b)) id hm (fun i hi R S hR hS => ?_) (New.by fun q M mq eM sM hq nM => ?_)⟩
  · simp only [rSs, rS, rE, rEs, rT, rP, rSrc, rTg, rCh, sget0, sgetS, sset0, ssetS, sw0, swS, swN, swC, b_add, b_sub, b_mul, b_fdiv, b_mod, b_pow, b_adds, b_addt, b_muls, c_lt, c_le, c_gt, c_ge, c_eq0, c_ne0, c_in0, c_ni0, c_is0, c_isn0, e_int, e_bl, t_bl, t_int, t_non, t_tup, t_rol, t_ktup, t_str, i_tup, i_rol, i_ktup, i_str, l_tup, l_ktup, l_rol, l_str, l_int0, l_int1, l_str1, l_max, l_min, sl_tup, sl_rol, sl_str, y_int, y_bl, y_str, y_tup, y_ktup, y_non, it_rol, it_tup, it_ktup, it_str, decide_eq_true_eq, decide_eq_false_iff_not, reduceCtorEq, false_implies, true_implies, forall_const, and_true, true_and, List.length_map, l_isI, l_isB, l_isS, l_isL, l_isT, l_isD, isTy, decide_true, decide_false, Bool.or_false, Bool.false_or, Bool.true_or, Bool.or_true, Bool.not_true, Bool.not_false, Bool.false_eq_true, Bool.true_eq_false, Bool.not_eq_true', Bool.not_eq_false', ne_eq, not_true_eq_false, not_false_eq_true, D.int.injEq, D.str.injEq, Option.some.injEq, exists_eq_left', exists_eq_left]
    exact ⟨fun h => hR (by simp [h]) _ (Sub.refl _), fun h => hS (by simp [h]) _ (Sub.refl _)⟩
  · simp only [l_lst hq, rSs, rS, rE, rEs, rT, rP, rSrc, rTg, rCh, sget0, sgetS, sset0, ssetS, sw0, swS, swN, swC, b_add, b_sub, b_mul, b_fdiv, b_mod, b_pow, b_adds, b_addt, b_muls, c_lt, c_le, c_gt, c_ge, c_eq0, c_ne0, c_in0, c_ni0, c_is0, c_isn0, e_int, e_bl, t_bl, t_int, t_non, t_tup, t_rol, t_ktup, t_str, i_tup, i_rol, i_ktup, i_str, l_tup, l_ktup, l_rol, l_str, l_int0, l_int1, l_str1, l_max, l_min, sl_tup, sl_rol, sl_str, y_int, y_bl, y_str, y_tup, y_ktup, y_non, it_rol, it_tup, it_ktup, it_str, decide_eq_true_eq, decide_eq_false_iff_not, reduceCtorEq, false_implies, true_implies, forall_const, and_true, true_and, List.length_map, l_isI, l_isB, l_isS, l_isL, l_isT, l_isD, isTy, decide_true, decide_false, Bool.or_false, Bool.false_or, Bool.true_or, Bool.or_true, Bool.not_true, Bool.not_false, Bool.false_eq_true, Bool.true_eq_false, Bool.not_eq_true', Bool.not_eq_false', ne_eq, not_true_eq_false, not_false_eq_true, D.int.injEq, D.str.injEq, Option.some.injEq, exists_eq_left', exists_eq_left, sl_lst (sM.at hm)]
    refine New.by fun r M2 mr eM2 sM2 hr nM2 => ?_
    have e : cut (xs.map D.int) (some ((List.filter (fun x => decide (x < b)) xs).length : Int)) none = (xs.drop (cnt b xs)).map D.int := by
      rw [cut_from (by omega), Int.toNat_natCast, List.map_drop]
      rfl
    rw [e] at hr
    simp only [it_lst hr]
    refine ⟨by rw [List.length_map, List.length_drop]; omega, rLc_ints (fun x => decide (x < b + w)) id hr (fun i hi R S hR hS => ?_) (New.by fun s M3 ms eM3 sM3 hs nM3 => ?_)⟩
    · simp only [rSs, rS, rE, rEs, rT, rP, rSrc, rTg, rCh, sget0, sgetS, sset0, ssetS, sw0, swS, swN, swC, b_add, b_sub, b_mul, b_fdiv, b_mod, b_pow, b_adds, b_addt, b_muls, c_lt, c_le, c_gt, c_ge, c_eq0, c_ne0, c_in0, c_ni0, c_is0, c_isn0, e_int, e_bl, t_bl, t_int, t_non, t_tup, t_rol, t_ktup, t_str, i_tup, i_rol, i_ktup, i_str, l_tup, l_ktup, l_rol, l_str, l_int0, l_int1, l_str1, l_max, l_min, sl_tup, sl_rol, sl_str, y_int, y_bl, y_str, y_tup, y_ktup, y_non, it_rol, it_tup, it_ktup, it_str, decide_eq_true_eq, decide_eq_false_iff_not, reduceCtorEq, false_implies, true_implies, forall_const, and_true, true_and, List.length_map, l_isI, l_isB, l_isS, l_isL, l_isT, l_isD, isTy, decide_true, decide_false, Bool.or_false, Bool.false_or, Bool.true_or, Bool.or_true, Bool.not_true, Bool.not_false, Bool.false_eq_true, Bool.true_eq_false, Bool.not_eq_true', Bool.not_eq_false', ne_eq, not_true_eq_false, not_false_eq_true, D.int.injEq, D.str.injEq, Option.some.injEq, exists_eq_left', exists_eq_left]
      exact ⟨fun h => hR (by simp [h]) _ (Sub.refl _), fun h => hS (by simp [h]) _ (Sub.refl _)⟩
    · simp only [l_lst hs, rSs, rS, rE, rEs, rT, rP, rSrc, rTg, rCh, sget0, sgetS, sset0, ssetS, sw0, swS, swN, swC, b_add, b_sub, b_mul, b_fdiv, b_mod, b_pow, b_adds, b_addt, b_muls, c_lt, c_le, c_gt, c_ge, c_eq0, c_ne0, c_in0, c_ni0, c_is0, c_isn0, e_int, e_bl, t_bl, t_int, t_non, t_tup, t_rol, t_ktup, t_str, i_tup, i_rol, i_ktup, i_str, l_tup, l_ktup, l_rol, l_str, l_int0, l_int1, l_str1, l_max, l_min, sl_tup, sl_rol, sl_str, y_int, y_bl, y_str, y_tup, y_ktup, y_non, it_rol, it_tup, it_ktup, it_str, decide_eq_true_eq, decide_eq_false_iff_not, reduceCtorEq, false_implies, true_implies, forall_const, and_true, true_and, List.length_map, l_isI, l_isB, l_isS, l_isL, l_isT, l_isD, isTy, decide_true, decide_false, Bool.or_false, Bool.false_or, Bool.true_or, Bool.or_true, Bool.not_true, Bool.not_false, Bool.false_eq_true, Bool.true_eq_false, Bool.not_eq_true', Bool.not_eq_false', ne_eq, not_true_eq_false, not_false_eq_true, D.int.injEq, D.str.injEq, Option.some.injEq, exists_eq_left', exists_eq_left]
      refine ⟨m, (sM.trans sM2).trans sM3, ?_⟩
      exact hk
/-- the width: doubled until it will do -/
def win (P : Int → Bool) : Nat → Int → Int
  | 0, w => w
  | n + 1, w => if P w = true then w else win P n (2 * w)
def winP (xs : List Int) (a w : Int) : Bool := decide (((manyI (a / w * w) w xs : Int) + 1) * ((manyI (a / w * w) w xs : Int) + 1) ≤ w - 2)
def winW (xs : List Int) (a : Int) : Int := win (winP xs a) 39 2
theorem manyI_le (b w : Int) (xs : List Int) : manyI b w xs ≤ xs.length := by
  unfold manyI
  exact Nat.le_trans (List.length_filter_le ..) (by rw [List.length_drop]; omega)
theorem winP_top {xs : List Int} {a : Int} (h : xs.length ≤ 1000) : winP xs a 1099511627776 = true := by
  unfold winP
  have := manyI_le (a / 1099511627776 * 1099511627776) 1099511627776 xs
  generalize manyI (a / 1099511627776 * 1099511627776) 1099511627776 xs = y at this
  refine decide_eq_true ?_
  have h1 : ((y : Int) + 1) * ((y : Int) + 1) ≤ 1001 * 1001 := Int.mul_le_mul (by omega) (by omega) (by omega) (by omega)
  omega
theorem win_spec {P : Int → Bool} (ht : P 1099511627776 = true) : ∀ (n : Nat) (w : Int), w * 2 ^ n = 1099511627776 → P (win P n w) = true ∧ ∃ j : Nat, win P n w = w * 2 ^ j ∧ j ≤ n
  | 0, w, h => by
    have : w = 1099511627776 := by simpa using h
    subst this
    exact ⟨ht, 0, by simp [win], Nat.le_refl _⟩
  | n + 1, w, h => by
    unfold win
    by_cases e : P w = true
    · rw [if_pos e]
      exact ⟨e, 0, by simp, Nat.zero_le _⟩
    · rw [if_neg e]
      have h2 : 2 * w * 2 ^ n = 1099511627776 := by
        rw [← h, Int.pow_succ]
        rw [Int.mul_comm 2 w, Int.mul_assoc, Int.mul_comm 2]
      obtain ⟨a, j, b, c⟩ := win_spec ht n (2 * w) h2
      refine ⟨a, j + 1, ?_, by omega⟩
      rw [b, Int.pow_succ, Int.mul_comm 2 w, Int.mul_assoc, Int.mul_comm 2]
theorem pow_pos2 (n : Nat) : (0 : Int) < 2 ^ n := Int.pow_pos (by decide)
theorem win_bnd {w : Int} {n : Nat} (h : w * 2 ^ n = 1099511627776) (h0 : 0 < w) : w ≤ 1099511627776 := by
  have p := pow_pos2 n
  have : w * 1 ≤ w * 2 ^ n := Int.mul_le_mul_of_nonneg_left (by omega) (by omega)
  omega
/-- wide: a power of two, 4 at least, 2 ** 40 at most -/
theorem winW_spec {xs : List Int} {a : Int} (h : xs.length ≤ 1000) : winP xs a (winW xs a) = true ∧ 2 ≤ winW xs a ∧ ∃ d : Int, winW xs a * d = 1099511627776 ∧ 0 < d := by
  obtain ⟨h1, j, h2, h3⟩ := win_spec (P := winP xs a) (winP_top h) 39 2 (by decide)
  refine ⟨h1, ?_, 2 ^ (39 - j), ?_, pow_pos2 _⟩
  · show 2 ≤ win _ 39 2
    rw [h2]
    have := pow_pos2 j
    omega
  · show win _ 39 2 * _ = _
    rw [h2, Int.mul_assoc, ← Int.pow_add, show j + (39 - j) = 39 by omega]
    decide
def windowB (l : Nat) : Sms := (.c (.set 2 (.int 2))
  (.c (.setT (.pair (.name 3) (.name 4)) (.call l (.c (.var 0) (.c (.bin .mul (.bin .fdiv (.var 1) (.var 2)) (.var 2)) (.c (.var 2) .n)))))
  (.c (.whl (.cmp .gt (.bin .mul (.bin .add (.var 4) (.int 1)) (.bin .add (.var 4) (.int 1))) (.bin .sub (.var 2) (.int 2))) (.c (.set 2 (.bin .mul (.int 2) (.var 2)))
  (.c (.setT (.pair (.name 3) (.name 4)) (.call l (.c (.var 0) (.c (.bin .mul (.bin .fdiv (.var 1) (.var 2)) (.var 2)) (.c (.var 2) .n)))))
  .n)))
  (.c (.ret (.tup (.c (.bin .mul (.bin .fdiv (.var 1) (.var 2)) (.var 2)) (.c (.var 2) .n))))
  .n))))
abbrev spWindow : Sp := fun ds m k _ => ∃ (p : Nat) (xs : List Int) (a : Int), ds = [.ref p, .int a] ∧ m p = some (.lst (xs.map D.int)) ∧ xs.length ≤ 1000 ∧ k (.tup [.int (a / winW xs a * winW xs a), .int (winW xs a)]) m
theorem kp_window {Γ : En} {l : Nat} (hL : Γ.fn l = spLying) : Keeps Γ 5 (windowB l) spWindow := by
  rintro ds m k X ⟨p, xs, a, rfl, hm, hl, hk⟩
  show rSs Γ (windowB l) _ [some _, some _, none, none, none] m
  simp only [windowB, rSs, rS, rE, rEs, rT, rP, rSrc, rTg, rCh, sget0, sgetS, sset0, ssetS, sw0, swS, swN, swC, b_add, b_sub, b_mul, b_fdiv, b_mod, b_pow, b_adds, b_addt, b_muls, c_lt, c_le, c_gt, c_ge, c_eq0, c_ne0, c_in0, c_ni0, c_is0, c_isn0, e_int, e_bl, t_bl, t_int, t_non, t_tup, t_rol, t_ktup, t_str, i_tup, i_rol, i_ktup, i_str, l_tup, l_ktup, l_rol, l_str, l_int0, l_int1, l_str1, l_max, l_min, sl_tup, sl_rol, sl_str, y_int, y_bl, y_str, y_tup, y_ktup, y_non, it_rol, it_tup, it_ktup, it_str, decide_eq_true_eq, decide_eq_false_iff_not, reduceCtorEq, false_implies, true_implies, forall_const, and_true, true_and, List.length_map, l_isI, l_isB, l_isS, l_isL, l_isT, l_isD, isTy, decide_true, decide_false, Bool.or_false, Bool.false_or, Bool.true_or, Bool.or_true, Bool.not_true, Bool.not_false, Bool.false_eq_true, Bool.true_eq_false, Bool.not_eq_true', Bool.not_eq_false', ne_eq, not_true_eq_false, not_false_eq_true, D.int.injEq, D.str.injEq, Option.some.injEq, exists_eq_left', exists_eq_left, hL]
  refine ⟨⟨by decide, by decide⟩, .inr (by decide), p, xs, _, _, rfl, hm, by unfold big; omega, ?_⟩
  simp only [tupS, rSs, rS, rE, rEs, rT, rP, rSrc, rTg, rCh, sget0, sgetS, sset0, ssetS, sw0, swS, swN, swC, b_add, b_sub, b_mul, b_fdiv, b_mod, b_pow, b_adds, b_addt, b_muls, c_lt, c_le, c_gt, c_ge, c_eq0, c_ne0, c_in0, c_ni0, c_is0, c_isn0, e_int, e_bl, t_bl, t_int, t_non, t_tup, t_rol, t_ktup, t_str, i_tup, i_rol, i_ktup, i_str, l_tup, l_ktup, l_rol, l_str, l_int0, l_int1, l_str1, l_max, l_min, sl_tup, sl_rol, sl_str, y_int, y_bl, y_str, y_tup, y_ktup, y_non, it_rol, it_tup, it_ktup, it_str, decide_eq_true_eq, decide_eq_false_iff_not, reduceCtorEq, false_implies, true_implies, forall_const, and_true, true_and, List.length_map, l_isI, l_isB, l_isS, l_isL, l_isT, l_isD, isTy, decide_true, decide_false, Bool.or_false, Bool.false_or, Bool.true_or, Bool.or_true, Bool.not_true, Bool.not_false, Bool.false_eq_true, Bool.true_eq_false, Bool.not_eq_true', Bool.not_eq_false', ne_eq, not_true_eq_false, not_false_eq_true, D.int.injEq, D.str.injEq, Option.some.injEq, exists_eq_left', exists_eq_left]
  refine ⟨_, _, rfl, rWhl_ex (fun n σ M => M = m ∧ ∃ (w : Int) (f : D), σ = [some (.ref p), some (.int a), some (.int w), some f, some (.int (manyI (a / w * w) w xs))] ∧ 2 ≤ w ∧ w * 2 ^ n = 1099511627776 ∧ win (winP xs a) n w = winW xs a) (n := 39)
    ⟨rfl, 2, _, rfl, by decide, by decide, rfl⟩ fun n σ M R h r => ?_⟩
  obtain ⟨rfl, w, f, rfl, h2, h3, h4⟩ := h
  have wb := win_bnd h3 (by omega)
  have mb := manyI_le (a / w * w) w xs
  simp only [rSs, rS, rE, rEs, rT, rP, rSrc, rTg, rCh, sget0, sgetS, sset0, ssetS, sw0, swS, swN, swC, b_add, b_sub, b_mul, b_fdiv, b_mod, b_pow, b_adds, b_addt, b_muls, c_lt, c_le, c_gt, c_ge, c_eq0, c_ne0, c_in0, c_ni0, c_is0, c_isn0, e_int, e_bl, t_bl, t_int, t_non, t_tup, t_rol, t_ktup, t_str, i_tup, i_rol, i_ktup, i_str, l_tup, l_ktup, l_rol, l_str, l_int0, l_int1, l_str1, l_max, l_min, sl_tup, sl_rol, sl_str, y_int, y_bl, y_str, y_tup, y_ktup, y_non, it_rol, it_tup, it_ktup, it_str, decide_eq_true_eq, decide_eq_false_iff_not, reduceCtorEq, false_implies, true_implies, forall_const, and_true, true_and, List.length_map, l_isI, l_isB, l_isS, l_isL, l_isT, l_isD, isTy, decide_true, decide_false, Bool.or_false, Bool.false_or, Bool.true_or, Bool.or_true, Bool.not_true, Bool.not_false, Bool.false_eq_true, Bool.true_eq_false, Bool.not_eq_true', Bool.not_eq_false', ne_eq, not_true_eq_false, not_false_eq_true, D.int.injEq, D.str.injEq, Option.some.injEq, exists_eq_left', exists_eq_left, hL]
  generalize ey : manyI (a / w * w) w xs = y at mb ⊢
  refine ⟨.inl ⟨by omega, by omega⟩, fun h5 => ⟨.inl ⟨by decide, by decide⟩, ⟨by omega, by omega⟩, .inr ⟨by omega, by omega⟩, p, xs, _, _, rfl, hm, by unfold big; omega, ?_⟩, fun h5 => ?_⟩
  · have np : winP xs a w ≠ true := by
      unfold winP
      rw [ey]
      intro z
      have := of_decide_eq_true z
      omega
    cases n with
    | zero =>
      have : w = 1099511627776 := by simpa using h3
      subst this
      exact absurd (winP_top hl) np
    | succ n =>
      refine ⟨_, _, rfl, M, Sub.refl _, r n _ _ (Nat.lt_succ_self n) ⟨rfl, 2 * w, _, rfl, by omega, ?_, ?_⟩⟩
      · rw [← h3, Int.pow_succ, Int.mul_comm 2 w, Int.mul_assoc, Int.mul_comm 2]
      · rw [← h4]
        show _ = if winP xs a w = true then w else win (winP xs a) n (2 * w)
        rw [if_neg np]
  · have yp : winP xs a w = true := by
      unfold winP
      rw [ey]
      exact decide_eq_true (by omega)
    have e : winW xs a = w := by
      rw [← h4]
      cases n with
      | zero => rfl
      | succ n =>
        show (if winP xs a w = true then w else _) = w
        rw [if_pos yp]
    refine ⟨⟨by omega, by omega⟩, .inr ⟨by omega, by omega⟩, M, Sub.refl _, ?_⟩
    rw [← e]
    exact hk
/-- how a window is filled: the row, the first place, how many lay in it -/
def sprF (xs : List Int) (a : Int) : Nat := cnt (a / winW xs a * winW xs a) xs
def sprM (xs : List Int) (a : Int) : Nat := manyI (a / winW xs a * winW xs a) (winW xs a) xs
def sprS (xs : List Int) (a : Int) : List Int := (rg 0 (sprM xs a + 1)).map fun j => a / winW xs a * winW xs a + (j + 1) * (winW xs a / (sprM xs a + 2))
def sprL (xs : List Int) (a : Int) : List Int := xs.take (sprF xs a) ++ sprS xs a ++ xs.drop (sprF xs a + sprM xs a)
def spreadB (w l : Nat) : Sms := (.c (.setT (.pair (.name 4) (.name 5)) (.call w (.c (.var 0) (.c (.var 1) .n))))
  (.c (.setT (.pair (.name 6) (.name 7)) (.call l (.c (.var 0) (.c (.var 4) (.c (.var 5) .n)))))
  (.c (.set 2 (.bin .fdiv (.var 5) (.bin .add (.var 7) (.int 2))))
  (.c (.set 3 (.lc [8] (.name 8) (.rng1 (.bin .add (.var 7) (.int 1))) (.bl true) (.bin .add (.var 4) (.bin .mul (.bin .add (.var 8) (.int 1)) (.var 2)))))
  (.c (.ret (.tup (.c (.bin .add (.bin .add (.sl (.var 0) .part0 (.var 6)) (.var 3)) (.sl (.var 0) (.bin .add (.var 6) (.var 7)) .part0)) (.c (.var 6) (.c (.bin .add (.var 6) (.var 7)) .n)))))
  .n)))))
abbrev spSpread : Sp := fun ds m k _ => ∃ (p : Nat) (xs : List Int) (a : Int), ds = [.ref p, .int a] ∧ m p = some (.lst (xs.map D.int)) ∧ xs.length ≤ 1000 ∧
  New m (.lst ((sprL xs a).map D.int)) fun d m1 => k (.tup [d, .int (sprF xs a), .int (sprF xs a + sprM xs a)]) m1
theorem sprS_len (xs : List Int) (a : Int) : (sprS xs a).length = sprM xs a + 1 := by simp [sprS, rg_len]
theorem kp_spread {Γ : En} {w l : Nat} (hW : Γ.fn w = spWindow) (hL : Γ.fn l = spLying) : Keeps Γ 9 (spreadB w l) spSpread := by
  rintro ds m k X ⟨p, xs, a, rfl, hm, hl, hk⟩
  show rSs Γ (spreadB w l) _ [some _, some _, none, none, none, none, none, none, none] m
  simp only [spreadB, rSs, rS, rE, rEs, rT, rP, rSrc, rTg, rCh, sget0, sgetS, sset0, ssetS, sw0, swS, swN, swC, b_add, b_sub, b_mul, b_fdiv, b_mod, b_pow, b_adds, b_addt, b_muls, c_lt, c_le, c_gt, c_ge, c_eq0, c_ne0, c_in0, c_ni0, c_is0, c_isn0, e_int, e_bl, t_bl, t_int, t_non, t_tup, t_rol, t_ktup, t_str, i_tup, i_rol, i_ktup, i_str, l_tup, l_ktup, l_rol, l_str, l_int0, l_int1, l_str1, l_max, l_min, sl_tup, sl_rol, sl_str, y_int, y_bl, y_str, y_tup, y_ktup, y_non, it_rol, it_tup, it_ktup, it_str, decide_eq_true_eq, decide_eq_false_iff_not, reduceCtorEq, false_implies, true_implies, forall_const, and_true, true_and, List.length_map, l_isI, l_isB, l_isS, l_isL, l_isT, l_isD, isTy, decide_true, decide_false, Bool.or_false, Bool.false_or, Bool.true_or, Bool.or_true, Bool.not_true, Bool.not_false, Bool.false_eq_true, Bool.true_eq_false, Bool.not_eq_true', Bool.not_eq_false', ne_eq, not_true_eq_false, not_false_eq_true, D.int.injEq, D.str.injEq, Option.some.injEq, exists_eq_left', exists_eq_left, hW, hL]
  refine ⟨p, xs, a, rfl, hm, hl, ?_⟩
  simp only [tupS, rSs, rS, rE, rEs, rT, rP, rSrc, rTg, rCh, sget0, sgetS, sset0, ssetS, sw0, swS, swN, swC, b_add, b_sub, b_mul, b_fdiv, b_mod, b_pow, b_adds, b_addt, b_muls, c_lt, c_le, c_gt, c_ge, c_eq0, c_ne0, c_in0, c_ni0, c_is0, c_isn0, e_int, e_bl, t_bl, t_int, t_non, t_tup, t_rol, t_ktup, t_str, i_tup, i_rol, i_ktup, i_str, l_tup, l_ktup, l_rol, l_str, l_int0, l_int1, l_str1, l_max, l_min, sl_tup, sl_rol, sl_str, y_int, y_bl, y_str, y_tup, y_ktup, y_non, it_rol, it_tup, it_ktup, it_str, decide_eq_true_eq, decide_eq_false_iff_not, reduceCtorEq, false_implies, true_implies, forall_const, and_true, true_and, List.length_map, l_isI, l_isB, l_isS, l_isL, l_isT, l_isD, isTy, decide_true, decide_false, Bool.or_false, Bool.false_or, Bool.true_or, Bool.or_true, Bool.not_true, Bool.not_false, Bool.false_eq_true, Bool.true_eq_false, Bool.not_eq_true', Bool.not_eq_false', ne_eq, not_true_eq_false, not_false_eq_true, D.int.injEq, D.str.injEq, Option.some.injEq, exists_eq_left', exists_eq_left]
  refine ⟨_, _, rfl, p, xs, _, _, rfl, hm, by unfold big; omega, ?_⟩
  simp only [tupS, rSs, rS, rE, rEs, rT, rP, rSrc, rTg, rCh, sget0, sgetS, sset0, ssetS, sw0, swS, swN, swC, b_add, b_sub, b_mul, b_fdiv, b_mod, b_pow, b_adds, b_addt, b_muls, c_lt, c_le, c_gt, c_ge, c_eq0, c_ne0, c_in0, c_ni0, c_is0, c_isn0, e_int, e_bl, t_bl, t_int, t_non, t_tup, t_rol, t_ktup, t_str, i_tup, i_rol, i_ktup, i_str, l_tup, l_ktup, l_rol, l_str, l_int0, l_int1, l_str1, l_max, l_min, sl_tup, sl_rol, sl_str, y_int, y_bl, y_str, y_tup, y_ktup, y_non, it_rol, it_tup, it_ktup, it_str, decide_eq_true_eq, decide_eq_false_iff_not, reduceCtorEq, false_implies, true_implies, forall_const, and_true, true_and, List.length_map, l_isI, l_isB, l_isS, l_isL, l_isT, l_isD, isTy, decide_true, decide_false, Bool.or_false, Bool.false_or, Bool.true_or, Bool.or_true, Bool.not_true, Bool.not_false, Bool.false_eq_true, Bool.true_eq_false, Bool.not_eq_true', Bool.not_eq_false', ne_eq, not_true_eq_false, not_false_eq_true, D.int.injEq, D.str.injEq, Option.some.injEq, exists_eq_left', exists_eq_left]
  obtain ⟨_, w2, d, w3, w4⟩ := winW_spec (a := a) hl
  have wb : winW xs a ≤ 1099511627776 := by
    have : winW xs a * 1 ≤ winW xs a * d := Int.mul_le_mul_of_nonneg_left (by omega) (by omega)
    omega
  have mb : sprM xs a ≤ xs.length := manyI_le _ _ _
  refine ⟨_, _, rfl, ?_⟩
  have eF : cnt (a / winW xs a * winW xs a) xs = sprF xs a := rfl
  have eM : manyI (a / winW xs a * winW xs a) (winW xs a) xs = sprM xs a := rfl
  simp only [eF, eM, rSs, rS, rE, rEs, rT, rP, rSrc, rTg, rCh, sget0, sgetS, sset0, ssetS, sw0, swS, swN, swC, b_add, b_sub, b_mul, b_fdiv, b_mod, b_pow, b_adds, b_addt, b_muls, c_lt, c_le, c_gt, c_ge, c_eq0, c_ne0, c_in0, c_ni0, c_is0, c_isn0, e_int, e_bl, t_bl, t_int, t_non, t_tup, t_rol, t_ktup, t_str, i_tup, i_rol, i_ktup, i_str, l_tup, l_ktup, l_rol, l_str, l_int0, l_int1, l_str1, l_max, l_min, sl_tup, sl_rol, sl_str, y_int, y_bl, y_str, y_tup, y_ktup, y_non, it_rol, it_tup, it_ktup, it_str, decide_eq_true_eq, decide_eq_false_iff_not, reduceCtorEq, false_implies, true_implies, forall_const, and_true, true_and, List.length_map, l_isI, l_isB, l_isS, l_isL, l_isT, l_isD, isTy, decide_true, decide_false, Bool.or_false, Bool.false_or, Bool.true_or, Bool.or_true, Bool.not_true, Bool.not_false, Bool.false_eq_true, Bool.true_eq_false, Bool.not_eq_true', Bool.not_eq_false', ne_eq, not_true_eq_false, not_false_eq_true, D.int.injEq, D.str.injEq, Option.some.injEq, exists_eq_left', exists_eq_left]
  refine ⟨⟨by omega, by omega⟩, by unfold i62; omega, ?_⟩
  have e1 : ((sprM xs a : Int) + 1).toNat = sprM xs a + 1 := by omega
  rw [e1, rangeD_rg]
  refine ⟨by rw [List.length_map, rg_len]; unfold big; omega, rLc_intsM (fun j => a / winW xs a * winW xs a + (j + 1) * (winW xs a / (sprM xs a + 2))) trivial (fun i hi R hR => ?_) (New.by fun q M mq eM sM hq nM => ?_)⟩
  · have := rg_mem.mp hi
    simp only [rSs, rS, rE, rEs, rT, rP, rSrc, rTg, rCh, sget0, sgetS, sset0, ssetS, sw0, swS, swN, swC, b_add, b_sub, b_mul, b_fdiv, b_mod, b_pow, b_adds, b_addt, b_muls, c_lt, c_le, c_gt, c_ge, c_eq0, c_ne0, c_in0, c_ni0, c_is0, c_isn0, e_int, e_bl, t_bl, t_int, t_non, t_tup, t_rol, t_ktup, t_str, i_tup, i_rol, i_ktup, i_str, l_tup, l_ktup, l_rol, l_str, l_int0, l_int1, l_str1, l_max, l_min, sl_tup, sl_rol, sl_str, y_int, y_bl, y_str, y_tup, y_ktup, y_non, it_rol, it_tup, it_ktup, it_str, decide_eq_true_eq, decide_eq_false_iff_not, reduceCtorEq, false_implies, true_implies, forall_const, and_true, true_and, List.length_map, l_isI, l_isB, l_isS, l_isL, l_isT, l_isD, isTy, decide_true, decide_false, Bool.or_false, Bool.false_or, Bool.true_or, Bool.or_true, Bool.not_true, Bool.not_false, Bool.false_eq_true, Bool.true_eq_false, Bool.not_eq_true', Bool.not_eq_false', ne_eq, not_true_eq_false, not_false_eq_true, D.int.injEq, D.str.injEq, Option.some.injEq, exists_eq_left', exists_eq_left]
    exact ⟨.inl ⟨by omega, by omega⟩, hR _ (Sub.refl _)⟩
  · simp only [rSs, rS, rE, rEs, rT, rP, rSrc, rTg, rCh, sget0, sgetS, sset0, ssetS, sw0, swS, swN, swC, b_add, b_sub, b_mul, b_fdiv, b_mod, b_pow, b_adds, b_addt, b_muls, c_lt, c_le, c_gt, c_ge, c_eq0, c_ne0, c_in0, c_ni0, c_is0, c_isn0, e_int, e_bl, t_bl, t_int, t_non, t_tup, t_rol, t_ktup, t_str, i_tup, i_rol, i_ktup, i_str, l_tup, l_ktup, l_rol, l_str, l_int0, l_int1, l_str1, l_max, l_min, sl_tup, sl_rol, sl_str, y_int, y_bl, y_str, y_tup, y_ktup, y_non, it_rol, it_tup, it_ktup, it_str, decide_eq_true_eq, decide_eq_false_iff_not, reduceCtorEq, false_implies, true_implies, forall_const, and_true, true_and, List.length_map, l_isI, l_isB, l_isS, l_isL, l_isT, l_isD, isTy, decide_true, decide_false, Bool.or_false, Bool.false_or, Bool.true_or, Bool.or_true, Bool.not_true, Bool.not_false, Bool.false_eq_true, Bool.true_eq_false, Bool.not_eq_true', Bool.not_eq_false', ne_eq, not_true_eq_false, not_false_eq_true, D.int.injEq, D.str.injEq, Option.some.injEq, exists_eq_left', exists_eq_left, sl_lst (sM.at hm)]
    have fm : ∀ r M, m r = none → Sub m M → Sub (upd m r (.lst ((sprL xs a).map D.int))) (upd M r (.lst ((sprL xs a).map D.int))) := fun r M _ sb => sb.upd
    refine New.by fun r1 M1 mr1 eM1 sM1 hr1 nM1 => ?_
    rw [cut_to (by omega), Int.toNat_natCast, ← List.map_take] at hr1
    rw [b_addl hr1 (sM1.at hq)]
    refine ⟨by simp only [List.length_map, List.length_take, rg_len]; unfold big; omega, New.by fun r2 M2 mr2 eM2 sM2 hr2 nM2 => ?_⟩
    have s2 := (sM.trans sM1).trans sM2
    simp only [sl_lst (s2.at hm)]
    refine New.by fun r3 M3 mr3 eM3 sM3 hr3 nM3 => ?_
    rw [cut_from (by omega), show ((sprF xs a : Int) + (sprM xs a : Int)).toNat = sprF xs a + sprM xs a by omega, ← List.map_drop] at hr3
    rw [b_addl (sM3.at hr2) hr3]
    have el : (List.map D.int (List.take (sprF xs a) xs) ++ List.map D.int (List.map (fun j => a / winW xs a * winW xs a + (j + 1) * (winW xs a / (sprM xs a + 2))) (rg 0 (sprM xs a + 1)))) ++ List.map D.int (List.drop (sprF xs a + sprM xs a) xs) = (sprL xs a).map D.int := by
      unfold sprL sprS
      rw [List.map_append, List.map_append]
    rw [el]
    refine ⟨by simp only [List.length_append, List.length_map, List.length_take, List.length_drop, rg_len]; unfold big; omega, New.by fun r4 M4 mr4 eM4 sM4 hr4 nM4 => ?_⟩
    have mr : m r4 = none := (s2.trans sM3).free mr4
    exact ⟨_, eM4 ▸ fm r4 M3 mr (s2.trans sM3), hk r4 mr⟩
/-- the numbers beside a place -/
def ahd (xs : List Int) (i : Nat) : Int := if i = 0 then 0 else xs[i - 1]?.getD 0
def bhd (xs : List Int) (i : Nat) : Int := xs[i]?.getD 1099511627776
def openedB (s : Nat) (g : Nat) : Sms := (.c (.set 2 (.int 0))
  (.c (.set 3 (.glob g))
  (.c (.ite (.cmp .gt (.var 1) (.int 0)) (.c (.set 2 (.ix (.var 0) (.bin .sub (.var 1) (.int 1))))
  .n) .n)
  (.c (.ite (.cmp .lt (.var 1) (.blt .len (.c (.var 0) .n))) (.c (.set 3 (.ix (.var 0) (.var 1)))
  .n) .n)
  (.c (.ite (.cmp .lt (.bin .sub (.var 3) (.var 2)) (.int 2)) (.c (.ret (.call s (.c (.var 0) (.c (.var 2) .n))))
  .n) .n)
  (.c (.ret (.tup (.c (.bin .add (.bin .add (.sl (.var 0) .part0 (.var 1)) (.lst (.c (.bin .fdiv (.bin .add (.var 2) (.var 3)) (.int 2)) .n))) (.sl (.var 0) (.var 1) .part0)) (.c (.var 1) (.c (.var 1) .n)))))
  .n))))))
/-- the row opened at i, the first and the last place that was put anew -/
def opL (xs : List Int) (i : Nat) : List Int := if bhd xs i - ahd xs i < 2 then sprL xs (ahd xs i) else xs.take i ++ [(ahd xs i + bhd xs i) / 2] ++ xs.drop i
def opF (xs : List Int) (i : Nat) : Nat := if bhd xs i - ahd xs i < 2 then sprF xs (ahd xs i) else i
def opZ (xs : List Int) (i : Nat) : Nat := if bhd xs i - ahd xs i < 2 then sprF xs (ahd xs i) + sprM xs (ahd xs i) else i
abbrev spOpened : Sp := fun ds m k _ => ∃ (p : Nat) (xs : List Int) (i : Nat), ds = [.ref p, .int i] ∧ m p = some (.lst (xs.map D.int)) ∧ xs.length ≤ 1000 ∧ i ≤ xs.length ∧
  New m (.lst ((opL xs i).map D.int)) fun d m1 => k (.tup [d, .int (opF xs i), .int (opZ xs i)]) m1
theorem atI_ahd {xs : List Int} {i : Nat} (h : 0 < i) (h2 : i ≤ xs.length) : atI (xs.map D.int) ((i : Int) - 1) = some (.int (ahd xs i)) := by
  rw [atI_get (by omega) (by rw [List.length_map]; omega)]
  unfold ahd
  rw [if_neg (by omega), show ((i : Int) - 1).toNat = i - 1 by omega]
  have : i - 1 < xs.length := by omega
  simp [this]
theorem atI_bhd {xs : List Int} {i : Nat} (h2 : i < xs.length) : atI (xs.map D.int) (i : Int) = some (.int (bhd xs i)) := by
  rw [atI_get (by omega) (by rw [List.length_map]; omega)]
  unfold bhd
  simp [h2]
theorem kp_opened {Γ : En} {s g : Nat} (hS : Γ.fn s = spSpread) (hG : Γ.gl g = .int 1099511627776) : Keeps Γ 4 (openedB s g) spOpened := by
  rintro ds m k X ⟨p, xs, i, rfl, hm, hl, hi, hk⟩
  show rSs Γ (openedB s g) _ [some _, some _, none, none] m
  have tail : ∀ a b : Int, a = ahd xs i → b = bhd xs i → (b - a < 2 → spSpread [.ref p, .int a] m (fun d m1 => ∃ m2, Sub m2 m1 ∧ k d m2) (fun e m1 => ∃ m2, Sub m2 m1 ∧ X e m2)) ∧
      (¬b - a < 2 → New m (.lst (cut (xs.map D.int) none (some (i : Int)))) fun x m1 => (((0 : Int) < 2 ∧ (2 : Int) < 2 ^ 200)) ∧ New m1 (.lst [.int ((a + b) / 2)]) fun y m2 => rBin .add x y m2 fun x m3 => rSl (.ref p) (some (i : Int)) none m3 fun y m4 => rBin .add x y m4 fun d m5 => ∃ m6, Sub m6 m5 ∧ k (.tup [d, .int (i : Int), .int (i : Int)]) m6) := by
    rintro a b rfl rfl
    refine ⟨fun h => ⟨p, xs, _, rfl, hm, hl, ?_⟩, fun h => ?_⟩
    · unfold opL opF opZ at hk
      rw [if_pos h, if_pos h, if_pos h] at hk
      intro r mr
      refine ⟨_, Sub.refl _, ?_⟩
      have := hk r mr
      simpa using this
    · unfold opL opF opZ at hk
      rw [if_neg h, if_neg h, if_neg h] at hk
      refine New.by fun r1 M1 mr1 eM1 sM1 hr1 nM1 => ⟨by decide, New.by fun r2 M2 mr2 eM2 sM2 hr2 nM2 => ?_⟩
      rw [cut_to (by omega), Int.toNat_natCast, ← List.map_take] at hr1
      rw [b_addl (sM2.at hr1) hr2]
      refine ⟨by simp only [List.length_map, List.length_take, List.length_cons, List.length_nil]; unfold big; omega, New.by fun r3 M3 mr3 eM3 sM3 hr3 nM3 => ?_⟩
      have s3 := (sM1.trans sM2).trans sM3
      simp only [sl_lst (s3.at hm)]
      refine New.by fun r4 M4 mr4 eM4 sM4 hr4 nM4 => ?_
      rw [cut_from (by omega), Int.toNat_natCast, ← List.map_drop] at hr4
      rw [b_addl (sM4.at hr3) hr4]
      have el : (List.map D.int (List.take i xs) ++ [D.int ((ahd xs i + bhd xs i) / 2)]) ++ List.map D.int (List.drop i xs) = (xs.take i ++ [(ahd xs i + bhd xs i) / 2] ++ xs.drop i).map D.int := by
        rw [List.map_append, List.map_append]
        rfl
      rw [el]
      refine ⟨by simp only [List.length_append, List.length_map, List.length_take, List.length_drop, List.length_cons, List.length_nil]; unfold big; omega, New.by fun r5 M5 mr5 eM5 sM5 hr5 nM5 => ?_⟩
      have mr : m r5 = none := (s3.trans sM4).free mr5
      refine ⟨_, eM5 ▸ (s3.trans sM4).upd, hk r5 mr⟩
  simp only [openedB, rSs, rS, rE, rEs, rT, rP, rSrc, rTg, rCh, sget0, sgetS, sset0, ssetS, sw0, swS, swN, swC, b_add, b_sub, b_mul, b_fdiv, b_mod, b_pow, b_adds, b_addt, b_muls, c_lt, c_le, c_gt, c_ge, c_eq0, c_ne0, c_in0, c_ni0, c_is0, c_isn0, e_int, e_bl, t_bl, t_int, t_non, t_tup, t_rol, t_ktup, t_str, i_tup, i_rol, i_ktup, i_str, l_tup, l_ktup, l_rol, l_str, l_int0, l_int1, l_str1, l_max, l_min, sl_tup, sl_rol, sl_str, y_int, y_bl, y_str, y_tup, y_ktup, y_non, it_rol, it_tup, it_ktup, it_str, decide_eq_true_eq, decide_eq_false_iff_not, reduceCtorEq, false_implies, true_implies, forall_const, and_true, true_and, List.length_map, l_isI, l_isB, l_isS, l_isL, l_isT, l_isD, isTy, decide_true, decide_false, Bool.or_false, Bool.false_or, Bool.true_or, Bool.or_true, Bool.not_true, Bool.not_false, Bool.false_eq_true, Bool.true_eq_false, Bool.not_eq_true', Bool.not_eq_false', ne_eq, not_true_eq_false, not_false_eq_true, D.int.injEq, D.str.injEq, Option.some.injEq, exists_eq_left', exists_eq_left, hG, hS, i_lst hm, l_lst hm, sl_lst hm]
  refine ⟨fun h => ⟨_, atI_ahd (by omega) hi, fun h2 => ⟨_, atI_bhd (by omega), ?_⟩, fun h2 => ?_⟩, fun h => ⟨fun h2 => ⟨_, atI_bhd (by omega), ?_⟩, fun h2 => ?_⟩⟩
  all_goals
    have eb : ¬(i : Int) < (xs.length : Int) → (1099511627776 : Int) = bhd xs i := fun z => by
      unfold bhd
      rw [List.getElem?_eq_none (by omega)]
      rfl
    have ea : ¬0 < (i : Int) → (0 : Int) = ahd xs i := fun z => by
      unfold ahd
      rw [if_pos (by omega)]
  · have t := tail _ _ rfl rfl
    simp only [rSs, rS, rE, rEs, rT, rP, rSrc, rTg, rCh, sget0, sgetS, sset0, ssetS, sw0, swS, swN, swC, b_add, b_sub, b_mul, b_fdiv, b_mod, b_pow, b_adds, b_addt, b_muls, c_lt, c_le, c_gt, c_ge, c_eq0, c_ne0, c_in0, c_ni0, c_is0, c_isn0, e_int, e_bl, t_bl, t_int, t_non, t_tup, t_rol, t_ktup, t_str, i_tup, i_rol, i_ktup, i_str, l_tup, l_ktup, l_rol, l_str, l_int0, l_int1, l_str1, l_max, l_min, sl_tup, sl_rol, sl_str, y_int, y_bl, y_str, y_tup, y_ktup, y_non, it_rol, it_tup, it_ktup, it_str, decide_eq_true_eq, decide_eq_false_iff_not, reduceCtorEq, false_implies, true_implies, forall_const, and_true, true_and, List.length_map, l_isI, l_isB, l_isS, l_isL, l_isT, l_isD, isTy, decide_true, decide_false, Bool.or_false, Bool.false_or, Bool.true_or, Bool.or_true, Bool.not_true, Bool.not_false, Bool.false_eq_true, Bool.true_eq_false, Bool.not_eq_true', Bool.not_eq_false', ne_eq, not_true_eq_false, not_false_eq_true, D.int.injEq, D.str.injEq, Option.some.injEq, exists_eq_left', exists_eq_left, sl_lst hm]
    exact t
  · have t := tail _ _ rfl (eb h2)
    simp only [rSs, rS, rE, rEs, rT, rP, rSrc, rTg, rCh, sget0, sgetS, sset0, ssetS, sw0, swS, swN, swC, b_add, b_sub, b_mul, b_fdiv, b_mod, b_pow, b_adds, b_addt, b_muls, c_lt, c_le, c_gt, c_ge, c_eq0, c_ne0, c_in0, c_ni0, c_is0, c_isn0, e_int, e_bl, t_bl, t_int, t_non, t_tup, t_rol, t_ktup, t_str, i_tup, i_rol, i_ktup, i_str, l_tup, l_ktup, l_rol, l_str, l_int0, l_int1, l_str1, l_max, l_min, sl_tup, sl_rol, sl_str, y_int, y_bl, y_str, y_tup, y_ktup, y_non, it_rol, it_tup, it_ktup, it_str, decide_eq_true_eq, decide_eq_false_iff_not, reduceCtorEq, false_implies, true_implies, forall_const, and_true, true_and, List.length_map, l_isI, l_isB, l_isS, l_isL, l_isT, l_isD, isTy, decide_true, decide_false, Bool.or_false, Bool.false_or, Bool.true_or, Bool.or_true, Bool.not_true, Bool.not_false, Bool.false_eq_true, Bool.true_eq_false, Bool.not_eq_true', Bool.not_eq_false', ne_eq, not_true_eq_false, not_false_eq_true, D.int.injEq, D.str.injEq, Option.some.injEq, exists_eq_left', exists_eq_left, sl_lst hm]
    exact t
  · have t := tail _ _ (ea h) rfl
    simp only [rSs, rS, rE, rEs, rT, rP, rSrc, rTg, rCh, sget0, sgetS, sset0, ssetS, sw0, swS, swN, swC, b_add, b_sub, b_mul, b_fdiv, b_mod, b_pow, b_adds, b_addt, b_muls, c_lt, c_le, c_gt, c_ge, c_eq0, c_ne0, c_in0, c_ni0, c_is0, c_isn0, e_int, e_bl, t_bl, t_int, t_non, t_tup, t_rol, t_ktup, t_str, i_tup, i_rol, i_ktup, i_str, l_tup, l_ktup, l_rol, l_str, l_int0, l_int1, l_str1, l_max, l_min, sl_tup, sl_rol, sl_str, y_int, y_bl, y_str, y_tup, y_ktup, y_non, it_rol, it_tup, it_ktup, it_str, decide_eq_true_eq, decide_eq_false_iff_not, reduceCtorEq, false_implies, true_implies, forall_const, and_true, true_and, List.length_map, l_isI, l_isB, l_isS, l_isL, l_isT, l_isD, isTy, decide_true, decide_false, Bool.or_false, Bool.false_or, Bool.true_or, Bool.or_true, Bool.not_true, Bool.not_false, Bool.false_eq_true, Bool.true_eq_false, Bool.not_eq_true', Bool.not_eq_false', ne_eq, not_true_eq_false, not_false_eq_true, D.int.injEq, D.str.injEq, Option.some.injEq, exists_eq_left', exists_eq_left, sl_lst hm]
    exact t
  · exact tail _ _ (ea h) (eb h2)
end DL

namespace DL
abbrev Ri (xs : List Int) : Prop := xs.Pairwise (· < ·)
theorem fil_none {xs : List Int} {p : Int → Bool} (h : ∀ x ∈ xs, p x = false) : xs.filter p = [] := List.filter_eq_nil_iff.mpr fun x hx => by rw [h x hx]; exact fun z => nomatch z
theorem fil_lt {b : Int} : ∀ {xs : List Int}, Ri xs → xs.filter (fun x => decide (x < b)) = xs.take (cnt b xs)
  | [], _ => rfl
  | x :: xs, h => by
    obtain ⟨h1, h2⟩ := List.pairwise_cons.mp h
    unfold cnt
    rw [List.filter_cons]
    by_cases e : x < b
    · rw [if_pos (by simpa using e), List.length_cons, List.take_succ_cons]
      exact congrArg (x :: ·) (fil_lt h2)
    · rw [if_neg (by simpa using e), fil_none fun y hy => decide_eq_false (by have := h1 y hy; omega)]
      rfl
theorem fil_ge {b : Int} : ∀ {xs : List Int}, Ri xs → xs.filter (fun x => decide (b ≤ x)) = xs.drop (cnt b xs)
  | [], _ => rfl
  | x :: xs, h => by
    obtain ⟨h1, h2⟩ := List.pairwise_cons.mp h
    unfold cnt
    rw [List.filter_cons, List.filter_cons]
    by_cases e : x < b
    · rw [if_neg (by simpa using e), if_pos (by simpa using e), List.length_cons, List.drop_succ_cons]
      exact fil_ge h2
    · rw [if_pos (by simp; omega), if_neg (by simpa using e), fil_none (p := fun x => decide (x < b)) fun y hy => decide_eq_false (by have := h1 y hy; omega)]
      rw [List.length_nil, List.drop_zero]
      congr 1
      exact List.filter_eq_self.mpr fun y hy => decide_eq_true (by have := h1 y hy; omega)
theorem manyI_in {b w : Int} {xs : List Int} (h : Ri xs) : manyI b w xs = (xs.filter fun x => decide (b ≤ x) && decide (x < b + w)).length := by
  unfold manyI
  rw [← fil_ge h, List.filter_filter]
  congr 1
  apply List.filter_congr
  intro x _
  rw [Bool.and_comm]
theorem cnt_add {b w : Int} (hw : 0 ≤ w) : ∀ xs : List Int, cnt (b + w) xs = cnt b xs + (xs.filter fun x => decide (b ≤ x) && decide (x < b + w)).length
  | [] => rfl
  | x :: xs => by
    have ih := cnt_add (b := b) hw xs
    unfold cnt at ih ⊢
    rw [List.filter_cons, List.filter_cons, List.filter_cons]
    by_cases e1 : x < b
    · rw [if_pos (by simp; omega), if_pos (by simpa using e1), if_neg (by simp; omega)]
      simp only [List.length_cons]
      omega
    · by_cases e2 : x < b + w
      · rw [if_pos (by simpa using e2), if_neg (by simpa using e1), if_pos (by simp; omega)]
        simp only [List.length_cons]
        omega
      · rw [if_neg (by simpa using e2), if_neg (by simpa using e1), if_neg (by simp; omega)]
        exact ih
theorem cnt_le (b : Int) (xs : List Int) : cnt b xs ≤ xs.length := List.length_filter_le ..
theorem fil_high {b w : Int} {xs : List Int} (h : Ri xs) (hw : 0 ≤ w) : xs.filter (fun x => decide (b + w ≤ x)) = xs.drop (cnt b xs + manyI b w xs) := by
  rw [fil_ge h, cnt_add hw, manyI_in h]
theorem cm_le {b w : Int} {xs : List Int} (h : Ri xs) (hw : 0 ≤ w) : cnt b xs + manyI b w xs ≤ xs.length := by
  rw [manyI_in h, ← cnt_add hw]
  exact cnt_le _ _
/-- marks: rising, within 0 and 2 ** 40 -/
structure Mk (xs : List Int) : Prop where
  ri : Ri xs
  lo : ∀ x ∈ xs, 0 < x
  hi : ∀ x ∈ xs, x < 1099511627776
theorem Mk.ahd {xs : List Int} (h : Mk xs) {i : Nat} (hi : i ≤ xs.length) : 0 ≤ DL.ahd xs i ∧ DL.ahd xs i < 1099511627776 := by
  unfold DL.ahd
  by_cases e : i = 0
  · rw [if_pos e]
    exact ⟨Int.le_refl _, by decide⟩
  · rw [if_neg e]
    have hh : i - 1 < xs.length := by omega
    rw [List.getElem?_eq_getElem hh]
    have := List.getElem_mem hh
    exact ⟨Int.le_of_lt (h.lo _ this), h.hi _ this⟩
/-- the window's end -/
theorem win_end {w d a : Int} (h : w * d = 1099511627776) (hw : 2 ≤ w) (h0 : 0 ≤ a) (h1 : a < 1099511627776) : 0 ≤ a / w * w ∧ a / w * w + w ≤ 1099511627776 ∧ a / w * w ≤ a ∧ a < a / w * w + w := by
  have e1 : a / w * w ≤ a := Int.ediv_mul_le _ (by omega)
  have e2 : a < (a / w + 1) * w := Int.lt_ediv_add_one_mul_self a (by omega)
  rw [Int.add_mul, Int.one_mul] at e2
  have e3 : 0 ≤ a / w := Int.ediv_nonneg h0 (by omega)
  have e4 : a / w < d := by
    apply Int.ediv_lt_of_lt_mul (by omega)
    rw [Int.mul_comm, h]
    exact h1
  have e5 : (a / w + 1) * w ≤ d * w := Int.mul_le_mul_of_nonneg_right (by omega) (by omega)
  rw [Int.add_mul, Int.one_mul, Int.mul_comm d, h] at e5
  exact ⟨Int.mul_nonneg e3 (by omega), e5, e1, e2⟩
theorem rg_ri (lo : Int) (n : Nat) : Ri (rg lo n) := by
  unfold rg Ri
  rw [List.pairwise_map]
  exact List.Pairwise.imp (fun {a b} h => by omega) List.pairwise_lt_range
theorem ri_map {f : Int → Int} {xs : List Int} (h : Ri xs) (hf : ∀ a b, a < b → f a < f b) : Ri (xs.map f) := by
  unfold Ri
  rw [List.pairwise_map]
  exact List.Pairwise.imp (fun {a b} z => hf a b z) h
theorem spr_low {xs : List Int} {a x : Int} (hl : xs.length ≤ 1000) (h0 : 0 ≤ a) (h1 : a < 1099511627776) (hx : x ∈ sprS xs a) : a / winW xs a * winW xs a < x ∧ x < a / winW xs a * winW xs a + winW xs a := by
  obtain ⟨h2, h3, d, h4, h5⟩ := winW_spec (a := a) hl
  unfold sprS at hx
  obtain ⟨j, hj, rfl⟩ := List.mem_map.mp hx
  have hj := rg_mem.mp hj
  have hp : ((sprM xs a : Int) + 1) * ((sprM xs a : Int) + 1) ≤ winW xs a - 2 := of_decide_eq_true h2
  generalize sprM xs a = M at hj hp ⊢
  generalize winW xs a = w at h3 h4 hp ⊢
  have e0 : ((M : Int) + 1) * 1 ≤ ((M : Int) + 1) * ((M : Int) + 1) := Int.mul_le_mul_of_nonneg_left (by omega) (by omega)
  have e1 : 1 ≤ w / ((M : Int) + 2) := (Int.le_ediv_iff_mul_le (by omega)).mpr (by omega)
  have e2 : w / ((M : Int) + 2) * ((M : Int) + 2) ≤ w := Int.ediv_mul_le _ (by omega)
  generalize w / ((M : Int) + 2) = c at e1 e2 ⊢
  have e3 : (j + 1) * c ≤ ((M : Int) + 1) * c := Int.mul_le_mul_of_nonneg_right (by omega) (by omega)
  have e4 : 0 < (j + 1) * c := Int.mul_pos (by omega) (by omega)
  have e5 : c * ((M : Int) + 2) = ((M : Int) + 1) * c + c := by
    rw [show (M : Int) + 2 = ((M : Int) + 1) + 1 by omega, Int.mul_add, Int.mul_one, Int.mul_comm c]
  omega
theorem spr_ri {xs : List Int} {a : Int} (hl : xs.length ≤ 1000) : Ri (sprS xs a) := by
  obtain ⟨h2, h3, d, h4, h5⟩ := winW_spec (a := a) hl
  unfold sprS
  refine ri_map (rg_ri _ _) fun i j hij => ?_
  have hp : ((sprM xs a : Int) + 1) * ((sprM xs a : Int) + 1) ≤ winW xs a - 2 := of_decide_eq_true h2
  generalize sprM xs a = M at hp ⊢
  generalize winW xs a = w at h3 h4 hp ⊢
  have e0 : ((M : Int) + 1) * 1 ≤ ((M : Int) + 1) * ((M : Int) + 1) := Int.mul_le_mul_of_nonneg_left (by omega) (by omega)
  have e1 : 1 ≤ w / ((M : Int) + 2) := (Int.le_ediv_iff_mul_le (by omega)).mpr (by omega)
  generalize w / ((M : Int) + 2) = c at e1 ⊢
  have e3 : (i + 1 + 1) * c ≤ (j + 1) * c := Int.mul_le_mul_of_nonneg_right (by omega) (by omega)
  rw [Int.add_mul (i + 1), Int.one_mul] at e3
  omega
theorem mk_three {as bs cs : List Int} {b e : Int} (ha : Ri as) (hb : Ri bs) (hc : Ri cs) (h1 : ∀ x ∈ as, x < b ∨ x = b ∧ True) (h2 : ∀ x ∈ bs, b < x ∧ x < e) (h3 : ∀ x ∈ cs, e ≤ x) (h4 : b ≤ e) (h5 : ∀ x ∈ as, ∀ y ∈ cs, x < y) : Ri (as ++ bs ++ cs) := by
  refine List.pairwise_append.mpr ⟨List.pairwise_append.mpr ⟨ha, hb, fun x hx y hy => ?_⟩, hc, fun x hx y hy => ?_⟩
  · have := h2 y hy
    rcases h1 x hx with z | ⟨z, _⟩ <;> omega
  · have := h3 y hy
    rcases List.mem_append.mp hx with z | z
    · exact h5 x z y hy
    · have := h2 x z
      omega
theorem take_lt {b : Int} {xs : List Int} (h : Ri xs) {x : Int} (hx : x ∈ xs.take (cnt b xs)) : x < b := by
  rw [← fil_lt h] at hx
  exact of_decide_eq_true (List.mem_filter.mp hx).2
theorem drop_ge {b : Int} {xs : List Int} (h : Ri xs) {x : Int} (hx : x ∈ xs.drop (cnt b xs)) : b ≤ x := by
  rw [← fil_ge h] at hx
  exact of_decide_eq_true (List.mem_filter.mp hx).2
theorem sprL_mk {xs : List Int} {a : Int} (h : Mk xs) (hl : xs.length ≤ 1000) (h0 : 0 ≤ a) (h1 : a < 1099511627776) : Mk (sprL xs a) := by
  obtain ⟨h2, h3, d, h4, h5⟩ := winW_spec (a := a) hl
  obtain ⟨e1, e2, e3, e4⟩ := win_end h4 h3 h0 h1
  have hs := fun x (hx : x ∈ sprS xs a) => spr_low hl h0 h1 hx
  have ef : xs.drop (sprF xs a + sprM xs a) = xs.drop (cnt (a / winW xs a * winW xs a + winW xs a) xs) := by
    rw [cnt_add (by omega), ← manyI_in h.ri]
    rfl
  have hd : ∀ x ∈ xs.drop (sprF xs a + sprM xs a), a / winW xs a * winW xs a + winW xs a ≤ x := fun x hx => by
    rw [ef] at hx
    exact drop_ge h.ri hx
  have ht : ∀ x ∈ xs.take (sprF xs a), x < a / winW xs a * winW xs a := fun x hx => take_lt h.ri hx
  have mem : ∀ x ∈ sprL xs a, x ∈ xs ∨ x ∈ sprS xs a := fun x hx => by
    unfold sprL at hx
    rcases List.mem_append.mp hx with z | z
    · rcases List.mem_append.mp z with z | z
      · exact .inl (List.mem_of_mem_take z)
      · exact .inr z
    · exact .inl (List.mem_of_mem_drop z)
  refine ⟨mk_three (h.ri.sublist (List.take_sublist ..)) (spr_ri hl) (h.ri.sublist (List.drop_sublist ..)) (fun x hx => .inl (ht x hx)) hs hd (by omega) fun x hx y hy => ?_, fun x hx => ?_, fun x hx => ?_⟩
  · have := ht x hx
    have := hd y hy
    omega
  · rcases mem x hx with z | z
    · exact h.lo x z
    · have := hs x z
      omega
  · rcases mem x hx with z | z
    · exact h.hi x z
    · have := hs x z
      omega
theorem sprL_len {xs : List Int} {a : Int} (h : Mk xs) (hl : xs.length ≤ 1000) : (sprL xs a).length = xs.length + 1 := by
  obtain ⟨h2, h3, d, h4, h5⟩ := winW_spec (a := a) hl
  have : sprF xs a + sprM xs a ≤ xs.length := cm_le h.ri (by omega)
  unfold sprL
  rw [List.length_append, List.length_append, sprS_len, List.length_take, List.length_drop]
  omega
theorem ri_take_lt {xs : List Int} (h : Ri xs) {i : Nat} (hi : i < xs.length) {x : Int} (hx : x ∈ xs.take i) : x < xs[i] := by
  obtain ⟨j, hj, rfl⟩ := List.mem_iff_getElem.mp hx
  rw [List.length_take] at hj
  rw [List.getElem_take]
  exact List.pairwise_iff_getElem.mp h _ _ _ _ (by omega)
theorem ri_take_le {xs : List Int} (h : Mk xs) {i : Nat} (hi : i ≤ xs.length) {x : Int} (hx : x ∈ xs.take i) : x ≤ ahd xs i := by
  obtain ⟨j, hj, rfl⟩ := List.mem_iff_getElem.mp hx
  rw [List.length_take] at hj
  rw [List.getElem_take]
  unfold ahd
  rw [if_neg (by omega)]
  have hh : i - 1 < xs.length := by omega
  rw [List.getElem?_eq_getElem hh]
  show xs[j] ≤ xs[i - 1]
  by_cases e : j = i - 1
  · subst e
    exact Int.le_refl _
  · exact Int.le_of_lt (List.pairwise_iff_getElem.mp h.ri _ _ _ _ (by omega))
theorem ri_drop_ge {xs : List Int} (h : Mk xs) {i : Nat} {x : Int} (hx : x ∈ xs.drop i) : bhd xs i ≤ x := by
  obtain ⟨j, hj, rfl⟩ := List.mem_iff_getElem.mp hx
  rw [List.length_drop] at hj
  rw [List.getElem_drop]
  unfold bhd
  have hh : i < xs.length := by omega
  rw [List.getElem?_eq_getElem hh]
  show xs[i] ≤ xs[i + j]
  by_cases e : j = 0
  · subst e
    exact Int.le_refl _
  · exact Int.le_of_lt (List.pairwise_iff_getElem.mp h.ri _ _ _ _ (by omega))
theorem Mk.bhd {xs : List Int} (h : Mk xs) (i : Nat) : DL.bhd xs i ≤ 1099511627776 := by
  unfold DL.bhd
  by_cases e : i < xs.length
  · rw [List.getElem?_eq_getElem e]
    exact Int.le_of_lt (h.hi _ (List.getElem_mem e))
  · rw [List.getElem?_eq_none (by omega)]
    exact Int.le_refl _
theorem opL_mk {xs : List Int} (h : Mk xs) (hl : xs.length ≤ 1000) {i : Nat} (hi : i ≤ xs.length) : Mk (opL xs i) := by
  unfold opL
  have ha := h.ahd hi
  split
  · exact sprL_mk h hl ha.1 ha.2
  · rename_i hg
    have hb := h.bhd i
    have mem : ∀ x ∈ xs.take i ++ [(ahd xs i + bhd xs i) / 2] ++ xs.drop i, x ∈ xs ∨ x = (ahd xs i + bhd xs i) / 2 := fun x hx => by
      rcases List.mem_append.mp hx with z | z
      · rcases List.mem_append.mp z with z | z
        · exact .inl (List.mem_of_mem_take z)
        · exact .inr (List.mem_singleton.mp z)
      · exact .inl (List.mem_of_mem_drop z)
    refine ⟨List.pairwise_append.mpr ⟨List.pairwise_append.mpr ⟨h.ri.sublist (List.take_sublist ..), List.pairwise_singleton _ _, fun x hx y hy => ?_⟩, h.ri.sublist (List.drop_sublist ..), fun x hx y hy => ?_⟩, fun x hx => ?_, fun x hx => ?_⟩
    · have := ri_take_le h hi hx
      rw [List.mem_singleton.mp hy]
      omega
    · have := ri_drop_ge h hy
      rcases List.mem_append.mp hx with z | z
      · have := ri_take_le h hi z
        omega
      · rw [List.mem_singleton.mp z]
        omega
    · rcases mem x hx with z | z
      · exact h.lo x z
      · omega
    · rcases mem x hx with z | z
      · exact h.hi x z
      · omega
theorem opL_len {xs : List Int} (h : Mk xs) (hl : xs.length ≤ 1000) {i : Nat} (hi : i ≤ xs.length) : (opL xs i).length = xs.length + 1 := by
  unfold opL
  split
  · exact sprL_len h hl
  · simp only [List.length_append, List.length_take, List.length_drop, List.length_cons, List.length_nil]
    omega
end DL

namespace DL
def roomB : Sms := (.c (.set 3 (.lc [4] (.name 4) (.of (.var 0)) (.cmp2 .le .lt (.var 1) (.var 4) (.bin .add (.var 1) (.var 2))) (.var 4)))
  (.c (.ret (.cmp .le (.bin .mul (.bin .add (.blt .len (.c (.var 3) .n)) (.int 1)) (.bin .add (.blt .len (.c (.var 3) .n)) (.int 1))) (.bin .sub (.var 2) (.int 2))))
  .n))
def insN (b w : Int) (xs : List Int) : Nat := (xs.filter fun x => decide (b ≤ x) && decide (x < b + w)).length
abbrev spRoom : Sp := fun ds m k _ => ∃ (p : Nat) (xs : List Int) (b w : Int), ds = [.ref p, .int b, .int w] ∧ m p = some (.lst (xs.map D.int)) ∧ xs.length ≤ 1000 ∧ k (.bl (decide (((insN b w xs : Int) + 1) * ((insN b w xs : Int) + 1) ≤ w - 2))) m
theorem kp_room {Γ : En} : Keeps Γ 5 roomB spRoom := by
  rintro ds m k X ⟨p, xs, b, w, rfl, hm, hl, hk⟩
  show rSs Γ roomB _ [some _, some _, some _, none, none] m
  simp only [roomB, rSs, rS, rE, rEs, rT, rP, rSrc, rTg, rCh, sget0, sgetS, sset0, ssetS, sw0, swS, swN, swC, b_add, b_sub, b_mul, b_fdiv, b_mod, b_pow, b_adds, b_addt, b_muls, c_lt, c_le, c_gt, c_ge, c_eq0, c_ne0, c_in0, c_ni0, c_is0, c_isn0, e_int, e_bl, t_bl, t_int, t_non, t_tup, t_rol, t_ktup, t_str, i_tup, i_rol, i_ktup, i_str, l_tup, l_ktup, l_rol, l_str, l_int0, l_int1, l_str1, l_max, l_min, sl_tup, sl_rol, sl_str, y_int, y_bl, y_str, y_tup, y_ktup, y_non, it_rol, it_tup, it_ktup, it_str, decide_eq_true_eq, decide_eq_false_iff_not, reduceCtorEq, false_implies, true_implies, forall_const, and_true, true_and, List.length_map, l_isI, l_isB, l_isS, l_isL, l_isT, l_isD, isTy, decide_true, decide_false, Bool.or_false, Bool.false_or, Bool.true_or, Bool.or_true, Bool.not_true, Bool.not_false, Bool.false_eq_true, Bool.true_eq_false, Bool.not_eq_true', Bool.not_eq_false', ne_eq, not_true_eq_false, not_false_eq_true, D.int.injEq, D.str.injEq, Option.some.injEq, exists_eq_left', exists_eq_left, it_lst hm]
  refine ⟨by unfold big; omega, rLc_ints (fun x => decide (b ≤ x) && decide (x < b + w)) id hm (fun i hi R S hR hS => ?_) (New.by fun q M _ _ s hq _ => ?_)⟩
  · simp only [rSs, rS, rE, rEs, rT, rP, rSrc, rTg, rCh, sget0, sgetS, sset0, ssetS, sw0, swS, swN, swC, b_add, b_sub, b_mul, b_fdiv, b_mod, b_pow, b_adds, b_addt, b_muls, c_lt, c_le, c_gt, c_ge, c_eq0, c_ne0, c_in0, c_ni0, c_is0, c_isn0, e_int, e_bl, t_bl, t_int, t_non, t_tup, t_rol, t_ktup, t_str, i_tup, i_rol, i_ktup, i_str, l_tup, l_ktup, l_rol, l_str, l_int0, l_int1, l_str1, l_max, l_min, sl_tup, sl_rol, sl_str, y_int, y_bl, y_str, y_tup, y_ktup, y_non, it_rol, it_tup, it_ktup, it_str, decide_eq_true_eq, decide_eq_false_iff_not, reduceCtorEq, false_implies, true_implies, forall_const, and_true, true_and, List.length_map, l_isI, l_isB, l_isS, l_isL, l_isT, l_isD, isTy, decide_true, decide_false, Bool.or_false, Bool.false_or, Bool.true_or, Bool.or_true, Bool.not_true, Bool.not_false, Bool.false_eq_true, Bool.true_eq_false, Bool.not_eq_true', Bool.not_eq_false', ne_eq, not_true_eq_false, not_false_eq_true, D.int.injEq, D.str.injEq, Option.some.injEq, exists_eq_left', exists_eq_left]
    refine ⟨fun h1 => ⟨fun h2 => hR (by simp [h1, h2]) _ (Sub.refl _), fun h2 => hS (by simp [h2]) _ (Sub.refl _)⟩, fun h1 => hS (by simp [h1]) _ (Sub.refl _)⟩
  · rw [List.map_id] at hq
    simp only [rSs, rS, rE, rEs, rT, rP, rSrc, rTg, rCh, sget0, sgetS, sset0, ssetS, sw0, swS, swN, swC, b_add, b_sub, b_mul, b_fdiv, b_mod, b_pow, b_adds, b_addt, b_muls, c_lt, c_le, c_gt, c_ge, c_eq0, c_ne0, c_in0, c_ni0, c_is0, c_isn0, e_int, e_bl, t_bl, t_int, t_non, t_tup, t_rol, t_ktup, t_str, i_tup, i_rol, i_ktup, i_str, l_tup, l_ktup, l_rol, l_str, l_int0, l_int1, l_str1, l_max, l_min, sl_tup, sl_rol, sl_str, y_int, y_bl, y_str, y_tup, y_ktup, y_non, it_rol, it_tup, it_ktup, it_str, decide_eq_true_eq, decide_eq_false_iff_not, reduceCtorEq, false_implies, true_implies, forall_const, and_true, true_and, List.length_map, l_isI, l_isB, l_isS, l_isL, l_isT, l_isD, isTy, decide_true, decide_false, Bool.or_false, Bool.false_or, Bool.true_or, Bool.or_true, Bool.not_true, Bool.not_false, Bool.false_eq_true, Bool.true_eq_false, Bool.not_eq_true', Bool.not_eq_false', ne_eq, not_true_eq_false, not_false_eq_true, D.int.injEq, D.str.injEq, Option.some.injEq, exists_eq_left', exists_eq_left, l_lst hq]
    have : insN b w xs ≤ xs.length := List.length_filter_le ..
    exact ⟨.inl ⟨by unfold insN at this; omega, by unfold insN at this; omega⟩, m, s, hk⟩
def dueT (r : Nat) : Sms :=
  (.c (.set 3 (.ix (.bin .add (.var 0) (.lst (.c (.bin .pow (.int 2) (.int 40)) .n))) (.var 1)))
  (.c (.ite (.cmp .ge (.bin .sub (.var 3) (.var 2)) (.int 2)) (.c (.ret (.tup (.c (.bin .add (.bin .add (.sl (.var 0) .part0 (.var 1)) (.lst (.c (.bin .fdiv (.bin .add (.var 2) (.var 3)) (.int 2)) .n))) (.sl (.var 0) (.var 1) .part0)) (.c (.var 1) (.c (.var 1) .n)))))
  .n) .n)
  (.c (.set 4 (.int 2))
  (.c (.whl (.not (.call r (.c (.var 0) (.c (.bin .mul (.bin .fdiv (.var 2) (.var 4)) (.var 4)) (.c (.var 4) .n))))) (.c (.set 4 (.bin .mul (.int 2) (.var 4)))
  .n))
  (.c (.set 5 (.bin .mul (.bin .fdiv (.var 2) (.var 4)) (.var 4)))
  (.c (.set 6 (.lc [10] (.name 10) (.of (.var 0)) (.cmp .lt (.var 10) (.var 5)) (.var 10)))
  (.c (.set 7 (.lc [10] (.name 10) (.of (.var 0)) (.cmp .ge (.var 10) (.bin .add (.var 5) (.var 4))) (.var 10)))
  (.c (.set 8 (.bin .add (.bin .sub (.bin .sub (.blt .len (.c (.var 0) .n)) (.blt .len (.c (.var 6) .n))) (.blt .len (.c (.var 7) .n))) (.int 1)))
  (.c (.set 9 (.lc [11] (.name 11) (.rng1 (.var 8)) (.bl true) (.bin .add (.var 5) (.bin .mul (.bin .add (.var 11) (.int 1)) (.bin .fdiv (.var 4) (.bin .add (.var 8) (.int 1)))))))
  (.c (.ret (.tup (.c (.bin .add (.bin .add (.var 6) (.var 9)) (.var 7)) (.c (.blt .len (.c (.var 6) .n)) (.c (.bin .sub (.bin .add (.blt .len (.c (.var 6) .n)) (.var 8)) (.int 1)) .n)))))
  .n))))))))))
def dueB (r : Nat) : Sms := (.c (.set 2 (.ite (.cmp .ne (.var 0) (.lst .n)) (.ix (.lst (.c (.int 0) (.c (.ix (.var 0) (.bin .sub (.var 1) (.int 1))) .n))) (.blt .int (.c (.cmp .gt (.var 1) (.int 0)) .n))) (.int 0))) (dueT r))
abbrev spDue : Sp := fun ds m k _ => ∃ (p : Nat) (xs : List Int) (i : Nat), ds = [.ref p, .int i] ∧ m p = some (.lst (xs.map D.int)) ∧ Mk xs ∧ xs.length ≤ 1000 ∧ i ≤ xs.length ∧
  New m (.lst ((opL xs i).map D.int)) fun d m1 => k (.tup [d, .int (opF xs i), .int (opZ xs i)]) m1
theorem atI_app0 {xs : List Int} {i : Nat} (h2 : i ≤ xs.length) : atI (xs.map D.int ++ [D.int 1099511627776]) (i : Int) = some (.int (bhd xs i)) := by
  rw [atI_get (by omega) (by rw [List.length_append, List.length_map, List.length_singleton]; omega), Int.toNat_natCast]
  unfold bhd
  by_cases e : i < xs.length
  · simp [e, List.getElem?_append_left]
  · have : i = xs.length := by omega
    subst this
    simp
/-- a place that may count from the end -/
theorem atI_prev {xs : List Int} {i : Nat} (h : xs ≠ []) (h2 : i ≤ xs.length) : ∃ z, atI (xs.map D.int) ((i : Int) - 1) = some (.int z) ∧ (0 < i → z = ahd xs i) := by
  have hl : 0 < xs.length := List.length_pos_iff.mpr h
  by_cases e : 0 < i
  · exact ⟨_, atI_ahd e h2, fun _ => rfl⟩
  · have : i = 0 := by omega
    subst this
    refine ⟨xs[xs.length - 1], ?_, fun z => absurd z e⟩
    unfold atI dIx
    rw [if_neg (by decide), List.length_map, if_pos (by omega)]
    have e2 : (((0 : Nat) : Int) - 1 + (xs.length : Int)).toNat = xs.length - 1 := by omega
    rw [e2]
    have : xs.length - 1 < xs.length := by omega
    simp [this]
theorem kp_due {Γ : En} {r : Nat} (hR : Γ.fn r = spRoom) : Keeps Γ 12 (dueB r) spDue := by
  rintro ds m k X ⟨p, xs, i, rfl, hm, hx, hl, hi, hk⟩
  show rSs Γ (dueB r) _ [some _, some _, none, none, none, none, none, none, none, none, none, none] m
  have tail : ∀ M : Mem, Sub m M → rSs Γ (dueT r) { nx := fun _ m1 => ∃ m2, Sub m2 m1 ∧ k .non m2, rt := fun d m1 => ∃ m2, Sub m2 m1 ∧ k d m2, ex := fun _ e m1 => ∃ m2, Sub m2 m1 ∧ X e m2 } [some (.ref p), some (.int i), some (.int (ahd xs i)), none, none, none, none, none, none, none, none, none] M := by
    intro M sM
    have hM := sM.at hm
    simp only [dueT, rSs, rS, rE, rEs, rT, rP, rSrc, rTg, rCh, sget0, sgetS, sset0, ssetS, sw0, swS, swN, swC, b_add, b_sub, b_mul, b_fdiv, b_mod, b_pow, b_adds, b_addt, b_muls, c_lt, c_le, c_gt, c_ge, c_eq0, c_ne0, c_in0, c_ni0, c_is0, c_isn0, e_int, e_bl, t_bl, t_int, t_non, t_tup, t_rol, t_ktup, t_str, i_tup, i_rol, i_ktup, i_str, l_tup, l_ktup, l_rol, l_str, l_int0, l_int1, l_str1, l_max, l_min, sl_tup, sl_rol, sl_str, y_int, y_bl, y_str, y_tup, y_ktup, y_non, it_rol, it_tup, it_ktup, it_str, decide_eq_true_eq, decide_eq_false_iff_not, reduceCtorEq, false_implies, true_implies, forall_const, and_true, true_and, List.length_map, l_isI, l_isB, l_isS, l_isL, l_isT, l_isD, isTy, decide_true, decide_false, Bool.or_false, Bool.false_or, Bool.true_or, Bool.or_true, Bool.not_true, Bool.not_false, Bool.false_eq_true, Bool.true_eq_false, Bool.not_eq_true', Bool.not_eq_false', ne_eq, not_true_eq_false, not_false_eq_true, D.int.injEq, D.str.injEq, Option.some.injEq, exists_eq_left', exists_eq_left, p40]
    refine ⟨⟨by decide, by decide⟩, New.by fun q M1 _ _ s1 hq _ => ?_⟩
    rw [b_addl (s1.at hM) hq]
    refine ⟨by simp only [List.length_map, List.length_cons, List.length_nil]; unfold big; omega, New.by fun q2 M2 _ _ s2 hq2 _ => ?_⟩
    rw [i_lst hq2]
    refine ⟨_, atI_app0 hi, ?_⟩
    have S2 := (sM.trans s1).trans s2
    clear hq hq2 s1 s2 sM hM
    have hM := S2.at hm
    simp only [rSs, rS, rE, rEs, rT, rP, rSrc, rTg, rCh, sget0, sgetS, sset0, ssetS, sw0, swS, swN, swC, b_add, b_sub, b_mul, b_fdiv, b_mod, b_pow, b_adds, b_addt, b_muls, c_lt, c_le, c_gt, c_ge, c_eq0, c_ne0, c_in0, c_ni0, c_is0, c_isn0, e_int, e_bl, t_bl, t_int, t_non, t_tup, t_rol, t_ktup, t_str, i_tup, i_rol, i_ktup, i_str, l_tup, l_ktup, l_rol, l_str, l_int0, l_int1, l_str1, l_max, l_min, sl_tup, sl_rol, sl_str, y_int, y_bl, y_str, y_tup, y_ktup, y_non, it_rol, it_tup, it_ktup, it_str, decide_eq_true_eq, decide_eq_false_iff_not, reduceCtorEq, false_implies, true_implies, forall_const, and_true, true_and, List.length_map, l_isI, l_isB, l_isS, l_isL, l_isT, l_isD, isTy, decide_true, decide_false, Bool.or_false, Bool.false_or, Bool.true_or, Bool.or_true, Bool.not_true, Bool.not_false, Bool.false_eq_true, Bool.true_eq_false, Bool.not_eq_true', Bool.not_eq_false', ne_eq, not_true_eq_false, not_false_eq_true, D.int.injEq, D.str.injEq, Option.some.injEq, exists_eq_left', exists_eq_left, sl_lst hM, hR]
    unfold opL opF opZ at hk
    refine ⟨fun hg => ?_, fun hg => ?_⟩
    · have hg2 : ¬ bhd xs i - ahd xs i < 2 := by omega
      rw [if_neg hg2, if_neg hg2, if_neg hg2] at hk
      refine New.by fun r1 M3 _ _ s3 hr1 _ => ⟨⟨by decide, by decide⟩, New.by fun r2 M4 _ _ s4 hr2 _ => ?_⟩
      rw [cut_to (by omega), Int.toNat_natCast, ← List.map_take] at hr1
      rw [b_addl (ys := ([(ahd xs i + bhd xs i) / 2] : List Int).map D.int) (s4.at hr1) hr2, ← List.map_append]
      refine ⟨by simp only [List.length_map, List.length_take, List.length_cons, List.length_nil]; unfold big; omega, New.by fun r3 M5 _ _ s5 hr3 _ => ?_⟩
      have S5 := ((S2.trans s3).trans s4).trans s5
      rw [sl_lst (S5.at hm)]
      refine New.by fun r4 M6 _ _ s6 hr4 _ => ?_
      rw [cut_from (by omega), Int.toNat_natCast, ← List.map_drop] at hr4
      rw [b_addl (s6.at hr3) hr4, ← List.map_append]
      refine ⟨by simp only [List.length_map, List.length_append, List.length_take, List.length_drop, List.length_cons, List.length_nil]; unfold big; omega, New.by fun d M7 md eM _ _ _ => ?_⟩
      have mr : m d = none := (S5.trans s6).free md
      exact ⟨_, eM ▸ (S5.trans s6).upd, hk d mr⟩
    · have hg2 : bhd xs i - ahd xs i < 2 := by omega
      rw [if_pos hg2, if_pos hg2, if_pos hg2] at hk
      obtain ⟨a0, a1⟩ := hx.ahd hi
      generalize ahd xs i = a at hk a0 a1 ⊢
      generalize bhd xs i = b at hk ⊢
      obtain ⟨w1, w2, d, w3, w4⟩ := winW_spec (a := a) hl
      refine rWhl_ex (fun n σ M => M = M2 ∧ ∃ (w : Int), σ = [some (.ref p), some (.int i), some (.int a), some (.int b), some (.int w), none, none, none, none, none, none, none] ∧ 2 ≤ w ∧ w * 2 ^ n = 1099511627776 ∧ win (winP xs a) n w = winW xs a) (n := 39)
        ⟨rfl, 2, rfl, by decide, by decide, rfl⟩ fun n σ M R h r => ?_
      obtain ⟨rfl, w, rfl, h2, h3, h4⟩ := h
      have wb := win_bnd h3 (by omega)
      simp only [rSs, rS, rE, rEs, rT, rP, rSrc, rTg, rCh, sget0, sgetS, sset0, ssetS, sw0, swS, swN, swC, b_add, b_sub, b_mul, b_fdiv, b_mod, b_pow, b_adds, b_addt, b_muls, c_lt, c_le, c_gt, c_ge, c_eq0, c_ne0, c_in0, c_ni0, c_is0, c_isn0, e_int, e_bl, t_bl, t_int, t_non, t_tup, t_rol, t_ktup, t_str, i_tup, i_rol, i_ktup, i_str, l_tup, l_ktup, l_rol, l_str, l_int0, l_int1, l_str1, l_max, l_min, sl_tup, sl_rol, sl_str, y_int, y_bl, y_str, y_tup, y_ktup, y_non, it_rol, it_tup, it_ktup, it_str, decide_eq_true_eq, decide_eq_false_iff_not, reduceCtorEq, false_implies, true_implies, forall_const, and_true, true_and, List.length_map, l_isI, l_isB, l_isS, l_isL, l_isT, l_isD, isTy, decide_true, decide_false, Bool.or_false, Bool.false_or, Bool.true_or, Bool.or_true, Bool.not_true, Bool.not_false, Bool.false_eq_true, Bool.true_eq_false, Bool.not_eq_true', Bool.not_eq_false', ne_eq, not_true_eq_false, not_false_eq_true, D.int.injEq, D.str.injEq, Option.some.injEq, exists_eq_left', exists_eq_left, hR]
      refine ⟨⟨by omega, by omega⟩, .inr ⟨by omega, by omega⟩, p, xs, _, _, rfl, hM, hl, ?_⟩
      have er : decide (((insN (a / w * w) w xs : Int) + 1) * ((insN (a / w * w) w xs : Int) + 1) ≤ w - 2) = winP xs a w := by
        unfold winP insN
        rw [manyI_in hx.ri]
      rw [er]
      simp only [rSs, rS, rE, rEs, rT, rP, rSrc, rTg, rCh, sget0, sgetS, sset0, ssetS, sw0, swS, swN, swC, b_add, b_sub, b_mul, b_fdiv, b_mod, b_pow, b_adds, b_addt, b_muls, c_lt, c_le, c_gt, c_ge, c_eq0, c_ne0, c_in0, c_ni0, c_is0, c_isn0, e_int, e_bl, t_bl, t_int, t_non, t_tup, t_rol, t_ktup, t_str, i_tup, i_rol, i_ktup, i_str, l_tup, l_ktup, l_rol, l_str, l_int0, l_int1, l_str1, l_max, l_min, sl_tup, sl_rol, sl_str, y_int, y_bl, y_str, y_tup, y_ktup, y_non, it_rol, it_tup, it_ktup, it_str, decide_eq_true_eq, decide_eq_false_iff_not, reduceCtorEq, false_implies, true_implies, forall_const, and_true, true_and, List.length_map, l_isI, l_isB, l_isS, l_isL, l_isT, l_isD, isTy, decide_true, decide_false, Bool.or_false, Bool.false_or, Bool.true_or, Bool.or_true, Bool.not_true, Bool.not_false, Bool.false_eq_true, Bool.true_eq_false, Bool.not_eq_true', Bool.not_eq_false', ne_eq, not_true_eq_false, not_false_eq_true, D.int.injEq, D.str.injEq, Option.some.injEq, exists_eq_left', exists_eq_left]
      refine ⟨fun h5 => ⟨.inl ⟨by decide, by decide⟩, M, Sub.refl _, ?_⟩, fun h5 => ?_⟩
      · cases n with
        | zero =>
          have : w = 1099511627776 := by simpa using h3
          subst this
          rw [winP_top hl] at h5
          cases h5
        | succ n =>
          refine r n _ _ (Nat.lt_succ_self n) ⟨rfl, 2 * w, rfl, by omega, ?_, ?_⟩
          · rw [← h3, Int.pow_succ, Int.mul_comm 2 w, Int.mul_assoc, Int.mul_comm 2]
          · rw [← h4]
            show _ = if winP xs a w = true then w else win (winP xs a) n (2 * w)
            rw [if_neg (by rw [h5]; exact fun z => nomatch z)]
      · have e : winW xs a = w := by
          rw [← h4]
          cases n with
          | zero => rfl
          | succ n =>
            show (if winP xs a w = true then w else _) = w
            rw [if_pos h5]
        subst e
        have cm : sprF xs a + sprM xs a ≤ xs.length := cm_le hx.ri (by omega)
        have eF : List.filter (fun x => decide (x < a / winW xs a * winW xs a)) xs = xs.take (sprF xs a) := fil_lt hx.ri
        have eH : List.filter (fun x => decide (a / winW xs a * winW xs a + winW xs a ≤ x)) xs = xs.drop (sprF xs a + sprM xs a) := fil_high hx.ri (by omega)
        simp only [it_lst hM]
        refine ⟨⟨by omega, by omega⟩, .inr ⟨by omega, by omega⟩, by rw [List.length_map]; unfold big; omega, rLc_ints (fun x => decide (x < a / winW xs a * winW xs a)) id hM (fun j hj R S hR hS => ?_) (New.by fun q M3 _ _ s3 hq _ => ?_)⟩
        · simp only [rSs, rS, rE, rEs, rT, rP, rSrc, rTg, rCh, sget0, sgetS, sset0, ssetS, sw0, swS, swN, swC, b_add, b_sub, b_mul, b_fdiv, b_mod, b_pow, b_adds, b_addt, b_muls, c_lt, c_le, c_gt, c_ge, c_eq0, c_ne0, c_in0, c_ni0, c_is0, c_isn0, e_int, e_bl, t_bl, t_int, t_non, t_tup, t_rol, t_ktup, t_str, i_tup, i_rol, i_ktup, i_str, l_tup, l_ktup, l_rol, l_str, l_int0, l_int1, l_str1, l_max, l_min, sl_tup, sl_rol, sl_str, y_int, y_bl, y_str, y_tup, y_ktup, y_non, it_rol, it_tup, it_ktup, it_str, decide_eq_true_eq, decide_eq_false_iff_not, reduceCtorEq, false_implies, true_implies, forall_const, and_true, true_and, List.length_map, l_isI, l_isB, l_isS, l_isL, l_isT, l_isD, isTy, decide_true, decide_false, Bool.or_false, Bool.false_or, Bool.true_or, Bool.or_true, Bool.not_true, Bool.not_false, Bool.false_eq_true, Bool.true_eq_false, Bool.not_eq_true', Bool.not_eq_false', ne_eq, not_true_eq_false, not_false_eq_true, D.int.injEq, D.str.injEq, Option.some.injEq, exists_eq_left', exists_eq_left]
          exact ⟨fun h => hR (by simp [h]) _ (Sub.refl _), fun h => hS (by simp [h]) _ (Sub.refl _)⟩
        rw [List.map_id, eF] at hq
        have hM3 := s3.at hM
        simp only [rSs, rS, rE, rEs, rT, rP, rSrc, rTg, rCh, sget0, sgetS, sset0, ssetS, sw0, swS, swN, swC, b_add, b_sub, b_mul, b_fdiv, b_mod, b_pow, b_adds, b_addt, b_muls, c_lt, c_le, c_gt, c_ge, c_eq0, c_ne0, c_in0, c_ni0, c_is0, c_isn0, e_int, e_bl, t_bl, t_int, t_non, t_tup, t_rol, t_ktup, t_str, i_tup, i_rol, i_ktup, i_str, l_tup, l_ktup, l_rol, l_str, l_int0, l_int1, l_str1, l_max, l_min, sl_tup, sl_rol, sl_str, y_int, y_bl, y_str, y_tup, y_ktup, y_non, it_rol, it_tup, it_ktup, it_str, decide_eq_true_eq, decide_eq_false_iff_not, reduceCtorEq, false_implies, true_implies, forall_const, and_true, true_and, List.length_map, l_isI, l_isB, l_isS, l_isL, l_isT, l_isD, isTy, decide_true, decide_false, Bool.or_false, Bool.false_or, Bool.true_or, Bool.or_true, Bool.not_true, Bool.not_false, Bool.false_eq_true, Bool.true_eq_false, Bool.not_eq_true', Bool.not_eq_false', ne_eq, not_true_eq_false, not_false_eq_true, D.int.injEq, D.str.injEq, Option.some.injEq, exists_eq_left', exists_eq_left, it_lst hM3]
        refine ⟨by unfold big; omega, rLc_ints (fun x => decide (a / winW xs a * winW xs a + winW xs a ≤ x)) id hM3 (fun j hj R S hR hS => ?_) (New.by fun q2 M4 _ _ s4 hq2 _ => ?_)⟩
        · simp only [rSs, rS, rE, rEs, rT, rP, rSrc, rTg, rCh, sget0, sgetS, sset0, ssetS, sw0, swS, swN, swC, b_add, b_sub, b_mul, b_fdiv, b_mod, b_pow, b_adds, b_addt, b_muls, c_lt, c_le, c_gt, c_ge, c_eq0, c_ne0, c_in0, c_ni0, c_is0, c_isn0, e_int, e_bl, t_bl, t_int, t_non, t_tup, t_rol, t_ktup, t_str, i_tup, i_rol, i_ktup, i_str, l_tup, l_ktup, l_rol, l_str, l_int0, l_int1, l_str1, l_max, l_min, sl_tup, sl_rol, sl_str, y_int, y_bl, y_str, y_tup, y_ktup, y_non, it_rol, it_tup, it_ktup, it_str, decide_eq_true_eq, decide_eq_false_iff_not, reduceCtorEq, false_implies, true_implies, forall_const, and_true, true_and, List.length_map, l_isI, l_isB, l_isS, l_isL, l_isT, l_isD, isTy, decide_true, decide_false, Bool.or_false, Bool.false_or, Bool.true_or, Bool.or_true, Bool.not_true, Bool.not_false, Bool.false_eq_true, Bool.true_eq_false, Bool.not_eq_true', Bool.not_eq_false', ne_eq, not_true_eq_false, not_false_eq_true, D.int.injEq, D.str.injEq, Option.some.injEq, exists_eq_left', exists_eq_left]
          exact ⟨fun h => hR (by simp [h]) _ (Sub.refl _), fun h => hS (by simp [h]) _ (Sub.refl _)⟩
        rw [List.map_id, eH] at hq2
        have hM4 := s4.at hM3
        have hq' := s4.at hq
        simp only [rSs, rS, rE, rEs, rT, rP, rSrc, rTg, rCh, sget0, sgetS, sset0, ssetS, sw0, swS, swN, swC, b_add, b_sub, b_mul, b_fdiv, b_mod, b_pow, b_adds, b_addt, b_muls, c_lt, c_le, c_gt, c_ge, c_eq0, c_ne0, c_in0, c_ni0, c_is0, c_isn0, e_int, e_bl, t_bl, t_int, t_non, t_tup, t_rol, t_ktup, t_str, i_tup, i_rol, i_ktup, i_str, l_tup, l_ktup, l_rol, l_str, l_int0, l_int1, l_str1, l_max, l_min, sl_tup, sl_rol, sl_str, y_int, y_bl, y_str, y_tup, y_ktup, y_non, it_rol, it_tup, it_ktup, it_str, decide_eq_true_eq, decide_eq_false_iff_not, reduceCtorEq, false_implies, true_implies, forall_const, and_true, true_and, List.length_map, l_isI, l_isB, l_isS, l_isL, l_isT, l_isD, isTy, decide_true, decide_false, Bool.or_false, Bool.false_or, Bool.true_or, Bool.or_true, Bool.not_true, Bool.not_false, Bool.false_eq_true, Bool.true_eq_false, Bool.not_eq_true', Bool.not_eq_false', ne_eq, not_true_eq_false, not_false_eq_true, D.int.injEq, D.str.injEq, Option.some.injEq, exists_eq_left', exists_eq_left, l_lst hM4, l_lst hq', l_lst hq2, List.length_take, List.length_drop]
        have et : (xs.length : Int) - ((min (sprF xs a) xs.length : Nat) : Int) - ((xs.length - (sprF xs a + sprM xs a) : Nat) : Int) + 1 = (sprM xs a : Int) + 1 := by omega
        have et2 : ((sprM xs a : Int) + 1).toNat = sprM xs a + 1 := by omega
        rw [et, et2, rangeD_rg]
        have wb2 : winW xs a ≤ 1099511627776 := wb
        refine ⟨by unfold i62; omega, by rw [List.length_map, rg_len]; unfold big; omega, rLc_intsM (fun j => a / winW xs a * winW xs a + (j + 1) * (winW xs a / (sprM xs a + 2))) trivial (fun j hj R hR => ?_) (New.by fun q3 M5 _ _ s5 hq3 _ => ?_)⟩
        · have := rg_mem.mp hj
          simp only [rSs, rS, rE, rEs, rT, rP, rSrc, rTg, rCh, sget0, sgetS, sset0, ssetS, sw0, swS, swN, swC, b_add, b_sub, b_mul, b_fdiv, b_mod, b_pow, b_adds, b_addt, b_muls, c_lt, c_le, c_gt, c_ge, c_eq0, c_ne0, c_in0, c_ni0, c_is0, c_isn0, e_int, e_bl, t_bl, t_int, t_non, t_tup, t_rol, t_ktup, t_str, i_tup, i_rol, i_ktup, i_str, l_tup, l_ktup, l_rol, l_str, l_int0, l_int1, l_str1, l_max, l_min, sl_tup, sl_rol, sl_str, y_int, y_bl, y_str, y_tup, y_ktup, y_non, it_rol, it_tup, it_ktup, it_str, decide_eq_true_eq, decide_eq_false_iff_not, reduceCtorEq, false_implies, true_implies, forall_const, and_true, true_and, List.length_map, l_isI, l_isB, l_isS, l_isL, l_isT, l_isD, isTy, decide_true, decide_false, Bool.or_false, Bool.false_or, Bool.true_or, Bool.or_true, Bool.not_true, Bool.not_false, Bool.false_eq_true, Bool.true_eq_false, Bool.not_eq_true', Bool.not_eq_false', ne_eq, not_true_eq_false, not_false_eq_true, D.int.injEq, D.str.injEq, Option.some.injEq, exists_eq_left', exists_eq_left]
          have e2 : (sprM xs a : Int) + 1 + 1 = sprM xs a + 2 := by omega
          rw [e2]
          exact ⟨⟨by omega, by omega⟩, .inl ⟨by omega, by omega⟩, hR _ (Sub.refl _)⟩
        · rw [b_addl (s5.at hq') hq3, ← List.map_append]
          refine ⟨by simp only [List.length_map, List.length_take, rg_len]; unfold big; omega, New.by fun q4 M6 _ _ s6 hq4 _ => ?_⟩
          rw [b_addl hq4 ((s5.trans s6).at hq2), ← List.map_append]
          refine ⟨by simp only [List.length_map, List.length_append, List.length_take, List.length_drop, rg_len]; unfold big; omega, New.by fun d M7 md eM s7 _ _ => ?_⟩
          have S6 := (((S2.trans s3).trans s4).trans s5).trans s6
          have mr : m d = none := S6.free md
          simp only [rSs, rS, rE, rEs, rT, rP, rSrc, rTg, rCh, sget0, sgetS, sset0, ssetS, sw0, swS, swN, swC, b_add, b_sub, b_mul, b_fdiv, b_mod, b_pow, b_adds, b_addt, b_muls, c_lt, c_le, c_gt, c_ge, c_eq0, c_ne0, c_in0, c_ni0, c_is0, c_isn0, e_int, e_bl, t_bl, t_int, t_non, t_tup, t_rol, t_ktup, t_str, i_tup, i_rol, i_ktup, i_str, l_tup, l_ktup, l_rol, l_str, l_int0, l_int1, l_str1, l_max, l_min, sl_tup, sl_rol, sl_str, y_int, y_bl, y_str, y_tup, y_ktup, y_non, it_rol, it_tup, it_ktup, it_str, decide_eq_true_eq, decide_eq_false_iff_not, reduceCtorEq, false_implies, true_implies, forall_const, and_true, true_and, List.length_map, l_isI, l_isB, l_isS, l_isL, l_isT, l_isD, isTy, decide_true, decide_false, Bool.or_false, Bool.false_or, Bool.true_or, Bool.or_true, Bool.not_true, Bool.not_false, Bool.false_eq_true, Bool.true_eq_false, Bool.not_eq_true', Bool.not_eq_false', ne_eq, not_true_eq_false, not_false_eq_true, D.int.injEq, D.str.injEq, Option.some.injEq, exists_eq_left', exists_eq_left, l_lst (((s5.trans s6).trans s7).at hq'), List.length_take]
          have e3 : ((min (sprF xs a) xs.length : Nat) : Int) = (sprF xs a : Int) := by omega
          have e4 : ((min (sprF xs a) xs.length : Nat) : Int) + ((sprM xs a : Int) + 1) - 1 = ((sprF xs a + sprM xs a : Nat) : Int) := by omega
          rw [e4, e3]
          exact ⟨_, eM ▸ S6.upd, hk d mr⟩
  simp only [dueB, rSs, rS, rE, rEs, rT, rP, rSrc, rTg, rCh, sget0, sgetS, sset0, ssetS, sw0, swS, swN, swC, b_add, b_sub, b_mul, b_fdiv, b_mod, b_pow, b_adds, b_addt, b_muls, c_lt, c_le, c_gt, c_ge, c_eq0, c_ne0, c_in0, c_ni0, c_is0, c_isn0, e_int, e_bl, t_bl, t_int, t_non, t_tup, t_rol, t_ktup, t_str, i_tup, i_rol, i_ktup, i_str, l_tup, l_ktup, l_rol, l_str, l_int0, l_int1, l_str1, l_max, l_min, sl_tup, sl_rol, sl_str, y_int, y_bl, y_str, y_tup, y_ktup, y_non, it_rol, it_tup, it_ktup, it_str, decide_eq_true_eq, decide_eq_false_iff_not, reduceCtorEq, false_implies, true_implies, forall_const, and_true, true_and, List.length_map, l_isI, l_isB, l_isS, l_isL, l_isT, l_isD, isTy, decide_true, decide_false, Bool.or_false, Bool.false_or, Bool.true_or, Bool.or_true, Bool.not_true, Bool.not_false, Bool.false_eq_true, Bool.true_eq_false, Bool.not_eq_true', Bool.not_eq_false', ne_eq, not_true_eq_false, not_false_eq_true, D.int.injEq, D.str.injEq, Option.some.injEq, exists_eq_left', exists_eq_left]
  refine New.by fun q M1 _ _ s1 hq _ => e_ints (ms := []) (s1.at hm) hq ?_
  simp only [rSs, rS, rE, rEs, rT, rP, rSrc, rTg, rCh, sget0, sgetS, sset0, ssetS, sw0, swS, swN, swC, b_add, b_sub, b_mul, b_fdiv, b_mod, b_pow, b_adds, b_addt, b_muls, c_lt, c_le, c_gt, c_ge, c_eq0, c_ne0, c_in0, c_ni0, c_is0, c_isn0, e_int, e_bl, t_bl, t_int, t_non, t_tup, t_rol, t_ktup, t_str, i_tup, i_rol, i_ktup, i_str, l_tup, l_ktup, l_rol, l_str, l_int0, l_int1, l_str1, l_max, l_min, sl_tup, sl_rol, sl_str, y_int, y_bl, y_str, y_tup, y_ktup, y_non, it_rol, it_tup, it_ktup, it_str, decide_eq_true_eq, decide_eq_false_iff_not, reduceCtorEq, false_implies, true_implies, forall_const, and_true, true_and, List.length_map, l_isI, l_isB, l_isS, l_isL, l_isT, l_isD, isTy, decide_true, decide_false, Bool.or_false, Bool.false_or, Bool.true_or, Bool.or_true, Bool.not_true, Bool.not_false, Bool.false_eq_true, Bool.true_eq_false, Bool.not_eq_true', Bool.not_eq_false', ne_eq, not_true_eq_false, not_false_eq_true, D.int.injEq, D.str.injEq, Option.some.injEq, exists_eq_left', exists_eq_left]
  refine ⟨fun h => ?_, fun h => ?_⟩
  · have hne : xs ≠ [] := h
    obtain ⟨z, hz, ez⟩ := atI_prev hne hi
    rw [i_lst (s1.at hm)]
    refine ⟨_, hz, New.by fun q2 M2 _ _ s2 hq2 _ => ?_⟩
    rw [i_lst hq2]
    by_cases e : 0 < (i : Int)
    · rw [if_pos e]
      refine ⟨_, atI1, ?_⟩
      rw [ez (by omega)]
      exact tail M2 (s1.trans s2)
    · rw [if_neg e]
      refine ⟨_, atI0, ?_⟩
      have : ahd xs i = 0 := by
        unfold ahd
        rw [if_pos (by omega)]
      rw [← this]
      exact tail M2 (s1.trans s2)
  · have : ahd xs i = 0 := by
      have hn : xs = [] := by simpa using h
      subst hn
      unfold ahd
      rw [if_pos (by simpa using hi)]
    rw [← this]
    exact tail M1 s1
end DL

namespace DL
/-- the memory that is known, within the memory that is -/
theorem sub_p {m M : Mem} {p L : Nat} {b b' o : MO} (ne : p ≠ L) (h : Sub (upd (upd m p b) L o) M) : Sub (upd (upd m p b') L o) (upd M p b') := by
  have := h.upd (p := p) (o := b')
  rwa [upd_comm (Ne.symm ne), upd_upd] at this
theorem sub_l {m M : Mem} {p : Nat} {o o' : MO} (h : Sub (upd m p o) M) : Sub (upd m p o') (upd M p o') := by
  have := h.upd (p := p) (o := o')
  rwa [upd_upd] at this
/-- a box's next number -/
abbrev spTakeM : Sp := fun ds m k _ => ∃ (p : Nat) (b : MO) (w : Int), ds = [.ref p, .int w] ∧ m p = some b ∧ BoxO b ∧ 0 < w ∧ w < 2 ^ 200 ∧ ∀ b' d M, M = upd m p b' → BoxO b' → 0 ≤ d → d < w → k (.int d) M
theorem kp_takeM {Γ : En} : Keeps Γ 5 takeB spTakeM := kp_takeO.imp fun ds m k X ⟨p, b, w, e, hm, hb, h3, h4, hk⟩ => ⟨p, b, w, e, hm, hb, h3, h4, fun b' d h5 h6 h7 => hk b' d _ rfl h5 h6 h7⟩
section
variable {m : Mem} {k : Kt} {a : Nat} {ds : List D}
theorem m_pop (h : m a = some (.lst ds)) : rBm .pop (.ref a) [] m k = ∃ d, ds[ds.length - 1]? = some d ∧ k d (upd m a (.lst ds.dropLast)) := by
  show (match m a with
    | some (.lst ds) => ∃ d, ds[ds.length - 1]? = some d ∧ k d (upd m a (.lst ds.dropLast))
    | _ => False) = _
  rw [h]
end
theorem atI_lt {α : Type} {xs : List α} {i : Int} (h0 : 0 ≤ i) (h : i < xs.length) : ∃ d, atI xs i = some d ∧ d ∈ xs := by
  rw [atI_get h0 h]
  have : i.toNat < xs.length := by omega
  exact ⟨_, List.getElem?_eq_getElem this, List.getElem_mem this⟩
theorem atI_ltI {xs : List Int} {i : Int} (h0 : 0 ≤ i) (h : i < xs.length) : ∃ z, atI (xs.map D.int) i = some (.int z) ∧ z ∈ xs := by
  obtain ⟨d, e, hd⟩ := atI_lt (xs := xs.map D.int) h0 (by rw [List.length_map]; exact h)
  obtain ⟨z, hz, rfl⟩ := List.mem_map.mp hd
  exact ⟨z, e, hz⟩
/-- the last of a rising row -/
theorem atI_last {xs : List Int} (h : Ri xs) (hn : xs ≠ []) : ∃ z, atI (xs.map D.int) (-1) = some (.int z) ∧ z ∈ xs ∧ ∀ x ∈ xs, x ≤ z := by
  have hl : 0 < xs.length := List.length_pos_iff.mpr hn
  have hh : xs.length - 1 < xs.length := by omega
  refine ⟨xs[xs.length - 1], ?_, List.getElem_mem hh, fun x hx => ?_⟩
  · unfold atI dIx
    rw [if_neg (by decide), List.length_map, if_pos (by omega)]
    have e2 : (-1 + (xs.length : Int)).toNat = xs.length - 1 := by omega
    rw [e2]
    simp [hh]
  · obtain ⟨j, hj, rfl⟩ := List.mem_iff_getElem.mp hx
    by_cases e : j = xs.length - 1
    · subst e
      exact Int.le_refl _
    · exact Int.le_of_lt (List.pairwise_iff_getElem.mp h _ _ _ _ (by omega))
theorem ri_at {xs : List Int} (h : Ri xs) {k : Int} (h0 : 1 ≤ k) (h1 : k < xs.length) : ∃ u v, atI (xs.map D.int) k = some (.int u) ∧ atI (xs.map D.int) (k - 1) = some (.int v) ∧ v < u := by
  have a : k.toNat < xs.length := by omega
  have b : (k - 1).toNat < xs.length := by omega
  refine ⟨xs[k.toNat], xs[(k - 1).toNat], ?_, ?_, List.pairwise_iff_getElem.mp h _ _ _ _ (by omega)⟩
  · rw [atI_get (by omega) (by rw [List.length_map]; omega)]
    simp [a]
  · rw [atI_get (by omega) (by rw [List.length_map]; omega)]
    simp [b]
theorem ri_snoc {xs : List Int} {y : Int} (h : Ri xs) (hy : ∀ x ∈ xs, x < y) : Ri (xs ++ [y]) := List.pairwise_append.mpr ⟨h, List.pairwise_singleton _ _, fun x hx z hz => by rw [List.mem_singleton.mp hz]; exact hy x hx⟩
theorem feq_tri {as bs : List Int} {i j i' j' : Int} : F.eqv (.tup [.lst (as.map F.int), .int i, .int j]) (.tup [.lst (bs.map F.int), .int i', .int j']) = (decide (as = bs) && (decide (i = i') && decide (j = j'))) := by
  show (F.eqvs (as.map F.int) (bs.map F.int) && ((i == i') && ((j == j') && true))) = _
  rw [feqv_ints, Bool.and_true]
  by_cases e1 : i = i' <;> by_cases e2 : j = j' <;> simp [e1, e2]
theorem e_tri {m : Mem} {a b : Nat} {as bs : List Int} {i j i' j' : Int} {kb : Bool → Prop} (h : m a = some (.lst (as.map D.int))) (h' : m b = some (.lst (bs.map D.int))) (hk : kb (decide (as = bs) && (decide (i = i') && decide (j = j')))) :
    rEq (.tup [.ref a, .int i, .int j]) (.tup [.ref b, .int i', .int j']) m kb :=
  .inr ⟨.tup [.lst (as.map F.int), .int i, .int j], .tup [.lst (bs.map F.int), .int i', .int j'], ⟨opn_ints h 58, rfl, rfl, trivial⟩, ⟨opn_ints h' 58, rfl, rfl, trivial⟩, by rw [feq_tri]; exact hk⟩
theorem e_triT {m : Mem} {a b : Nat} {as : List Int} {i j : Int} {kb : Bool → Prop} (h : m a = some (.lst (as.map D.int))) (h' : m b = some (.lst (as.map D.int))) (hk : kb true) :
    rEq (.tup [.ref a, .int i, .int j]) (.tup [.ref b, .int i, .int j]) m kb := e_tri h h' (by simpa using hk)
theorem atI2 {α : Type} {x y z : α} {xs : List α} : atI (x :: y :: z :: xs) 2 = some z := by
  rw [atI_get (by decide) (by simp only [List.length_cons]; omega)]
  rfl
theorem atI_ahd0 {xs : List Int} {i : Nat} (h2 : i ≤ xs.length) : atI ((0 :: xs).map D.int) (i : Int) = some (.int (ahd xs i)) := by
  rw [atI_get (by omega) (by rw [List.length_map, List.length_cons]; omega), Int.toNat_natCast]
  unfold ahd
  cases i with
  | zero => rfl
  | succ i =>
    have : i < xs.length := by omega
    simp [this]
theorem p20 : (2 : Int) ^ Int.toNat 20 = 1048576 := rfl
theorem p30 : (2 : Int) ^ Int.toNat 30 = 1073741824 := rfl
theorem p15 : (2 : Int) ^ Int.toNat 15 = 32768 := rfl
theorem p39 : (2 : Int) ^ Int.toNat 39 = 549755813888 := rfl
end DL

namespace DL
theorem strs_plain {n : Nat} : ∀ {ws : List (List Nat)}, (∀ w ∈ ws, w.all (· < 1114112) = true) → D.plains n (ws.map D.str) = true
  | [], _ => by cases n <;> rfl
  | w :: ws, h => by
    rw [List.map_cons, D.plains, strs_plain fun v hv => h v (List.mem_cons_of_mem _ hv)]
    have : D.plain n (.str w) = true := by cases n <;> exact h w (List.mem_cons_self ..)
    rw [this]
    rfl
theorem strs_flat : ∀ {ws : List (List Nat)}, (∀ w ∈ ws, w.all (· < 1114112) = true) → (ws.map D.str).all D.flat = true
  | [], _ => rfl
  | w :: ws, h => by
    rw [List.map_cons, List.all_cons, strs_flat fun v hv => h v (List.mem_cons_of_mem _ hv)]
    have : D.flat (.str w) = true := h w (List.mem_cons_self ..)
    rw [this]
    rfl
theorem eqv_str (x y : List Nat) : D.eqv (.str x) (.str y) = decide (x = y) := by
  show (x == y) = _
  by_cases e : x = y <;> simp [e]
theorem any_strs {x : List Nat} : ∀ ws : List (List Nat), ((ws.map D.str).any fun y => D.eqv y (.str x)) = decide (x ∈ ws)
  | [] => rfl
  | w :: ws => by
    rw [List.map_cons, List.any_cons, any_strs ws, eqv_str]
    by_cases e : w = x
    · simp [e]
    · have : x ≠ w := fun z => e z.symm
      simp [e, this]
theorem allStr_map : ∀ ws : List (List Nat), allStr (ws.map D.str) = some ws
  | [] => rfl
  | w :: ws => by
    show (allStr (ws.map D.str)).map (w :: ·) = _
    rw [allStr_map ws]
    rfl
theorem join_nil : ∀ ws : List (List Nat), joinS [] ws = ws.flatten
  | [] => rfl
  | [w] => by simp [joinS]
  | w :: v :: ws => by
    show w ++ ([] ++ joinS [] (v :: ws)) = _
    rw [join_nil (v :: ws)]
    simp
theorem flat_ones (cs : List Nat) : (cs.map fun c => [c]).flatten = cs := by
  induction cs with
  | nil => rfl
  | cons c cs ih => simp [ih]
theorem sum_ones (cs : List Nat) : ((cs.map fun c => [c]).map List.length).sum = cs.length := by
  induction cs with
  | nil => rfl
  | cons c cs ih =>
    simp only [List.map_cons, List.sum_cons, ih, List.length_cons, List.length_nil]
    omega
section
variable {m : Mem} {k : Kt} {kb : Bool → Prop} {a : Nat} {ds : List D} {x s : List Nat} {ws : List (List Nat)}
theorem in_tup (hx : x.all (· < 1114112) = true) (hw : ∀ w ∈ ws, w.all (· < 1114112) = true) (h : kb (decide (x ∈ ws))) : rIn (.str x) (.tup (ws.map D.str)) m kb := ⟨⟨hx, strs_flat hw⟩, by rw [any_strs]; exact h⟩
theorem in_ktup (hx : x.all (· < 1114112) = true) (hw : ∀ w ∈ ws, w.all (· < 1114112) = true) (h : kb (decide (x ∈ ws))) : rIn (.str x) (.ktup (ws.map D.str)) m kb := ⟨⟨hx, strs_flat hw⟩, by rw [any_strs]; exact h⟩
theorem in_lst (hm : m a = some (.lst (ws.map D.str))) (hx : x.all (· < 1114112) = true) (hw : ∀ w ∈ ws, w.all (· < 1114112) = true) (h : kb (decide (x ∈ ws))) : rIn (.str x) (.ref a) m kb := by
  show (match m a with
      | some (.lst ds) => (D.plain 50 (.str x) = true ∧ D.plains 50 ds = true) ∧ kb (ds.any fun y => D.eqv y (.str x))
      | some (.dK kvs) => keyK (.str x) = true ∧ kb (hasKey kvs (.str x))
      | some (.dT kvs) => keyT (.str x) = true ∧ kb (hasKey kvs (.str x))
      | _ => False)
  rw [hm]
  exact ⟨⟨hx, strs_plain hw⟩, by rw [any_strs]; exact h⟩
theorem in_str {c : Nat} (h : kb (decide (c ∈ s))) : rIn (.str [c]) (.str s) m kb := ⟨c, rfl, h⟩
theorem m_join {cs : List Nat} (hm : m a = some (.lst (cs.map fun c => D.str [c]))) (hl : cs.length ≤ big) : rBm .join (.str []) [.ref a] m k ↔ k (.str cs) m := by
  have e : seqOf m (.ref a) = some ((cs.map fun c => [c]).map D.str) := by
    show (match m a with
      | some (.lst ds) => some ds
      | _ => none) = _
    rw [hm, List.map_map]
    rfl
  constructor
  · rintro ⟨es, ss, h1, h2, h3, h4⟩
    rw [e] at h1
    cases h1
    rw [allStr_map] at h2
    cases h2
    rw [join_nil, flat_ones] at h4
    exact h4
  · intro h
    refine ⟨_, _, e, allStr_map _, ?_, ?_⟩
    · rw [sum_ones]
      simpa using hl
    · rw [join_nil, flat_ones]
      exact h
theorem ok_join : bmOk .join (.str s) m = True := rfl
end
def lett : List Nat := [97, 98, 99, 100, 101, 102, 103, 104, 105, 106, 107, 108, 109, 110, 111, 112, 113, 114, 115, 116, 117, 118, 119, 120, 121, 122]
def keptL : List (List Nat) := [[100, 101, 102], [115, 101, 116], [114, 101, 97, 100], [119, 114, 105, 116, 101], [99, 97, 108, 108], [105, 102], [101, 108, 115, 101], [119, 104, 105, 108, 101], [103, 105, 118, 101], [101, 110, 100]]
def oddL : List (List Nat) := [[110, 117, 109], [118, 97, 114], [111, 112], [103, 111], [97, 115, 107], [98, 97, 99, 107], [99, 104, 97, 105, 110], [115, 101, 116, 115], [105, 102, 102], [101, 110, 100, 115], [99, 97, 108, 108, 115], [114, 101, 97, 100, 115], [103, 105, 118, 101, 115]]
/-- a name -/
structure NmOk (w : List Nat) : Prop where
  ne : w ≠ []
  az : ∀ c ∈ w, 97 ≤ c ∧ c ≤ 122
  le : w.length ≤ 8
  kp : w ∉ keptL
theorem NmOk.tx {w : List Nat} (h : NmOk w) : w.all (· < 1114112) = true := List.all_eq_true.mpr fun c hc => decide_eq_true (by have := h.az c hc; omega)
theorem tx_of {w : List Nat} (h : ∀ c ∈ w, 97 ≤ c ∧ c ≤ 122) : w.all (· < 1114112) = true := List.all_eq_true.mpr fun c hc => decide_eq_true (by have := h c hc; omega)
theorem kept_tx : ∀ w ∈ keptL, w.all (· < 1114112) = true := by decide
theorem odd_ok : ∀ w ∈ oddL, w ≠ [] ∧ (∀ c ∈ w, 97 ≤ c ∧ c ≤ 122) ∧ w.length ≤ 8 ∧ w ∉ keptL := by decide
theorem lett_nat : ∀ n, n < 26 → lett[n]? = some (97 + n) := by decide
theorem atI_lett {i : Int} (h0 : 0 ≤ i) (h1 : i < 26) : atI lett i = some (97 + i.toNat) := by
  rw [atI_get h0 (by show i < 26; exact h1)]
  exact lett_nat _ (by omega)
/-- the sign at place j -/
def oneN (f j : Nat) : Nat := 97 + (f + 5 * j) % 26
theorem one_inj {f j j' : Nat} (h : j < 26) (h' : j' < 26) (e : oneN f j = oneN f j') : j = j' := by
  unfold oneN at e
  omega
def q7 : List Nat := [113, 113, 113, 113, 113, 113, 113]
/-- what the j-th word may be -/
def Fm (form f : Nat) (pre suf : List Nat) (j : Nat) (w : List Nat) : Prop :=
  (form ≠ 2 ∧ ∃ z : List Nat, z.length ≤ 1 ∧ w = pre ++ oneN f j :: (suf ++ z)) ∨ w = q7 ++ [oneN f j] ∨ (form = 2 ∧ ∃ r, w = r ++ [oneN f j])
theorem fm_ne {form f : Nat} {pre suf : List Nat} {j j' : Nat} {w w' : List Nat} (hl : pre.length + suf.length ≤ 5) (hj : j < 26) (hj' : j' < 26) (hn : j ≠ j') (h : Fm form f pre suf j w) (h' : Fm form f pre suf j' w') : w ≠ w' := by
  intro e
  subst e
  have last : ∀ {r r' : List Nat} {a b : Nat}, r ++ [a] = r' ++ [b] → a = b := fun {r r' a b} h => by
    have := congrArg List.getLast? h
    simpa using this
  have mid : ∀ {z z' : List Nat} {a b : Nat}, pre ++ a :: (suf ++ z) = pre ++ b :: (suf ++ z') → a = b := fun {z z' a b} h => by
    have := List.append_cancel_left h
    exact (List.cons.inj this).1
  rcases h with ⟨h1, z, hz, h⟩ | h | ⟨h1, r, h⟩ <;> rcases h' with ⟨h1', z', hz', h'⟩ | h' | ⟨h1', r', h'⟩
  · exact hn (one_inj hj hj' (mid (h.symm.trans h')))
  · have := congrArg List.length (h.symm.trans h')
    simp [q7] at this
    omega
  · exact h1 h1'
  · have := congrArg List.length (h.symm.trans h')
    simp [q7] at this
    omega
  · exact hn (one_inj hj hj' (last (h.symm.trans h')))
  · exact hn (one_inj hj hj' (last (h.symm.trans h')))
  · exact h1' h1
  · exact hn (one_inj hj hj' (last (h.symm.trans h')))
  · exact hn (one_inj hj hj' (last (h.symm.trans h')))
theorem nodup_set {α : Type} {x : α} : ∀ {ws : List α} (i : Nat), ws.Nodup → x ∉ ws → (ws.set i x).Nodup
  | [], _, h, _ => h
  | w :: ws, 0, h, hx => by
    rw [List.set_cons_zero]
    rw [List.nodup_cons] at h ⊢
    exact ⟨fun z => hx (List.mem_cons_of_mem _ z), h.2⟩
  | w :: ws, i + 1, h, hx => by
    rw [List.set_cons_succ]
    rw [List.nodup_cons] at h ⊢
    rw [List.mem_cons, not_or] at hx
    refine ⟨fun z => ?_, nodup_set i h.2 hx.2⟩
    rcases List.mem_or_eq_of_mem_set z with q | q
    · exact h.1 q
    · exact hx.1 q.symm
structure Nms (n : Nat) (ws : List (List Nat)) : Prop where
  len : ws.length = n
  ok : ∀ w ∈ ws, NmOk w
  nd : ws.Nodup
/-- letters by a box -/
theorem rLc_lets {tg : D → St → Mem → (St → Mem → Prop) → Prop} {te : St → Mem → Kt → Prop} {σ : St} {k : List D → Mem → Prop} {p : Nat} {b0 : MO} {M0 : Mem} {items : List D} (hp : M0 p = some b0) (hb : BoxO b0)
    (hs : ∀ d M b (R : Kt), d ∈ items → Sub (upd M0 p b) M → BoxO b → (∀ b' c M', M' = upd M p b' → BoxO b' → 97 ≤ c → c ≤ 122 → R (.str [c]) M') → tg d σ M fun σ1 m1 => te σ1 m1 R)
    (he : ∀ M b (cs : List Nat), Sub (upd M0 p b) M → BoxO b → cs.length = items.length → (∀ c ∈ cs, 97 ≤ c ∧ c ≤ 122) → k (cs.map fun c => .str [c]) M) : rLc gTrue tg (fun _ m k => k true m) te σ items [] M0 k := by
  refine rLc_by (fun i acc M => ∃ b cs, Sub (upd M0 p b) M ∧ BoxO b ∧ acc = cs.map (fun c => D.str [c]) ∧ cs.length = i ∧ ∀ c ∈ cs, 97 ≤ c ∧ c ≤ 122) 0
    ⟨b0, [], by rw [upd_self hp]; exact Sub.refl _, hb, rfl, rfl, fun _ h => by cases h⟩ (fun i d acc M R e h r => ?_) fun acc M h => ?_
  · obtain ⟨b, cs, S, hb, rfl, hc1, hc⟩ := h
    refine ⟨trivial, ?_⟩
    simp only [forall_const, Bool.true_eq_false, false_implies, and_true]
    refine hs d M b _ (List.mem_of_getElem? e) S hb fun b' c M' e' hb' h1 h2 => ⟨_, Sub.refl _, r _ _ ⟨b', cs ++ [c], e' ▸ sub_l S, hb', by rw [List.map_append]; rfl, by rw [List.length_append, hc1]; rfl, fun x hx => ?_⟩⟩
    rcases List.mem_append.mp hx with z | z
    · exact hc x z
    · rw [List.mem_singleton.mp z]
      exact ⟨h1, h2⟩
  · obtain ⟨b, cs, S, hb, rfl, hc1, hc⟩ := h
    exact ⟨trivial, he M b cs S hb (by omega) hc⟩
end DL

namespace DL
def nmT2 : Sms := (.c (.ite (.cmp .isin (.var 11) (.tup (.c (.str [100, 101, 102]) (.c (.str [115, 101, 116]) (.c (.str [114, 101, 97, 100]) (.c (.str [119, 114, 105, 116, 101]) (.c (.str [99, 97, 108, 108]) (.c (.str [105, 102]) (.c (.str [101, 108, 115, 101]) (.c (.str [119, 104, 105, 108, 101]) (.c (.str [103, 105, 118, 101]) (.c (.str [101, 110, 100]) .n)))))))))))) (.c (.set 11 (.bin .add (.str [113, 113, 113, 113, 113, 113, 113]) (.var 10)))
  .n) .n)
  (.c (.expr (.bm .append (.var 8) (.c (.var 11) .n)))
  .n))
def nmT1 (t : Nat) : Sms := (.c (.ite (.cmp .eq (.var 7) (.int 2)) (.c (.set 11 (.bin .add (.bm .join (.str []) (.c (.lc [14] (.name 14) (.rng1 (.call t (.c (.var 0) (.c (.int 8) .n)))) (.bl true) (.ix (.var 2) (.call t (.c (.var 0) (.c (.int 26) .n))))) .n)) (.var 10)))
  .n) .n)
  nmT2)
def nmBody (t : Nat) : Sms := (.c (.set 10 (.ix (.var 2) (.bin .mod (.bin .add (.var 6) (.bin .mul (.int 5) (.var 9))) (.int 26))))
  (.c (.set 11 (.bin .add (.bin .add (.bm .join (.str []) (.c (.sl (.var 5) .part0 (.var 4)) .n)) (.var 10)) (.bm .join (.str []) (.c (.sl (.var 5) (.bin .add (.var 4) (.int 1)) .part0) .n))))
  (.c (.ite (.and (.cmp .eq (.var 7) (.int 1)) (.cmp .eq (.bin .mod (.var 9) (.int 2)) (.int 1))) (.c (.set 11 (.bin .add (.var 11) (.str [122])))
  .n) .n)
  (nmT1 t))))
def nmEnd (t : Nat) : Sms := (.c (.ite (.cmp .eq (.call t (.c (.var 0) (.c (.int 6) .n))) (.int 0)) (.c (.set 12 (.lst (.c (.str [110, 117, 109]) (.c (.str [118, 97, 114]) (.c (.str [111, 112]) (.c (.str [103, 111]) (.c (.str [97, 115, 107]) (.c (.str [98, 97, 99, 107]) (.c (.str [99, 104, 97, 105, 110]) (.c (.str [115, 101, 116, 115]) (.c (.str [105, 102, 102]) (.c (.str [101, 110, 100, 115]) (.c (.str [99, 97, 108, 108, 115]) (.c (.str [114, 101, 97, 100, 115]) (.c (.str [103, 105, 118, 101, 115]) .n)))))))))))))))
  (.c (.set 13 (.ix (.var 12) (.call t (.c (.var 0) (.c (.int 13) .n)))))
  (.c (.ite (.cmp .notin (.var 13) (.var 8)) (.c (.setIx (.var 8) (.call t (.c (.var 0) (.c (.var 1) .n))) (.var 13))
  .n) .n)
  .n))) .n)
  (.c (.ret (.var 8))
  .n))
def namesB (t : Nat) : Sms := (.c (.set 2 (.str [97, 98, 99, 100, 101, 102, 103, 104, 105, 106, 107, 108, 109, 110, 111, 112, 113, 114, 115, 116, 117, 118, 119, 120, 121, 122]))
  (.c (.set 3 (.bin .add (.int 1) (.call t (.c (.var 0) (.c (.int 6) .n)))))
  (.c (.set 4 (.call t (.c (.var 0) (.c (.var 3) .n))))
  (.c (.set 5 (.lc [9] (.name 9) (.rng1 (.var 3)) (.bl true) (.ix (.var 2) (.call t (.c (.var 0) (.c (.int 26) .n))))))
  (.c (.set 6 (.call t (.c (.var 0) (.c (.int 26) .n))))
  (.c (.set 7 (.call t (.c (.var 0) (.c (.int 3) .n))))
  (.c (.set 8 (.lst .n))
  (.c (.for_ (.name 9) (.rng1 (.var 1)) (nmBody t))
  (nmEnd t)))))))))
abbrev spNames : Sp := fun ds m k _ => ∃ (p : Nat) (b : MO) (n : Nat), ds = [.ref p, .int n] ∧ m p = some b ∧ BoxO b ∧ 1 ≤ n ∧ n ≤ 26 ∧ ∀ b' ws, BoxO b' → Nms n ws → New (upd m p b') (.lst (ws.map D.str)) k
theorem nmT2_ok {Γ : En} {Z : Ends} {M : Mem} {L c : Nat} {w : List Nat} {ws : List (List Nat)} {o0 o1 o2 o3 o4 o5 o6 o7 o9 o12 o13 o14 : Option D} (hL : M L = some (.lst (ws.map D.str))) (hl : ws.length ≤ 100) (hw : w.all (· < 1114112) = true)
    (fin : ∀ w', ((w' = w ∧ w ∉ keptL) ∨ w' = q7 ++ [c]) → Z.nx [o0, o1, o2, o3, o4, o5, o6, o7, some (.ref L), o9, some (.str [c]), some (.str w'), o12, o13, o14] (upd M L (.lst ((ws ++ [w']).map D.str)))) :
    rSs Γ nmT2 Z [o0, o1, o2, o3, o4, o5, o6, o7, some (.ref L), o9, some (.str [c]), some (.str w), o12, o13, o14] M := by
  simp only [nmT2, rSs, rS, rE, rEs, rT, rP, rSrc, rTg, rCh, sget0, sgetS, sset0, ssetS, sw0, swS, swN, swC, b_add, b_sub, b_mul, b_fdiv, b_mod, b_pow, b_adds, b_addt, b_muls, c_lt, c_le, c_gt, c_ge, c_eq0, c_ne0, c_in0, c_ni0, c_is0, c_isn0, e_int, e_bl, t_bl, t_int, t_non, t_tup, t_rol, t_ktup, t_str, i_tup, i_rol, i_ktup, i_str, l_tup, l_ktup, l_rol, l_str, l_int0, l_int1, l_str1, l_max, l_min, sl_tup, sl_rol, sl_str, y_int, y_bl, y_str, y_tup, y_ktup, y_non, it_rol, it_tup, it_ktup, it_str, decide_eq_true_eq, decide_eq_false_iff_not, reduceCtorEq, false_implies, true_implies, forall_const, and_true, true_and, List.length_map, l_isI, l_isB, l_isS, l_isL, l_isT, l_isD, isTy, decide_true, decide_false, Bool.or_false, Bool.false_or, Bool.true_or, Bool.or_true, Bool.not_true, Bool.not_false, Bool.false_eq_true, Bool.true_eq_false, Bool.not_eq_true', Bool.not_eq_false', ne_eq, not_true_eq_false, not_false_eq_true, D.int.injEq, D.str.injEq, Option.some.injEq, exists_eq_left', exists_eq_left, m_ok (.inl rfl) hL, m_app hL]
  refine in_tup (ws := keptL) hw kept_tx ?_
  simp only [rSs, rS, rE, rEs, rT, rP, rSrc, rTg, rCh, sget0, sgetS, sset0, ssetS, sw0, swS, swN, swC, b_add, b_sub, b_mul, b_fdiv, b_mod, b_pow, b_adds, b_addt, b_muls, c_lt, c_le, c_gt, c_ge, c_eq0, c_ne0, c_in0, c_ni0, c_is0, c_isn0, e_int, e_bl, t_bl, t_int, t_non, t_tup, t_rol, t_ktup, t_str, i_tup, i_rol, i_ktup, i_str, l_tup, l_ktup, l_rol, l_str, l_int0, l_int1, l_str1, l_max, l_min, sl_tup, sl_rol, sl_str, y_int, y_bl, y_str, y_tup, y_ktup, y_non, it_rol, it_tup, it_ktup, it_str, decide_eq_true_eq, decide_eq_false_iff_not, reduceCtorEq, false_implies, true_implies, forall_const, and_true, true_and, List.length_map, l_isI, l_isB, l_isS, l_isL, l_isT, l_isD, isTy, decide_true, decide_false, Bool.or_false, Bool.false_or, Bool.true_or, Bool.or_true, Bool.not_true, Bool.not_false, Bool.false_eq_true, Bool.true_eq_false, Bool.not_eq_true', Bool.not_eq_false', ne_eq, not_true_eq_false, not_false_eq_true, D.int.injEq, D.str.injEq, Option.some.injEq, exists_eq_left', exists_eq_left]
  refine ⟨fun h => ⟨by unfold big; simp, by unfold big; omega, ?_⟩, fun h => ⟨by unfold big; omega, ?_⟩⟩
  · have := fin (q7 ++ [c]) (.inr rfl)
    rw [List.map_append] at this
    exact this
  · have := fin w (.inl ⟨rfl, h⟩)
    rw [List.map_append] at this
    exact this
theorem nmT1_ok {Γ : En} {t : Nat} (ht : Γ.fn t = spTakeM) {Z : Ends} {M : Mem} {p L c : Nat} {b : MO} {form : Int} {w : List Nat} {ws : List (List Nat)} {o1 o3 o4 o5 o6 o9 o12 o13 o14 : Option D} (hp : M p = some b) (hb : BoxO b) (pL : p ≠ L) (hL : M L = some (.lst (ws.map D.str))) (hl : ws.length ≤ 100) (hw : w.all (· < 1114112) = true) (hc : 97 ≤ c ∧ c ≤ 122)
    (fin : ∀ w' M' b' o14, Sub (upd M p b') M' → BoxO b' → ((w' = w ∧ form ≠ 2 ∧ w ∉ keptL) ∨ w' = q7 ++ [c] ∨ (form = 2 ∧ w' ∉ keptL ∧ ∃ r, w' = r ++ [c] ∧ r.length ≤ 7 ∧ ∀ x ∈ r, 97 ≤ x ∧ x ≤ 122)) →
      Z.nx [some (.ref p), o1, some (.str lett), o3, o4, o5, o6, some (.int form), some (.ref L), o9, some (.str [c]), some (.str w'), o12, o13, o14] (upd M' L (.lst ((ws ++ [w']).map D.str)))) :
    rSs Γ (nmT1 t) Z [some (.ref p), o1, some (.str lett), o3, o4, o5, o6, some (.int form), some (.ref L), o9, some (.str [c]), some (.str w), o12, o13, o14] M := by
  simp only [nmT1, rSs, rS, rE, rEs, rT, rP, rSrc, rTg, rCh, sget0, sgetS, sset0, ssetS, sw0, swS, swN, swC, b_add, b_sub, b_mul, b_fdiv, b_mod, b_pow, b_adds, b_addt, b_muls, c_lt, c_le, c_gt, c_ge, c_eq0, c_ne0, c_in0, c_ni0, c_is0, c_isn0, e_int, e_bl, t_bl, t_int, t_non, t_tup, t_rol, t_ktup, t_str, i_tup, i_rol, i_ktup, i_str, l_tup, l_ktup, l_rol, l_str, l_int0, l_int1, l_str1, l_max, l_min, sl_tup, sl_rol, sl_str, y_int, y_bl, y_str, y_tup, y_ktup, y_non, it_rol, it_tup, it_ktup, it_str, decide_eq_true_eq, decide_eq_false_iff_not, reduceCtorEq, false_implies, true_implies, forall_const, and_true, true_and, List.length_map, l_isI, l_isB, l_isS, l_isL, l_isT, l_isD, isTy, decide_true, decide_false, Bool.or_false, Bool.false_or, Bool.true_or, Bool.or_true, Bool.not_true, Bool.not_false, Bool.false_eq_true, Bool.true_eq_false, Bool.not_eq_true', Bool.not_eq_false', ne_eq, not_true_eq_false, not_false_eq_true, D.int.injEq, D.str.injEq, Option.some.injEq, exists_eq_left', exists_eq_left, ht, ok_join]
  refine ⟨fun h => ?_, fun h => nmT2_ok hL hl hw fun w' hw' => fin w' M b _ (by rw [upd_self hp]; exact Sub.refl _) hb (hw'.elim (fun z => .inl ⟨z.1, h, z.2⟩) fun z => .inr (.inl z))⟩
  refine ⟨p, b, _, rfl, hp, hb, by decide, by decide, fun b1 d1 M1 e1 hb1 l1 u1 => ⟨_, rfl, by unfold i62; omega, ?_⟩⟩
  have hp1 : M1 p = some b1 := by rw [e1]; exact upd_same
  refine ⟨by rw [rangeD_rg, List.length_map, rg_len]; unfold big; omega, rLc_lets hp1 hb1 (fun d M b R hd S hb hR => ?_) fun M2 b2 cs S hb2 hcl hcz => New.by fun q M3 _ _ s3 hq _ => ?_⟩
  · simp only [rSs, rS, rE, rEs, rT, rP, rSrc, rTg, rCh, sget0, sgetS, sset0, ssetS, sw0, swS, swN, swC, b_add, b_sub, b_mul, b_fdiv, b_mod, b_pow, b_adds, b_addt, b_muls, c_lt, c_le, c_gt, c_ge, c_eq0, c_ne0, c_in0, c_ni0, c_is0, c_isn0, e_int, e_bl, t_bl, t_int, t_non, t_tup, t_rol, t_ktup, t_str, i_tup, i_rol, i_ktup, i_str, l_tup, l_ktup, l_rol, l_str, l_int0, l_int1, l_str1, l_max, l_min, sl_tup, sl_rol, sl_str, y_int, y_bl, y_str, y_tup, y_ktup, y_non, it_rol, it_tup, it_ktup, it_str, decide_eq_true_eq, decide_eq_false_iff_not, reduceCtorEq, false_implies, true_implies, forall_const, and_true, true_and, List.length_map, l_isI, l_isB, l_isS, l_isL, l_isT, l_isD, isTy, decide_true, decide_false, Bool.or_false, Bool.false_or, Bool.true_or, Bool.or_true, Bool.not_true, Bool.not_false, Bool.false_eq_true, Bool.true_eq_false, Bool.not_eq_true', Bool.not_eq_false', ne_eq, not_true_eq_false, not_false_eq_true, D.int.injEq, D.str.injEq, Option.some.injEq, exists_eq_left', exists_eq_left, ht]
    refine ⟨p, b, _, rfl, S.at upd_same, hb, by decide, by decide, fun b' d' M' e' hb' l' u' => ?_⟩
    simp only [rSs, rS, rE, rEs, rT, rP, rSrc, rTg, rCh, sget0, sgetS, sset0, ssetS, sw0, swS, swN, swC, b_add, b_sub, b_mul, b_fdiv, b_mod, b_pow, b_adds, b_addt, b_muls, c_lt, c_le, c_gt, c_ge, c_eq0, c_ne0, c_in0, c_ni0, c_is0, c_isn0, e_int, e_bl, t_bl, t_int, t_non, t_tup, t_rol, t_ktup, t_str, i_tup, i_rol, i_ktup, i_str, l_tup, l_ktup, l_rol, l_str, l_int0, l_int1, l_str1, l_max, l_min, sl_tup, sl_rol, sl_str, y_int, y_bl, y_str, y_tup, y_ktup, y_non, it_rol, it_tup, it_ktup, it_str, decide_eq_true_eq, decide_eq_false_iff_not, reduceCtorEq, false_implies, true_implies, forall_const, and_true, true_and, List.length_map, l_isI, l_isB, l_isS, l_isL, l_isT, l_isD, isTy, decide_true, decide_false, Bool.or_false, Bool.false_or, Bool.true_or, Bool.or_true, Bool.not_true, Bool.not_false, Bool.false_eq_true, Bool.true_eq_false, Bool.not_eq_true', Bool.not_eq_false', ne_eq, not_true_eq_false, not_false_eq_true, D.int.injEq, D.str.injEq, Option.some.injEq, exists_eq_left', exists_eq_left]
    exact ⟨by decide, _, atI_lett l' u', hR b' _ M' e' hb' (by omega) (by omega)⟩
  · rw [rangeD_rg, List.length_map, rg_len] at hcl
    rw [m_join hq (by unfold big; omega)]
    simp only [rSs, rS, rE, rEs, rT, rP, rSrc, rTg, rCh, sget0, sgetS, sset0, ssetS, sw0, swS, swN, swC, b_add, b_sub, b_mul, b_fdiv, b_mod, b_pow, b_adds, b_addt, b_muls, c_lt, c_le, c_gt, c_ge, c_eq0, c_ne0, c_in0, c_ni0, c_is0, c_isn0, e_int, e_bl, t_bl, t_int, t_non, t_tup, t_rol, t_ktup, t_str, i_tup, i_rol, i_ktup, i_str, l_tup, l_ktup, l_rol, l_str, l_int0, l_int1, l_str1, l_max, l_min, sl_tup, sl_rol, sl_str, y_int, y_bl, y_str, y_tup, y_ktup, y_non, it_rol, it_tup, it_ktup, it_str, decide_eq_true_eq, decide_eq_false_iff_not, reduceCtorEq, false_implies, true_implies, forall_const, and_true, true_and, List.length_map, l_isI, l_isB, l_isS, l_isL, l_isT, l_isD, isTy, decide_true, decide_false, Bool.or_false, Bool.false_or, Bool.true_or, Bool.or_true, Bool.not_true, Bool.not_false, Bool.false_eq_true, Bool.true_eq_false, Bool.not_eq_true', Bool.not_eq_false', ne_eq, not_true_eq_false, not_false_eq_true, D.int.injEq, D.str.injEq, Option.some.injEq, exists_eq_left', exists_eq_left]
    have S3 : Sub (upd M p b2) M3 := by
      have := S.trans s3
      rwa [e1, upd_upd] at this
    refine ⟨by unfold big; simp; omega, nmT2_ok (S3.at (by rw [upd_ne (Ne.symm pL)]; exact hL)) hl (tx_of fun x hx => ?_) fun w' hw' => fin w' M3 b2 _ S3 hb2 ?_⟩
    · rcases List.mem_append.mp hx with z | z
      · exact hcz x z
      · rw [List.mem_singleton.mp z]
        exact hc
    · rcases hw' with ⟨z1, z2⟩ | z
      · exact .inr (.inr ⟨h, by rw [z1]; exact z2, cs, z1, by omega, hcz⟩)
      · exact .inr (.inl z)
theorem nms_end {Γ : En} {t : Nat} (ht : Γ.fn t = spTakeM) {Z : Ends} {m M : Mem} {p L n : Nat} {b : MO} {ws : List (List Nat)} {o2 o3 o4 o5 o6 o7 o9 o10 o11 o14 : Option D} (S : Sub (upd (upd m p b) L (.lst (ws.map D.str))) M) (hb : BoxO b) (pL : p ≠ L) (hn : Nms n ws) (h1 : 1 ≤ n) (h26 : n ≤ 26)
    (fin : ∀ M' b' ws', Sub (upd (upd m p b') L (.lst (ws'.map D.str))) M' → BoxO b' → Nms n ws' → Z.rt (.ref L) M') :
    rSs Γ (nmEnd t) Z [some (.ref p), some (.int n), o2, o3, o4, o5, o6, o7, some (.ref L), o9, o10, o11, none, none, o14] M := by
  have canp : ∀ b o, upd (upd m p b) L o p = some b := fun b o => by
    rw [upd_ne pL]
    exact upd_same
  simp only [nmEnd, rSs, rS, rE, rEs, rT, rP, rSrc, rTg, rCh, sget0, sgetS, sset0, ssetS, sw0, swS, swN, swC, b_add, b_sub, b_mul, b_fdiv, b_mod, b_pow, b_adds, b_addt, b_muls, c_lt, c_le, c_gt, c_ge, c_eq0, c_ne0, c_in0, c_ni0, c_is0, c_isn0, e_int, e_bl, t_bl, t_int, t_non, t_tup, t_rol, t_ktup, t_str, i_tup, i_rol, i_ktup, i_str, l_tup, l_ktup, l_rol, l_str, l_int0, l_int1, l_str1, l_max, l_min, sl_tup, sl_rol, sl_str, y_int, y_bl, y_str, y_tup, y_ktup, y_non, it_rol, it_tup, it_ktup, it_str, decide_eq_true_eq, decide_eq_false_iff_not, reduceCtorEq, false_implies, true_implies, forall_const, and_true, true_and, List.length_map, l_isI, l_isB, l_isS, l_isL, l_isT, l_isD, isTy, decide_true, decide_false, Bool.or_false, Bool.false_or, Bool.true_or, Bool.or_true, Bool.not_true, Bool.not_false, Bool.false_eq_true, Bool.true_eq_false, Bool.not_eq_true', Bool.not_eq_false', ne_eq, not_true_eq_false, not_false_eq_true, D.int.injEq, D.str.injEq, Option.some.injEq, exists_eq_left', exists_eq_left, ht]
  refine ⟨p, b, _, rfl, S.at (canp _ _), hb, by decide, by decide, fun b1 d1 M1 e1 hb1 l1 u1 => ?_⟩
  replace S := e1 ▸ sub_p (b' := b1) pL S
  simp only [rSs, rS, rE, rEs, rT, rP, rSrc, rTg, rCh, sget0, sgetS, sset0, ssetS, sw0, swS, swN, swC, b_add, b_sub, b_mul, b_fdiv, b_mod, b_pow, b_adds, b_addt, b_muls, c_lt, c_le, c_gt, c_ge, c_eq0, c_ne0, c_in0, c_ni0, c_is0, c_isn0, e_int, e_bl, t_bl, t_int, t_non, t_tup, t_rol, t_ktup, t_str, i_tup, i_rol, i_ktup, i_str, l_tup, l_ktup, l_rol, l_str, l_int0, l_int1, l_str1, l_max, l_min, sl_tup, sl_rol, sl_str, y_int, y_bl, y_str, y_tup, y_ktup, y_non, it_rol, it_tup, it_ktup, it_str, decide_eq_true_eq, decide_eq_false_iff_not, reduceCtorEq, false_implies, true_implies, forall_const, and_true, true_and, List.length_map, l_isI, l_isB, l_isS, l_isL, l_isT, l_isD, isTy, decide_true, decide_false, Bool.or_false, Bool.false_or, Bool.true_or, Bool.or_true, Bool.not_true, Bool.not_false, Bool.false_eq_true, Bool.true_eq_false, Bool.not_eq_true', Bool.not_eq_false', ne_eq, not_true_eq_false, not_false_eq_true, D.int.injEq, D.str.injEq, Option.some.injEq, exists_eq_left', exists_eq_left, ht]
  refine ⟨fun _ => New.by fun q M2 mq _ s2 hq _ => ?_, fun _ => fin M1 b1 ws S hb1 hn⟩
  have qp : q ≠ p := Ne.symm (ne_of_none (S.at (canp _ _)) mq)
  replace S := S.trans s2
  refine ⟨p, b1, _, rfl, S.at (canp _ _), hb1, by decide, by decide, fun b2 d2 M3 e3 hb2 l2 u2 => ?_⟩
  replace S := e3 ▸ sub_p (b' := b2) pL S
  have hq3 : M3 q = some (.lst (oddL.map D.str)) := by
    rw [e3, upd_ne qp]
    exact hq
  simp only [i_lst hq3]
  obtain ⟨dd, hdd, mdd⟩ := atI_lt (xs := oddL.map D.str) l2 (by rw [List.length_map]; exact u2)
  obtain ⟨w, mw, rfl⟩ := List.mem_map.mp mdd
  refine ⟨_, hdd, ?_⟩
  obtain ⟨w1, w2, w3, w4⟩ := odd_ok w mw
  refine in_lst (S.at upd_same) (tx_of w2) (fun v hv => (hn.ok v hv).tx) ?_
  simp only [rSs, rS, rE, rEs, rT, rP, rSrc, rTg, rCh, sget0, sgetS, sset0, ssetS, sw0, swS, swN, swC, b_add, b_sub, b_mul, b_fdiv, b_mod, b_pow, b_adds, b_addt, b_muls, c_lt, c_le, c_gt, c_ge, c_eq0, c_ne0, c_in0, c_ni0, c_is0, c_isn0, e_int, e_bl, t_bl, t_int, t_non, t_tup, t_rol, t_ktup, t_str, i_tup, i_rol, i_ktup, i_str, l_tup, l_ktup, l_rol, l_str, l_int0, l_int1, l_str1, l_max, l_min, sl_tup, sl_rol, sl_str, y_int, y_bl, y_str, y_tup, y_ktup, y_non, it_rol, it_tup, it_ktup, it_str, decide_eq_true_eq, decide_eq_false_iff_not, reduceCtorEq, false_implies, true_implies, forall_const, and_true, true_and, List.length_map, l_isI, l_isB, l_isS, l_isL, l_isT, l_isD, isTy, decide_true, decide_false, Bool.or_false, Bool.false_or, Bool.true_or, Bool.or_true, Bool.not_true, Bool.not_false, Bool.false_eq_true, Bool.true_eq_false, Bool.not_eq_true', Bool.not_eq_false', ne_eq, not_true_eq_false, not_false_eq_true, D.int.injEq, D.str.injEq, Option.some.injEq, exists_eq_left', exists_eq_left, ht]
  refine ⟨fun h => ?_, fun h => fin M3 b2 ws S hb2 hn⟩
  refine ⟨p, b2, _, rfl, S.at (canp _ _), hb2, by omega, by omega, fun b3 d3 M4 e4 hb3 l3 u3 => ?_⟩
  replace S := e4 ▸ sub_p (b' := b3) pL S
  have hL4 := S.at upd_same
  simp only [s_lst hL4]
  have hd3 : dIx (ws.map D.str).length d3 = some d3.toNat := by
    unfold dIx
    rw [if_pos l3, List.length_map, hn.len, if_pos u3]
  refine ⟨_, hd3, fin _ b3 (ws.set d3.toNat w) ?_ hb3 ⟨by rw [List.length_set]; exact hn.len, fun v hv => ?_, nodup_set _ hn.nd (by simpa using h)⟩⟩
  · rw [List.map_set]
    exact sub_l S
  · rcases List.mem_or_eq_of_mem_set hv with z | z
    · exact hn.ok v z
    · rw [z]
      exact ⟨w1, w2, w3, w4⟩
theorem one_atI {f : Int} {k : Nat} (h0 : 0 ≤ f) : atI lett ((f + 5 * (k : Int)) % 26) = some (oneN f.toNat k) := by
  rw [atI_lett (Int.emod_nonneg _ (by decide)) (Int.emod_lt_of_pos _ (by decide))]
  unfold oneN
  congr 2
  omega
theorem one_az (f k : Nat) : 97 ≤ oneN f k ∧ oneN f k ≤ 122 := by
  unfold oneN
  omega
theorem q7_ok {c : Nat} (hc : 97 ≤ c ∧ c ≤ 122) : NmOk (q7 ++ [c]) := by
  refine ⟨by simp, fun x hx => ?_, by simp [q7], fun z => ?_⟩
  · rcases List.mem_append.mp hx with z | z
    · have : ∀ x ∈ q7, 97 ≤ x ∧ x ≤ 122 := by decide
      exact this x z
    · rw [List.mem_singleton.mp z]
      exact hc
  · have : ∀ w ∈ keptL, w.length ≤ 5 := by decide
    have := this _ z
    simp [q7] at this
theorem kp_names {Γ : En} {t : Nat} (ht : Γ.fn t = spTakeM) : Keeps Γ 15 (namesB t) spNames := by
  rintro ds m k X ⟨p, b, n, rfl, hm, hb, h1, h26, hk⟩
  show rSs Γ (namesB t) _ [some _, some _, none, none, none, none, none, none, none, none, none, none, none, none, none] m
  simp only [namesB, rSs, rS, rE, rEs, rT, rP, rSrc, rTg, rCh, sget0, sgetS, sset0, ssetS, sw0, swS, swN, swC, b_add, b_sub, b_mul, b_fdiv, b_mod, b_pow, b_adds, b_addt, b_muls, c_lt, c_le, c_gt, c_ge, c_eq0, c_ne0, c_in0, c_ni0, c_is0, c_isn0, e_int, e_bl, t_bl, t_int, t_non, t_tup, t_rol, t_ktup, t_str, i_tup, i_rol, i_ktup, i_str, l_tup, l_ktup, l_rol, l_str, l_int0, l_int1, l_str1, l_max, l_min, sl_tup, sl_rol, sl_str, y_int, y_bl, y_str, y_tup, y_ktup, y_non, it_rol, it_tup, it_ktup, it_str, decide_eq_true_eq, decide_eq_false_iff_not, reduceCtorEq, false_implies, true_implies, forall_const, and_true, true_and, List.length_map, l_isI, l_isB, l_isS, l_isL, l_isT, l_isD, isTy, decide_true, decide_false, Bool.or_false, Bool.false_or, Bool.true_or, Bool.or_true, Bool.not_true, Bool.not_false, Bool.false_eq_true, Bool.true_eq_false, Bool.not_eq_true', Bool.not_eq_false', ne_eq, not_true_eq_false, not_false_eq_true, D.int.injEq, D.str.injEq, Option.some.injEq, exists_eq_left', exists_eq_left, ht]
  refine ⟨p, b, _, rfl, hm, hb, by decide, by decide, fun b1 d1 M1 e1 hb1 l1 u1 => ?_⟩
  simp only [rSs, rS, rE, rEs, rT, rP, rSrc, rTg, rCh, sget0, sgetS, sset0, ssetS, sw0, swS, swN, swC, b_add, b_sub, b_mul, b_fdiv, b_mod, b_pow, b_adds, b_addt, b_muls, c_lt, c_le, c_gt, c_ge, c_eq0, c_ne0, c_in0, c_ni0, c_is0, c_isn0, e_int, e_bl, t_bl, t_int, t_non, t_tup, t_rol, t_ktup, t_str, i_tup, i_rol, i_ktup, i_str, l_tup, l_ktup, l_rol, l_str, l_int0, l_int1, l_str1, l_max, l_min, sl_tup, sl_rol, sl_str, y_int, y_bl, y_str, y_tup, y_ktup, y_non, it_rol, it_tup, it_ktup, it_str, decide_eq_true_eq, decide_eq_false_iff_not, reduceCtorEq, false_implies, true_implies, forall_const, and_true, true_and, List.length_map, l_isI, l_isB, l_isS, l_isL, l_isT, l_isD, isTy, decide_true, decide_false, Bool.or_false, Bool.false_or, Bool.true_or, Bool.or_true, Bool.not_true, Bool.not_false, Bool.false_eq_true, Bool.true_eq_false, Bool.not_eq_true', Bool.not_eq_false', ne_eq, not_true_eq_false, not_false_eq_true, D.int.injEq, D.str.injEq, Option.some.injEq, exists_eq_left', exists_eq_left, ht]
  refine ⟨p, b1, _, rfl, by rw [e1]; exact upd_same, hb1, by omega, by omega, fun b2 sp M2 e2 hb2 l2 u2 => ?_⟩
  rw [e1, upd_upd] at e2
  have hp2 : M2 p = some b2 := by rw [e2]; exact upd_same
  refine ⟨by unfold i62; omega, by rw [rangeD_rg, List.length_map, rg_len]; unfold big; omega, rLc_lets hp2 hb2 (fun d M b R hd S hb hR => ?_) fun M3 b3 cs S3 hb3 hcl hcz => New.by fun Sg M4 mS _ s4 hS _ => ?_⟩
  · simp only [rSs, rS, rE, rEs, rT, rP, rSrc, rTg, rCh, sget0, sgetS, sset0, ssetS, sw0, swS, swN, swC, b_add, b_sub, b_mul, b_fdiv, b_mod, b_pow, b_adds, b_addt, b_muls, c_lt, c_le, c_gt, c_ge, c_eq0, c_ne0, c_in0, c_ni0, c_is0, c_isn0, e_int, e_bl, t_bl, t_int, t_non, t_tup, t_rol, t_ktup, t_str, i_tup, i_rol, i_ktup, i_str, l_tup, l_ktup, l_rol, l_str, l_int0, l_int1, l_str1, l_max, l_min, sl_tup, sl_rol, sl_str, y_int, y_bl, y_str, y_tup, y_ktup, y_non, it_rol, it_tup, it_ktup, it_str, decide_eq_true_eq, decide_eq_false_iff_not, reduceCtorEq, false_implies, true_implies, forall_const, and_true, true_and, List.length_map, l_isI, l_isB, l_isS, l_isL, l_isT, l_isD, isTy, decide_true, decide_false, Bool.or_false, Bool.false_or, Bool.true_or, Bool.or_true, Bool.not_true, Bool.not_false, Bool.false_eq_true, Bool.true_eq_false, Bool.not_eq_true', Bool.not_eq_false', ne_eq, not_true_eq_false, not_false_eq_true, D.int.injEq, D.str.injEq, Option.some.injEq, exists_eq_left', exists_eq_left, ht]
    refine ⟨p, b, _, rfl, S.at upd_same, hb, by decide, by decide, fun b' d' M' e' hb' l' u' => ?_⟩
    simp only [rSs, rS, rE, rEs, rT, rP, rSrc, rTg, rCh, sget0, sgetS, sset0, ssetS, sw0, swS, swN, swC, b_add, b_sub, b_mul, b_fdiv, b_mod, b_pow, b_adds, b_addt, b_muls, c_lt, c_le, c_gt, c_ge, c_eq0, c_ne0, c_in0, c_ni0, c_is0, c_isn0, e_int, e_bl, t_bl, t_int, t_non, t_tup, t_rol, t_ktup, t_str, i_tup, i_rol, i_ktup, i_str, l_tup, l_ktup, l_rol, l_str, l_int0, l_int1, l_str1, l_max, l_min, sl_tup, sl_rol, sl_str, y_int, y_bl, y_str, y_tup, y_ktup, y_non, it_rol, it_tup, it_ktup, it_str, decide_eq_true_eq, decide_eq_false_iff_not, reduceCtorEq, false_implies, true_implies, forall_const, and_true, true_and, List.length_map, l_isI, l_isB, l_isS, l_isL, l_isT, l_isD, isTy, decide_true, decide_false, Bool.or_false, Bool.false_or, Bool.true_or, Bool.or_true, Bool.not_true, Bool.not_false, Bool.false_eq_true, Bool.true_eq_false, Bool.not_eq_true', Bool.not_eq_false', ne_eq, not_true_eq_false, not_false_eq_true, D.int.injEq, D.str.injEq, Option.some.injEq, exists_eq_left', exists_eq_left]
    exact ⟨by decide, _, atI_lett l' u', hR b' _ M' e' hb' (by omega) (by omega)⟩
  rw [rangeD_rg, List.length_map, rg_len] at hcl
  have hp4 := s4.at (S3.at upd_same)
  have Sp : p ≠ Sg := ne_of_none (S3.at upd_same) mS
  have S4 : Sub (upd m p b3) M4 := by
    have := S3.trans s4
    rwa [e2, upd_upd] at this
  refine ⟨p, b3, _, rfl, hp4, hb3, by decide, by decide, fun b4 fst M5 e5 hb4 l4 u4 => ⟨p, b4, _, rfl, by rw [e5]; exact upd_same, hb4, by decide, by decide, fun b5 form M6 e6 hb5 l5 u5 => ?_⟩⟩
  rw [e5, upd_upd] at e6
  have hS6 : M6 Sg = some (.lst (cs.map fun c => D.str [c])) := by rw [e6, upd_ne (Ne.symm Sp)]; exact hS
  have S6 : Sub (upd m p b5) M6 := by
    rw [e6]
    exact sub_l S4
  have hp6 := S6.at upd_same
  clear e5 e6 S4 hp4 hS S3 s4 mS hp2 e2 e1
  refine New.by fun L M7 mL eM7 s7 hL _ => ?_
  have pL : p ≠ L := ne_of_none hp6 mL
  have SL : Sg ≠ L := ne_of_none hS6 mL
  have mL0 : m L = none := by
    have := S6.free mL
    rwa [upd_ne (Ne.symm pL)] at this
  have S7 : Sub (upd (upd m p b5) L (.lst (([] : List (List Nat)).map D.str))) M7 := eM7 ▸ S6.upd
  have hS7 := s7.at hS6
  clear eM7 s7 hL hp6 S6 hS6 mL
  have e0 : (n : Int).toNat = n := Int.toNat_natCast n
  rw [e0]
  have cl5 : (cs.take sp.toNat).length + (cs.drop (sp.toNat + 1)).length ≤ 5 := by
    rw [List.length_take, List.length_drop]
    omega
  refine ⟨by unfold i62; omega, rFor_by (fun j σ M => ∃ b ws o9 o10 o11 o14, σ = [some (.ref p), some (.int n), some (.str lett), some (.int (1 + d1)), some (.int sp), some (.ref Sg), some (.int fst), some (.int form), some (.ref L), o9, o10, o11, none, none, o14] ∧
      Sub (upd (upd m p b) L (.lst (ws.map D.str))) M ∧ M Sg = some (.lst (cs.map fun c => D.str [c])) ∧ BoxO b ∧ ws.length = j ∧ (∀ w ∈ ws, NmOk w) ∧ ws.Nodup ∧ ∀ w ∈ ws, ∃ i, i < j ∧ Fm form.toNat fst.toNat (cs.take sp.toNat) (cs.drop (sp.toNat + 1)) i w) 0
    ⟨b5, [], none, none, none, none, rfl, S7, hS7, hb5, rfl, (fun _ h => by cases h), List.nodup_nil, fun _ h => by cases h⟩ (fun j d σ M R e h r => ?_) fun σ M h => ?_⟩
  · obtain ⟨b, ws, o9, o10, o11, o14, rfl, S, hS, hb, hwl, hwo, hwn, hwf⟩ := h
    rw [rangeD_rg, List.getElem?_map] at e
    obtain ⟨j', ej, rfl⟩ := Option.map_eq_some_iff.mp e
    have hj := (List.getElem?_eq_some_iff.mp ej).1
    have ej2 : j' = (j : Int) := by
      have := (List.getElem?_eq_some_iff.mp ej).2
      rw [← this]
      simp [rg]
    subst ej2
    rw [rg_len] at hj
    rw [Nat.zero_add] at hwl hwf
    refine ⟨trivial, ?_⟩
    have canp : ∀ b o, upd (upd m p b) L o p = some b := fun b o => by
      rw [upd_ne pL]
      exact upd_same
    simp only [nmBody, rSs, rS, rE, rEs, rT, rP, rSrc, rTg, rCh, sget0, sgetS, sset0, ssetS, sw0, swS, swN, swC, b_add, b_sub, b_mul, b_fdiv, b_mod, b_pow, b_adds, b_addt, b_muls, c_lt, c_le, c_gt, c_ge, c_eq0, c_ne0, c_in0, c_ni0, c_is0, c_isn0, e_int, e_bl, t_bl, t_int, t_non, t_tup, t_rol, t_ktup, t_str, i_tup, i_rol, i_ktup, i_str, l_tup, l_ktup, l_rol, l_str, l_int0, l_int1, l_str1, l_max, l_min, sl_tup, sl_rol, sl_str, y_int, y_bl, y_str, y_tup, y_ktup, y_non, it_rol, it_tup, it_ktup, it_str, decide_eq_true_eq, decide_eq_false_iff_not, reduceCtorEq, false_implies, true_implies, forall_const, and_true, true_and, List.length_map, l_isI, l_isB, l_isS, l_isL, l_isT, l_isD, isTy, decide_true, decide_false, Bool.or_false, Bool.false_or, Bool.true_or, Bool.or_true, Bool.not_true, Bool.not_false, Bool.false_eq_true, Bool.true_eq_false, Bool.not_eq_true', Bool.not_eq_false', ne_eq, not_true_eq_false, not_false_eq_true, D.int.injEq, D.str.injEq, Option.some.injEq, exists_eq_left', exists_eq_left, ok_join, sl_lst hS]
    refine ⟨.inl ⟨by decide, by decide⟩, by decide, by decide, _, one_atI l4, New.by fun q1 M1 _ _ s1 hq1 _ => ?_⟩
    rw [cut_to l2, ← List.map_take] at hq1
    rw [m_join hq1 (by rw [List.length_take]; unfold big; omega)]
    simp only [rSs, rS, rE, rEs, rT, rP, rSrc, rTg, rCh, sget0, sgetS, sset0, ssetS, sw0, swS, swN, swC, b_add, b_sub, b_mul, b_fdiv, b_mod, b_pow, b_adds, b_addt, b_muls, c_lt, c_le, c_gt, c_ge, c_eq0, c_ne0, c_in0, c_ni0, c_is0, c_isn0, e_int, e_bl, t_bl, t_int, t_non, t_tup, t_rol, t_ktup, t_str, i_tup, i_rol, i_ktup, i_str, l_tup, l_ktup, l_rol, l_str, l_int0, l_int1, l_str1, l_max, l_min, sl_tup, sl_rol, sl_str, y_int, y_bl, y_str, y_tup, y_ktup, y_non, it_rol, it_tup, it_ktup, it_str, decide_eq_true_eq, decide_eq_false_iff_not, reduceCtorEq, false_implies, true_implies, forall_const, and_true, true_and, List.length_map, l_isI, l_isB, l_isS, l_isL, l_isT, l_isD, isTy, decide_true, decide_false, Bool.or_false, Bool.false_or, Bool.true_or, Bool.or_true, Bool.not_true, Bool.not_false, Bool.false_eq_true, Bool.true_eq_false, Bool.not_eq_true', Bool.not_eq_false', ne_eq, not_true_eq_false, not_false_eq_true, D.int.injEq, D.str.injEq, Option.some.injEq, exists_eq_left', exists_eq_left, ok_join, sl_lst (s1.at hS)]
    refine ⟨by rw [List.length_take]; unfold big; simp; omega, New.by fun q2 M2 _ _ s2 hq2 _ => ?_⟩
    rw [cut_from (by omega), show (sp + 1).toNat = sp.toNat + 1 by omega, ← List.map_drop] at hq2
    rw [m_join hq2 (by rw [List.length_drop]; unfold big; omega)]
    simp only [rSs, rS, rE, rEs, rT, rP, rSrc, rTg, rCh, sget0, sgetS, sset0, ssetS, sw0, swS, swN, swC, b_add, b_sub, b_mul, b_fdiv, b_mod, b_pow, b_adds, b_addt, b_muls, c_lt, c_le, c_gt, c_ge, c_eq0, c_ne0, c_in0, c_ni0, c_is0, c_isn0, e_int, e_bl, t_bl, t_int, t_non, t_tup, t_rol, t_ktup, t_str, i_tup, i_rol, i_ktup, i_str, l_tup, l_ktup, l_rol, l_str, l_int0, l_int1, l_str1, l_max, l_min, sl_tup, sl_rol, sl_str, y_int, y_bl, y_str, y_tup, y_ktup, y_non, it_rol, it_tup, it_ktup, it_str, decide_eq_true_eq, decide_eq_false_iff_not, reduceCtorEq, false_implies, true_implies, forall_const, and_true, true_and, List.length_map, l_isI, l_isB, l_isS, l_isL, l_isT, l_isD, isTy, decide_true, decide_false, Bool.or_false, Bool.false_or, Bool.true_or, Bool.or_true, Bool.not_true, Bool.not_false, Bool.false_eq_true, Bool.true_eq_false, Bool.not_eq_true', Bool.not_eq_false', ne_eq, not_true_eq_false, not_false_eq_true, D.int.injEq, D.str.injEq, Option.some.injEq, exists_eq_left', exists_eq_left]
    have S2 := (S.trans s1).trans s2
    have hS2 := (s1.trans s2).at hS
    have hL2 := S2.at upd_same
    have hp2 := S2.at (canp _ _)
    have az1 : ∀ x ∈ cs.take sp.toNat, 97 ≤ x ∧ x ≤ 122 := fun x hx => hcz x (List.mem_of_mem_take hx)
    have az2 : ∀ x ∈ cs.drop (sp.toNat + 1), 97 ≤ x ∧ x ≤ 122 := fun x hx => hcz x (List.mem_of_mem_drop hx)
    have oz := one_az fst.toNat j
    have go : ∀ z : List Nat, z.length ≤ 1 → (∀ x ∈ z, 97 ≤ x ∧ x ≤ 122) → rSs Γ (nmT1 t) { nx := fun σ1 m1 => ∃ m2, Sub m2 m1 ∧ R σ1 m2, rt := fun d m1 => ∃ m2, Sub m2 m1 ∧ k d m2, bk := fun σ1 m1 => rSs Γ (nmEnd t) { nx := fun _ m1 => ∃ m2, Sub m2 m1 ∧ k .non m2, rt := fun d m1 => ∃ m2, Sub m2 m1 ∧ k d m2, ex := fun _ e m1 => ∃ m2, Sub m2 m1 ∧ X e m2 } σ1 m1, ct := fun σ1 m1 => ∃ m2, Sub m2 m1 ∧ R σ1 m2, ex := fun _ e m1 => ∃ m2, Sub m2 m1 ∧ X e m2 }
        [some (.ref p), some (.int n), some (.str lett), some (.int (1 + d1)), some (.int sp), some (.ref Sg), some (.int fst), some (.int form), some (.ref L), some (.int j), some (.str [oneN fst.toNat j]), some (.str (cs.take sp.toNat ++ oneN fst.toNat j :: (cs.drop (sp.toNat + 1) ++ z))), none, none, o14] M2 := by
      intro z hz1 hz2
      have azw : ∀ x ∈ cs.take sp.toNat ++ oneN fst.toNat j :: (cs.drop (sp.toNat + 1) ++ z), 97 ≤ x ∧ x ≤ 122 := fun x hx => by
        rcases List.mem_append.mp hx with q | q
        · exact az1 x q
        · rcases List.mem_cons.mp q with q | q
          · rw [q]
            exact oz
          · rcases List.mem_append.mp q with q | q
            · exact az2 x q
            · exact hz2 x q
      refine nmT1_ok ht hp2 hb pL hL2 (by omega) (tx_of azw) oz fun w' M' b' o14 S' hb' hw' => ⟨_, Sub.refl _, r _ _ ⟨b', ws ++ [w'], _, _, _, o14, rfl, ?_, ?_, hb', by rw [List.length_append, hwl]; simp, ?_, ?_, ?_⟩⟩
      · have : Sub (upd (upd m p b') L (.lst (ws.map D.str))) M' := (sub_p (b' := b') pL S2).trans S'
        exact sub_l this
      · rw [upd_ne SL]
        exact S'.at (by rw [upd_ne (Ne.symm Sp)]; exact hS2)
      all_goals
        have hok : NmOk w' := by
          rcases hw' with ⟨z1, _, z3⟩ | z1 | ⟨_, z2, r', z3, z4, z5⟩
          · rw [z1]
            exact ⟨by simp, azw, by simp only [List.length_append, List.length_cons]; omega, z3⟩
          · rw [z1]
            exact q7_ok oz
          · refine ⟨by rw [z3]; simp, fun x hx => ?_, by rw [z3, List.length_append, List.length_singleton]; omega, z2⟩
            rw [z3] at hx
            rcases List.mem_append.mp hx with q | q
            · exact z5 x q
            · rw [List.mem_singleton.mp q]
              exact oz
        have hfm : Fm form.toNat fst.toNat (cs.take sp.toNat) (cs.drop (sp.toNat + 1)) j w' := by
          rcases hw' with ⟨z1, z2, _⟩ | z1 | ⟨z1, _, r', z3, _⟩
          · exact .inl ⟨by omega, z, hz1, z1⟩
          · exact .inr (.inl z1)
          · exact .inr (.inr ⟨by omega, r', z3⟩)
      · intro v hv
        rcases List.mem_append.mp hv with q | q
        · exact hwo v q
        · rw [List.mem_singleton.mp q]
          exact hok
      · rw [List.nodup_append]
        refine ⟨hwn, List.nodup_cons.mpr ⟨List.not_mem_nil, List.nodup_nil⟩, fun v hv u hu => ?_⟩
        rw [List.mem_singleton.mp hu]
        obtain ⟨i, hi, fi⟩ := hwf v hv
        exact fm_ne cl5 (by omega) (by omega) (by omega) fi hfm
      · intro v hv
        rcases List.mem_append.mp hv with q | q
        · obtain ⟨i, hi, fi⟩ := hwf v q
          exact ⟨i, by omega, fi⟩
        · rw [List.mem_singleton.mp q]
          exact ⟨j, by omega, hfm⟩
    have ew : cs.take sp.toNat ++ [oneN fst.toNat j] ++ cs.drop (sp.toNat + 1) = cs.take sp.toNat ++ oneN fst.toNat j :: (cs.drop (sp.toNat + 1) ++ []) := by simp
    refine ⟨by rw [List.length_append, List.length_take, List.length_drop]; unfold big; simp; omega, fun _ => ⟨by decide, fun _ => ⟨?_, ?_⟩, fun _ => ?_⟩, fun _ => ?_⟩
    · simp only [List.length_append, List.length_take, List.length_drop, List.length_cons, List.length_nil]
      unfold big
      omega
    · rw [show cs.take sp.toNat ++ [oneN fst.toNat j] ++ cs.drop (sp.toNat + 1) ++ [122] = cs.take sp.toNat ++ oneN fst.toNat j :: (cs.drop (sp.toNat + 1) ++ [122]) by simp]
      exact go [122] (by decide) (by decide)
    · rw [ew]
      exact go [] (by decide) (fun _ h => by cases h)
    · rw [ew]
      exact go [] (by decide) (fun _ h => by cases h)
  · obtain ⟨b, ws, o9, o10, o11, o14, rfl, S, hS, hb, hwl, hwo, hwn, hwf⟩ := h
    rw [rangeD_rg, List.length_map, rg_len, Nat.zero_add] at hwl
    refine ⟨trivial, nms_end ht S hb pL ⟨hwl, hwo, hwn⟩ h1 h26 fun M' b' ws' S' hb' hn' => ⟨_, S', hk b' ws' hb' hn' L (by rw [upd_ne (Ne.symm pL)]; exact mL0)⟩⟩
end DL

namespace LW
open PySem PySem.Spec PyProof.Rows DL
open L2 (V Hp FunD FnScope FnOk)
/-- the text, its defs one by one; printed by gen.py -/
def top (i : Nat) : Stmt := PySem.Challenge.pw_againbook_k01_names_and_numbers.main.body.getD i (.Pass ⟨0, 0, 0, 0⟩)
def c_made_of : DL.Ctx := { N := ["text", "signs", "sign"], own := [], glb := [], free := [] }
def b_made_of : Sms := (.c (.for_ (.name 2) (.of (.var 0)) (.c (.ite (.cmp .notin (.var 2) (.var 1)) (.c (.ret (.bl false))
  .n) .n)
  .n))
  (.c (.ret (.cmp .ne (.var 0) (.str [])))
  .n))
theorem cc_made_of : cSs c_made_of 200 (L2.defScope (top 7)) (L2.defBody (top 7)) = some b_made_of := by kernel_rfl
theorem sc_made_of : FnScope c_made_of.N ["text", "signs"] (L2.defScope (top 7)) := ⟨rfl, rfl, rfl, by decide +kernel, rfl, by decide +kernel, by decide +kernel⟩
def d_made_of : He.DefD := ⟨("made_of", none), "made_of", "made_of", L2.defArgs (top 7), L2.defBody (top 7), L2.defScope (top 7), [], []⟩
def c_is_name : DL.Ctx := { N := ["text"], own := [("made_of", (0, 2))], glb := [("LETTERS", 1), ("LONGEST", 3), ("KEPT", 5)], free := ["len"] }
def b_is_name : Sms := (.c (.ret (.and (.call 0 (.c (.var 0) (.c (.glob 1) .n))) (.and (.cmp .le (.blt .len (.c (.var 0) .n)) (.glob 3)) (.cmp .notin (.var 0) (.glob 5)))))
  .n)
theorem cc_is_name : cSs c_is_name 200 (L2.defScope (top 8)) (L2.defBody (top 8)) = some b_is_name := by kernel_rfl
theorem sc_is_name : FnScope c_is_name.N ["text"] (L2.defScope (top 8)) := ⟨rfl, rfl, rfl, by decide +kernel, rfl, by decide +kernel, by decide +kernel⟩
def d_is_name : He.DefD := ⟨("is_name", none), "is_name", "is_name", L2.defArgs (top 8), L2.defBody (top 8), L2.defScope (top 8), [], []⟩
def c_is_number : DL.Ctx := { N := ["text"], own := [("made_of", (0, 2))], glb := [("MOST_FIGURES", 4), ("FIGURES", 2)], free := ["len"] }
def b_is_number : Sms := (.c (.ite (.or (.not (.call 0 (.c (.var 0) (.c (.glob 2) .n)))) (.cmp .gt (.blt .len (.c (.var 0) .n)) (.glob 4))) (.c (.ret (.bl false))
  .n) .n)
  (.c (.ret (.or (.cmp .eq (.var 0) (.str [48])) (.cmp .ne (.ix (.var 0) (.int 0)) (.str [48]))))
  .n))
theorem cc_is_number : cSs c_is_number 200 (L2.defScope (top 9)) (L2.defBody (top 9)) = some b_is_number := by kernel_rfl
theorem sc_is_number : FnScope c_is_number.N ["text"] (L2.defScope (top 9)) := ⟨rfl, rfl, rfl, by decide +kernel, rfl, by decide +kernel, by decide +kernel⟩
def d_is_number : He.DefD := ⟨("is_number", none), "is_number", "is_number", L2.defArgs (top 9), L2.defBody (top 9), L2.defScope (top 9), [], []⟩
def c_law_box : DL.Ctx := { N := ["_law_script", "_law_k", "_law_cell", "_law_seed"], own := [], glb := [], free := ["len", "int"] }
def b_law_box : Sms := (.c (.set 2 (.bin .add (.bin .mul (.int 7919) (.var 1)) (.int 11)))
  (.c (.ite (.cmp .lt (.var 1) (.blt .len (.c (.var 0) .n))) (.c (.set 2 (.ix (.var 0) (.var 1)))
  .n) (.c (.ite (.cmp .gt (.blt .len (.c (.var 0) .n)) (.int 0)) (.c (.set 2 (.bin .add (.var 2) (.bin .mul (.bin .mod (.ix (.var 0) (.bin .mod (.var 1) (.blt .len (.c (.var 0) .n)))) (.int 2147483629)) (.int 69621))))
  .n) .n)
  .n))
  (.c (.set 3 (.bin .add (.bin .mod (.bin .add (.bin .mul (.bin .mod (.var 2) (.int 2147483629)) (.int 48271)) (.bin .mul (.int 40692) (.var 1))) (.int 2147483646)) (.int 1)))
  (.c (.ret (.lst (.c (.bin .mul (.var 2) (.blt .int (.c (.cmp .ge (.var 2) (.bin .pow (.int 10) (.int 18))) .n))) (.c (.var 3) .n))))
  .n))))
theorem cc_law_box : cSs c_law_box 200 (L2.defScope (top 11)) (L2.defBody (top 11)) = some b_law_box := by kernel_rfl
theorem sc_law_box : FnScope c_law_box.N ["_law_script", "_law_k"] (L2.defScope (top 11)) := ⟨rfl, rfl, rfl, by decide +kernel, rfl, by decide +kernel, by decide +kernel⟩
def d_law_box : He.DefD := ⟨("_law_box", none), "_law_box", "_law_box", L2.defArgs (top 11), L2.defBody (top 11), L2.defScope (top 11), [], []⟩
def c_law_take : DL.Ctx := { N := ["_law_box_here", "_law_wide", "_law_one", "_law_mixed", "_law_digit"], own := [], glb := [], free := [] }
def b_law_take : Sms := (.c (.ite (.cmp .gt (.ix (.var 0) (.int 0)) (.int 0)) (.c (.set 4 (.bin .mod (.ix (.var 0) (.int 0)) (.var 1)))
  (.c (.setIx (.var 0) (.int 0) (.bin .fdiv (.ix (.var 0) (.int 0)) (.var 1)))
  (.c (.ret (.var 4))
  .n))) .n)
  (.c (.set 2 (.bin .mod (.bin .mul (.ix (.var 0) (.int 1)) (.int 69621)) (.int 2147483647)))
  (.c (.setIx (.var 0) (.int 1) (.bin .add (.bin .mod (.bin .add (.bin .mul (.var 2) (.int 48271)) (.int 30103)) (.int 2147483646)) (.int 1)))
  (.c (.set 3 (.bin .fdiv (.bin .add (.bin .mul (.var 2) (.int 2147483647)) (.ix (.var 0) (.int 1))) (.int 8191)))
  (.c (.ite (.cmp .gt (.var 1) (.bin .pow (.int 10) (.int 9))) (.c (.set 3 (.bin .mul (.var 3) (.var 3)))
  .n) .n)
  (.c (.ret (.bin .mod (.var 3) (.var 1)))
  .n))))))
theorem cc_law_take : cSs c_law_take 200 (L2.defScope (top 12)) (L2.defBody (top 12)) = some b_law_take := by kernel_rfl
theorem sc_law_take : FnScope c_law_take.N ["_law_box_here", "_law_wide"] (L2.defScope (top 12)) := ⟨rfl, rfl, rfl, by decide +kernel, rfl, by decide +kernel, by decide +kernel⟩
def d_law_take : He.DefD := ⟨("_law_take", none), "_law_take", "_law_take", L2.defArgs (top 12), L2.defBody (top 12), L2.defScope (top 12), [], []⟩
def c_law_names : DL.Ctx := { N := ["_law_box_here", "_law_total", "_law_letters", "_law_wide", "_law_spot", "_law_signs", "_law_first", "_law_form", "_law_found", "_law_k", "_law_one", "_law_word_here", "_law_some", "_law_odd", "_law_j"], own := [("_law_take", (4, 2))], glb := [], free := ["range"] }
def b_law_names : Sms := (.c (.set 2 (.str [97, 98, 99, 100, 101, 102, 103, 104, 105, 106, 107, 108, 109, 110, 111, 112, 113, 114, 115, 116, 117, 118, 119, 120, 121, 122]))
  (.c (.set 3 (.bin .add (.int 1) (.call 4 (.c (.var 0) (.c (.int 6) .n)))))
  (.c (.set 4 (.call 4 (.c (.var 0) (.c (.var 3) .n))))
  (.c (.set 5 (.lc [9] (.name 9) (.rng1 (.var 3)) (.bl true) (.ix (.var 2) (.call 4 (.c (.var 0) (.c (.int 26) .n))))))
  (.c (.set 6 (.call 4 (.c (.var 0) (.c (.int 26) .n))))
  (.c (.set 7 (.call 4 (.c (.var 0) (.c (.int 3) .n))))
  (.c (.set 8 (.lst .n))
  (.c (.for_ (.name 9) (.rng1 (.var 1)) (.c (.set 10 (.ix (.var 2) (.bin .mod (.bin .add (.var 6) (.bin .mul (.int 5) (.var 9))) (.int 26))))
  (.c (.set 11 (.bin .add (.bin .add (.bm .join (.str []) (.c (.sl (.var 5) .part0 (.var 4)) .n)) (.var 10)) (.bm .join (.str []) (.c (.sl (.var 5) (.bin .add (.var 4) (.int 1)) .part0) .n))))
  (.c (.ite (.and (.cmp .eq (.var 7) (.int 1)) (.cmp .eq (.bin .mod (.var 9) (.int 2)) (.int 1))) (.c (.set 11 (.bin .add (.var 11) (.str [122])))
  .n) .n)
  (.c (.ite (.cmp .eq (.var 7) (.int 2)) (.c (.set 11 (.bin .add (.bm .join (.str []) (.c (.lc [14] (.name 14) (.rng1 (.call 4 (.c (.var 0) (.c (.int 8) .n)))) (.bl true) (.ix (.var 2) (.call 4 (.c (.var 0) (.c (.int 26) .n))))) .n)) (.var 10)))
  .n) .n)
  (.c (.ite (.cmp .isin (.var 11) (.tup (.c (.str [100, 101, 102]) (.c (.str [115, 101, 116]) (.c (.str [114, 101, 97, 100]) (.c (.str [119, 114, 105, 116, 101]) (.c (.str [99, 97, 108, 108]) (.c (.str [105, 102]) (.c (.str [101, 108, 115, 101]) (.c (.str [119, 104, 105, 108, 101]) (.c (.str [103, 105, 118, 101]) (.c (.str [101, 110, 100]) .n)))))))))))) (.c (.set 11 (.bin .add (.str [113, 113, 113, 113, 113, 113, 113]) (.var 10)))
  .n) .n)
  (.c (.expr (.bm .append (.var 8) (.c (.var 11) .n)))
  .n)))))))
  (.c (.ite (.cmp .eq (.call 4 (.c (.var 0) (.c (.int 6) .n))) (.int 0)) (.c (.set 12 (.lst (.c (.str [110, 117, 109]) (.c (.str [118, 97, 114]) (.c (.str [111, 112]) (.c (.str [103, 111]) (.c (.str [97, 115, 107]) (.c (.str [98, 97, 99, 107]) (.c (.str [99, 104, 97, 105, 110]) (.c (.str [115, 101, 116, 115]) (.c (.str [105, 102, 102]) (.c (.str [101, 110, 100, 115]) (.c (.str [99, 97, 108, 108, 115]) (.c (.str [114, 101, 97, 100, 115]) (.c (.str [103, 105, 118, 101, 115]) .n)))))))))))))))
  (.c (.set 13 (.ix (.var 12) (.call 4 (.c (.var 0) (.c (.int 13) .n)))))
  (.c (.ite (.cmp .notin (.var 13) (.var 8)) (.c (.setIx (.var 8) (.call 4 (.c (.var 0) (.c (.var 1) .n))) (.var 13))
  .n) .n)
  .n))) .n)
  (.c (.ret (.var 8))
  .n))))))))))
theorem cc_law_names : cSs c_law_names 200 (L2.defScope (top 14)) (L2.defBody (top 14)) = some b_law_names := by kernel_rfl
theorem sc_law_names : FnScope c_law_names.N ["_law_box_here", "_law_total"] (L2.defScope (top 14)) := ⟨rfl, rfl, rfl, by decide +kernel, rfl, by decide +kernel, by decide +kernel⟩
def d_law_names : He.DefD := ⟨("_law_names", none), "_law_names", "_law_names", L2.defArgs (top 14), L2.defBody (top 14), L2.defScope (top 14), [], []⟩
def c_law_word : DL.Ctx := { N := ["_law_box_here", "_law_text_here", "_law_some"], own := [("_law_take", (4, 2))], glb := [], free := ["len"] }
def b_law_word : Sms := (.c (.set 1 (.str [100, 101, 102, 59, 115, 101, 116, 59, 114, 101, 97, 100, 59, 119, 114, 105, 116, 101, 59, 99, 97, 108, 108, 59, 105, 102, 59, 101, 108, 115, 101, 59, 119, 104, 105, 108, 101, 59, 103, 105, 118, 101, 59, 101, 110, 100, 59, 59, 48, 59, 48, 48, 59, 48, 49, 59, 45, 48, 59, 43, 49, 59, 45, 49, 59, 49, 95, 48]))
  (.c (.set 1 (.bin .add (.var 1) (.str [59, 49, 46, 48, 59, 49, 101, 51, 59, 48, 120, 49, 59, 32, 49, 59, 49, 32, 59, 49, 10, 59, 49, 48, 59, 97, 98, 99, 100, 101, 102, 103, 104, 59, 97, 98, 99, 100, 101, 102, 103, 104, 105, 59, 65, 98, 99, 59, 97, 98, 67, 59, 97, 32, 98, 59, 97, 32, 59, 32, 97, 59, 97, 10, 59, 97, 95, 98])))
  (.c (.set 1 (.bin .add (.var 1) (.str [59, 97, 49, 59, 49, 97, 59, 97, 45, 98, 59, 40, 59, 41, 59, 105, 102, 115, 59, 105, 59, 101, 110, 100, 100, 59, 58, 59, 100, 101, 59, 105, 102, 102, 59, 99, 104, 97, 105, 110, 59, 98, 97, 99, 107, 59, 97, 59, 122, 122, 59, 39, 97, 39])))
  (.c (.set 2 (.bin .add (.bm .split (.var 1) (.c (.str [59]) .n)) (.lst (.c (.bin .mul (.str [57]) (.int 18)) (.c (.bin .add (.str [49]) (.bin .mul (.str [48]) (.int 18))) (.c (.bin .mul (.str [57]) (.int 19)) (.c (.bin .mul (.str [48]) (.int 18)) .n)))))))
  (.c (.set 2 (.bin .add (.var 2) (.lst (.c (.bin .mul (.str [122]) (.int 8)) (.c (.bin .mul (.str [122]) (.int 9)) (.c (.bin .mul (.str [49]) (.int 18)) (.c (.bin .mul (.str [49]) (.int 19)) .n)))))))
  (.c (.ret (.ix (.var 2) (.call 4 (.c (.var 0) (.c (.blt .len (.c (.var 2) .n)) .n)))))
  .n))))))
theorem cc_law_word : cSs c_law_word 200 (L2.defScope (top 15)) (L2.defBody (top 15)) = some b_law_word := by kernel_rfl
theorem sc_law_word : FnScope c_law_word.N ["_law_box_here"] (L2.defScope (top 15)) := ⟨rfl, rfl, rfl, by decide +kernel, rfl, by decide +kernel, by decide +kernel⟩
def d_law_word : He.DefD := ⟨("_law_word", none), "_law_word", "_law_word", L2.defArgs (top 15), L2.defBody (top 15), L2.defScope (top 15), [], []⟩
def c_law_any_text : DL.Ctx := { N := ["_law_box_here", "_law_signs", "_law_found", "_law_k"], own := [("_law_take", (4, 2))], glb := [], free := ["range", "len"] }
def b_law_any_text : Sms := (.c (.set 1 (.str [32, 97, 98, 99, 122, 48, 49, 57, 65, 90, 45, 43, 95, 46, 40, 41, 10]))
  (.c (.set 2 (.str []))
  (.c (.for_ (.name 3) (.rng1 (.call 4 (.c (.var 0) (.c (.int 12) .n)))) (.c (.set 2 (.bin .add (.var 2) (.ix (.var 1) (.call 4 (.c (.var 0) (.c (.blt .len (.c (.var 1) .n)) .n))))))
  .n))
  (.c (.ret (.var 2))
  .n))))
theorem cc_law_any_text : cSs c_law_any_text 200 (L2.defScope (top 16)) (L2.defBody (top 16)) = some b_law_any_text := by kernel_rfl
theorem sc_law_any_text : FnScope c_law_any_text.N ["_law_box_here"] (L2.defScope (top 16)) := ⟨rfl, rfl, rfl, by decide +kernel, rfl, by decide +kernel, by decide +kernel⟩
def d_law_any_text : He.DefD := ⟨("_law_any_text", none), "_law_any_text", "_law_any_text", L2.defArgs (top 16), L2.defBody (top 16), L2.defScope (top 16), [], []⟩
def c_law_text : DL.Ctx := { N := ["_law_box_here", "_law_form", "_law_names_here"], own := [("_law_take", (4, 2)), ("_law_word", (7, 1)), ("_law_any_text", (8, 1)), ("_law_names", (6, 2))], glb := [], free := ["str"] }
def b_law_text : Sms := (.c (.set 1 (.call 4 (.c (.var 0) (.c (.int 6) .n))))
  (.c (.ite (.cmp .eq (.var 1) (.int 0)) (.c (.ret (.call 8 (.c (.var 0) .n)))
  .n) .n)
  (.c (.ite (.cmp .eq (.var 1) (.int 1)) (.c (.ret (.bin .add (.blt .str (.c (.call 4 (.c (.var 0) (.c (.bin .pow (.int 10) (.int 18)) .n))) .n)) (.ix (.lst (.c (.str []) (.c (.str [48]) (.c (.str [32]) (.c (.str [97]) .n))))) (.call 4 (.c (.var 0) (.c (.int 4) .n))))))
  .n) .n)
  (.c (.ite (.cmp .eq (.var 1) (.int 2)) (.c (.set 2 (.call 6 (.c (.var 0) (.c (.int 14) .n))))
  (.c (.ret (.bin .add (.ix (.var 2) (.call 4 (.c (.var 0) (.c (.int 14) .n)))) (.ix (.lst (.c (.str []) (.c (.str []) (.c (.str [115]) (.c (.str [113]) .n))))) (.call 4 (.c (.var 0) (.c (.int 4) .n))))))
  .n)) .n)
  (.c (.ite (.cmp .eq (.var 1) (.int 3)) (.c (.ret (.bin .add (.call 7 (.c (.var 0) .n)) (.call 7 (.c (.var 0) .n))))
  .n) .n)
  (.c (.ret (.call 7 (.c (.var 0) .n)))
  .n))))))
theorem cc_law_text : cSs c_law_text 200 (L2.defScope (top 17)) (L2.defBody (top 17)) = some b_law_text := by kernel_rfl
theorem sc_law_text : FnScope c_law_text.N ["_law_box_here"] (L2.defScope (top 17)) := ⟨rfl, rfl, rfl, by decide +kernel, rfl, by decide +kernel, by decide +kernel⟩
def d_law_text : He.DefD := ⟨("_law_text", none), "_law_text", "_law_text", L2.defArgs (top 17), L2.defBody (top 17), L2.defScope (top 17), [], []⟩
def c_law_only : DL.Ctx := { N := ["_law_text_here", "_law_signs", "_law_sign"], own := [], glb := [], free := ["all", "len"] }
def b_law_only : Sms := (.c (.ret (.and (.cmp .gt (.blt .len (.c (.var 0) .n)) (.int 0)) (.blt .all (.c (.lc [2] (.name 2) (.of (.var 0)) (.bl true) (.cmp .isin (.var 2) (.var 1))) .n))))
  .n)
theorem cc_law_only : cSs c_law_only 200 (L2.defScope (top 18)) (L2.defBody (top 18)) = some b_law_only := by kernel_rfl
theorem sc_law_only : FnScope c_law_only.N ["_law_text_here", "_law_signs"] (L2.defScope (top 18)) := ⟨rfl, rfl, rfl, by decide +kernel, rfl, by decide +kernel, by decide +kernel⟩
def d_law_only : He.DefD := ⟨("_law_only", none), "_law_only", "_law_only", L2.defArgs (top 18), L2.defBody (top 18), L2.defScope (top 18), [], []⟩
def c_law_name_due : DL.Ctx := { N := ["_law_text_here", "_law_kept"], own := [("_law_only", (10, 2))], glb := [], free := ["len"] }
def b_law_name_due : Sms := (.c (.set 1 (.lst (.c (.str [100, 101, 102]) (.c (.str [115, 101, 116]) (.c (.str [114, 101, 97, 100]) (.c (.str [119, 114, 105, 116, 101]) (.c (.str [99, 97, 108, 108]) (.c (.str [105, 102]) (.c (.str [101, 108, 115, 101]) (.c (.str [119, 104, 105, 108, 101]) (.c (.str [103, 105, 118, 101]) (.c (.str [101, 110, 100]) .n))))))))))))
  (.c (.ret (.and (.call 10 (.c (.var 0) (.c (.str [97, 98, 99, 100, 101, 102, 103, 104, 105, 106, 107, 108, 109, 110, 111, 112, 113, 114, 115, 116, 117, 118, 119, 120, 121, 122]) .n))) (.and (.cmp .lt (.blt .len (.c (.var 0) .n)) (.int 9)) (.cmp .notin (.var 0) (.var 1)))))
  .n))
theorem cc_law_name_due : cSs c_law_name_due 200 (L2.defScope (top 19)) (L2.defBody (top 19)) = some b_law_name_due := by kernel_rfl
theorem sc_law_name_due : FnScope c_law_name_due.N ["_law_text_here"] (L2.defScope (top 19)) := ⟨rfl, rfl, rfl, by decide +kernel, rfl, by decide +kernel, by decide +kernel⟩
def d_law_name_due : He.DefD := ⟨("_law_name_due", none), "_law_name_due", "_law_name_due", L2.defArgs (top 19), L2.defBody (top 19), L2.defScope (top 19), [], []⟩
def c_law_number_due : DL.Ctx := { N := ["_law_text_here"], own := [("_law_only", (10, 2))], glb := [], free := ["len"] }
def b_law_number_due : Sms := (.c (.ite (.or (.not (.call 10 (.c (.var 0) (.c (.str [48, 49, 50, 51, 52, 53, 54, 55, 56, 57]) .n)))) (.cmp .gt (.blt .len (.c (.var 0) .n)) (.int 18))) (.c (.ret (.bl false))
  .n) .n)
  (.c (.ret (.or (.cmp .eq (.blt .len (.c (.var 0) .n)) (.int 1)) (.cmp .ne (.ix (.var 0) (.int 0)) (.str [48]))))
  .n))
theorem cc_law_number_due : cSs c_law_number_due 200 (L2.defScope (top 20)) (L2.defBody (top 20)) = some b_law_number_due := by kernel_rfl
theorem sc_law_number_due : FnScope c_law_number_due.N ["_law_text_here"] (L2.defScope (top 20)) := ⟨rfl, rfl, rfl, by decide +kernel, rfl, by decide +kernel, by decide +kernel⟩
def d_law_number_due : He.DefD := ⟨("_law_number_due", none), "_law_number_due", "_law_number_due", L2.defArgs (top 20), L2.defBody (top 20), L2.defScope (top 20), [], []⟩
def c_law_told : DL.Ctx := { N := ["_law_text_here", "_law_one", "_law_other"], own := [("is_name", (1, 1)), ("is_number", (2, 1)), ("_law_name_due", (11, 1)), ("_law_number_due", (12, 1))], glb := [], free := ["isinstance", "bool"] }
def b_law_told : Sms := (.c (.set 1 (.call 1 (.c (.var 0) .n)))
  (.c (.set 2 (.call 2 (.c (.var 0) .n)))
  (.c (.ite (.or (.not (.blt .isBool (.c (.var 1) .n))) (.not (.blt .isBool (.c (.var 2) .n)))) (.c (.ret (.bl false))
  .n) .n)
  (.c (.ret (.and (.cmp .eq (.var 1) (.call 11 (.c (.var 0) .n))) (.cmp .eq (.var 2) (.call 12 (.c (.var 0) .n)))))
  .n))))
theorem cc_law_told : cSs c_law_told 200 (L2.defScope (top 21)) (L2.defBody (top 21)) = some b_law_told := by kernel_rfl
theorem sc_law_told : FnScope c_law_told.N ["_law_text_here"] (L2.defScope (top 21)) := ⟨rfl, rfl, rfl, by decide +kernel, rfl, by decide +kernel, by decide +kernel⟩
def d_law_told : He.DefD := ⟨("_law_told", none), "_law_told", "_law_told", L2.defArgs (top 21), L2.defBody (top 21), L2.defScope (top 21), [], []⟩
def c_law : DL.Ctx := { N := ["_law_script", "_law_texts", "_law_k", "_law_text_here"], own := [("_law_text", (9, 1)), ("_law_told", (13, 1)), ("_law_box", (3, 2))], glb := [("TOP", 0)], free := ["range", "isinstance", "bool", "len", "int"] }
def b_law : Sms := (.c (.ite (.or (.blt .isBool (.c (.glob 0) .n)) (.or (.cmp .ne (.glob 0) (.bin .pow (.int 10) (.int 18))) (.not (.blt .isInt (.c (.glob 0) .n))))) (.c (.ret (.bl false))
  .n) .n)
  (.c (.set 1 (.lst (.c (.str []) (.c (.str [97]) (.c (.str [48]) (.c (.str [101, 110, 100]) .n))))))
  (.c (.for_ (.name 2) (.rng1 (.blt .len (.c (.sl (.var 0) .part0 (.int 20)) .n))) (.c (.expr (.bm .append (.var 1) (.c (.call 9 (.c (.call 3 (.c (.var 0) (.c (.var 2) .n))) .n)) .n)))
  .n))
  (.c (.for_ (.name 3) (.of (.bin .add (.var 1) (.sl (.var 1) .part0 (.int 9)))) (.c (.ite (.not (.call 13 (.c (.var 3) .n))) (.c (.ret (.bl false))
  .n) .n)
  .n))
  (.c (.ret (.bl true))
  .n)))))
theorem cc_law : cSs c_law 200 (L2.defScope (top 22)) (L2.defBody (top 22)) = some b_law := by kernel_rfl
theorem sc_law : FnScope c_law.N ["_law_script"] (L2.defScope (top 22)) := ⟨rfl, rfl, rfl, by decide +kernel, rfl, by decide +kernel, by decide +kernel⟩
def d_law : He.DefD := ⟨("law", none), "law", "law", L2.defArgs (top 22), L2.defBody (top 22), L2.defScope (top 22), [], []⟩
--use Dl15
--use Dl16
--use Dl17
--use Dl18
--use Dl20
--use Dl21
def figL : List Nat := [48, 49, 50, 51, 52, 53, 54, 55, 56, 57]
/-- a text of real signs, n at most -/
def Tx (n : Nat) (t : List Nat) : Prop := t.all (· < 1114112) = true ∧ t.length ≤ n
def onlyB (t sg : List Nat) : Bool := decide (t ≠ []) && t.all fun c => decide (c ∈ sg)
def nameB (t : List Nat) : Bool := onlyB t lett && (decide (t.length ≤ 8) && !decide (t ∈ keptL))
def numB (t : List Nat) : Bool := onlyB t figL && (decide (t.length ≤ 18) && (decide (t.length = 1) || !decide (t.head? = some 48)))
abbrev sp_made_of : Sp := fun ds m k _ => ∃ t sg, ds = [.str t, .str sg] ∧ Tx 100000 t ∧ k (.bl (onlyB t sg)) m
abbrev sp_is_name : Sp := fun ds m k _ => ∃ t, ds = [.str t] ∧ Tx 100000 t ∧ k (.bl (nameB t)) m
abbrev sp_is_number : Sp := fun ds m k _ => ∃ t, ds = [.str t] ∧ Tx 100000 t ∧ k (.bl (numB t)) m
abbrev sp_law_box : Sp := spBoxO
abbrev sp_law_take : Sp := spTakeM
abbrev sp_law_names : Sp := spNames
abbrev spTextN (n : Nat) : Sp := fun ds m k _ => ∃ (p : Nat) (b : MO), ds = [.ref p] ∧ m p = some b ∧ BoxO b ∧ ∀ b' t M', M' = upd m p b' → BoxO b' → Tx n t → k (.str t) M'
abbrev sp_law_word : Sp := spTextN 1000
abbrev sp_law_any_text : Sp := spTextN 1000
abbrev sp_law_text : Sp := spTextN 3000
abbrev sp_law_only : Sp := sp_made_of
abbrev sp_law_name_due : Sp := sp_is_name
abbrev sp_law_number_due : Sp := sp_is_number
abbrev sp_law_told : Sp := fun ds m k _ => ∃ t, ds = [.str t] ∧ Tx 100000 t ∧ k (.bl true) m
abbrev sp_law : Sp := fun ds m k _ => ∃ ns : List Int, ds = [.rol (ns.map D.int)] ∧ ns.length ≤ 63 ∧ ∀ m', k (.bl true) m'
def Γ : En := { fn := fun i => match i with
    | 0 => sp_made_of
    | 1 => sp_is_name
    | 2 => sp_is_number
    | 3 => sp_law_box
    | 4 => sp_law_take
    | 6 => sp_law_names
    | 7 => sp_law_word
    | 8 => sp_law_any_text
    | 9 => sp_law_text
    | 10 => sp_law_only
    | 11 => sp_law_name_due
    | 12 => sp_law_number_due
    | 13 => sp_law_told
    | 14 => sp_law
    | _ => fun _ _ _ _ => False, gl := fun i => match i with
    | 1 => (.str [97, 98, 99, 100, 101, 102, 103, 104, 105, 106, 107, 108, 109, 110, 111, 112, 113, 114, 115, 116, 117, 118, 119, 120, 121, 122])
    | 3 => (.int 8)
    | 5 => (.ktup [(.str [100, 101, 102]), (.str [115, 101, 116]), (.str [114, 101, 97, 100]), (.str [119, 114, 105, 116, 101]), (.str [99, 97, 108, 108]), (.str [105, 102]), (.str [101, 108, 115, 101]), (.str [119, 104, 105, 108, 101]), (.str [103, 105, 118, 101]), (.str [101, 110, 100])])
    | 4 => (.int 18)
    | 2 => (.str [48, 49, 50, 51, 52, 53, 54, 55, 56, 57])
    | 0 => (.int 1000000000000000000)
    | _ => .non, mt := fun _ _ _ _ _ _ => False, ini := fun _ _ _ _ _ => False }
theorem G0 : Γ.fn 0 = sp_made_of := rfl
theorem G1 : Γ.fn 1 = sp_is_name := rfl
theorem G2 : Γ.fn 2 = sp_is_number := rfl
theorem G3 : Γ.fn 3 = sp_law_box := rfl
theorem G4 : Γ.fn 4 = sp_law_take := rfl
theorem G6 : Γ.fn 6 = sp_law_names := rfl
theorem G7 : Γ.fn 7 = sp_law_word := rfl
theorem G8 : Γ.fn 8 = sp_law_any_text := rfl
theorem G9 : Γ.fn 9 = sp_law_text := rfl
theorem G10 : Γ.fn 10 = sp_law_only := rfl
theorem G11 : Γ.fn 11 = sp_law_name_due := rfl
theorem G12 : Γ.fn 12 = sp_law_number_due := rfl
theorem G13 : Γ.fn 13 = sp_law_told := rfl
theorem l0 : Γ.gl 0 = .int 1000000000000000000 := rfl
theorem l1 : Γ.gl 1 = .str lett := rfl
theorem l2 : Γ.gl 2 = .str figL := rfl
theorem l3 : Γ.gl 3 = .int 8 := rfl
theorem l4 : Γ.gl 4 = .int 18 := rfl
theorem l5 : Γ.gl 5 = .ktup (keptL.map D.str) := rfl
theorem kp_law_box : Keeps Γ 4 b_law_box sp_law_box := kp_boxO
theorem kp_law_take : Keeps Γ 5 b_law_take sp_law_take := kp_takeM
theorem kp_law_names : Keeps Γ 15 b_law_names sp_law_names := kp_names rfl
theorem Tx.big {n : Nat} {t : List Nat} (h : Tx n t) (hn : n ≤ 100000) : t.length ≤ big := by
  have := h.2
  unfold DL.big
  omega
theorem Tx.le {n n' : Nat} {t : List Nat} (h : Tx n t) (hn : n ≤ n') : Tx n' t := ⟨h.1, Nat.le_trans h.2 hn⟩
theorem Tx.app {n n' : Nat} {t u : List Nat} (h : Tx n t) (h' : Tx n' u) : Tx (n + n') (t ++ u) := ⟨by rw [List.all_append, h.1, h'.1]; rfl, by rw [List.length_append]; exact Nat.add_le_add h.2 h'.2⟩
theorem kp_made_of : Keeps Γ 3 b_made_of sp_made_of := by
  rintro ds m k X ⟨t, sg, rfl, ht, hk⟩
  show rSs Γ b_made_of _ [some _, some _, none] m
  simp only [b_made_of, rSs, rS, rE, rEs, rT, rP, rSrc, rTg, rCh, sget0, sgetS, sset0, ssetS, sw0, swS, swN, swC, b_add, b_sub, b_mul, b_fdiv, b_mod, b_pow, b_adds, b_addt, b_muls, c_lt, c_le, c_gt, c_ge, c_eq0, c_ne0, c_in0, c_ni0, c_is0, c_isn0, e_int, e_bl, t_bl, t_int, t_non, t_tup, t_rol, t_ktup, t_str, i_tup, i_rol, i_ktup, i_str, l_tup, l_ktup, l_rol, l_str, l_int0, l_int1, l_str1, l_max, l_min, sl_tup, sl_rol, sl_str, y_int, y_bl, y_str, y_tup, y_ktup, y_non, it_rol, it_tup, it_ktup, it_str, decide_eq_true_eq, decide_eq_false_iff_not, reduceCtorEq, false_implies, true_implies, forall_const, and_true, true_and, List.length_map, l_isI, l_isB, l_isS, l_isL, l_isT, l_isD, isTy, decide_true, decide_false, Bool.or_false, Bool.false_or, Bool.true_or, Bool.or_true, Bool.not_true, Bool.not_false, Bool.false_eq_true, Bool.true_eq_false, Bool.not_eq_true', Bool.not_eq_false', ne_eq, not_true_eq_false, not_false_eq_true, D.int.injEq, D.str.injEq, Option.some.injEq, exists_eq_left', exists_eq_left]
  refine rFor_by (fun i σ M => ∃ o, σ = [some (.str t), some (.str sg), o] ∧ M = m ∧ ∀ c ∈ t.take i, c ∈ sg) 0 ⟨none, rfl, rfl, fun _ h => by cases h⟩ (fun i d σ M R e h r => ?_) fun σ M h => ?_
  · obtain ⟨o, rfl, rfl, hc⟩ := h
    rw [List.getElem?_map] at e
    obtain ⟨c, ec, rfl⟩ := Option.map_eq_some_iff.mp e
    refine ⟨trivial, ?_⟩
    simp only [rSs, rS, rE, rEs, rT, rP, rSrc, rTg, rCh, sget0, sgetS, sset0, ssetS, sw0, swS, swN, swC, b_add, b_sub, b_mul, b_fdiv, b_mod, b_pow, b_adds, b_addt, b_muls, c_lt, c_le, c_gt, c_ge, c_eq0, c_ne0, c_in0, c_ni0, c_is0, c_isn0, e_int, e_bl, t_bl, t_int, t_non, t_tup, t_rol, t_ktup, t_str, i_tup, i_rol, i_ktup, i_str, l_tup, l_ktup, l_rol, l_str, l_int0, l_int1, l_str1, l_max, l_min, sl_tup, sl_rol, sl_str, y_int, y_bl, y_str, y_tup, y_ktup, y_non, it_rol, it_tup, it_ktup, it_str, decide_eq_true_eq, decide_eq_false_iff_not, reduceCtorEq, false_implies, true_implies, forall_const, and_true, true_and, List.length_map, l_isI, l_isB, l_isS, l_isL, l_isT, l_isD, isTy, decide_true, decide_false, Bool.or_false, Bool.false_or, Bool.true_or, Bool.or_true, Bool.not_true, Bool.not_false, Bool.false_eq_true, Bool.true_eq_false, Bool.not_eq_true', Bool.not_eq_false', ne_eq, not_true_eq_false, not_false_eq_true, D.int.injEq, D.str.injEq, Option.some.injEq, exists_eq_left', exists_eq_left]
    refine in_str ?_
    simp only [rSs, rS, rE, rEs, rT, rP, rSrc, rTg, rCh, sget0, sgetS, sset0, ssetS, sw0, swS, swN, swC, b_add, b_sub, b_mul, b_fdiv, b_mod, b_pow, b_adds, b_addt, b_muls, c_lt, c_le, c_gt, c_ge, c_eq0, c_ne0, c_in0, c_ni0, c_is0, c_isn0, e_int, e_bl, t_bl, t_int, t_non, t_tup, t_rol, t_ktup, t_str, i_tup, i_rol, i_ktup, i_str, l_tup, l_ktup, l_rol, l_str, l_int0, l_int1, l_str1, l_max, l_min, sl_tup, sl_rol, sl_str, y_int, y_bl, y_str, y_tup, y_ktup, y_non, it_rol, it_tup, it_ktup, it_str, decide_eq_true_eq, decide_eq_false_iff_not, reduceCtorEq, false_implies, true_implies, forall_const, and_true, true_and, List.length_map, l_isI, l_isB, l_isS, l_isL, l_isT, l_isD, isTy, decide_true, decide_false, Bool.or_false, Bool.false_or, Bool.true_or, Bool.or_true, Bool.not_true, Bool.not_false, Bool.false_eq_true, Bool.true_eq_false, Bool.not_eq_true', Bool.not_eq_false', ne_eq, not_true_eq_false, not_false_eq_true, D.int.injEq, D.str.injEq, Option.some.injEq, exists_eq_left', exists_eq_left]
    refine ⟨fun h => ⟨_, Sub.refl _, ?_⟩, fun h => ⟨_, Sub.refl _, r _ _ ⟨_, rfl, rfl, fun x hx => ?_⟩⟩⟩
    · have : onlyB t sg = false := by
        unfold onlyB
        rw [show (t.all fun c => decide (c ∈ sg)) = false from ?_, Bool.and_false]
        rw [List.all_eq_false]
        exact ⟨c, List.mem_of_getElem? ec, by simpa using h⟩
      rw [this] at hk
      exact hk
    · rw [Nat.zero_add] at hc hx
      rw [List.take_add_one, ec] at hx
      rcases List.mem_append.mp hx with z | z
      · exact hc x z
      · have : x = c := by simpa using z
        rw [this]
        exact h
  · obtain ⟨o, rfl, rfl, hc⟩ := h
    rw [List.length_map, Nat.zero_add, List.take_length] at hc
    refine ⟨trivial, ?_⟩
    simp only [rSs, rS, rE, rEs, rT, rP, rSrc, rTg, rCh, sget0, sgetS, sset0, ssetS, sw0, swS, swN, swC, b_add, b_sub, b_mul, b_fdiv, b_mod, b_pow, b_adds, b_addt, b_muls, c_lt, c_le, c_gt, c_ge, c_eq0, c_ne0, c_in0, c_ni0, c_is0, c_isn0, e_int, e_bl, t_bl, t_int, t_non, t_tup, t_rol, t_ktup, t_str, i_tup, i_rol, i_ktup, i_str, l_tup, l_ktup, l_rol, l_str, l_int0, l_int1, l_str1, l_max, l_min, sl_tup, sl_rol, sl_str, y_int, y_bl, y_str, y_tup, y_ktup, y_non, it_rol, it_tup, it_ktup, it_str, decide_eq_true_eq, decide_eq_false_iff_not, reduceCtorEq, false_implies, true_implies, forall_const, and_true, true_and, List.length_map, l_isI, l_isB, l_isS, l_isL, l_isT, l_isD, isTy, decide_true, decide_false, Bool.or_false, Bool.false_or, Bool.true_or, Bool.or_true, Bool.not_true, Bool.not_false, Bool.false_eq_true, Bool.true_eq_false, Bool.not_eq_true', Bool.not_eq_false', ne_eq, not_true_eq_false, not_false_eq_true, D.int.injEq, D.str.injEq, Option.some.injEq, exists_eq_left', exists_eq_left]
    refine e_str ht.1 rfl ⟨_, Sub.refl _, ?_⟩
    have : onlyB t sg = !decide (t = []) := by
      unfold onlyB
      rw [show (t.all fun c => decide (c ∈ sg)) = true from List.all_eq_true.mpr fun c hc' => decide_eq_true (hc c hc'), Bool.and_true]
      by_cases e : t = [] <;> simp [e]
    rw [this] at hk
    exact hk
theorem kp_is_name : Keeps Γ 1 b_is_name sp_is_name := by
  rintro ds m k X ⟨t, rfl, ht, hk⟩
  show rSs Γ b_is_name _ [some _] m
  simp only [b_is_name, rSs, rS, rE, rEs, rT, rP, rSrc, rTg, rCh, sget0, sgetS, sset0, ssetS, sw0, swS, swN, swC, b_add, b_sub, b_mul, b_fdiv, b_mod, b_pow, b_adds, b_addt, b_muls, c_lt, c_le, c_gt, c_ge, c_eq0, c_ne0, c_in0, c_ni0, c_is0, c_isn0, e_int, e_bl, t_bl, t_int, t_non, t_tup, t_rol, t_ktup, t_str, i_tup, i_rol, i_ktup, i_str, l_tup, l_ktup, l_rol, l_str, l_int0, l_int1, l_str1, l_max, l_min, sl_tup, sl_rol, sl_str, y_int, y_bl, y_str, y_tup, y_ktup, y_non, it_rol, it_tup, it_ktup, it_str, decide_eq_true_eq, decide_eq_false_iff_not, reduceCtorEq, false_implies, true_implies, forall_const, and_true, true_and, List.length_map, l_isI, l_isB, l_isS, l_isL, l_isT, l_isD, isTy, decide_true, decide_false, Bool.or_false, Bool.false_or, Bool.true_or, Bool.or_true, Bool.not_true, Bool.not_false, Bool.false_eq_true, Bool.true_eq_false, Bool.not_eq_true', Bool.not_eq_false', ne_eq, not_true_eq_false, not_false_eq_true, D.int.injEq, D.str.injEq, Option.some.injEq, exists_eq_left', exists_eq_left, G0, l1, l3, l5]
  refine ⟨t, lett, rfl, ht, ?_⟩
  simp only [rSs, rS, rE, rEs, rT, rP, rSrc, rTg, rCh, sget0, sgetS, sset0, ssetS, sw0, swS, swN, swC, b_add, b_sub, b_mul, b_fdiv, b_mod, b_pow, b_adds, b_addt, b_muls, c_lt, c_le, c_gt, c_ge, c_eq0, c_ne0, c_in0, c_ni0, c_is0, c_isn0, e_int, e_bl, t_bl, t_int, t_non, t_tup, t_rol, t_ktup, t_str, i_tup, i_rol, i_ktup, i_str, l_tup, l_ktup, l_rol, l_str, l_int0, l_int1, l_str1, l_max, l_min, sl_tup, sl_rol, sl_str, y_int, y_bl, y_str, y_tup, y_ktup, y_non, it_rol, it_tup, it_ktup, it_str, decide_eq_true_eq, decide_eq_false_iff_not, reduceCtorEq, false_implies, true_implies, forall_const, and_true, true_and, List.length_map, l_isI, l_isB, l_isS, l_isL, l_isT, l_isD, isTy, decide_true, decide_false, Bool.or_false, Bool.false_or, Bool.true_or, Bool.or_true, Bool.not_true, Bool.not_false, Bool.false_eq_true, Bool.true_eq_false, Bool.not_eq_true', Bool.not_eq_false', ne_eq, not_true_eq_false, not_false_eq_true, D.int.injEq, D.str.injEq, Option.some.injEq, exists_eq_left', exists_eq_left]
  unfold nameB at hk
  refine ⟨fun h => ⟨ht.big (Nat.le_refl _), fun h2 => in_ktup ht.1 kept_tx ⟨_, Sub.refl _, ?_⟩, fun h2 => ⟨_, Sub.refl _, ?_⟩⟩, fun h => ⟨_, Sub.refl _, ?_⟩⟩
  · rw [h] at hk
    rw [decide_eq_true (show t.length ≤ 8 by omega)] at hk
    exact hk
  · rw [h, decide_eq_false (show ¬ t.length ≤ 8 by omega)] at hk
    rw [decide_eq_false h2]
    exact hk
  · rw [h] at hk ⊢
    exact hk
theorem num_one {t : List Nat} (h : onlyB t figL = true) : t = [48] ∨ t ≠ [48] := by
  by_cases e : t = [48]
  · exact .inl e
  · exact .inr e
theorem atI_head {t : List Nat} (h : t ≠ []) : ∃ c, atI t 0 = some c ∧ t.head? = some c := by
  cases t with
  | nil => exact absurd rfl h
  | cons c t => exact ⟨c, atI0, rfl⟩
theorem kp_is_number : Keeps Γ 1 b_is_number sp_is_number := by
  rintro ds m k X ⟨t, rfl, ht, hk⟩
  show rSs Γ b_is_number _ [some _] m
  simp only [b_is_number, rSs, rS, rE, rEs, rT, rP, rSrc, rTg, rCh, sget0, sgetS, sset0, ssetS, sw0, swS, swN, swC, b_add, b_sub, b_mul, b_fdiv, b_mod, b_pow, b_adds, b_addt, b_muls, c_lt, c_le, c_gt, c_ge, c_eq0, c_ne0, c_in0, c_ni0, c_is0, c_isn0, e_int, e_bl, t_bl, t_int, t_non, t_tup, t_rol, t_ktup, t_str, i_tup, i_rol, i_ktup, i_str, l_tup, l_ktup, l_rol, l_str, l_int0, l_int1, l_str1, l_max, l_min, sl_tup, sl_rol, sl_str, y_int, y_bl, y_str, y_tup, y_ktup, y_non, it_rol, it_tup, it_ktup, it_str, decide_eq_true_eq, decide_eq_false_iff_not, reduceCtorEq, false_implies, true_implies, forall_const, and_true, true_and, List.length_map, l_isI, l_isB, l_isS, l_isL, l_isT, l_isD, isTy, decide_true, decide_false, Bool.or_false, Bool.false_or, Bool.true_or, Bool.or_true, Bool.not_true, Bool.not_false, Bool.false_eq_true, Bool.true_eq_false, Bool.not_eq_true', Bool.not_eq_false', ne_eq, not_true_eq_false, not_false_eq_true, D.int.injEq, D.str.injEq, Option.some.injEq, exists_eq_left', exists_eq_left, G0, l2, l4]
  refine ⟨t, figL, rfl, ht, ?_⟩
  simp only [rSs, rS, rE, rEs, rT, rP, rSrc, rTg, rCh, sget0, sgetS, sset0, ssetS, sw0, swS, swN, swC, b_add, b_sub, b_mul, b_fdiv, b_mod, b_pow, b_adds, b_addt, b_muls, c_lt, c_le, c_gt, c_ge, c_eq0, c_ne0, c_in0, c_ni0, c_is0, c_isn0, e_int, e_bl, t_bl, t_int, t_non, t_tup, t_rol, t_ktup, t_str, i_tup, i_rol, i_ktup, i_str, l_tup, l_ktup, l_rol, l_str, l_int0, l_int1, l_str1, l_max, l_min, sl_tup, sl_rol, sl_str, y_int, y_bl, y_str, y_tup, y_ktup, y_non, it_rol, it_tup, it_ktup, it_str, decide_eq_true_eq, decide_eq_false_iff_not, reduceCtorEq, false_implies, true_implies, forall_const, and_true, true_and, List.length_map, l_isI, l_isB, l_isS, l_isL, l_isT, l_isD, isTy, decide_true, decide_false, Bool.or_false, Bool.false_or, Bool.true_or, Bool.or_true, Bool.not_true, Bool.not_false, Bool.false_eq_true, Bool.true_eq_false, Bool.not_eq_true', Bool.not_eq_false', ne_eq, not_true_eq_false, not_false_eq_true, D.int.injEq, D.str.injEq, Option.some.injEq, exists_eq_left', exists_eq_left]
  unfold numB at hk
  refine ⟨fun h => ⟨_, Sub.refl _, ?_⟩, fun h => ⟨ht.big (Nat.le_refl _), fun h2 => ⟨_, Sub.refl _, ?_⟩, fun h2 => ?_⟩⟩
  · rw [h] at hk
    exact hk
  · rw [h, decide_eq_false (show ¬ t.length ≤ 18 by omega)] at hk
    exact hk
  · rw [h, decide_eq_true (show t.length ≤ 18 by omega)] at hk
    simp only [Bool.true_and] at hk
    have hne : t ≠ [] := fun z => by
      rw [z] at h
      simp [onlyB] at h
    obtain ⟨c, hc, hh⟩ := atI_head hne
    refine e_str ht.1 rfl ?_
    simp only [rSs, rS, rE, rEs, rT, rP, rSrc, rTg, rCh, sget0, sgetS, sset0, ssetS, sw0, swS, swN, swC, b_add, b_sub, b_mul, b_fdiv, b_mod, b_pow, b_adds, b_addt, b_muls, c_lt, c_le, c_gt, c_ge, c_eq0, c_ne0, c_in0, c_ni0, c_is0, c_isn0, e_int, e_bl, t_bl, t_int, t_non, t_tup, t_rol, t_ktup, t_str, i_tup, i_rol, i_ktup, i_str, l_tup, l_ktup, l_rol, l_str, l_int0, l_int1, l_str1, l_max, l_min, sl_tup, sl_rol, sl_str, y_int, y_bl, y_str, y_tup, y_ktup, y_non, it_rol, it_tup, it_ktup, it_str, decide_eq_true_eq, decide_eq_false_iff_not, reduceCtorEq, false_implies, true_implies, forall_const, and_true, true_and, List.length_map, l_isI, l_isB, l_isS, l_isL, l_isT, l_isD, isTy, decide_true, decide_false, Bool.or_false, Bool.false_or, Bool.true_or, Bool.or_true, Bool.not_true, Bool.not_false, Bool.false_eq_true, Bool.true_eq_false, Bool.not_eq_true', Bool.not_eq_false', ne_eq, not_true_eq_false, not_false_eq_true, D.int.injEq, D.str.injEq, Option.some.injEq, exists_eq_left', exists_eq_left]
    refine ⟨fun h3 => ⟨_, Sub.refl _, ?_⟩, fun h3 => ⟨ht.big (Nat.le_refl _), c, hc, ?_⟩⟩
    · rw [h3] at hk
      rw [decide_eq_true h3]
      exact hk
    · have hcs : c ∈ t := List.mem_of_head? hh
      have tc : c < 1114112 := of_decide_eq_true (List.all_eq_true.mp ht.1 c hcs)
      refine e_str (by simp [tc]) rfl ⟨_, Sub.refl _, ?_⟩
      rw [hh] at hk
      by_cases e1 : t.length = 1
      · have : c ≠ 48 := fun z => by
          cases t with
          | nil => exact hne rfl
          | cons x t =>
            have : x = c := by simpa using hh
            have e2 : t = [] := List.eq_nil_of_length_eq_zero (by simpa using e1)
            exact h3 (by rw [e2, this, z])
        rw [decide_eq_true e1, Bool.true_or] at hk
        have e3 : (!decide ([c] = [48])) = true := by simp [this]
        rw [e3]
        exact hk
      · rw [decide_eq_false e1, Bool.false_or] at hk
        have e3 : decide ([c] = [48]) = decide (some c = some 48) := by
          by_cases e : c = 48 <;> simp [e]
        rw [e3]
        exact hk
def onIn (sg : List Nat) : D → D
  | .str [c] => .bl (decide (c ∈ sg))
  | _ => .non
theorem kp_law_only : Keeps Γ 3 b_law_only sp_law_only := by
  rintro ds m k X ⟨t, sg, rfl, ht, hk⟩
  show rSs Γ b_law_only _ [some _, some _, none] m
  simp only [b_law_only, rSs, rS, rE, rEs, rT, rP, rSrc, rTg, rCh, sget0, sgetS, sset0, ssetS, sw0, swS, swN, swC, b_add, b_sub, b_mul, b_fdiv, b_mod, b_pow, b_adds, b_addt, b_muls, c_lt, c_le, c_gt, c_ge, c_eq0, c_ne0, c_in0, c_ni0, c_is0, c_isn0, e_int, e_bl, t_bl, t_int, t_non, t_tup, t_rol, t_ktup, t_str, i_tup, i_rol, i_ktup, i_str, l_tup, l_ktup, l_rol, l_str, l_int0, l_int1, l_str1, l_max, l_min, sl_tup, sl_rol, sl_str, y_int, y_bl, y_str, y_tup, y_ktup, y_non, it_rol, it_tup, it_ktup, it_str, decide_eq_true_eq, decide_eq_false_iff_not, reduceCtorEq, false_implies, true_implies, forall_const, and_true, true_and, List.length_map, l_isI, l_isB, l_isS, l_isL, l_isT, l_isD, isTy, decide_true, decide_false, Bool.or_false, Bool.false_or, Bool.true_or, Bool.or_true, Bool.not_true, Bool.not_false, Bool.false_eq_true, Bool.true_eq_false, Bool.not_eq_true', Bool.not_eq_false', ne_eq, not_true_eq_false, not_false_eq_true, D.int.injEq, D.str.injEq, Option.some.injEq, exists_eq_left', exists_eq_left]
  unfold onlyB at hk
  refine ⟨ht.big (Nat.le_refl _), fun h => ⟨ht.big (Nat.le_refl _), rLc_map (onIn sg) trivial (fun d hd R hR => ?_) fun q hq => ?_⟩, fun h => ⟨_, Sub.refl _, ?_⟩⟩
  · obtain ⟨c, _, rfl⟩ := List.mem_map.mp hd
    simp only [rSs, rS, rE, rEs, rT, rP, rSrc, rTg, rCh, sget0, sgetS, sset0, ssetS, sw0, swS, swN, swC, b_add, b_sub, b_mul, b_fdiv, b_mod, b_pow, b_adds, b_addt, b_muls, c_lt, c_le, c_gt, c_ge, c_eq0, c_ne0, c_in0, c_ni0, c_is0, c_isn0, e_int, e_bl, t_bl, t_int, t_non, t_tup, t_rol, t_ktup, t_str, i_tup, i_rol, i_ktup, i_str, l_tup, l_ktup, l_rol, l_str, l_int0, l_int1, l_str1, l_max, l_min, sl_tup, sl_rol, sl_str, y_int, y_bl, y_str, y_tup, y_ktup, y_non, it_rol, it_tup, it_ktup, it_str, decide_eq_true_eq, decide_eq_false_iff_not, reduceCtorEq, false_implies, true_implies, forall_const, and_true, true_and, List.length_map, l_isI, l_isB, l_isS, l_isL, l_isT, l_isD, isTy, decide_true, decide_false, Bool.or_false, Bool.false_or, Bool.true_or, Bool.or_true, Bool.not_true, Bool.not_false, Bool.false_eq_true, Bool.true_eq_false, Bool.not_eq_true', Bool.not_eq_false', ne_eq, not_true_eq_false, not_false_eq_true, D.int.injEq, D.str.injEq, Option.some.injEq, exists_eq_left', exists_eq_left]
    exact in_str (hR _ (Sub.refl _))
  · have e : (t.map fun c => D.str [c]).map (onIn sg) = t.map fun c => D.bl (decide (c ∈ sg)) := by
      rw [List.map_map]
      rfl
    rw [e]
    refine (l_all upd_same (allBl_map (fun c => decide (c ∈ sg)) t)).mpr ⟨m, Sub.new hq, ?_⟩
    rw [decide_eq_true (show t ≠ [] from fun z => by rw [z] at h; simp at h)] at hk
    rw [List.all_map]
    exact hk
  · have : t = [] := List.eq_nil_of_length_eq_zero (by omega)
    rw [this] at hk ⊢
    exact hk
theorem kp_law_name_due : Keeps Γ 2 b_law_name_due sp_law_name_due := by
  rintro ds m k X ⟨t, rfl, ht, hk⟩
  show rSs Γ b_law_name_due _ [some _, none] m
  simp only [b_law_name_due, rSs, rS, rE, rEs, rT, rP, rSrc, rTg, rCh, sget0, sgetS, sset0, ssetS, sw0, swS, swN, swC, b_add, b_sub, b_mul, b_fdiv, b_mod, b_pow, b_adds, b_addt, b_muls, c_lt, c_le, c_gt, c_ge, c_eq0, c_ne0, c_in0, c_ni0, c_is0, c_isn0, e_int, e_bl, t_bl, t_int, t_non, t_tup, t_rol, t_ktup, t_str, i_tup, i_rol, i_ktup, i_str, l_tup, l_ktup, l_rol, l_str, l_int0, l_int1, l_str1, l_max, l_min, sl_tup, sl_rol, sl_str, y_int, y_bl, y_str, y_tup, y_ktup, y_non, it_rol, it_tup, it_ktup, it_str, decide_eq_true_eq, decide_eq_false_iff_not, reduceCtorEq, false_implies, true_implies, forall_const, and_true, true_and, List.length_map, l_isI, l_isB, l_isS, l_isL, l_isT, l_isD, isTy, decide_true, decide_false, Bool.or_false, Bool.false_or, Bool.true_or, Bool.or_true, Bool.not_true, Bool.not_false, Bool.false_eq_true, Bool.true_eq_false, Bool.not_eq_true', Bool.not_eq_false', ne_eq, not_true_eq_false, not_false_eq_true, D.int.injEq, D.str.injEq, Option.some.injEq, exists_eq_left', exists_eq_left, G10]
  refine New.by fun q M _ _ s hq _ => ⟨t, lett, rfl, ht, ?_⟩
  simp only [rSs, rS, rE, rEs, rT, rP, rSrc, rTg, rCh, sget0, sgetS, sset0, ssetS, sw0, swS, swN, swC, b_add, b_sub, b_mul, b_fdiv, b_mod, b_pow, b_adds, b_addt, b_muls, c_lt, c_le, c_gt, c_ge, c_eq0, c_ne0, c_in0, c_ni0, c_is0, c_isn0, e_int, e_bl, t_bl, t_int, t_non, t_tup, t_rol, t_ktup, t_str, i_tup, i_rol, i_ktup, i_str, l_tup, l_ktup, l_rol, l_str, l_int0, l_int1, l_str1, l_max, l_min, sl_tup, sl_rol, sl_str, y_int, y_bl, y_str, y_tup, y_ktup, y_non, it_rol, it_tup, it_ktup, it_str, decide_eq_true_eq, decide_eq_false_iff_not, reduceCtorEq, false_implies, true_implies, forall_const, and_true, true_and, List.length_map, l_isI, l_isB, l_isS, l_isL, l_isT, l_isD, isTy, decide_true, decide_false, Bool.or_false, Bool.false_or, Bool.true_or, Bool.or_true, Bool.not_true, Bool.not_false, Bool.false_eq_true, Bool.true_eq_false, Bool.not_eq_true', Bool.not_eq_false', ne_eq, not_true_eq_false, not_false_eq_true, D.int.injEq, D.str.injEq, Option.some.injEq, exists_eq_left', exists_eq_left]
  unfold nameB at hk
  refine ⟨fun h => ⟨ht.big (Nat.le_refl _), fun h2 => in_lst (ws := keptL) hq ht.1 kept_tx ⟨m, s, ?_⟩, fun h2 => ⟨m, s, ?_⟩⟩, fun h => ⟨m, s, ?_⟩⟩
  · rw [h] at hk
    rw [decide_eq_true (show t.length ≤ 8 by omega)] at hk
    exact hk
  · rw [h, decide_eq_false (show ¬ t.length ≤ 8 by omega)] at hk
    rw [decide_eq_false h2]
    exact hk
  · rw [h] at hk ⊢
    exact hk
theorem kp_law_number_due : Keeps Γ 1 b_law_number_due sp_law_number_due := by
  rintro ds m k X ⟨t, rfl, ht, hk⟩
  show rSs Γ b_law_number_due _ [some _] m
  simp only [b_law_number_due, rSs, rS, rE, rEs, rT, rP, rSrc, rTg, rCh, sget0, sgetS, sset0, ssetS, sw0, swS, swN, swC, b_add, b_sub, b_mul, b_fdiv, b_mod, b_pow, b_adds, b_addt, b_muls, c_lt, c_le, c_gt, c_ge, c_eq0, c_ne0, c_in0, c_ni0, c_is0, c_isn0, e_int, e_bl, t_bl, t_int, t_non, t_tup, t_rol, t_ktup, t_str, i_tup, i_rol, i_ktup, i_str, l_tup, l_ktup, l_rol, l_str, l_int0, l_int1, l_str1, l_max, l_min, sl_tup, sl_rol, sl_str, y_int, y_bl, y_str, y_tup, y_ktup, y_non, it_rol, it_tup, it_ktup, it_str, decide_eq_true_eq, decide_eq_false_iff_not, reduceCtorEq, false_implies, true_implies, forall_const, and_true, true_and, List.length_map, l_isI, l_isB, l_isS, l_isL, l_isT, l_isD, isTy, decide_true, decide_false, Bool.or_false, Bool.false_or, Bool.true_or, Bool.or_true, Bool.not_true, Bool.not_false, Bool.false_eq_true, Bool.true_eq_false, Bool.not_eq_true', Bool.not_eq_false', ne_eq, not_true_eq_false, not_false_eq_true, D.int.injEq, D.str.injEq, Option.some.injEq, exists_eq_left', exists_eq_left, G10]
  refine ⟨t, figL, rfl, ht, ?_⟩
  simp only [rSs, rS, rE, rEs, rT, rP, rSrc, rTg, rCh, sget0, sgetS, sset0, ssetS, sw0, swS, swN, swC, b_add, b_sub, b_mul, b_fdiv, b_mod, b_pow, b_adds, b_addt, b_muls, c_lt, c_le, c_gt, c_ge, c_eq0, c_ne0, c_in0, c_ni0, c_is0, c_isn0, e_int, e_bl, t_bl, t_int, t_non, t_tup, t_rol, t_ktup, t_str, i_tup, i_rol, i_ktup, i_str, l_tup, l_ktup, l_rol, l_str, l_int0, l_int1, l_str1, l_max, l_min, sl_tup, sl_rol, sl_str, y_int, y_bl, y_str, y_tup, y_ktup, y_non, it_rol, it_tup, it_ktup, it_str, decide_eq_true_eq, decide_eq_false_iff_not, reduceCtorEq, false_implies, true_implies, forall_const, and_true, true_and, List.length_map, l_isI, l_isB, l_isS, l_isL, l_isT, l_isD, isTy, decide_true, decide_false, Bool.or_false, Bool.false_or, Bool.true_or, Bool.or_true, Bool.not_true, Bool.not_false, Bool.false_eq_true, Bool.true_eq_false, Bool.not_eq_true', Bool.not_eq_false', ne_eq, not_true_eq_false, not_false_eq_true, D.int.injEq, D.str.injEq, Option.some.injEq, exists_eq_left', exists_eq_left]
  unfold numB at hk
  refine ⟨fun h => ⟨_, Sub.refl _, ?_⟩, fun h => ⟨ht.big (Nat.le_refl _), fun h2 => ⟨_, Sub.refl _, ?_⟩, fun h2 => ⟨ht.big (Nat.le_refl _), ?_⟩⟩⟩
  · rw [h] at hk
    exact hk
  · rw [h, decide_eq_false (show ¬ t.length ≤ 18 by omega)] at hk
    exact hk
  · rw [h, decide_eq_true (show t.length ≤ 18 by omega)] at hk
    simp only [Bool.true_and] at hk
    have hne : t ≠ [] := fun z => by
      rw [z] at h
      simp [onlyB] at h
    obtain ⟨c, hc, hh⟩ := atI_head hne
    refine ⟨fun h3 => ⟨_, Sub.refl _, ?_⟩, fun h3 => ⟨ht.big (Nat.le_refl _), c, hc, ?_⟩⟩
    · rw [decide_eq_true (show t.length = 1 by omega)] at hk
      rw [decide_eq_true h3]
      exact hk
    · have hcs : c ∈ t := List.mem_of_head? hh
      have tc : c < 1114112 := of_decide_eq_true (List.all_eq_true.mp ht.1 c hcs)
      refine e_str (by simp [tc]) rfl ⟨_, Sub.refl _, ?_⟩
      rw [hh, decide_eq_false (show ¬ t.length = 1 by omega), Bool.false_or] at hk
      have e3 : decide ([c] = [48]) = decide (some c = some 48) := by
        by_cases e : c = 48 <;> simp [e]
      rw [e3]
      exact hk
theorem kp_law_told : Keeps Γ 3 b_law_told sp_law_told := by
  rintro ds m k X ⟨t, rfl, ht, hk⟩
  show rSs Γ b_law_told _ [some _, none, none] m
  simp only [b_law_told, rSs, rS, rE, rEs, rT, rP, rSrc, rTg, rCh, sget0, sgetS, sset0, ssetS, sw0, swS, swN, swC, b_add, b_sub, b_mul, b_fdiv, b_mod, b_pow, b_adds, b_addt, b_muls, c_lt, c_le, c_gt, c_ge, c_eq0, c_ne0, c_in0, c_ni0, c_is0, c_isn0, e_int, e_bl, t_bl, t_int, t_non, t_tup, t_rol, t_ktup, t_str, i_tup, i_rol, i_ktup, i_str, l_tup, l_ktup, l_rol, l_str, l_int0, l_int1, l_str1, l_max, l_min, sl_tup, sl_rol, sl_str, y_int, y_bl, y_str, y_tup, y_ktup, y_non, it_rol, it_tup, it_ktup, it_str, decide_eq_true_eq, decide_eq_false_iff_not, reduceCtorEq, false_implies, true_implies, forall_const, and_true, true_and, List.length_map, l_isI, l_isB, l_isS, l_isL, l_isT, l_isD, isTy, decide_true, decide_false, Bool.or_false, Bool.false_or, Bool.true_or, Bool.or_true, Bool.not_true, Bool.not_false, Bool.false_eq_true, Bool.true_eq_false, Bool.not_eq_true', Bool.not_eq_false', ne_eq, not_true_eq_false, not_false_eq_true, D.int.injEq, D.str.injEq, Option.some.injEq, exists_eq_left', exists_eq_left, G1, G2]
  refine ⟨t, rfl, ht, t, rfl, ht, ?_⟩
  simp only [rSs, rS, rE, rEs, rT, rP, rSrc, rTg, rCh, sget0, sgetS, sset0, ssetS, sw0, swS, swN, swC, b_add, b_sub, b_mul, b_fdiv, b_mod, b_pow, b_adds, b_addt, b_muls, c_lt, c_le, c_gt, c_ge, c_eq0, c_ne0, c_in0, c_ni0, c_is0, c_isn0, e_int, e_bl, t_bl, t_int, t_non, t_tup, t_rol, t_ktup, t_str, i_tup, i_rol, i_ktup, i_str, l_tup, l_ktup, l_rol, l_str, l_int0, l_int1, l_str1, l_max, l_min, sl_tup, sl_rol, sl_str, y_int, y_bl, y_str, y_tup, y_ktup, y_non, it_rol, it_tup, it_ktup, it_str, decide_eq_true_eq, decide_eq_false_iff_not, reduceCtorEq, false_implies, true_implies, forall_const, and_true, true_and, List.length_map, l_isI, l_isB, l_isS, l_isL, l_isT, l_isD, isTy, decide_true, decide_false, Bool.or_false, Bool.false_or, Bool.true_or, Bool.or_true, Bool.not_true, Bool.not_false, Bool.false_eq_true, Bool.true_eq_false, Bool.not_eq_true', Bool.not_eq_false', ne_eq, not_true_eq_false, not_false_eq_true, D.int.injEq, D.str.injEq, Option.some.injEq, exists_eq_left', exists_eq_left, G11, G12]
  refine ⟨t, rfl, ht, ?_⟩
  simp only [rSs, rS, rE, rEs, rT, rP, rSrc, rTg, rCh, sget0, sgetS, sset0, ssetS, sw0, swS, swN, swC, b_add, b_sub, b_mul, b_fdiv, b_mod, b_pow, b_adds, b_addt, b_muls, c_lt, c_le, c_gt, c_ge, c_eq0, c_ne0, c_in0, c_ni0, c_is0, c_isn0, e_int, e_bl, t_bl, t_int, t_non, t_tup, t_rol, t_ktup, t_str, i_tup, i_rol, i_ktup, i_str, l_tup, l_ktup, l_rol, l_str, l_int0, l_int1, l_str1, l_max, l_min, sl_tup, sl_rol, sl_str, y_int, y_bl, y_str, y_tup, y_ktup, y_non, it_rol, it_tup, it_ktup, it_str, decide_eq_true_eq, decide_eq_false_iff_not, reduceCtorEq, false_implies, true_implies, forall_const, and_true, true_and, List.length_map, l_isI, l_isB, l_isS, l_isL, l_isT, l_isD, isTy, decide_true, decide_false, Bool.or_false, Bool.false_or, Bool.true_or, Bool.or_true, Bool.not_true, Bool.not_false, Bool.false_eq_true, Bool.true_eq_false, Bool.not_eq_true', Bool.not_eq_false', ne_eq, not_true_eq_false, not_false_eq_true, D.int.injEq, D.str.injEq, Option.some.injEq, exists_eq_left', exists_eq_left, G11, G12]
  refine ⟨t, rfl, ht, ?_⟩
  simp only [rSs, rS, rE, rEs, rT, rP, rSrc, rTg, rCh, sget0, sgetS, sset0, ssetS, sw0, swS, swN, swC, b_add, b_sub, b_mul, b_fdiv, b_mod, b_pow, b_adds, b_addt, b_muls, c_lt, c_le, c_gt, c_ge, c_eq0, c_ne0, c_in0, c_ni0, c_is0, c_isn0, e_int, e_bl, t_bl, t_int, t_non, t_tup, t_rol, t_ktup, t_str, i_tup, i_rol, i_ktup, i_str, l_tup, l_ktup, l_rol, l_str, l_int0, l_int1, l_str1, l_max, l_min, sl_tup, sl_rol, sl_str, y_int, y_bl, y_str, y_tup, y_ktup, y_non, it_rol, it_tup, it_ktup, it_str, decide_eq_true_eq, decide_eq_false_iff_not, reduceCtorEq, false_implies, true_implies, forall_const, and_true, true_and, List.length_map, l_isI, l_isB, l_isS, l_isL, l_isT, l_isD, isTy, decide_true, decide_false, Bool.or_false, Bool.false_or, Bool.true_or, Bool.or_true, Bool.not_true, Bool.not_false, Bool.false_eq_true, Bool.true_eq_false, Bool.not_eq_true', Bool.not_eq_false', ne_eq, not_true_eq_false, not_false_eq_true, D.int.injEq, D.str.injEq, Option.some.injEq, exists_eq_left', exists_eq_left]
  exact ⟨_, Sub.refl _, hk⟩
theorem split_mem {c : Nat} : ∀ {a p : List Nat}, p ∈ splitS c a → (∀ x ∈ p, x ∈ a) ∧ p.length ≤ a.length
  | [], p, h => by
    have : p = [] := by simpa [splitS] using h
    subst this
    exact ⟨(fun _ h => by cases h), Nat.le_refl _⟩
  | x :: r, p, h => by
    unfold splitS at h
    cases e : splitS c r with
    | nil =>
      rw [e] at h
      have : p = [] := by simpa using h
      subst this
      exact ⟨(fun _ h => by cases h), Nat.zero_le _⟩
    | cons q qs =>
      rw [e] at h
      have ih : ∀ p, p ∈ q :: qs → (∀ y ∈ p, y ∈ r) ∧ p.length ≤ r.length := fun p hp => split_mem (by rw [e]; exact hp)
      have up : ∀ p, p ∈ q :: qs → (∀ y ∈ p, y ∈ x :: r) ∧ p.length ≤ (x :: r).length := fun p hp => ⟨fun y hy => List.mem_cons_of_mem _ ((ih p hp).1 y hy), by have := (ih p hp).2; rw [List.length_cons]; omega⟩
      have h : p ∈ (if x = c then [] :: q :: qs else (x :: q) :: qs) := h
      by_cases ex : x = c
      · rw [if_pos ex] at h
        rcases List.mem_cons.mp h with z | z
        · subst z
          exact ⟨(fun _ h => by cases h), Nat.zero_le _⟩
        · exact up p z
      · rw [if_neg ex] at h
        rcases List.mem_cons.mp h with z | z
        · subst z
          have := ih q (List.mem_cons_self ..)
          refine ⟨fun y hy => ?_, by rw [List.length_cons, List.length_cons]; omega⟩
          rcases List.mem_cons.mp hy with z | z
          · rw [z]
            exact List.mem_cons_self ..
          · exact List.mem_cons_of_mem _ (this.1 y z)
        · exact up p (List.mem_cons_of_mem _ z)
theorem atI_strs {ws : List (List Nat)} {i : Int} (h0 : 0 ≤ i) (h : i < ws.length) : ∃ w, atI (ws.map D.str) i = some (.str w) ∧ w ∈ ws := by
  obtain ⟨d, e, hd⟩ := atI_lt (xs := ws.map D.str) h0 (by rw [List.length_map]; exact h)
  obtain ⟨w, hw, rfl⟩ := List.mem_map.mp hd
  exact ⟨w, e, hw⟩
theorem tx_rep {c n : Nat} (h : c < 1114112) : Tx n (List.replicate n c) := ⟨List.all_eq_true.mpr fun x hx => by rw [(List.mem_replicate.mp hx).2]; exact decide_eq_true h, by rw [List.length_replicate]; exact Nat.le_refl _⟩
def wordT : Sms := (.c (.set 2 (.bin .add (.bm .split (.var 1) (.c (.str [59]) .n)) (.lst (.c (.bin .mul (.str [57]) (.int 18)) (.c (.bin .add (.str [49]) (.bin .mul (.str [48]) (.int 18))) (.c (.bin .mul (.str [57]) (.int 19)) (.c (.bin .mul (.str [48]) (.int 18)) .n)))))))
  (.c (.set 2 (.bin .add (.var 2) (.lst (.c (.bin .mul (.str [122]) (.int 8)) (.c (.bin .mul (.str [122]) (.int 9)) (.c (.bin .mul (.str [49]) (.int 18)) (.c (.bin .mul (.str [49]) (.int 19)) .n)))))))
  (.c (.ret (.ix (.var 2) (.call 4 (.c (.var 0) (.c (.blt .len (.c (.var 2) .n)) .n)))))
  .n)))
theorem wordT_ok {Z : Ends} {m : Mem} {p : Nat} {b : MO} {a : List Nat} (hm : m p = some b) (hb : BoxO b) (ha : Tx 900 a) (fin : ∀ b' w M, Sub (upd m p b') M → BoxO b' → Tx 1000 w → Z.rt (.str w) M) : rSs Γ wordT Z [some (.ref p), some (.str a), none] m := by
  simp only [wordT, rSs, rS, rE, rEs, rT, rP, rSrc, rTg, rCh, sget0, sgetS, sset0, ssetS, sw0, swS, swN, swC, b_add, b_sub, b_mul, b_fdiv, b_mod, b_pow, b_adds, b_addt, b_muls, c_lt, c_le, c_gt, c_ge, c_eq0, c_ne0, c_in0, c_ni0, c_is0, c_isn0, e_int, e_bl, t_bl, t_int, t_non, t_tup, t_rol, t_ktup, t_str, i_tup, i_rol, i_ktup, i_str, l_tup, l_ktup, l_rol, l_str, l_int0, l_int1, l_str1, l_max, l_min, sl_tup, sl_rol, sl_str, y_int, y_bl, y_str, y_tup, y_ktup, y_non, it_rol, it_tup, it_ktup, it_str, decide_eq_true_eq, decide_eq_false_iff_not, reduceCtorEq, false_implies, true_implies, forall_const, and_true, true_and, List.length_map, l_isI, l_isB, l_isS, l_isL, l_isT, l_isD, isTy, decide_true, decide_false, Bool.or_false, Bool.false_or, Bool.true_or, Bool.or_true, Bool.not_true, Bool.not_false, Bool.false_eq_true, Bool.true_eq_false, Bool.not_eq_true', Bool.not_eq_false', ne_eq, not_true_eq_false, not_false_eq_true, D.int.injEq, D.str.injEq, Option.some.injEq, exists_eq_left', exists_eq_left, G4]
  refine ⟨by exact trivial, 59, rfl, by decide, by have := ha.2; unfold big; omega, New.by fun q M1 mq _ s1 hq _ => ?_⟩
  have sp : ∀ w ∈ splitS 59 a, Tx 1000 w := fun w hw => by
    obtain ⟨h1, h2⟩ := split_mem hw
    exact ⟨List.all_eq_true.mpr fun x hx => List.all_eq_true.mp ha.1 x (h1 x hx), by have := ha.2; omega⟩
  have sl : (splitS 59 a).length ≤ 901 := by
    have : ∀ (a : List Nat), (splitS 59 a).length ≤ a.length + 1 := by
      intro a
      induction a with
      | nil => exact Nat.le_refl _
      | cons x r ih =>
        unfold splitS
        cases e : splitS 59 r with
        | nil =>
          simp
        | cons u us =>
          rw [e] at ih
          show (if x = 59 then [] :: u :: us else (x :: u) :: us).length ≤ _
          by_cases ex : x = 59
          · rw [if_pos ex]
            simp only [List.length_cons] at ih ⊢
            omega
          · rw [if_neg ex]
            simp only [List.length_cons] at ih ⊢
            omega
    have := this a
    have := ha.2
    omega
  generalize splitS 59 a = ws at hq sp sl
  refine ⟨57, rfl, by decide, by decide, 48, rfl, by decide, by decide, by unfold big; decide, 57, rfl, by decide, by decide, 48, rfl, by decide, by decide, New.by fun q2 M2 _ _ s2 hq2 _ => ?_⟩
  rw [b_addl (ys := ([List.replicate (Int.toNat 18) 57, [49] ++ List.replicate (Int.toNat 18) 48, List.replicate (Int.toNat 19) 57, List.replicate (Int.toNat 18) 48] : List (List Nat)).map D.str) (s2.at hq) hq2, ← List.map_append]
  refine ⟨by simp only [List.length_map, List.length_cons, List.length_nil]; unfold big; omega, New.by fun q3 M3 _ _ s3 hq3 _ => ?_⟩
  refine ⟨122, rfl, by decide, by decide, 122, rfl, by decide, by decide, 49, rfl, by decide, by decide, 49, rfl, by decide, by decide, New.by fun q4 M4 _ _ s4 hq4 _ => ?_⟩
  rw [b_addl (ys := ([List.replicate (Int.toNat 8) 122, List.replicate (Int.toNat 9) 122, List.replicate (Int.toNat 18) 49, List.replicate (Int.toNat 19) 49] : List (List Nat)).map D.str) (s4.at hq3) hq4, ← List.map_append]
  refine ⟨by simp only [List.length_map, List.length_append, List.length_cons, List.length_nil]; unfold big; omega, New.by fun q5 M5 m5 _ s5 hq5 _ => ?_⟩
  have tx2 : ∀ w ∈ ([List.replicate (Int.toNat 18) 57, [49] ++ List.replicate (Int.toNat 18) 48, List.replicate (Int.toNat 19) 57, List.replicate (Int.toNat 18) 48] : List (List Nat)), w.all (· < 1114112) = true ∧ w.length ≤ 1000 := by decide
  have tx3 : ∀ w ∈ ([List.replicate (Int.toNat 8) 122, List.replicate (Int.toNat 9) 122, List.replicate (Int.toNat 18) 49, List.replicate (Int.toNat 19) 49] : List (List Nat)), w.all (· < 1114112) = true ∧ w.length ≤ 1000 := by decide
  have tx : ∀ w ∈ ws ++ ([List.replicate (Int.toNat 18) 57, [49] ++ List.replicate (Int.toNat 18) 48, List.replicate (Int.toNat 19) 57, List.replicate (Int.toNat 18) 48] : List (List Nat)) ++ ([List.replicate (Int.toNat 8) 122, List.replicate (Int.toNat 9) 122, List.replicate (Int.toNat 18) 49, List.replicate (Int.toNat 19) 49] : List (List Nat)), Tx 1000 w := fun w hw => by
    rcases List.mem_append.mp hw with z | z
    · rcases List.mem_append.mp z with z | z
      · exact sp w z
      · exact tx2 w z
    · exact tx3 w z
  have wl : 0 < (ws ++ ([List.replicate (Int.toNat 18) 57, [49] ++ List.replicate (Int.toNat 18) 48, List.replicate (Int.toNat 19) 57, List.replicate (Int.toNat 18) 48] : List (List Nat)) ++ ([List.replicate (Int.toNat 8) 122, List.replicate (Int.toNat 9) 122, List.replicate (Int.toNat 18) 49, List.replicate (Int.toNat 19) 49] : List (List Nat))).length := by
    simp only [List.length_append, List.length_cons, List.length_nil]
    omega
  have wl2 : (ws ++ ([List.replicate (Int.toNat 18) 57, [49] ++ List.replicate (Int.toNat 18) 48, List.replicate (Int.toNat 19) 57, List.replicate (Int.toNat 18) 48] : List (List Nat)) ++ ([List.replicate (Int.toNat 8) 122, List.replicate (Int.toNat 9) 122, List.replicate (Int.toNat 18) 49, List.replicate (Int.toNat 19) 49] : List (List Nat))).length ≤ 1000 := by
    simp only [List.length_append, List.length_cons, List.length_nil]
    omega
  generalize ws ++ ([List.replicate (Int.toNat 18) 57, [49] ++ List.replicate (Int.toNat 18) 48, List.replicate (Int.toNat 19) 57, List.replicate (Int.toNat 18) 48] : List (List Nat)) ++ ([List.replicate (Int.toNat 8) 122, List.replicate (Int.toNat 9) 122, List.replicate (Int.toNat 18) 49, List.replicate (Int.toNat 19) 49] : List (List Nat)) = vs at hq5 tx wl wl2
  simp only [l_lst hq5, List.length_map]
  have S := (((s1.trans s2).trans s3).trans s4).trans s5
  have qp : q5 ≠ p := Ne.symm (ne_of_none ((((s1.trans s2).trans s3).trans s4).at hm) m5)
  refine ⟨p, b, _, rfl, S.at hm, hb, by omega, by omega, fun b' d M' e' hb' l' u' => ?_⟩
  have hq6 : M' q5 = some (.lst (vs.map D.str)) := by rw [e', upd_ne qp]; exact hq5
  simp only [i_lst hq6]
  obtain ⟨w, hw, mw⟩ := atI_strs l' u'
  exact ⟨_, hw, fin b' w M' (e' ▸ S.upd) hb' (tx w mw)⟩
theorem kp_law_word : Keeps Γ 3 b_law_word sp_law_word := by
  rintro ds m k X ⟨p, b, rfl, hm, hb, hk⟩
  have e : ∃ a1 a2 a3 : List Nat, b_law_word = (.c (.set 1 (.str a1)) (.c (.set 1 (.bin .add (.var 1) (.str a2))) (.c (.set 1 (.bin .add (.var 1) (.str a3))) wordT))) ∧ (Tx 300 a1 ∧ Tx 300 a2 ∧ Tx 300 a3) := ⟨_, _, _, rfl, by unfold Tx; decide⟩
  obtain ⟨a1, a2, a3, e, t1, t2, t3⟩ := e
  rw [e]
  show rSs Γ (.c (.set 1 (.str a1)) (.c (.set 1 (.bin .add (.var 1) (.str a2))) (.c (.set 1 (.bin .add (.var 1) (.str a3))) wordT))) _ [some _, none, none] m
  simp only [rSs, rS, rE, rEs, rT, rP, rSrc, rTg, rCh, sget0, sgetS, sset0, ssetS, sw0, swS, swN, swC, b_add, b_sub, b_mul, b_fdiv, b_mod, b_pow, b_adds, b_addt, b_muls, c_lt, c_le, c_gt, c_ge, c_eq0, c_ne0, c_in0, c_ni0, c_is0, c_isn0, e_int, e_bl, t_bl, t_int, t_non, t_tup, t_rol, t_ktup, t_str, i_tup, i_rol, i_ktup, i_str, l_tup, l_ktup, l_rol, l_str, l_int0, l_int1, l_str1, l_max, l_min, sl_tup, sl_rol, sl_str, y_int, y_bl, y_str, y_tup, y_ktup, y_non, it_rol, it_tup, it_ktup, it_str, decide_eq_true_eq, decide_eq_false_iff_not, reduceCtorEq, false_implies, true_implies, forall_const, and_true, true_and, List.length_map, l_isI, l_isB, l_isS, l_isL, l_isT, l_isD, isTy, decide_true, decide_false, Bool.or_false, Bool.false_or, Bool.true_or, Bool.or_true, Bool.not_true, Bool.not_false, Bool.false_eq_true, Bool.true_eq_false, Bool.not_eq_true', Bool.not_eq_false', ne_eq, not_true_eq_false, not_false_eq_true, D.int.injEq, D.str.injEq, Option.some.injEq, exists_eq_left', exists_eq_left]
  have l1 := t1.2
  have l2 := t2.2
  have l3 := t3.2
  refine ⟨by unfold big; omega, by rw [List.length_append]; unfold big; omega, wordT_ok hm hb ((t1.app t2).app t3) fun b' w M S hb' hw => ⟨_, S, hk b' w _ rfl hb' hw⟩⟩
theorem kp_law_any_text : Keeps Γ 4 b_law_any_text sp_law_any_text := by
  rintro ds m k X ⟨p, b, rfl, hm, hb, hk⟩
  show rSs Γ b_law_any_text _ [some _, none, none, none] m
  simp only [b_law_any_text, rSs, rS, rE, rEs, rT, rP, rSrc, rTg, rCh, sget0, sgetS, sset0, ssetS, sw0, swS, swN, swC, b_add, b_sub, b_mul, b_fdiv, b_mod, b_pow, b_adds, b_addt, b_muls, c_lt, c_le, c_gt, c_ge, c_eq0, c_ne0, c_in0, c_ni0, c_is0, c_isn0, e_int, e_bl, t_bl, t_int, t_non, t_tup, t_rol, t_ktup, t_str, i_tup, i_rol, i_ktup, i_str, l_tup, l_ktup, l_rol, l_str, l_int0, l_int1, l_str1, l_max, l_min, sl_tup, sl_rol, sl_str, y_int, y_bl, y_str, y_tup, y_ktup, y_non, it_rol, it_tup, it_ktup, it_str, decide_eq_true_eq, decide_eq_false_iff_not, reduceCtorEq, false_implies, true_implies, forall_const, and_true, true_and, List.length_map, l_isI, l_isB, l_isS, l_isL, l_isT, l_isD, isTy, decide_true, decide_false, Bool.or_false, Bool.false_or, Bool.true_or, Bool.or_true, Bool.not_true, Bool.not_false, Bool.false_eq_true, Bool.true_eq_false, Bool.not_eq_true', Bool.not_eq_false', ne_eq, not_true_eq_false, not_false_eq_true, D.int.injEq, D.str.injEq, Option.some.injEq, exists_eq_left', exists_eq_left, G4]
  refine ⟨p, b, _, rfl, hm, hb, by decide, by decide, fun b1 n M1 e1 hb1 l1 u1 => ⟨_, rfl, by unfold i62; omega, ?_⟩⟩
  refine rFor_by (fun i σ M => ∃ b t o, σ = [some (.ref p), some (.str [32, 97, 98, 99, 122, 48, 49, 57, 65, 90, 45, 43, 95, 46, 40, 41, 10]), some (.str t), o] ∧ M = upd m p b ∧ BoxO b ∧ Tx i t) 0 ⟨b1, [], none, rfl, e1, hb1, rfl, Nat.le_refl _⟩ (fun i d σ M R e h r => ?_) fun σ M h => ?_
  · obtain ⟨b, t, o, rfl, rfl, hb, ht⟩ := h
    have hi := (List.getElem?_eq_some_iff.mp e).1
    rw [rangeD_rg, List.length_map, rg_len] at hi
    refine ⟨trivial, ?_⟩
    simp only [rSs, rS, rE, rEs, rT, rP, rSrc, rTg, rCh, sget0, sgetS, sset0, ssetS, sw0, swS, swN, swC, b_add, b_sub, b_mul, b_fdiv, b_mod, b_pow, b_adds, b_addt, b_muls, c_lt, c_le, c_gt, c_ge, c_eq0, c_ne0, c_in0, c_ni0, c_is0, c_isn0, e_int, e_bl, t_bl, t_int, t_non, t_tup, t_rol, t_ktup, t_str, i_tup, i_rol, i_ktup, i_str, l_tup, l_ktup, l_rol, l_str, l_int0, l_int1, l_str1, l_max, l_min, sl_tup, sl_rol, sl_str, y_int, y_bl, y_str, y_tup, y_ktup, y_non, it_rol, it_tup, it_ktup, it_str, decide_eq_true_eq, decide_eq_false_iff_not, reduceCtorEq, false_implies, true_implies, forall_const, and_true, true_and, List.length_map, l_isI, l_isB, l_isS, l_isL, l_isT, l_isD, isTy, decide_true, decide_false, Bool.or_false, Bool.false_or, Bool.true_or, Bool.or_true, Bool.not_true, Bool.not_false, Bool.false_eq_true, Bool.true_eq_false, Bool.not_eq_true', Bool.not_eq_false', ne_eq, not_true_eq_false, not_false_eq_true, D.int.injEq, D.str.injEq, Option.some.injEq, exists_eq_left', exists_eq_left, G4]
    refine ⟨by unfold big; decide, p, b, _, rfl, upd_same, hb, by decide, by decide, fun b' d' M' e' hb' l' u' => ?_⟩
    obtain ⟨c, hc, mc⟩ := atI_lt (xs := [32, 97, 98, 99, 122, 48, 49, 57, 65, 90, 45, 43, 95, 46, 40, 41, 10]) l' u'
    have cb : ∀ c ∈ ([32, 97, 98, 99, 122, 48, 49, 57, 65, 90, 45, 43, 95, 46, 40, 41, 10] : List Nat), c < 1114112 := by decide
    refine ⟨by unfold big; decide, c, hc, ?_⟩
    simp only [rSs, rS, rE, rEs, rT, rP, rSrc, rTg, rCh, sget0, sgetS, sset0, ssetS, sw0, swS, swN, swC, b_add, b_sub, b_mul, b_fdiv, b_mod, b_pow, b_adds, b_addt, b_muls, c_lt, c_le, c_gt, c_ge, c_eq0, c_ne0, c_in0, c_ni0, c_is0, c_isn0, e_int, e_bl, t_bl, t_int, t_non, t_tup, t_rol, t_ktup, t_str, i_tup, i_rol, i_ktup, i_str, l_tup, l_ktup, l_rol, l_str, l_int0, l_int1, l_str1, l_max, l_min, sl_tup, sl_rol, sl_str, y_int, y_bl, y_str, y_tup, y_ktup, y_non, it_rol, it_tup, it_ktup, it_str, decide_eq_true_eq, decide_eq_false_iff_not, reduceCtorEq, false_implies, true_implies, forall_const, and_true, true_and, List.length_map, l_isI, l_isB, l_isS, l_isL, l_isT, l_isD, isTy, decide_true, decide_false, Bool.or_false, Bool.false_or, Bool.true_or, Bool.or_true, Bool.not_true, Bool.not_false, Bool.false_eq_true, Bool.true_eq_false, Bool.not_eq_true', Bool.not_eq_false', ne_eq, not_true_eq_false, not_false_eq_true, D.int.injEq, D.str.injEq, Option.some.injEq, exists_eq_left', exists_eq_left]
    have := ht.2
    exact ⟨by unfold big; simp; omega, _, Sub.refl _, r _ _ ⟨b', t ++ [c], _, rfl, by rw [e', upd_upd], hb', ht.app ⟨by simp [cb c mc], Nat.le_refl _⟩⟩⟩
  · obtain ⟨b, t, o, rfl, rfl, hb, ht⟩ := h
    refine ⟨trivial, ?_⟩
    simp only [rSs, rS, rE, rEs, rT, rP, rSrc, rTg, rCh, sget0, sgetS, sset0, ssetS, sw0, swS, swN, swC, b_add, b_sub, b_mul, b_fdiv, b_mod, b_pow, b_adds, b_addt, b_muls, c_lt, c_le, c_gt, c_ge, c_eq0, c_ne0, c_in0, c_ni0, c_is0, c_isn0, e_int, e_bl, t_bl, t_int, t_non, t_tup, t_rol, t_ktup, t_str, i_tup, i_rol, i_ktup, i_str, l_tup, l_ktup, l_rol, l_str, l_int0, l_int1, l_str1, l_max, l_min, sl_tup, sl_rol, sl_str, y_int, y_bl, y_str, y_tup, y_ktup, y_non, it_rol, it_tup, it_ktup, it_str, decide_eq_true_eq, decide_eq_false_iff_not, reduceCtorEq, false_implies, true_implies, forall_const, and_true, true_and, List.length_map, l_isI, l_isB, l_isS, l_isL, l_isT, l_isD, isTy, decide_true, decide_false, Bool.or_false, Bool.false_or, Bool.true_or, Bool.or_true, Bool.not_true, Bool.not_false, Bool.false_eq_true, Bool.true_eq_false, Bool.not_eq_true', Bool.not_eq_false', ne_eq, not_true_eq_false, not_false_eq_true, D.int.injEq, D.str.injEq, Option.some.injEq, exists_eq_left', exists_eq_left]
    refine ⟨_, Sub.refl _, hk b t _ rfl hb (ht.le ?_)⟩
    rw [rangeD_rg, List.length_map, rg_len]
    omega
theorem digN_tx : ∀ (k n : Nat), n < 10 ^ k → 1 ≤ k → (digN n).all (· < 1114112) = true ∧ (digN n).length ≤ k := by
  intro k
  induction k with
  | zero =>
    intro n _ h
    omega
  | succ k ih =>
    intro n hn _
    unfold digN
    by_cases e : n < 10
    · rw [if_pos e]
      refine ⟨by simp; omega, by simp⟩
    · rw [if_neg e]
      have hk : 1 ≤ k := by
        by_cases z : k = 0
        · subst z
          simp at hn
          omega
        · omega
      have hd : n / 10 < 10 ^ k := by
        rw [Nat.pow_succ] at hn
        omega
      obtain ⟨h1, h2⟩ := ih (n / 10) hd hk
      refine ⟨by rw [List.all_append, h1]; simp; omega, by rw [List.length_append, List.length_singleton]; omega⟩
theorem kp_law_text : Keeps Γ 3 b_law_text sp_law_text := by
  rintro ds m k X ⟨p, b, rfl, hm, hb, hk⟩
  show rSs Γ b_law_text _ [some _, none, none] m
  simp only [b_law_text, rSs, rS, rE, rEs, rT, rP, rSrc, rTg, rCh, sget0, sgetS, sset0, ssetS, sw0, swS, swN, swC, b_add, b_sub, b_mul, b_fdiv, b_mod, b_pow, b_adds, b_addt, b_muls, c_lt, c_le, c_gt, c_ge, c_eq0, c_ne0, c_in0, c_ni0, c_is0, c_isn0, e_int, e_bl, t_bl, t_int, t_non, t_tup, t_rol, t_ktup, t_str, i_tup, i_rol, i_ktup, i_str, l_tup, l_ktup, l_rol, l_str, l_int0, l_int1, l_str1, l_max, l_min, sl_tup, sl_rol, sl_str, y_int, y_bl, y_str, y_tup, y_ktup, y_non, it_rol, it_tup, it_ktup, it_str, decide_eq_true_eq, decide_eq_false_iff_not, reduceCtorEq, false_implies, true_implies, forall_const, and_true, true_and, List.length_map, l_isI, l_isB, l_isS, l_isL, l_isT, l_isD, isTy, decide_true, decide_false, Bool.or_false, Bool.false_or, Bool.true_or, Bool.or_true, Bool.not_true, Bool.not_false, Bool.false_eq_true, Bool.true_eq_false, Bool.not_eq_true', Bool.not_eq_false', ne_eq, not_true_eq_false, not_false_eq_true, D.int.injEq, D.str.injEq, Option.some.injEq, exists_eq_left', exists_eq_left, G4]
  refine ⟨p, b, _, rfl, hm, hb, by decide, by decide, fun b1 f M1 e1 hb1 l1 u1 => ?_⟩
  have hp1 : M1 p = some b1 := by rw [e1]; exact upd_same
  have fin : ∀ b2 t M', Sub (upd M1 p b2) M' → BoxO b2 → Tx 3000 t → ∃ m2, Sub m2 M' ∧ k (.str t) m2 := fun b2 t M' s h1 h2 => ⟨upd m p b2, by rw [e1, upd_upd] at s; exact s, hk b2 t _ rfl h1 h2⟩
  have four : ∀ ws : List (List Nat), ws.length = 4 → (∀ w ∈ ws, Tx 1 w) → ∀ (M : Mem) (b : MO) (t : List Nat), Sub (upd M1 p b) M → BoxO b → Tx 2000 t → New M (.lst (ws.map D.str)) fun x m1 => spTakeM [.ref p, .int 4] m1 (fun d m2 => rIx x d m2 fun y m3 => rBin .add (.str t) y m3 fun d m4 => ∃ m2, Sub m2 m4 ∧ k d m2) fun e m1 => ∃ m2, Sub m2 m1 ∧ X e m2 := by
    intro ws hws hwt M b t S hb ht
    refine New.by fun q M2 mq _ s2 hq _ => ?_
    have qp : q ≠ p := Ne.symm (ne_of_none (S.at upd_same) mq)
    replace S := S.trans s2
    refine ⟨p, b, _, rfl, S.at upd_same, hb, by decide, by decide, fun b' d M' e' hb' l' u' => ?_⟩
    have hq3 : M' q = some (.lst (ws.map D.str)) := by rw [e', upd_ne qp]; exact hq
    obtain ⟨w, hw, mw⟩ := atI_strs (ws := ws) l' (by rw [hws]; exact u')
    simp only [i_lst hq3]
    refine ⟨_, hw, ?_⟩
    simp only [rSs, rS, rE, rEs, rT, rP, rSrc, rTg, rCh, sget0, sgetS, sset0, ssetS, sw0, swS, swN, swC, b_add, b_sub, b_mul, b_fdiv, b_mod, b_pow, b_adds, b_addt, b_muls, c_lt, c_le, c_gt, c_ge, c_eq0, c_ne0, c_in0, c_ni0, c_is0, c_isn0, e_int, e_bl, t_bl, t_int, t_non, t_tup, t_rol, t_ktup, t_str, i_tup, i_rol, i_ktup, i_str, l_tup, l_ktup, l_rol, l_str, l_int0, l_int1, l_str1, l_max, l_min, sl_tup, sl_rol, sl_str, y_int, y_bl, y_str, y_tup, y_ktup, y_non, it_rol, it_tup, it_ktup, it_str, decide_eq_true_eq, decide_eq_false_iff_not, reduceCtorEq, false_implies, true_implies, forall_const, and_true, true_and, List.length_map, l_isI, l_isB, l_isS, l_isL, l_isT, l_isD, isTy, decide_true, decide_false, Bool.or_false, Bool.false_or, Bool.true_or, Bool.or_true, Bool.not_true, Bool.not_false, Bool.false_eq_true, Bool.true_eq_false, Bool.not_eq_true', Bool.not_eq_false', ne_eq, not_true_eq_false, not_false_eq_true, D.int.injEq, D.str.injEq, Option.some.injEq, exists_eq_left', exists_eq_left]
    have h1 := ht.2
    have h2 := (hwt w mw).2
    exact ⟨by unfold big; omega, fin b' _ M' (e' ▸ sub_l S) hb' ((ht.app (hwt w mw)).le (by decide))⟩
  simp only [rSs, rS, rE, rEs, rT, rP, rSrc, rTg, rCh, sget0, sgetS, sset0, ssetS, sw0, swS, swN, swC, b_add, b_sub, b_mul, b_fdiv, b_mod, b_pow, b_adds, b_addt, b_muls, c_lt, c_le, c_gt, c_ge, c_eq0, c_ne0, c_in0, c_ni0, c_is0, c_isn0, e_int, e_bl, t_bl, t_int, t_non, t_tup, t_rol, t_ktup, t_str, i_tup, i_rol, i_ktup, i_str, l_tup, l_ktup, l_rol, l_str, l_int0, l_int1, l_str1, l_max, l_min, sl_tup, sl_rol, sl_str, y_int, y_bl, y_str, y_tup, y_ktup, y_non, it_rol, it_tup, it_ktup, it_str, decide_eq_true_eq, decide_eq_false_iff_not, reduceCtorEq, false_implies, true_implies, forall_const, and_true, true_and, List.length_map, l_isI, l_isB, l_isS, l_isL, l_isT, l_isD, isTy, decide_true, decide_false, Bool.or_false, Bool.false_or, Bool.true_or, Bool.or_true, Bool.not_true, Bool.not_false, Bool.false_eq_true, Bool.true_eq_false, Bool.not_eq_true', Bool.not_eq_false', ne_eq, not_true_eq_false, not_false_eq_true, D.int.injEq, D.str.injEq, Option.some.injEq, exists_eq_left', exists_eq_left, G4, G6, G7, G8]
  refine ⟨fun _ => ⟨p, b1, rfl, hp1, hb1, fun b2 t M2 e2 hb2 ht => fin b2 t M2 (e2 ▸ Sub.refl _) hb2 (ht.le (by decide))⟩, fun _ => ⟨fun _ => ?_, fun _ => ⟨fun _ => ?_, fun _ => ⟨fun _ => ?_, fun _ => ?_⟩⟩⟩⟩
  · simp only [p18]
    refine ⟨⟨by decide, by decide⟩, p, b1, _, rfl, hp1, hb1, by decide, by decide, fun b2 d M2 e2 hb2 l2 u2 => ?_⟩
    simp only [rSs, rS, rE, rEs, rT, rP, rSrc, rTg, rCh, sget0, sgetS, sset0, ssetS, sw0, swS, swN, swC, b_add, b_sub, b_mul, b_fdiv, b_mod, b_pow, b_adds, b_addt, b_muls, c_lt, c_le, c_gt, c_ge, c_eq0, c_ne0, c_in0, c_ni0, c_is0, c_isn0, e_int, e_bl, t_bl, t_int, t_non, t_tup, t_rol, t_ktup, t_str, i_tup, i_rol, i_ktup, i_str, l_tup, l_ktup, l_rol, l_str, l_int0, l_int1, l_str1, l_max, l_min, sl_tup, sl_rol, sl_str, y_int, y_bl, y_str, y_tup, y_ktup, y_non, it_rol, it_tup, it_ktup, it_str, decide_eq_true_eq, decide_eq_false_iff_not, reduceCtorEq, false_implies, true_implies, forall_const, and_true, true_and, List.length_map, l_isI, l_isB, l_isS, l_isL, l_isT, l_isD, isTy, decide_true, decide_false, Bool.or_false, Bool.false_or, Bool.true_or, Bool.or_true, Bool.not_true, Bool.not_false, Bool.false_eq_true, Bool.true_eq_false, Bool.not_eq_true', Bool.not_eq_false', ne_eq, not_true_eq_false, not_false_eq_true, D.int.injEq, D.str.injEq, Option.some.injEq, exists_eq_left', exists_eq_left, G4]
    obtain ⟨t1, t2⟩ := digN_tx 18 d.toNat (by omega) (by decide)
    refine ⟨⟨l2, by omega⟩, four [[], [48], [32], [97]] rfl (by unfold Tx; decide) M2 b2 (digN d.toNat) (e2 ▸ Sub.refl _) hb2 ⟨t1, by omega⟩⟩
  · refine ⟨p, b1, 14, rfl, hp1, hb1, by decide, by decide, fun b2 ws hb2 hn => New.by fun N M2 mN _ s2 hN _ => ?_⟩
    have Np : N ≠ p := by
      rintro rfl
      rw [upd_same] at mN
      cases mN
    refine ⟨p, b2, _, rfl, s2.at upd_same, hb2, by decide, by decide, fun b3 d M3 e3 hb3 l3 u3 => ?_⟩
    have hN3 : M3 N = some (.lst (ws.map D.str)) := by rw [e3, upd_ne Np]; exact hN
    simp only [i_lst hN3]
    obtain ⟨w, hw, mw⟩ := atI_strs (ws := ws) l3 (by rw [hn.len]; exact u3)
    refine ⟨_, hw, four [[], [], [115], [113]] rfl (by unfold Tx; decide) M3 b3 w ?_ hb3 ⟨(hn.ok w mw).tx, by have := (hn.ok w mw).le; omega⟩⟩
    rw [e3]
    exact sub_l s2
  · refine ⟨p, b1, rfl, hp1, hb1, fun b2 t M2 e2 hb2 ht => ⟨p, b2, rfl, by rw [e2]; exact upd_same, hb2, fun b3 t3 M3 e3 hb3 ht3 => ?_⟩⟩
    simp only [rSs, rS, rE, rEs, rT, rP, rSrc, rTg, rCh, sget0, sgetS, sset0, ssetS, sw0, swS, swN, swC, b_add, b_sub, b_mul, b_fdiv, b_mod, b_pow, b_adds, b_addt, b_muls, c_lt, c_le, c_gt, c_ge, c_eq0, c_ne0, c_in0, c_ni0, c_is0, c_isn0, e_int, e_bl, t_bl, t_int, t_non, t_tup, t_rol, t_ktup, t_str, i_tup, i_rol, i_ktup, i_str, l_tup, l_ktup, l_rol, l_str, l_int0, l_int1, l_str1, l_max, l_min, sl_tup, sl_rol, sl_str, y_int, y_bl, y_str, y_tup, y_ktup, y_non, it_rol, it_tup, it_ktup, it_str, decide_eq_true_eq, decide_eq_false_iff_not, reduceCtorEq, false_implies, true_implies, forall_const, and_true, true_and, List.length_map, l_isI, l_isB, l_isS, l_isL, l_isT, l_isD, isTy, decide_true, decide_false, Bool.or_false, Bool.false_or, Bool.true_or, Bool.or_true, Bool.not_true, Bool.not_false, Bool.false_eq_true, Bool.true_eq_false, Bool.not_eq_true', Bool.not_eq_false', ne_eq, not_true_eq_false, not_false_eq_true, D.int.injEq, D.str.injEq, Option.some.injEq, exists_eq_left', exists_eq_left]
    rw [e2, upd_upd] at e3
    have h1 := ht.2
    have h2 := ht3.2
    exact ⟨by unfold big; omega, fin b3 _ M3 (e3 ▸ Sub.refl _) hb3 ((ht.app ht3).le (by decide))⟩
  · exact ⟨p, b1, rfl, hp1, hb1, fun b2 t M2 e2 hb2 ht => fin b2 t M2 (e2 ▸ Sub.refl _) hb2 (ht.le (by decide))⟩
theorem kp_law : Keeps Γ 4 b_law sp_law := by
  rintro ds m k X ⟨ns, rfl, hl, hk⟩
  show rSs Γ b_law _ [some _, none, none, none] m
  simp only [b_law, rSs, rS, rE, rEs, rT, rP, rSrc, rTg, rCh, sget0, sgetS, sset0, ssetS, sw0, swS, swN, swC, b_add, b_sub, b_mul, b_fdiv, b_mod, b_pow, b_adds, b_addt, b_muls, c_lt, c_le, c_gt, c_ge, c_eq0, c_ne0, c_in0, c_ni0, c_is0, c_isn0, e_int, e_bl, t_bl, t_int, t_non, t_tup, t_rol, t_ktup, t_str, i_tup, i_rol, i_ktup, i_str, l_tup, l_ktup, l_rol, l_str, l_int0, l_int1, l_str1, l_max, l_min, sl_tup, sl_rol, sl_str, y_int, y_bl, y_str, y_tup, y_ktup, y_non, it_rol, it_tup, it_ktup, it_str, decide_eq_true_eq, decide_eq_false_iff_not, reduceCtorEq, false_implies, true_implies, forall_const, and_true, true_and, List.length_map, l_isI, l_isB, l_isS, l_isL, l_isT, l_isD, isTy, decide_true, decide_false, Bool.or_false, Bool.false_or, Bool.true_or, Bool.or_true, Bool.not_true, Bool.not_false, Bool.false_eq_true, Bool.true_eq_false, Bool.not_eq_true', Bool.not_eq_false', ne_eq, not_true_eq_false, not_false_eq_true, D.int.injEq, D.str.injEq, Option.some.injEq, exists_eq_left', exists_eq_left, l0, p18]
  refine ⟨⟨by decide, by decide⟩, ?_⟩
  refine New.by fun L M1 _ _ s1 hL _ => New.by fun q M2 _ _ s2 hq _ => ?_
  rw [cut_to (by decide), ← List.map_take] at hq
  simp only [rSs, rS, rE, rEs, rT, rP, rSrc, rTg, rCh, sget0, sgetS, sset0, ssetS, sw0, swS, swN, swC, b_add, b_sub, b_mul, b_fdiv, b_mod, b_pow, b_adds, b_addt, b_muls, c_lt, c_le, c_gt, c_ge, c_eq0, c_ne0, c_in0, c_ni0, c_is0, c_isn0, e_int, e_bl, t_bl, t_int, t_non, t_tup, t_rol, t_ktup, t_str, i_tup, i_rol, i_ktup, i_str, l_tup, l_ktup, l_rol, l_str, l_int0, l_int1, l_str1, l_max, l_min, sl_tup, sl_rol, sl_str, y_int, y_bl, y_str, y_tup, y_ktup, y_non, it_rol, it_tup, it_ktup, it_str, decide_eq_true_eq, decide_eq_false_iff_not, reduceCtorEq, false_implies, true_implies, forall_const, and_true, true_and, List.length_map, l_isI, l_isB, l_isS, l_isL, l_isT, l_isD, isTy, decide_true, decide_false, Bool.or_false, Bool.false_or, Bool.true_or, Bool.or_true, Bool.not_true, Bool.not_false, Bool.false_eq_true, Bool.true_eq_false, Bool.not_eq_true', Bool.not_eq_false', ne_eq, not_true_eq_false, not_false_eq_true, D.int.injEq, D.str.injEq, Option.some.injEq, exists_eq_left', exists_eq_left, l_lst hq]
  have hl20 : (ns.take (Int.toNat 20)).length ≤ 20 := List.length_take_le ..
  refine ⟨by unfold i62; omega, ?_⟩
  refine rFor_by (fun i σ M => ∃ o2 ws, σ = [some (.rol (ns.map D.int)), some (.ref L), o2, none] ∧ M L = some (.lst (ws.map D.str)) ∧ ws.length = 4 + i ∧ ∀ w ∈ ws, Tx 100000 w) 0
    ⟨none, [[], [97], [48], [101, 110, 100]], rfl, s2.at hL, rfl, by unfold Tx; decide⟩ (fun i d σ M R e h r => ?_) fun σ M h => ?_
  · obtain ⟨o2, ws, rfl, hL, hw1, hw⟩ := h
    have hi := (List.getElem?_eq_some_iff.mp e).1
    obtain ⟨c, rfl, h1, h2⟩ := rangeD_mem (List.mem_of_getElem? e)
    rw [rangeD_rg, List.length_map, rg_len] at hi
    refine ⟨trivial, ?_⟩
    simp only [rSs, rS, rE, rEs, rT, rP, rSrc, rTg, rCh, sget0, sgetS, sset0, ssetS, sw0, swS, swN, swC, b_add, b_sub, b_mul, b_fdiv, b_mod, b_pow, b_adds, b_addt, b_muls, c_lt, c_le, c_gt, c_ge, c_eq0, c_ne0, c_in0, c_ni0, c_is0, c_isn0, e_int, e_bl, t_bl, t_int, t_non, t_tup, t_rol, t_ktup, t_str, i_tup, i_rol, i_ktup, i_str, l_tup, l_ktup, l_rol, l_str, l_int0, l_int1, l_str1, l_max, l_min, sl_tup, sl_rol, sl_str, y_int, y_bl, y_str, y_tup, y_ktup, y_non, it_rol, it_tup, it_ktup, it_str, decide_eq_true_eq, decide_eq_false_iff_not, reduceCtorEq, false_implies, true_implies, forall_const, and_true, true_and, List.length_map, l_isI, l_isB, l_isS, l_isL, l_isT, l_isD, isTy, decide_true, decide_false, Bool.or_false, Bool.false_or, Bool.true_or, Bool.or_true, Bool.not_true, Bool.not_false, Bool.false_eq_true, Bool.true_eq_false, Bool.not_eq_true', Bool.not_eq_false', ne_eq, not_true_eq_false, not_false_eq_true, D.int.injEq, D.str.injEq, Option.some.injEq, exists_eq_left', exists_eq_left, m_ok (.inl rfl) hL, G3, G9]
    refine ⟨ns, c, rfl, h1, by omega, fun b hb => New.by fun p M3 mp _ s3 hp _ => ⟨p, b, rfl, hp, hb, fun b' t M4 e4 hb' ht => ?_⟩⟩
    have pL : p ≠ L := Ne.symm (ne_of_none hL mp)
    have hL4 : M4 L = some (.lst (ws.map D.str)) := by rw [e4, upd_ne (Ne.symm pL)]; exact s3.at hL
    simp only [m_app hL4]
    refine ⟨by rw [List.length_map, hw1]; unfold big; omega, _, Sub.refl _, r _ _ ⟨_, ws ++ [t], rfl, by rw [List.map_append]; exact upd_same, by rw [List.length_append, hw1]; rfl, fun w hv => ?_⟩⟩
    rcases List.mem_append.mp hv with z | z
    · exact hw w z
    · rw [List.mem_singleton.mp z]
      exact ht.le (by decide)
  · obtain ⟨o2, ws, rfl, hL, hw1, hw⟩ := h
    rw [rangeD_rg, List.length_map, rg_len] at hw1
    refine ⟨trivial, ?_⟩
    simp only [rSs, rS, rE, rEs, rT, rP, rSrc, rTg, rCh, sget0, sgetS, sset0, ssetS, sw0, swS, swN, swC, b_add, b_sub, b_mul, b_fdiv, b_mod, b_pow, b_adds, b_addt, b_muls, c_lt, c_le, c_gt, c_ge, c_eq0, c_ne0, c_in0, c_ni0, c_is0, c_isn0, e_int, e_bl, t_bl, t_int, t_non, t_tup, t_rol, t_ktup, t_str, i_tup, i_rol, i_ktup, i_str, l_tup, l_ktup, l_rol, l_str, l_int0, l_int1, l_str1, l_max, l_min, sl_tup, sl_rol, sl_str, y_int, y_bl, y_str, y_tup, y_ktup, y_non, it_rol, it_tup, it_ktup, it_str, decide_eq_true_eq, decide_eq_false_iff_not, reduceCtorEq, false_implies, true_implies, forall_const, and_true, true_and, List.length_map, l_isI, l_isB, l_isS, l_isL, l_isT, l_isD, isTy, decide_true, decide_false, Bool.or_false, Bool.false_or, Bool.true_or, Bool.or_true, Bool.not_true, Bool.not_false, Bool.false_eq_true, Bool.true_eq_false, Bool.not_eq_true', Bool.not_eq_false', ne_eq, not_true_eq_false, not_false_eq_true, D.int.injEq, D.str.injEq, Option.some.injEq, exists_eq_left', exists_eq_left, sl_lst hL]
    refine New.by fun q M3 _ _ s3 hq _ => ?_
    rw [cut_to (by decide), ← List.map_take] at hq
    rw [b_addl (s3.at hL) hq, ← List.map_append]
    refine ⟨by simp only [List.length_map, List.length_take]; unfold big; omega, New.by fun T M4 _ _ s4 hT _ => ?_⟩
    simp only [it_lst hT]
    refine rFor_by (fun i σ M => M T = some (.lst ((ws ++ ws.take (Int.toNat 9)).map D.str)) ∧ ∃ o3, σ = [some (.rol (ns.map D.int)), some (.ref L), o2, o3]) 0 ⟨hT, none, rfl⟩ (fun i d σ M R e h r => ?_) fun σ M h => ?_
    · obtain ⟨hT, o3, rfl⟩ := h
      rw [List.getElem?_map] at e
      obtain ⟨w, ew, rfl⟩ := Option.map_eq_some_iff.mp e
      have hwt : Tx 100000 w := by
        rcases List.mem_append.mp (List.mem_of_getElem? ew) with z | z
        · exact hw w z
        · exact hw w (List.mem_of_mem_take z)
      refine ⟨hT, ?_⟩
      simp only [rSs, rS, rE, rEs, rT, rP, rSrc, rTg, rCh, sget0, sgetS, sset0, ssetS, sw0, swS, swN, swC, b_add, b_sub, b_mul, b_fdiv, b_mod, b_pow, b_adds, b_addt, b_muls, c_lt, c_le, c_gt, c_ge, c_eq0, c_ne0, c_in0, c_ni0, c_is0, c_isn0, e_int, e_bl, t_bl, t_int, t_non, t_tup, t_rol, t_ktup, t_str, i_tup, i_rol, i_ktup, i_str, l_tup, l_ktup, l_rol, l_str, l_int0, l_int1, l_str1, l_max, l_min, sl_tup, sl_rol, sl_str, y_int, y_bl, y_str, y_tup, y_ktup, y_non, it_rol, it_tup, it_ktup, it_str, decide_eq_true_eq, decide_eq_false_iff_not, reduceCtorEq, false_implies, true_implies, forall_const, and_true, true_and, List.length_map, l_isI, l_isB, l_isS, l_isL, l_isT, l_isD, isTy, decide_true, decide_false, Bool.or_false, Bool.false_or, Bool.true_or, Bool.or_true, Bool.not_true, Bool.not_false, Bool.false_eq_true, Bool.true_eq_false, Bool.not_eq_true', Bool.not_eq_false', ne_eq, not_true_eq_false, not_false_eq_true, D.int.injEq, D.str.injEq, Option.some.injEq, exists_eq_left', exists_eq_left, G13]
      refine ⟨w, rfl, hwt, ?_⟩
      simp only [rSs, rS, rE, rEs, rT, rP, rSrc, rTg, rCh, sget0, sgetS, sset0, ssetS, sw0, swS, swN, swC, b_add, b_sub, b_mul, b_fdiv, b_mod, b_pow, b_adds, b_addt, b_muls, c_lt, c_le, c_gt, c_ge, c_eq0, c_ne0, c_in0, c_ni0, c_is0, c_isn0, e_int, e_bl, t_bl, t_int, t_non, t_tup, t_rol, t_ktup, t_str, i_tup, i_rol, i_ktup, i_str, l_tup, l_ktup, l_rol, l_str, l_int0, l_int1, l_str1, l_max, l_min, sl_tup, sl_rol, sl_str, y_int, y_bl, y_str, y_tup, y_ktup, y_non, it_rol, it_tup, it_ktup, it_str, decide_eq_true_eq, decide_eq_false_iff_not, reduceCtorEq, false_implies, true_implies, forall_const, and_true, true_and, List.length_map, l_isI, l_isB, l_isS, l_isL, l_isT, l_isD, isTy, decide_true, decide_false, Bool.or_false, Bool.false_or, Bool.true_or, Bool.or_true, Bool.not_true, Bool.not_false, Bool.false_eq_true, Bool.true_eq_false, Bool.not_eq_true', Bool.not_eq_false', ne_eq, not_true_eq_false, not_false_eq_true, D.int.injEq, D.str.injEq, Option.some.injEq, exists_eq_left', exists_eq_left]
      exact ⟨_, Sub.refl _, r _ _ ⟨hT, _, rfl⟩⟩
    · obtain ⟨hT, o3, rfl⟩ := h
      refine ⟨hT, ?_⟩
      simp only [rSs, rS, rE, rEs, rT, rP, rSrc, rTg, rCh, sget0, sgetS, sset0, ssetS, sw0, swS, swN, swC, b_add, b_sub, b_mul, b_fdiv, b_mod, b_pow, b_adds, b_addt, b_muls, c_lt, c_le, c_gt, c_ge, c_eq0, c_ne0, c_in0, c_ni0, c_is0, c_isn0, e_int, e_bl, t_bl, t_int, t_non, t_tup, t_rol, t_ktup, t_str, i_tup, i_rol, i_ktup, i_str, l_tup, l_ktup, l_rol, l_str, l_int0, l_int1, l_str1, l_max, l_min, sl_tup, sl_rol, sl_str, y_int, y_bl, y_str, y_tup, y_ktup, y_non, it_rol, it_tup, it_ktup, it_str, decide_eq_true_eq, decide_eq_false_iff_not, reduceCtorEq, false_implies, true_implies, forall_const, and_true, true_and, List.length_map, l_isI, l_isB, l_isS, l_isL, l_isT, l_isD, isTy, decide_true, decide_false, Bool.or_false, Bool.false_or, Bool.true_or, Bool.or_true, Bool.not_true, Bool.not_false, Bool.false_eq_true, Bool.true_eq_false, Bool.not_eq_true', Bool.not_eq_false', ne_eq, not_true_eq_false, not_false_eq_true, D.int.injEq, D.str.injEq, Option.some.injEq, exists_eq_left', exists_eq_left]
      exact ⟨_, Sub.refl _, hk _⟩
theorem law_ends (ns : List Int) (hl : ns.length ≤ 63) (hb : ∀ z ∈ ns, Builtin.Int.intBits z ≤ 1048576) : sp_law [.rol (ns.map D.int)] (fun _ => none) (fun d _ => d = .bl true) (fun _ _ => False) := ⟨ns, rfl, hl, fun _ => rfl⟩
def fn : List He.DefD := [d_made_of, d_is_name, d_is_number, d_law_box, d_law_take, d_law_names, d_law_word, d_law_any_text, d_law_text, d_law_only, d_law_name_due, d_law_number_due, d_law_told, d_law]
def fa : List He.Fa := [.glo "made_of", .glo "is_name", .glo "is_number", .glo "_law_box", .glo "_law_take", .glo "_law_names", .glo "_law_word", .glo "_law_any_text", .glo "_law_text", .glo "_law_only", .glo "_law_name_due", .glo "_law_number_due", .glo "_law_told", .glo "law", .free "len", .free "int", .free "range", .free "str", .free "all", .free "isinstance", .free "bool"]
def loose0 : List Str := ["TOP", "LETTERS", "FIGURES", "LONGEST", "MOST_FIGURES", "KEPT", "made_of", "is_name", "is_number", "_law_box", "_law_take", "_law_number", "_law_names", "_law_word", "_law_any_text", "_law_text", "_law_only", "_law_name_due", "_law_number_due", "_law_told"]
def loose : List Str := loose0
abbrev Ro : PySem.W.OpenRow := PySem.W.OpenLaw.row PySem.Challenge.rw_againbook_k01_names_and_numbers
def gs : List (Str × D) := [("LETTERS", (.str [97, 98, 99, 100, 101, 102, 103, 104, 105, 106, 107, 108, 109, 110, 111, 112, 113, 114, 115, 116, 117, 118, 119, 120, 121, 122])), ("LONGEST", (.int 8)), ("KEPT", (.ktup [(.str [100, 101, 102]), (.str [115, 101, 116]), (.str [114, 101, 97, 100]), (.str [119, 114, 105, 116, 101]), (.str [99, 97, 108, 108]), (.str [105, 102]), (.str [101, 108, 115, 101]), (.str [119, 104, 105, 108, 101]), (.str [103, 105, 118, 101]), (.str [101, 110, 100])])), ("MOST_FIGURES", (.int 18)), ("FIGURES", (.str [48, 49, 50, 51, 52, 53, 54, 55, 56, 57])), ("TOP", (.int 1000000000000000000))]
abbrev hook : PySem.W.Hook := hookE 4 fa fn gs
def seen (s : PySem.W.SharedT) : AlE := obsE 4 fa fn gs (HandSHeadRun.getT s)
theorem seen_eq (s : PySem.W.SharedT) : seen s = hook.obs s.abs := by
  exact obsE_eq (HandSHeadRun.getT_eq s)
theorem ran (w : World) : HandSHeadRun.RunEq Ro (PySem.W.view Ro.prog [22]) hook seen 60000 loose w := by
  intro o
  kernel_rfl
theorem facts {P : Program} {w : World} {K : PySem.W.Frag} {h : Heap} {mg : Str → Option Value} {f : Addr} (X : K.In h) (G : h.Ns mainGlobals mg) (hf : mg ("law" : Str) = some (.ref f)) (c : He.SaysD fa fn K) (cg : ∀ q ∈ gs, gV K q = true) :
    ∃ fd : FuncData, (∀ (s : Shared) (v : Value), BindsTo s fd ⟨[v], []⟩ [("_law_script", v)]) ∧ ∀ base : Heap, K.In base → base.Ns mainGlobals mg → FnOk P w K mg base (L2.CX P w) 4 f fd ["_law_script"] (Lsp (fun _ => 0) K 1 sp_law) := by
  obtain ⟨x_made_of, F_made_of⟩ := c.def_ 0 (d := d_made_of) rfl
  have g_made_of := He.glo_ok X G (c.fact 0 (f := .glo "made_of") rfl)
  obtain ⟨x_is_name, F_is_name⟩ := c.def_ 1 (d := d_is_name) rfl
  have g_is_name := He.glo_ok X G (c.fact 1 (f := .glo "is_name") rfl)
  obtain ⟨x_is_number, F_is_number⟩ := c.def_ 2 (d := d_is_number) rfl
  have g_is_number := He.glo_ok X G (c.fact 2 (f := .glo "is_number") rfl)
  obtain ⟨x_law_box, F_law_box⟩ := c.def_ 3 (d := d_law_box) rfl
  have g_law_box := He.glo_ok X G (c.fact 3 (f := .glo "_law_box") rfl)
  obtain ⟨x_law_take, F_law_take⟩ := c.def_ 4 (d := d_law_take) rfl
  have g_law_take := He.glo_ok X G (c.fact 4 (f := .glo "_law_take") rfl)
  obtain ⟨x_law_names, F_law_names⟩ := c.def_ 5 (d := d_law_names) rfl
  have g_law_names := He.glo_ok X G (c.fact 5 (f := .glo "_law_names") rfl)
  obtain ⟨x_law_word, F_law_word⟩ := c.def_ 6 (d := d_law_word) rfl
  have g_law_word := He.glo_ok X G (c.fact 6 (f := .glo "_law_word") rfl)
  obtain ⟨x_law_any_text, F_law_any_text⟩ := c.def_ 7 (d := d_law_any_text) rfl
  have g_law_any_text := He.glo_ok X G (c.fact 7 (f := .glo "_law_any_text") rfl)
  obtain ⟨x_law_text, F_law_text⟩ := c.def_ 8 (d := d_law_text) rfl
  have g_law_text := He.glo_ok X G (c.fact 8 (f := .glo "_law_text") rfl)
  obtain ⟨x_law_only, F_law_only⟩ := c.def_ 9 (d := d_law_only) rfl
  have g_law_only := He.glo_ok X G (c.fact 9 (f := .glo "_law_only") rfl)
  obtain ⟨x_law_name_due, F_law_name_due⟩ := c.def_ 10 (d := d_law_name_due) rfl
  have g_law_name_due := He.glo_ok X G (c.fact 10 (f := .glo "_law_name_due") rfl)
  obtain ⟨x_law_number_due, F_law_number_due⟩ := c.def_ 11 (d := d_law_number_due) rfl
  have g_law_number_due := He.glo_ok X G (c.fact 11 (f := .glo "_law_number_due") rfl)
  obtain ⟨x_law_told, F_law_told⟩ := c.def_ 12 (d := d_law_told) rfl
  have g_law_told := He.glo_ok X G (c.fact 12 (f := .glo "_law_told") rfl)
  obtain ⟨x_law, F_law⟩ := c.def_ 13 (d := d_law) rfl
  have g_law := He.glo_ok X G (c.fact 13 (f := .glo "law") rfl)
  have z_len := He.free_ok X G (c.fact 14 (f := .free "len") rfl)
  have z_int := He.free_ok X G (c.fact 15 (f := .free "int") rfl)
  have z_range := He.free_ok X G (c.fact 16 (f := .free "range") rfl)
  have z_str := He.free_ok X G (c.fact 17 (f := .free "str") rfl)
  have z_all := He.free_ok X G (c.fact 18 (f := .free "all") rfl)
  have z_isinstance := He.free_ok X G (c.fact 19 (f := .free "isinstance") rfl)
  have z_bool := He.free_ok X G (c.fact 20 (f := .free "bool") rfl)
  obtain ⟨u_LETTERS, v_LETTERS, h_LETTERS, r_LETTERS, i_LETTERS⟩ := gV_ok X G (x := "LETTERS") (d := (.str [97, 98, 99, 100, 101, 102, 103, 104, 105, 106, 107, 108, 109, 110, 111, 112, 113, 114, 115, 116, 117, 118, 119, 120, 121, 122])) (cg _ (List.mem_of_getElem? (i := 0) rfl))
  obtain ⟨u_LONGEST, v_LONGEST, h_LONGEST, r_LONGEST, i_LONGEST⟩ := gV_ok X G (x := "LONGEST") (d := (.int 8)) (cg _ (List.mem_of_getElem? (i := 1) rfl))
  obtain ⟨u_KEPT, v_KEPT, h_KEPT, r_KEPT, i_KEPT⟩ := gV_ok X G (x := "KEPT") (d := (.ktup [(.str [100, 101, 102]), (.str [115, 101, 116]), (.str [114, 101, 97, 100]), (.str [119, 114, 105, 116, 101]), (.str [99, 97, 108, 108]), (.str [105, 102]), (.str [101, 108, 115, 101]), (.str [119, 104, 105, 108, 101]), (.str [103, 105, 118, 101]), (.str [101, 110, 100])])) (cg _ (List.mem_of_getElem? (i := 2) rfl))
  obtain ⟨u_MOST_FIGURES, v_MOST_FIGURES, h_MOST_FIGURES, r_MOST_FIGURES, i_MOST_FIGURES⟩ := gV_ok X G (x := "MOST_FIGURES") (d := (.int 18)) (cg _ (List.mem_of_getElem? (i := 3) rfl))
  obtain ⟨u_FIGURES, v_FIGURES, h_FIGURES, r_FIGURES, i_FIGURES⟩ := gV_ok X G (x := "FIGURES") (d := (.str [48, 49, 50, 51, 52, 53, 54, 55, 56, 57])) (cg _ (List.mem_of_getElem? (i := 4) rfl))
  obtain ⟨u_TOP, v_TOP, h_TOP, r_TOP, i_TOP⟩ := gV_ok X G (x := "TOP") (d := (.int 1000000000000000000)) (cg _ (List.mem_of_getElem? (i := 5) rfl))
  have e := hf.symm.trans g_law
  cases e
  refine ⟨x_law, fun s v => FunD.bindsA (ps := ["_law_script"]) F_law (fun _ _ _ _ _ _ us hl => match us, hl with | [_], _ => rfl) s [v] rfl, fun base _ _ => ?_⟩
  have k_made_of : Knw (fun _ => 0) P w K mg base "made_of" 2 sp_made_of 1 := knw (Γ := Γ) (k := 0) F_made_of g_made_of sc_made_of rfl cc_made_of (env0 own_nil glb_nil free_nil) (fun _ _ _ _ _ _ us hl => match us, hl with | [_, _], _ => rfl) kp_made_of
  have k_law_box : Knw (fun _ => 0) P w K mg base "_law_box" 2 sp_law_box 1 := knw (Γ := Γ) (k := 0) F_law_box g_law_box sc_law_box rfl cc_law_box (env0 own_nil glb_nil (free_cons z_len (free_cons z_int free_nil))) (fun _ _ _ _ _ _ us hl => match us, hl with | [_, _], _ => rfl) kp_law_box
  have k_law_take : Knw (fun _ => 0) P w K mg base "_law_take" 2 sp_law_take 1 := knw (Γ := Γ) (k := 0) F_law_take g_law_take sc_law_take rfl cc_law_take (env0 own_nil glb_nil free_nil) (fun _ _ _ _ _ _ us hl => match us, hl with | [_, _], _ => rfl) kp_law_take
  have k_law_only : Knw (fun _ => 0) P w K mg base "_law_only" 2 sp_law_only 1 := knw (Γ := Γ) (k := 0) F_law_only g_law_only sc_law_only rfl cc_law_only (env0 own_nil glb_nil (free_cons z_all (free_cons z_len free_nil))) (fun _ _ _ _ _ _ us hl => match us, hl with | [_, _], _ => rfl) kp_law_only
  have k_is_name : Knw (fun _ => 0) P w K mg base "is_name" 1 sp_is_name 2 := knw (Γ := Γ) (k := 1) F_is_name g_is_name sc_is_name rfl cc_is_name (env0 (own_cons k_made_of rfl (by decide) own_nil) (glb_cons h_LETTERS r_LETTERS i_LETTERS (glb_cons h_LONGEST r_LONGEST i_LONGEST (glb_cons h_KEPT r_KEPT i_KEPT glb_nil))) (free_cons z_len free_nil)) (fun _ _ _ _ _ _ us hl => match us, hl with | [_], _ => rfl) kp_is_name
  have k_is_number : Knw (fun _ => 0) P w K mg base "is_number" 1 sp_is_number 2 := knw (Γ := Γ) (k := 1) F_is_number g_is_number sc_is_number rfl cc_is_number (env0 (own_cons k_made_of rfl (by decide) own_nil) (glb_cons h_MOST_FIGURES r_MOST_FIGURES i_MOST_FIGURES (glb_cons h_FIGURES r_FIGURES i_FIGURES glb_nil)) (free_cons z_len free_nil)) (fun _ _ _ _ _ _ us hl => match us, hl with | [_], _ => rfl) kp_is_number
  have k_law_names : Knw (fun _ => 0) P w K mg base "_law_names" 2 sp_law_names 2 := knw (Γ := Γ) (k := 1) F_law_names g_law_names sc_law_names rfl cc_law_names (env0 (own_cons k_law_take rfl (by decide) own_nil) glb_nil (free_cons z_range free_nil)) (fun _ _ _ _ _ _ us hl => match us, hl with | [_, _], _ => rfl) kp_law_names
  have k_law_word : Knw (fun _ => 0) P w K mg base "_law_word" 1 sp_law_word 2 := knw (Γ := Γ) (k := 1) F_law_word g_law_word sc_law_word rfl cc_law_word (env0 (own_cons k_law_take rfl (by decide) own_nil) glb_nil (free_cons z_len free_nil)) (fun _ _ _ _ _ _ us hl => match us, hl with | [_], _ => rfl) kp_law_word
  have k_law_any_text : Knw (fun _ => 0) P w K mg base "_law_any_text" 1 sp_law_any_text 2 := knw (Γ := Γ) (k := 1) F_law_any_text g_law_any_text sc_law_any_text rfl cc_law_any_text (env0 (own_cons k_law_take rfl (by decide) own_nil) glb_nil (free_cons z_range (free_cons z_len free_nil))) (fun _ _ _ _ _ _ us hl => match us, hl with | [_], _ => rfl) kp_law_any_text
  have k_law_name_due : Knw (fun _ => 0) P w K mg base "_law_name_due" 1 sp_law_name_due 2 := knw (Γ := Γ) (k := 1) F_law_name_due g_law_name_due sc_law_name_due rfl cc_law_name_due (env0 (own_cons k_law_only rfl (by decide) own_nil) glb_nil (free_cons z_len free_nil)) (fun _ _ _ _ _ _ us hl => match us, hl with | [_], _ => rfl) kp_law_name_due
  have k_law_number_due : Knw (fun _ => 0) P w K mg base "_law_number_due" 1 sp_law_number_due 2 := knw (Γ := Γ) (k := 1) F_law_number_due g_law_number_due sc_law_number_due rfl cc_law_number_due (env0 (own_cons k_law_only rfl (by decide) own_nil) glb_nil (free_cons z_len free_nil)) (fun _ _ _ _ _ _ us hl => match us, hl with | [_], _ => rfl) kp_law_number_due
  have k_law_text : Knw (fun _ => 0) P w K mg base "_law_text" 1 sp_law_text 3 := knw (Γ := Γ) (k := 2) F_law_text g_law_text sc_law_text rfl cc_law_text (env0 (own_cons k_law_take rfl (by decide) (own_cons k_law_word rfl (by decide) (own_cons k_law_any_text rfl (by decide) (own_cons k_law_names rfl (by decide) own_nil)))) glb_nil (free_cons z_str free_nil)) (fun _ _ _ _ _ _ us hl => match us, hl with | [_], _ => rfl) kp_law_text
  have k_law_told : Knw (fun _ => 0) P w K mg base "_law_told" 1 sp_law_told 3 := knw (Γ := Γ) (k := 2) F_law_told g_law_told sc_law_told rfl cc_law_told (env0 (own_cons k_is_name rfl (by decide) (own_cons k_is_number rfl (by decide) (own_cons k_law_name_due rfl (by decide) (own_cons k_law_number_due rfl (by decide) own_nil)))) glb_nil (free_cons z_isinstance (free_cons z_bool free_nil))) (fun _ _ _ _ _ _ us hl => match us, hl with | [_], _ => rfl) kp_law_told
  exact fn_ok (Γ := Γ) (k := 3) F_law sc_law rfl cc_law (env0 (own_cons k_law_text rfl (by decide) (own_cons k_law_told rfl (by decide) (own_cons k_law_box rfl (by decide) own_nil))) (glb_cons h_TOP r_TOP i_TOP glb_nil) (free_cons z_range (free_cons z_isinstance (free_cons z_bool (free_cons z_len (free_cons z_int free_nil)))))) kp_law
end LW
open PySem PySem.W PySem.Calls PyProof.Rows
theorem PySem.Challenge.cw_againbook_k01_names_and_numbers_holds : PySem.Challenge.rw_againbook_k01_names_and_numbers.Holds := by
  w_on; o_law
  refine HandSHeadRun.head_any (r := LW.Ro) (q := view LW.Ro.prog [22]) (H := LW.hook) (ob := LW.seen) (M := 60000) (loose := LW.loose) (d := HandSHeadRun.topDef LW.Ro.prog 22) (kwd := []) LW.seen_eq (by kernel_rfl)
    (fun s => by kernel_rfl) LW.ran (by kernel_rfl) (by kernel_rfl) (by kernel_rfl) rfl (by first | assumption | decide +kernel) (by decide +kernel) ⟨rfl, rfl, rfl, rfl, rfl, by decide +kernel⟩ ?wit ?walk
  case wit => w_witness2
  case walk =>
    refine DL.walkW (l := PySem.Challenge.rw_againbook_k01_names_and_numbers) (n := 63) (k := 4) (x := "_law_script") (sp := LW.sp_law) rfl (by decide) (by kernel_rfl) ⟨rfl, by decide, by decide⟩ (fun w mg fa h Y G hm => ?_) LW.law_ends
    obtain ⟨K, X, c⟩ := Y
    have nm : (HandSHeadRun.topDef LW.Ro.prog 22).name = ("law" : PySem.Str) := by kernel_rfl
    obtain ⟨fd, b, q⟩ := LW.facts (P := (PySem.Challenge.rw_againbook_k01_names_and_numbers).prog) (w := w) X G (nm ▸ hm) c.1 c.2
    exact ⟨K, fd, fun _ => 0, X, b, q⟩

